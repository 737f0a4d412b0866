import PyProof.Rows.All
import Wide.All
import OpenK.AllK
import Wide.FinOn
import Lean
import PySem.Challenge.RW_pf0352_01
set_option Elab.async false
set_option linter.all false
set_option maxRecDepth 100000
set_option tactic.hygienic false
set_option genSizeOf false
set_option genInjectivity false
set_option backward.match.sparseCases true
noncomputable section
namespace Mine.Internal
open List renaming length->J
open Option renaming some->U,none->u,casesOn->aK,some->dp,map_eq_some_iff->je,ite_none_right_eq_some->jo,map->mI,isNone_iff_eq_none->tT,map_map->xa,map_id'->xc,isSome_iff_exists->xe,bind_eq_some_iff->IP,ite_none_left_eq_some->IQ,bind_some->IS
open Bool renaming true->ai,false->av,casesOn->dj,and_eq_true_iff->fR,and_eq_true->iK,noConfusion->jq,false_eq_true->lu,not_eq_true'->og,false_ne_true->rg,or_false->tU,or_true->tV,eq_false_iff->xf,and_false->xg,not_eq_eq_eq_not->xh,or_eq_true_iff->BU,and_true->IT,or_eq_false_iff->IU,false_and->IV,or_eq_true->IW,not_true->IX
open PySem renaming wpAny_bind->aB,Expr->aH,Addr->ay,Value->az,Shared->aA,Str->aF,model->aJ,wpAny->aN,Heap->aQ,Env->aU,wpAny_pure->aX,Around->bk,Pos->bz,Scope->bM,Sem->b6,World->cP,wpAny_of_eq->cX,Stmt->dW,typeLookup->d9,mainGlobals->ew,Builtin->eT,Obj->fh,starEach->fS,typeLookup_type->fT,builtinLookup_eq_fast->fU,wpAny_specialOf->fV,sizeLine->gy,Model->gz,backTo->gA,wpAny_field->gC,Program->gW,rawInt->gX,wpAny_holding->gY,Tok->ix,relabel->iy,argsOk->jf,table->iL,builtinsNs->jr,Result->jt,isSubtype_type->ju,cLine->ku,strKind->kz,entryFor->kA,assign->kD,wpAny_standAt->kE,Operator->lx,sysModules->ly,standAt->lz,sizeLine_eq->lA,wpAny_load->lB,typeOf->lC,checkBuiltinCall->lE,NameKind->lG,OsState->lI,treeTable->mJ,compareOp->oh,FuncData->oi,Slot->oj,isSubtype->om,codeAny->oq,wpAny_call->ot,noteFrame->ou,assignEach->ow,Params->ox,Const->pX,valueAt->pY,getItem->pZ,wpAny_newObj_type->p7,bm_if_false->p8,wpAny_loadPart_at->p9,binaryOp->rj,setItem->rm,Args->rq,callWith->rt,methodCallPos->rz,entryFor_of_tree->rA,wpAny_call_entry->rB,pyIter->rC,wpAny_setField->rD,GenState->rE,cellsFrom->rF,bindL->rG,importedModules->rH,CmpOp->tW,DictEntry->tX,wpAny_truthy_bool->tY,Code->tZ,bindSpecial->t4,isTrue->t6,wpAny_mkInt->t7,methodCall->t8,signature?_of->t9,IsPart->ua,newFields->ub,pyNext->uc,field->ud,wpAny_isInstance->ue,wants->uf,callSpecial?->ug,specialOf->uh,swappedStores->ui,Drawn->uj,bindArgs->uk,bindC->um,leftWithCleanup->uo,Comprehension->xi,wpAny_rule->xj,stored->xk,setAttr->xl,wpAny_mkText->xm,Keyword->xp,backToKw->xq,keywordEach->xr,codeAny_of_tree->xt,plainId_quiet->xu,bm_if_true->xw,mroOf->xx,valueOrNone->xA,evalOpt->xB,wpAny_assign_Name->xC,theTreesLotGoes->xD,comprehension->xE,compEnvC->xF,interactive->xG,isInstance->xH,wpAny_isSubtype_exc->xI,wpAny_Name->xJ,wpAny_execs_cons->xM,nsFind->xN,callerA->xO,outcomeOf->xP,constantsAlone->BV,ExceptHandler->BW,IsRange->BX,recursionLimit->BY,typeIs_int->BZ,call_meets->B0,intKind->B1,merged->B2,call_meetsIn->B3,excClassObj->B4,handedOut->B5,getAttr->B6,loadName->B7,wpAny_loadName_local->B8,spliced->B9,newList->Ca,operate->Cb,wpAny_callSpecial?_slot->Cc,wpAny_letGo->Cd,rawPart->Ce,wpAny_typeOf->Cf,wpAny_attempt->Cg,sliceBounds->Ci,Carries->Cj,setFlight->Ck,letOwnedTupleGo->Cm,unpackItems->Cn,runOwn->Co,arm_execs_nil->Cp,closureFor->Cq,lookup_relabel_local->Cr,assignStores->Cs,arm_exec_Assign->Ct,codeAny_call_builtin->Cu,mainNs->Cv,Data->Cw,denote->Cy,foldedForSure->IY,KeyKind->IZ,wpAny_release->I0,constValue->I1,wpAny_mkTextBytes->I3,wpAny_loadName_cell->I4,wpAny_loadName_free->I5,wpAny_newList->I6,wpAny_newTuple->I7,behindInMarks->I8,markedBehindIn->I9,markedBehindIn_of_false->Ja,wpAny_keeperOf_exc->Jb,methodCallForm->Jc,arm_eval_Attribute->Jd,wpAny_letTemporaryGo->Je,arm_eval_Call->Jf,slice_no_index->Jg,sliceIndices_raw->Jh,wpAny_pyIter_slot->Ji,entryFor_alias->Jj,codeAny_builtin->Jk,callType_codes->Jl,object_init_meets->Jm,fastTable_eq_tree->Jn,updateBytearray->Jo,wpAny_update->Jp,wpAny_lookBehind->Jq,unsupported->Jr,codeAny_mono->Jt,arm_eval_Subscript->Ju,sliceRange_one->Jv,wpAny_alloc->Jw,IsRangeIter->Jx,wpAny_storeName_local->Jy,arm_assign_Tuple->Jz,arm_exec_Return->JA,foldedSetIterable->JB,newFunctionEnv->JC,wpAny_comp_letGo->JD,arm_exec_Expr->JE,wpAny_bindName->JF,arm_assign_Attribute->JG,arm_assign_Subscript->JH,arm_eval_Constant->JI,entry_typeCall->JJ,wpAt_bind->JK,wpAt_of_wpAny->JL,wpAny_nsGet->JM,fastLookup->JN
open PySem.Str renaming ofString->aE,empty->mK
open Nat renaming le_of_eq->bf,zero_le->bp,le_add_right->cg,mod_lt->dH,not_lt_of_le->dK,le_refl->ez,le_add_left->fx,ne_of_gt->gD,lt_of_succ_lt_succ->iM,add_sub_cancel_left->iN,mod_eq_of_lt->iO,lt_succ_of_le->jg,lt_or_ge->kc,add_le_add->kf,zero_add->kg,le_of_not_lt->kh,le_of_lt->iP,not_lt_zero->iQ,succ->jv,casesAuxOn->jw,exists_eq_succ_of_ne_zero->jx,add_right_comm->kF,add_le_add_left->kG,min_eq_left->kH,succ_pos->kI,add_le_add_right->lJ,le_of_lt_succ->lK,ne_of_lt->lN,sub_le->lQ,mul_le_mul_left->mL,succ_le_succ->mM,pow_mul->mO,and_two_pow_sub_one_eq_mod->mP,mul_comm->oy,le_of_ble_eq_true->qa,mul_add->qb,cast->qc,two_pos->qd,ble->rI,add_assoc->rJ,le_succ->rL,add_comm->rM,pow_le_pow_right->rN,div_one->rO,div_add_mod->uq,not_lt->ur,div_eq_of_lt->uu,lt_of_not_le->uv,sub_sub->uw,mul_add_div->ux,pow_pos->uy,or_lt_two_pow->uz,add_sub_of_le->xQ,lt_irrefl->xR,xor_lt_two_pow->xS,div_le_self->xT,sub_lt_left_of_lt_add->Cz,min_eq_right->CA,le_of_not_le->CB,eq_zero_or_pos->CC,lt_succ_self->CD,sub_eq_of_eq_add->CE,zero_lt_one->CF,lt_one_iff->CG,add_zero->CH,div_div_eq_div_mul->CI,lt_of_add_lt_add_right->CJ,lt_mul_div_succ->CK,and_le_left->CL,exists_eq_add_of_le->JO,min_le_right->JP,pos_of_ne_zero->JQ,add_add_add_comm->JR,or_div_two->JS,and_div_two->JT,or_mod_two_pow->JU,and_mod_two_pow->JV,xor_mod_two_pow->JW,log2_lt->JX,lt_succ_of_lt->JY,not_le->JZ,blt->J0,zero_lt_two->J3,eq_of_testBit_eq->J4,testBit_xor->J5,testBit_two_pow_sub_succ->J6,testBit_lt_two_pow->J7,add_mul->J8,mul_assoc->J9,zero_mul->Ka,mul_add_mod->Kb,div_lt_of_lt_mul->Kc,pow_add->Kd,pow_dvd_pow->Ke,mul_sub->Kf,sub_add_sub_cancel->Kg,xor_zero->Kh,sub_self->Ki,pow_lt_pow_right->Kj,sub_add_cancel->Kk,sub_le_sub_right->Kl
open Ne renaming symm->bP
open List renaming casesOn->bS,length_append->cx,range->cC,append_nil->cL,append_assoc->cM,length_map->cQ,mem_cons_self->cY,mem_cons_of_mem->cZ,getElem?_eq_getElem->dS,getElem?_append_left->eA,mem_cons->eU,nodup_cons->gf,forall_mem_cons->gE,lookup_cons->iz,mem_map->iR,take_append_drop->iS,all_eq_true->jh,getElem?_append_right->ji,replicate->kj,getElem?_set_ne->km,not_mem_nil->iT,map_cons->iU,mem_singleton->iV,nodup_nil->jy,all_cons->lR,getElem?_eq_none->lS,length_drop->lT,map_map->lU,length_range->lV,length_set->oz,length_cons->oA,map_append->oB,drop_drop->oD,getElem?_toArray->qe,mem_range->rP,any_cons->rQ,length_singleton->rS,length_reverse->rT,getElem?_map->rU,map_congr_left->rV,mem_of_getElem?->uA,getElem?_set_self->uB,cons->uC,length->uD,nil_append->uE,length_take->uF,find?_cons->xU,take_of_length_le->xV,drop_of_length_le->xW,getElem?_eq_none_iff->xX,length_eq_zero_iff->xY,filterMap_cons->xZ,reverse_cons->x6,of_mem_zip->x7,zip_cons_cons->x8,isEmpty_iff->x9,map->ya,take_take->yc,contains_cons->ye,getD_eq_getElem?_getD->CM,drop_nil->CN,size_toArray->CO,map_nil->CP,length_nil->CQ,toArray->CR,foldl_append->CS,drop->CT,getElem?_range->CU,length_eq_one_iff->CV,idxOf_lt_length_of_mem->CW,getElem_idxOf->CX,getElem_mem->CY,idxOf_cons_self->CZ,drop_eq_nil_iff->C0,cons_append->C1,length_replicate->C2,map_inj_left->Km,take_nil->Kn,map_eq_nil_iff->Ko,mem_toArray->Kp,any_toArray->Kq,any_eq_false->Kr,mem_filter->Ks,any_map->Kt,any_nil->Ku,drop_take->Kv,contains_eq_mem->Kw,forIn_cons->Kx,mem_reverse->Ky,mem_append->Kz,mem_of_mem_drop->KA,exists_cons_of_length_eq_add_one->KC,foldl_cons->KD,zip_append->KG,contains_iff_mem->KH,lookup->KI,nodup_append->KJ,map_fst_zip->KL,take_length->KN,filter->KP,length_take_le'->KQ,forall_mem_singleton->KR,ext_getElem->KS,take_append_of_le_length->KU,take->KV
open Int renaming natCast_nonneg->bV,eq_ofNat_of_zero_le->iA,ofNat_le->lW,toNat_natCast->mQ,le_trans->qf,lt_of_le_of_lt->qg,not_lt->rW,le_of_lt->rX,not_lt_of_ge->rY,ofNat_lt->uG,toNat_of_nonneg->yf,toNat_lt->yg,emod_nonneg->C3,ne_of_gt->C4,lt_of_lt_of_le->C5,ofNat_sub->C6,add_comm->C7,one_nonneg->KW,ofNat->KX,fdiv_eq_ediv_of_nonneg->KY,max_eq_right->KZ,not_le_of_gt->K2,negSucc_lt_zero->K3,toNat_sub->K4
open PySem.Heap renaming get?_push_of_some->c7,SameBut->iW,get?_push_size->iX,lt_size->mR,get?_update_self->mS,get?_update_other->oE,get?_none_of_le->qh,ExtBut->K5,size_push->K6
open PySem.W renaming Looks->dM,typeIs_bytes->iB,instObj->jz,boot_heap->oF,looks_findIn->qi,emptyDict->uH,look_both->uI,WData->uJ,check_slot->C8,SharedT->C9,boot_drawn->Dc,boot_toks->De,topStub->Df,topRun->Dg,openSeen->Dh,openGood->Di,findIn->Dj,looks_subIn->Dl,looksOpen->Dm,ident_freeW->Dn,fencedOpening->K7,namesBound->K8,readsAllW_nil_inv->K9,readsAllW_cons_inv->La,eq_bytes->Wf,ne_bytes->Wg,getItem_bytes->Wh,len_bytes->Wi
open PySem.Expr renaming casesOn->eV
open PySem.Value renaming none->gh,ref->gF,type->oG,isStrOf->qj,casesOn->rZ,builtin->yh,str->Dp,isInt->Lb,bytes->Lc
open PySem.Obj renaming mapFields->iY,data->lX,mapBytearray->oH,mapSeq->Le,data_mapFields->Lf
open Nat.succ renaming inj->kJ
open Int.ofNat renaming inj->kK
open PySem.W.Looks renaming ld->lY,of_peek->Lg
open Except renaming casesOn->mT
open ForInStep renaming yield->mU
open PySem.Value.type renaming inj->oK
open Classical renaming propDecidable->oM,choose->Lh,choose_spec->Li,byContradiction->Wj
open PySem.W.Frag renaming In->oN
open PySem.Heap.SameBut renaming update->qk
open PySem.Operator renaming casesOn->r6
open PySem.Builtin.Bytes renaming decodersThatHold->r8,ownRelease->yi,buffer?->yj,payload->Dq,sliceParts->Dr,subscript?->Ds,slotIsOwn->Dt,exportsOf->Du,buffer?->Lj,exported->Wk,sameRef->Wl,bindOptional->Wm
open PySem.Flow renaming next->r9,casesOn->uK
open Prod.mk renaming injEq->sb,inj->yk
open List.cons renaming inj->uL,injEq->yl
open PySem.Sem renaming wp_mono->uM
open PySem.NameKind renaming free->uN,cell->Lk
open PyProof.Rows.LCg renaming lst->uO
open PySem.W.WShape renaming hasItems->uP,hasAll->Ll
open Array renaming getElem?_toList->ym,mem_toList_iff->yn,replicate->yo,getElem?_eq_some_iff->yp,toList->Dv,length_toList->Dw,getElem?_eq_getElem->Lm,any_toList->Ln,size_append->Lo,getElem?_setIfInBounds_self->Lq,mk->Lr,toArray_toList->Ls
open PyProof.Rows renaming loadName_read->yq,bitAnd_pp->Dx,tail_any->Dy,len_list->Lu,add_int->Wn,sub_int->Wo,add_str->Wq,lt_int->Wr,le_int->Ws,gt_int->Wt,ge_int->Wu,neg_int->Wv,not_of->Ww,getItem_listL->Wx,getItem_tuple->Wy,len_tuple->Wz
open PySem.UnaryOp renaming casesOn->yr
open PySem.Value.ref renaming inj->yt
open PySem.W.KBy renaming picked->yu
open PySem.Around renaming under_plainId->yv
open PySem.Code renaming quiet_builtin->yw
open PySem.callAny renaming viaDunder->yx
open PySem.F renaming slot_dict_get->Dz,slot_list_getitem->DA,slot_list_append->Lv,entry_dict_get->Lw,slot_dict_update->Lx,store_object->Ly,plainAttrs_dict->Lz,slot_dict_getitem->LA,attr_Exception->LB,slot_list_add->WA,entry_list_add->WB,args_list_add_2->WC,entry_list_append->WE,args_list_append_2->WG,args_dict_get_3->WH,args_dict_get_2->WI,entry_dict_update->WJ,args_dict_update_2->WK,plainAttrs_list->WL,type_list_append->WM,type_dict_get->WN,type_dict_update->WO,slot_tuple_getitem->WQ,args_bexc_ga->WR,entry_bexc_ga->WS,excBase_Exception->WT
open PySem.Calls renaming loadGlobal_global->DB,spliced_cons->DC,loadGlobal_builtin->LC,evalArgs_plain->LD,spliced_nil->LF
open Pure renaming pure->DD
open PUnit renaming unit->DE
open PySem.Stmt renaming casesOn->DF
open UInt8.toNat renaming inj->DG
open UInt8 renaming toNat_ofNat'->DH
open Prod renaming fst->DI,snd->DJ,casesOn->LG
open PySem.Within renaming cons->DK,nil->LH
open PySem.W.GoodW renaming toG->DL
open PySem.Builtin renaming bitOr->LI,bitXor->WU,bitAnd->WV
open PySem.Builtin.Int renaming intBits->LJ
open PySem.IsRange renaming new->LL
open PySem.Heap.DictOf renaming new->LM
open False renaming elim->LO
open PySem.Env renaming kindOf->LP
open PySem.Fin renaming again->LQ,casesOn->WW,done->WY
open PySem.Heap.Ns1 renaming of_empty->LS
open PySem.Heap.Ns renaming new->LW,of_isNs->WZ
open PySem.Challenge renaming pw_pf0352_01->LY,rw_pf0352_01->W0
open PySem.W.Fast renaming te8326940854005059898->LZ,te17119622794617984870->L3,tw10110043849684766642->W3,tw14364793385576792824->W4,tw12563942051412417395->W5,te10110043849684766642->W6,te14364793385576792824->W7,te12563942051412417395->W8,te17868728402115742887->W9,te8179353310426384613->Xa,te9558739934217749035->Xb,te16286561074155671207->Xc,te797321630700447069->Xd,te10792542408131684335->Xe
open PySem.W.WData renaming casesOn->L5
open PySem.W.WTm renaming holds->L6
open PySem.Shared renaming forget_eq->L7
open Option.some renaming inj->Xf
open PySem.IntMulOk renaming of_left->Xg,of_right->Xh
open PyProof renaming noPylong_of_log2->Xi
open PySem.Builtin.List renaming listFitsIndex->Xj,listTooLong->Xk
open PySem.CmpOp renaming casesOn->Xl
open PySem.Builtin.Bytes.exported renaming match_1->Xm
open Function renaming comp_def->Xn,comp->Xo
open PySem.AutoListH renaming list_append_list_val_0->Xp
open PySem.Const renaming casesOn->Xq
open PySem.BoolOp renaming casesOn->Xr
open PySem.Manifest renaming owners->Xs
open PySem.Heap.IsSliceOf renaming new->Xu
open Decidable renaming not_not->Xv
open PySem.AutoIntOps renaming iadd_0->Xw
open PySem.ExceptHandler renaming ExceptHandler->Xx
open PySem.Builtin.BaseException renaming bexcPut->Xy
open PySem.Data renaming seq->Xz
open PySem.Heap.CodeRec renaming keeps->XA
open PySem.W.OpenRow renaming wellSaid->XB,partSaid->XC
open PySem.W.OpenLaw renaming wellSaid->XD
open PySem.ExcName renaming means->XE
open PySem PySem.W
noncomputable abbrev I:=@congrArg
noncomputable abbrev au:=@if_pos
noncomputable abbrev ax:=@if_neg
noncomputable abbrev dC:=@decide_eq_true
noncomputable abbrev dX:=@beq_iff_eq
noncomputable abbrev fj:=@of_decide_eq_true
noncomputable abbrev fy:=@decide_eq_false
noncomputable abbrev ql:=@beq_eq_false_iff_ne
noncomputable abbrev sf:=@beq_self_eq_true
local macro_rules | `(#[$a,*])=>if a.getElems.size<2 then Lean.Macro.throwUnsupported else `(⟨$a,*⟩)
local macro_rules | `(tactic|rfl')=> `(tactic|kernel_rfl)
theorem tv:True:=trivial
noncomputable abbrev AP:=ay->Prop
noncomputable abbrev VP:=az->aA->Prop
noncomputable abbrev SN:=List (aF×Nat)
noncomputable abbrev NN:=List (Nat×Nat)
noncomputable abbrev LR:=List aF
noncomputable abbrev LN:=List Nat
noncomputable abbrev OA:=Option ay
noncomputable abbrev ON:=Option Nat
noncomputable abbrev OV:=Option az
noncomputable abbrev LT:=List dW
noncomputable abbrev LX:=List aH
noncomputable abbrev LU:=List az
noncomputable abbrev U8:=List UInt8
theorem bl{p:Prop}(h:¬p->False):p:=Wj h
theorem bh{α:Type _}{a b:α}(h:U a=U b):a=b:=Xf h
theorem gm{α β:Type}{o:Option α}{f:α->Option β}{b:β}(h:o.bind f=U b):∃a,o=U a/\f a=U b:=IP.mp h
theorem jj{α:Type}{l:List α}{i:Nat}{a:α}(h:l[i]? =U a):∃h:i<J l,l[i]=a:=List.getElem?_eq_some_iff.mp h
theorem bt{a b c:Nat}(h:a<=b)(k:b<=c):a<=c:=Nat.le_trans h k
theorem gG{a b c:Nat}(h:a<b)(k:b<=c):a<c:=Nat.lt_of_lt_of_le h k
theorem gd{a b c:Nat}(h:a<=b)(k:b<c):a<c:=Nat.lt_of_le_of_lt h k
theorem L8{b:Bool}(h:b≠ai):b=false:=xf.mpr h
theorem Ik{N:Nat}{p:Nat->Bool}(h:(cC N).all p=ai){w:Nat}(hw:w<N):p w=true:=jh.mp h w (rP.mpr hw)
theorem mV(h:(cC N).map f=(cC N).map g)(hw:w<N):f w=g w:=Km.mp h w (rP.mpr hw)
theorem zM{N:Nat}{f g:Nat->Nat}(h:(cC N).all (λw=>rI (f w) (g w))=ai){w:Nat}(hw:w<N):f w<=g w:=qa (Ik h hw)
theorem Ma{α:Type}{p:α->Bool}{ao:List α}{d:α}(h:ao.all p=ai)(hd:p d=ai)(i:Nat):p (ao.getD i d)=true:=by
 rw [CM];induction e:ao[i]? using aK with
 |none=>exact hd
 |some x=>exact jh.mp h x (uA e)
theorem Z8{P:Nat->Prop}(hw:w<12)(a0:P 0)(a1:P 1)(a2:P 2)(a3:P 3)(a4:P 4)(a5:P 5)(a6:P 6)(a7:P 7)(a8:P 8)(a9:P 9)(a10:P 10)(a11:P 11):P w:=
 match h:w with
 |0=>a0|1=>a1|2=>a2|3=>a3|4=>a4|5=>a5|6=>a6|7=>a7|8=>a8|9=>a9|10=>a10|11=>a11
 |n+12=>absurd hw (dK (fx 12 n))
theorem c5{P:Nat->Prop}(h:12<=w)(hw:w<17)(a0:P 12)(a1:P 13)(a2:P 14)(a3:P 15)(a4:P 16):P w:=by
 obtain ⟨n,rfl⟩:=JO h
 match n with
 |0=>exact a0
 |1=>exact a1
 |2=>exact a2
 |3=>exact a3
 |4=>exact a4
 |n+5=>exact absurd (Nat.lt_of_add_lt_add_left hw) (dK (fx 5 n))
theorem S1{P:Nat->Prop}(hw:w<17)(a0:P 0)(a1:P 1)(a2:P 2)(a3:P 3)(a4:P 4)(a5:P 5)(a6:P 6)(a7:P 7)(a8:P 8)(a9:P 9)(a10:P 10)(a11:P 11)(b0:P 12)(b1:P 13)(b2:P 14)(b3:P 15)(b4:P 16):P w:=
 (kc w 12).elim (λh=>Z8 h a0 a1 a2 a3 a4 a5 a6 a7 a8 a9 a10 a11) λh=>c5 h hw b0 b1 b2 b3 b4
theorem qF{A B C:Type}(f:A->B->C){a a':A}{b b':B}(h:a=a')(k:b=b'):f a b=f a' b':=h▸k▸rfl
theorem Z9{A B C D:Type}(f:A->B->C->D){a a':A}{b b':B}{c c':C}(h:a=a')(k:b=b')(l:c=c'):f a b c=f a' b' c':=h▸k▸l▸rfl
theorem aiH{A B:Type}(f:A->A->A->A->A->B){a b c d e a' b' c' d' e':A}(h1:a=a')(h2:b=b')(h3:c=c')(h4:d=d')(h5:e=e'):f a b c d e=f a' b' c' d' e':=h1▸h2▸h3▸h4▸h5▸rfl
set_option genInjectivity true
set_option backward.match.sparseCases false
inductive V where
 |none
 |bool (b:Bool)
 |int (i:Int)
 |str (s:aF)
 |bytes (b:U8)
 |tup (xs:List V)
 |lst (xs:List V)
 |ee (a b:Int)
 |ref (i:Nat)
 |con (v:az)
noncomputable abbrev SV:=List (aF×V)
noncomputable abbrev LV:=List V
inductive MO where
 |list (xs:LV)
 |dict (kvs:SV)
 |fW (kvs:List (Int×V))
 |inst (C:ay) (kvs:SV)
 |bu (b:U8)
noncomputable abbrev L:=List MO
noncomputable abbrev Loc:=aF->Option V
inductive Res(α:Type)where
 |ok (a:α) (O:L)
 |exc (why:V) (O:L)
 |bad
noncomputable def Res.bind{α β:Type}:Res α->(α->L->Res β)->Res β
 |.ok a O,f=>f a O
 |.exc y O,_=>.exc y O
 |.bad,_=>.bad
inductive fz where
 |next|cont|ret (v:V)
structure la where
 params:LR
 dflt:LV
 body:LT
 scope:bM
structure S2 where
 init:ay
 meths:List (aF×ay)
 attrs:LR
structure fF where
 glob:aF->Option V
 fn:ay->Option la
 cls:ay->Option S2
 exc:aF
noncomputable def upd(x:aF)(v:V)(l:Loc):Loc:=λy=>if y=x then U v else l y
noncomputable def look(x:aF):SV->Option V
 | []=>.none
 |(y,v)::r=>if y=x then U v else look x r
theorem aeo:look x ((y,v)::r)=if y=x then U v else look x r:=rfl
noncomputable def Eh(x:Int):List (Int×V)->Option V
 | []=>.none
 |(y,v)::r=>if y=x then U v else Eh x r
noncomputable def put{K:Type} [DecidableEq K](x:K)(v:V)(kvs:List (K×V)):List (K×V):=
 if kvs.any (λkv=>kv.1=x)then kvs.map (λkv=>if kv.1=x then(kv.1,v)else kv)else kvs++ [(x,v)]
noncomputable def putAll:SV->SV->SV
 |a,[]=>a
 |a,(k,v)::r=>putAll (put k v a) r
inductive Fl where
 |none|bool (b:Bool)|int (i:Int)|str (s:aF)
noncomputable def Fl.val:Fl->ix->az
 |.none,_=>.none
 |.bool b,_=>.bool b
 |.int i,t=>.int i t
 |.str s,t=>.str s t
noncomputable def flat:V->Option Fl
 |.none=>U .none
 |.bool b=>U (.bool b)
 |.int i=>U (.int i)
 |.str s=>U (.str s)
 |_=>.none
noncomputable def Fl.eq(x y:Fl):Option Bool:=match x with
 |.none=>match y with
  |.none=>U ai
  |_=>U av
 |.bool a=>match y with
  |.none=>U av
  |.bool b=>U (a==b)
  |_=>.none
 |.int a=>match y with
  |.none=>U av
  |.int b=>U (a==b)
  |_=>.none
 |.str a=>match y with
  |.none=>U av
  |.str b=>U (a==b)
  |_=>.none
noncomputable def Bw(x y:V):Option Bool:=match flat x with
 |some a=>match flat y with
  |some b=>Fl.eq a b
  |.none=>.none
 |.none=>.none
noncomputable def pe:V->Option (LV)
 |.tup xs=>U xs
 |_=>.none
noncomputable def jJ:V->Option (U8)
 |.bytes xs=>U xs
 |_=>.none
noncomputable def nS:V->Option aF
 |.str s=>U s
 |_=>.none
noncomputable def dw:V->ON
 |.ref i=>U i
 |_=>.none
noncomputable def yy:V->Option (LV)
 |.lst xs=>U xs
 |_=>.none
noncomputable def dE:V->Option Int
 |.int i=>U i
 |_=>.none
noncomputable def allEq(f:V->V->Option Bool):LV->LV->Option Bool
 | [],[]=>U ai
 |x::xs,y::ys=>match f x y,allEq f xs ys with
  |some a,U b=>U (a&&b)
  |_,_=>.none
 |_,_=>.none
theorem abr:allEq f (x::xs) (y::ys)=(match f x y,allEq f xs ys with
  |some a,U b=>U (a&&b)
  |_,_=>.none):=rfl
noncomputable def tc:Nat->V->V->Option Bool
 |0,_,_=>.none
 |k+1,x,y=>match pe x with
  |some xs=>match pe y with
   |some ys=>allEq (tc k) xs ys
   |.none=>.none
  |.none=>match jJ x with
   |some a=>match jJ y with
    |some b=>U (a==b)
    |.none=>.none
   |.none=>Bw x y
noncomputable def eqv:V->V->Option Bool:=tc 8
noncomputable def DM(o:SV):SV->Option Bool
 | []=>U ai
 |(k,v)::r=>match look k o with
  |some w=>(match eqv v w,DM o r with
   |some a,U b=>U (a&&b)
   |_,_=>.none)
  |.none=>.none
noncomputable def listAt(O:L)(i:Nat):Option (LV):=match O[i]? with
 |some (.list xs)=>U xs
 |_=>.none
noncomputable def fY(O:L)(i:Nat):Option (U8):=match O[i]? with
 |some (.bu xs)=>U xs
 |_=>.none
noncomputable def dictAt(O:L)(i:Nat):Option (SV):=match O[i]? with
 |some (.dict xs)=>U xs
 |_=>.none
noncomputable def AZ(O:L)(i:Nat):Option (List (Int×V)):=match O[i]? with
 |some (.fW xs)=>U xs
 |_=>.none
noncomputable def nB(O:L)(i:Nat):Option (ay×SV):=match O[i]? with
 |some (.inst C xs)=>U (C,xs)
 |_=>.none
noncomputable def dN{α β:Type}(o:Option α)(f:α->Res β):Res β:=match o with
 |some a=>f a
 |.none=>.bad
noncomputable def G4(O:L)(x y:V):Option Bool:=match dw x with
 |some i=>match dw y with
  |some j=>if i=j then .none else match listAt O i with
   |some xs=>match listAt O j with
    |some ys=>allEq eqv xs ys
    |.none=>.none
   |.none=>match dictAt O i with
    |some xs=>match dictAt O j with
     |some ys=>if(J xs)=(J ys)then DM ys xs else .none
     |.none=>.none
    |.none=>.none
  |.none=>.none
 |.none=>match dw y with
  |some _=>.none
  |.none=>eqv x y
noncomputable def fw(x:V):LV->Option Bool
 | []=>U av
 |y::r=>match Bw y x,fw x r with
  |some a,U b=>U (a||b)
  |_,_=>.none
noncomputable def Ei(O:L)(x y:V):Option Bool:=match pe y with
 |some ys=>fw x ys
 |.none=>match dw y with
  |some i=>match listAt O i with
   |some ys=>fw x ys
   |.none=>match dictAt O i with
    |some kvs=>match nS x with
     |some k=>U (look k kvs).isSome
     |.none=>.none
    |.none=>.none
  |.none=>.none
noncomputable def isS:V->V->Option Bool
 |.con (.ref _),.none=>U av
 |.con _,_=>.none
 |.none,.none=>U ai
 |_,.none=>U av
 |_,_=>.none
noncomputable def FV(a b:V)(f:Int->Int->Bool):Option Bool:=match dE a with
 |some a=>match dE b with
  |some b=>U (f a b)
  |.none=>.none
 |.none=>.none
noncomputable def XF(a b:V):Option Bool:=match b with
 |.none=>isS a .none
 |_=>.none
noncomputable def cmp(O:L)(op:tW)(a b:V):Option Bool:=match op with
 |.Eq=>G4 O a b
 |.NotEq=>(G4 O a b).map (!·)
 |.Lt=>FV a b λa b=>decide (a<b)
 |.LtE=>FV a b λa b=>decide (a<=b)
 |.Gt=>FV a b λa b=>decide (b<a)
 |.GtE=>FV a b λa b=>decide (b<=a)
 |.Is=>XF a b
 |.IsNot=>(XF a b).map (!·)
 |.In=>Ei O a b
 |.NotIn=>(Ei O a b).map (!·)
noncomputable def aR:Nat:=100000
noncomputable def binI(op:lx)(a b:Int):Option Int:=match op with
 |.Add=>U (a+b)
 |.Sub=>U (a - b)
 |.Mult=>if a.natAbs<2^64 \/b.natAbs<2^64 then U (a*b)else .none
 |.FloorDiv=>if 0<b/\ b.natAbs<2^1000 then U (a/b)else .none
 |.Mod=>if 0<b then U (a % b)else .none
 |.Pow=>if a.natAbs<2^64/\ 0<=b/\ b<=1000000 then U (a^b.toNat)else .none
 |.LShift=>if a.natAbs<2^1000/\ 0<=b/\ b<=1000000 then U (a*2^b.toNat)else .none
 |.RShift=>if 0<=b then U (a/2^b.toNat)else .none
 |.BitAnd=>if 0<=a/\ 0<=b then U ((a.toNat&&&b.toNat:Nat):Int)else .none
 |.BitOr=>if 0<=a/\ 0<=b then U ((a.toNat|||b.toNat:Nat):Int)else .none
 |.BitXor=>if 0<=a/\ 0<=b then U ((a.toNat^^^b.toNat:Nat):Int)else .none
 |_=>.none
noncomputable def new(m:MO)(O:L):Res V:=.ok (.ref (J O)) (O++ [m])
noncomputable def Rc(op:lx)(a:V)(k:Int)(O:L):Res V:=match op with
 |.Mult=>match jJ a with
  |some a=>if 0<=k/\ k<=100/\ 0<J a/\ (J a)<=16 then .ok (.bytes (kj k.toNat a).flatten) O else .bad
  |.none=>dN (dw a) λi=>dN (listAt O i) λxs=>if 0<=k/\ k<=100/\ (J xs)<=100 then new (.list (kj k.toNat xs).flatten) O else .bad
 |_=>.bad
noncomputable def Mb(op:lx)(a b:V)(O:L):Res V:=match op with
 |.Add=>match nS a with
  |some a=>dN (nS b) λb=>if a.length+b.length<=aR then .ok (.str (a++b)) O else .bad
  |.none=>match jJ a with
   |some a=>dN (jJ b) λb=>if(J a)+J b<=aR then .ok (.bytes (a++b)) O else .bad
   |.none=>dN (dw a) λi=>dN (dw b) λj=>dN (listAt O i) λxs=>dN (listAt O j) λys=>if(J xs)+J ys<=aR then new (.list (xs++ys)) O else .bad
 |_=>.bad
noncomputable def bin(op:lx)(a b:V)(O:L):Res V:=match dE b with
 |some k=>match dE a with
  |some i=>dN (binI op i k) λc=>.ok (.int c) O
  |.none=>Rc op a k O
 |.none=>Mb op a b O
noncomputable def bytesOf:LV->Option (U8)
 | []=>U []
 |x::r=>(dE x).bind λi=>if 0<=i/\ i<256 then(bytesOf r).map (i.toNat.toUInt8::·)else .none
inductive It where
 |tup (xs:LV)
 |bytes (b:U8)
 |ee (a b:Int)
 |list (i:Nat)
 |bu (i:Nat)
noncomputable def qm(O:L):V->Option It
 |.tup xs=>U (.tup xs)
 |.bytes b=>if(J b)<=aR then U (.bytes b)else .none
 |.ee a b=>if b - a<=1000/\ -(2^40)<a/\ a<2^40/\ -(2^40)<b/\ b<2^40 then U (.ee a b)else .none
 |.ref i=>match O[i]? with
  |some (.list _)=>U (.list i)
  |some (.bu _)=>U (.bu i)
  |_=>.none
 |_=>.none
noncomputable def It.nx:It->L->Nat->Option (Option V)
 |.tup xs,_,k=>U xs[k]?
 |.bytes b,_,k=>U (b[k]?.map λx=>.int x.toNat)
 |.ee a b,_,k=>U (if k<(b - a).toNat then U (.int (a+(k:Int)))else .none)
 |.list i,O,k=>match O[i]? with
  |some (.list xs)=>U xs[k]?
  |_=>.none
 |.bu i,O,k=>match O[i]? with
  |some (.bu b)=>U (b[k]?.map λx=>.int x.toNat)
  |_=>.none
noncomputable def bE:Nat:=1001
noncomputable def len(O:L):V->ON
 |.tup xs=>U (J xs)
 |.lst xs=>U (J xs)
 |.bytes b=>U (J b)
 |.ref i=>match listAt O i with
  |some xs=>U (J xs)
  |.none=>match fY O i with
   |some b=>U (J b)
   |.none=>.none
 |_=>.none
noncomputable def G5(xs:LV)(i:Int):Option V:=if 0<=i/\ i<1099511627776 then xs[i.toNat]? else .none
noncomputable def index(O:L)(o i:V):Option V:=match dw o with
 |some j=>match listAt O j with
  |some xs=>(dE i).bind (G5 xs)
  |.none=>match dictAt O j with
   |some kvs=>(nS i).bind λk=>look k kvs
   |.none=>(AZ O j).bind λkvs=>(dE i).bind λk=>Eh k kvs
 |.none=>(dE i).bind λi=>match pe o with
  |some xs=>G5 xs i
  |.none=>match yy o with
   |some xs=>G5 xs i
   |.none=>(jJ o).bind λb=>if(J b)<=aR/\ 0<=i/\ i<(J b)then U (.int (b.getD i.toNat 0).toNat)else .none
noncomputable def Ej(d:Nat):V->ON
 |.none=>U d
 |.int i=>if 0<=i/\ i<2^40 then U i.toNat else .none
 |_=>.none
noncomputable def cut{α:Type}(lo hi:Nat)(xs:List α):List α:=(xs.take hi).drop lo
noncomputable def slice(o lo hi:V)(O:L):Res V:=dN (dw o) λi=>dN (Ej 0 lo) λlo=>dN (Ej aR hi) λhi=>match listAt O i with
 |some xs=>if(J xs)<=aR then new (.list (cut lo hi xs)) O else .bad
 |.none=>dN (fY O i) λb=>if(J b)<=aR then new (.bu (cut lo hi b)) O else .bad
noncomputable def setItem(o i v:V)(O:L):Option L:=(dw o).bind λj=>(dictAt O j).bind λkvs=>(nS i).bind λk=>
 if(J kvs)<=1000 then U (O.set j (.dict (put k v kvs)))else .none
noncomputable def jB(o lo hi v:V)(O:L):Option L:=(dw o).bind λj=>(dE lo).bind λlo=>(dE hi).bind λhi=>(jJ v).bind λn=>(fY O j).bind λb=>
 if 0<=lo/\ lo<=hi/\ hi<=J b/\ (J b)<=1000/\ hi - lo=(J n)then U (O.set j (.bu (b.take lo.toNat++n++b.drop hi.toNat)))else .none
noncomputable def aaa:Option V->Option V
 |some (.con _)=>.none
 |r=>r
noncomputable def Rd(P:fF)(o:V)(a:aF)(O:L):Option V:=(dw o).bind λj=>(nB O j).bind λx=>(P.cls x.1).bind λd=>
 if d.attrs.contains a then aaa (look a x.2)else .none
noncomputable def XG(P:fF)(o:V)(a:aF)(v:V)(O:L):Option L:=(dw o).bind λj=>(nB O j).bind λx=>(P.cls x.1).bind λd=>
 if d.attrs.contains a/\ (J x.2)<=100 then U (O.set j (.inst x.1 (put a v x.2)))else .none
noncomputable def oO:pX->Option V
 |.none=>U .none
 |.bool b=>U (.bool b)
 |.int i=>U (.int i)
 |.str s=>U (.str s)
 |.bytes b=>U (.bytes b)
 |_=>.none
noncomputable def eD{α:Type}(O:L):Option α->Res α
 |some a=>.ok a O
 |.none=>.bad
noncomputable def qX:Option L->Res Unit
 |some O=>.ok () O
 |.none=>.bad
noncomputable def strKeys:List (V×V)->Option (SV)
 | []=>U []
 |p::r=>(nS p.1).bind λk=>(strKeys r).map ((k,p.2)::·)
noncomputable def intKeys:List (V×V)->Option (List (Int×V))
 | []=>U []
 |p::r=>(dE p.1).bind λk=>(intKeys r).map ((k,p.2)::·)
noncomputable def distinct{α:Type} [DecidableEq α]:List α->Bool
 | []=>ai
 |x::r=>!r.contains x&&distinct r
inductive Bf where
 |len|max|range|tuple|bytes|bu
noncomputable def Bf.val:Bf->az
 |.len=>.builtin "len"
 |.max=>.builtin "max"
 |.range=>.type "range"
 |.tuple=>.type "tuple"
 |.bytes=>.type "bytes"
 |.bu=>.type "bytearray"
noncomputable def S3:az->Option Bf
 |.builtin n=>if n= "len" then U .len else if n= "max" then U .max else .none
 |.type n=>if n= "range" then U .range else if n= "tuple" then U .tuple else if n= "bytes" then U .bytes else if n= "bytearray" then U .bu else .none
 |_=>.none
noncomputable def Bx(f:Bf)(x:V)(O:L):Res V:=match f with
 |.len=>(eD O (len O x)).bind λn O=>if n<=aR then .ok (.int n) O else .bad
 |.max=>.bad
 |.range=>match x with
  |.int b=>if -(2^40)<b/\ b<2^40 then .ok (.ee 0 b) O else .bad
  |_=>.bad
 |.tuple=>match x with
  |.ref i=>match listAt O i with
   |some xs=>if(J xs)<=aR then .ok (.tup xs) O else .bad
   |.none=>.bad
  |_=>.bad
 |.bytes=>match x with
  |.bytes b=>.ok (.bytes b) O
  |.ref i=>match listAt O i with
   |some xs=>match bytesOf xs with
    |some b=>if(J b)<=aR then .ok (.bytes b) O else .bad
    |.none=>.bad
   |.none=>match fY O i with
    |some b=>if(J b)<=aR then .ok (.bytes b) O else .bad
    |.none=>.bad
  |_=>.bad
 |.bu=>match x with
  |.bytes b=>if(J b)<=aR then new (.bu b) O else .bad
  |.int n=>if 0<n/\ n<=1000 then new (.bu (kj n.toNat 0)) O else .bad
  |_=>.bad
noncomputable def bf2(f:Bf)(x y:V)(O:L):Res V:=match x with
 |.int a=>match y with
  |.int b=>match f with
   |.max=>.ok (.int (max a b)) O
   |.range=>if -(2^40)<a/\ a<2^40/\ -(2^40)<b/\ b<2^40 then .ok (.ee a b) O else .bad
   |_=>.bad
  |_=>.bad
 |_=>.bad
noncomputable def jU(f:az)(args:LV)(O:L):Res V:=match S3 f with
 |.none=>.bad
 |some b=>match args with
  | [x]=>Bx b x O
  | [x,y]=>bf2 b x y O
  |_=>.bad
inductive Mc where
 |append|get|update
noncomputable def yz:MO->aF->Option Mc
 |.list _,m=>if m= "append" then U .append else .none
 |.dict _,m=>if m= "get" then U .get else if m= "update" then U .update else .none
 |_,_=>.none
noncomputable def methodCall(k:Mc)(i:Nat)(args:LV)(O:L):Res V:=match k with
 |.append=>match args with
  | [v]=>dN (listAt O i) λxs=>if(J xs)<=aR then .ok .none (O.set i (.list (xs++ [v])))else .bad
  |_=>.bad
 |.get=>match args with
  | [k]=>dN (dictAt O i) λkvs=>dN (nS k) λk=>.ok ((look k kvs).getD .none) O
  | [k,d]=>dN (dictAt O i) λkvs=>dN (nS k) λk=>.ok ((look k kvs).getD d) O
  |_=>.bad
 |.update=>match args with
  | [x]=>dN (dw x) λj=>dN (dictAt O i) λkvs=>dN (dictAt O j) λmore=>
   if i≠j/\ (J kvs)+J more<=1000 then .ok .none (O.set i (.dict (putAll kvs more)))else .bad
  |_=>.bad
noncomputable def il:LX->Option (LR)
 | []=>U []
 |.Name x _::r=>(il r).map (x::·)
 |_::_=>.none
noncomputable def oP(sc:bM)(x:aF):Bool:=match sc.names.lookup x with
 |some .local=>ai
 |some .cell=>ai
 |_=>av
noncomputable def mu(sc:bM)(x:aF):Bool:=match sc.names.lookup x with
 |some .globalImplicit=>ai
 |_=>av
noncomputable def isFree(sc:bM)(x:aF):Bool:=match sc.names.lookup x with
 |some .free=>x !=aE "__classdict__"
 |_=>av
noncomputable def store(sc:bM)(x:aF)(v:V)(l:Loc):Option Loc:=if oP sc x then U (upd x v l)else .none
noncomputable def storeAll(sc:bM):LR->LV->Loc->Option Loc
 | [],[],l=>U l
 |x::xs,v::vs,l=>(store sc x v l).bind (storeAll sc xs vs)
 |_,_,_=>.none
noncomputable def jk(O:L):V->Option (LV)
 |.tup xs=>U xs
 |.ref i=>match O[i]? with
  |some (.list xs)=>U xs
  |_=>.none
 |_=>.none
noncomputable def jl(sc:bM)(t:aH)(v:V)(O:L)(l:Loc):Option Loc:=match t with
 |.Name x _=>store sc x v l
 |.Tuple es _ _=>match il es,jk O v with
  |some xs,U vs=>if(J xs)<=8 then storeAll sc xs vs l else .none
  |_,_=>.none
 |_=>.none
noncomputable def bindArgs(params:LR)(dflt args:LV):Option Loc:=
 if(J args)+J dflt=(J params)then U λx=>((params.zip (args++dflt)).find? λp=>p.1=x).map (·.2)else .none
structure Ev where
 e:bM->Loc->L->aH->Res V
 t:bM->Loc->L->aH->Res Bool
 x:bM->Loc->L->dW->Res (fz×Loc)
 c:V->LV->L->Res V
noncomputable def isStar:aH->Bool
 |.Starred _ _=>ai
 |_=>av
noncomputable def l9(f:L->aH->Res V):LX->L->Res (LV)
 | [],O=>.ok [] O
 |e::r,O=>if isStar e then .bad else(f O e).bind λv O=>(l9 f r O).bind λvs O=>.ok (v::vs) O
noncomputable def wu(f:L->aH->Res V):List (Option aH)->LX->L->Res (List (V×V))
 | [],[],O=>.ok [] O
 |some k::ks,v::vs,O=>(f O k).bind λkv O=>(f O v).bind λvv O=>(wu f ks vs O).bind λr O=>.ok ((kv,vv)::r) O
 |_,_,_=>.bad
noncomputable def mf(f:Loc->L->dW->Res (fz×Loc)):LT->Loc->L->Res (fz×Loc)
 | [],l,O=>.ok (.next,l) O
 |s::r,l,O=>(f l O s).bind λa O=>match a with
  |(.next,l)=>mf f r l O
  |(fl,l)=>.ok (fl,l) O
noncomputable def Rf(f:L->aH->Res Bool)(op:BoolOp):LX->L->Res Bool
 | [],O=>.ok (op== .And) O
 |e::r,O=>(f O e).bind λb O=>match op,b with
  |.And,av=>.ok av O
  |.Or,ai=>.ok ai O
  |_,_=>Rf f op r O
noncomputable def uQ(f:L->aH->Res V)(op:BoolOp):LX->L->Res V
 | [],_=>.bad
 | [e],O=>f O e
 |e::r,O=>(f O e).bind λv O=>match v with
  |.bool b=>match op with
   |.And=>match b with
    |false=>.ok (.bool av) O
    |true=>uQ f op r O
   |.Or=>match b with
    |true=>.ok (.bool ai) O
    |false=>uQ f op r O
  |_=>.bad
noncomputable def loop(body:V->Loc->L->Res (fz×Loc))(nx:L->Nat->Option (Option V)):Nat->Nat->Loc->L->Res (fz×Loc)
 |0,_,_,_=>.bad
 |f+1,k,l,O=>match nx O k with
  |.none=>.bad
  |some .none=>.ok (.next,l) O
  |some (U v)=>(body v l O).bind λa O=>match a with
   |(.ret v,l)=>.ok (.ret v,l) O
   |(_,l)=>loop body nx f (k+1) l O
theorem aer:loop body nx (f+1) k l O=(match nx O k with
  |.none=>.bad
  |some .none=>.ok (.next,l) O
  |some (U v)=>(body v l O).bind λa O=>match a with
   |(.ret v,l)=>.ok (.ret v,l) O
   |(_,l)=>loop body nx f (k+1) l O):=rfl
noncomputable def turns(body:V->L->Res V)(nx:L->Nat->Option (Option V)):Nat->Nat->L->Res (LV)
 |0,_,_=>.bad
 |f+1,k,O=>match nx O k with
  |.none=>.bad
  |some .none=>.ok [] O
  |some (U v)=>(body v O).bind λx O=>(turns body nx f (k+1) O).bind λxs O=>.ok (x::xs) O
theorem abt:turns body nx (f+1) k O=(match nx O k with
  |.none=>.bad
  |some .none=>.ok [] O
  |some (U v)=>(body v O).bind λx O=>(turns body nx f (k+1) O).bind λxs O=>.ok (x::xs) O):=rfl
noncomputable def whl(test:Loc->L->Res Bool)(body:Loc->L->Res (fz×Loc)):Nat->Loc->L->Res (fz×Loc)
 |0,_,_=>.bad
 |k+1,l,O=>(test l O).bind λc O=>if c then(body l O).bind λa O=>match a with
   |(.ret v,l)=>.ok (.ret v,l) O
   |(_,l)=>whl test body k l O
  else .ok (.next,l) O
noncomputable def wx:aH->Bool
 |.Set _ _ _=>av
 |_=>ai
noncomputable def zN(bQ sc:bM)(it:aH):Bool:=wx it&&bQ.kind== .function&&sc.kind== .function&&bQ.names.all λx=>
 x.2 != .cell&&(x.2 != .local||bQ.names.lookup x.1==U .local)&&(x.2 != .free||sc.names.lookup x.1==U .cell)
noncomputable def pg(bQ sc:bM):Scope:={bQ with names:=bQ.names.map λ(n,k)=>if(k== .free&&sc.kind== .function&&sc.names.lookup n==U .cell)then(n,.cell)else(n,k)}
noncomputable def freeOf(sc:bM)(l:Loc):Loc:=λx=>if isFree sc x then l x else .none
noncomputable def Md(kvs:List (V×V))(O:L):Res V:=match strKeys kvs with
 |some d=>if distinct (d.map (·.1))then new (.dict d) O else .bad
 |.none=>match intKeys kvs with
  |some d=>if distinct (d.map (·.1))then new (.fW d) O else .bad
  |.none=>.bad
noncomputable def mD:aH->Bool
 |.Call (.Name _ _) _ _ _=>av
 |_=>ai
noncomputable def mW:aH->Bool
 |.Set _ _ _=>av
 |_=>ai
noncomputable def iC(P:fF):V->Bool
 |.con (.builtin _)=>ai
 |.con (.type _)=>ai
 |.con (.ref a)=>(P.fn a).isSome||(P.cls a).isSome
 |_=>av
noncomputable def mn{α:Type}:Res α->Res α
 |.exc _ _=>.bad
 |r=>r
noncomputable def sD(r:Ev)(sc:bM)(l:Loc)(O:L)(elt t it:aH)(bQ:bM):Res (LV):=
 if zN bQ sc it then(r.e sc l O it).bind λx O=>match qm O x with
  |some i=>mn (turns (λv O=>(eD O (jl bQ t v O (freeOf bQ l))).bind λl' O=>r.e (pg bQ sc) l' O elt) i.nx bE 0 O)
  |.none=>.bad
 else .bad
noncomputable def wz:aH->Option (Option aH×Option aH)
 |.Slice lo hi .none _=>U (lo,hi)
 |_=>.none
noncomputable def Ek:aH->Option (aH×aH)
 |.Slice (U lo) (U hi) .none _=>U (lo,hi)
 |_=>.none
noncomputable def El:List xi->Option (aH×aH)
 | [#[t,it,[],0]]=>U (t,it)
 |_=>.none
noncomputable def Em:aH->Option (aH×aF×bz)
 |.Attribute o m p=>U (o,m,p)
 |_=>.none
noncomputable def one{α:Type}:List α->Option α
 | [a]=>U a
 |_=>.none
noncomputable def jK(P:fF)(r:Ev)(sc:bM)(l:Loc)(O:L):aH->Res V
 |.Constant c _ _=>eD O (oO c)
 |.Name x _=>if x==aE "__debug__" then .bad else match l x with
  |some v=>.ok v O
  |.none=>if mu sc x then eD O (P.glob x)else .bad
 |.BoolOp op vs _=>uQ (r.e sc l) op vs O
 |.BinOp a op b _=>(r.e sc l O a).bind λx O=>(r.e sc l O b).bind λy O=>bin op x y O
 |.UnaryOp op a _=>(r.e sc l O a).bind λx O=>match op,x with
  |.Not,.bool b=>.ok (.bool !b) O
  |.USub,.int i=>.ok (.int (-i)) O
  |_,_=>.bad
 |.IfExp t a b _=>(r.t sc l O t).bind λc O=>if c then r.e sc l O a else r.e sc l O b
 |.Dict ks vs _=>if(J ks)<=15/\ (J ks)=J vs/\ ks.all (·.isSome)then(wu (r.e sc l) ks vs O).bind Md
  else .bad
 |.List es _=>if(J es)<=100 then(l9 (r.e sc l) es O).bind λvs O=>new (.list vs) O else .bad
 |.Tuple es _ _=>if(J es)<=100 then(l9 (r.e sc l) es O).bind λvs O=>.ok (.tup vs) O else .bad
 |.Compare a ops bs _=>match one ops,one bs with
  |some op,U b=>if mW b then(r.e sc l O a).bind λx O=>(r.e sc l O b).bind λy O=>(eD O (cmp O op x y)).bind λc O=>.ok (.bool c) O else .bad
  |_,_=>.bad
 |.Attribute o a _=>if mD o then(r.e sc l O o).bind λx O=>eD O (Rd P x a O)else .bad
 |.Subscript o i _=>match wz i with
  |some (lo,hi)=>(r.e sc l O o).bind λx O=>
   (match lo with|some e=>r.e sc l O e|.none=>.ok .none O).bind λa O=>
   (match hi with|some e=>r.e sc l O e|.none=>.ok .none O).bind λb O=>slice x a b O
  |.none=>(r.e sc l O o).bind λx O=>(r.e sc l O i).bind λy O=>eD O (index O x y)
 |.Call f args ks pos=>match ks with
  | []=>match Em f with
   |some (o,m,apos)=>if mD o/\ (J args)<=8/\ apos.endLine=pos.line/\ args.all (λe=>!isStar e)then(r.e sc l O o).bind λx O=>dN (dw x) λi=>match nB O i with
    |some (C,kvs)=>dN ((P.cls C).bind λd=>if(look m kvs).isNone then(d.meths.lookup m)else .none) λf=>
     (l9 (r.e sc l) args O).bind λvs O=>if iC P (.con (.ref f))then r.c (.con (.ref f)) (x::vs) O else .bad
    |.none=>dN O[i]? λmo=>dN (yz mo m) λk=>(l9 (r.e sc l) args O).bind λvs O=>methodCall k i vs O
    else .bad
   |.none=>if(J args)<=8 then(r.e sc l O f).bind λg O=>(l9 (r.e sc l) args O).bind λvs O=>if iC P g then r.c g vs O else .bad else .bad
  |_=>.bad
 |.ListComp elt gs bQ _=>dN (El gs) λz=>(sD r sc l O elt z.1 z.2 bQ).bind λout O=>new (.list out) O
 |_=>.bad
noncomputable def Il(r:Ev)(sc:bM)(l:Loc)(O:L)(e:aH):Res Bool:=(r.e sc l O e).bind λv O=>match v with
  |.bool b=>.ok b O
  |_=>.bad
noncomputable def stepT(r:Ev)(sc:bM)(l:Loc)(O:L)(e:aH):Res Bool:=match e with
 |.UnaryOp op a _=>match op with
  |.Not=>(r.t sc l O a).bind λb O=>.ok (!b) O
  |_=>Il r sc l O e
 |.BoolOp op vs _=>Rf (r.t sc l) op vs O
 |.Compare a ops bs _=>match one ops,one bs with
  |some op,U b=>if mW b then(r.e sc l O a).bind λx O=>(r.e sc l O b).bind λy O=>eD O (cmp O op x y)else .bad
  |_,_=>.bad
 |.IfExp _ _ _ _=>.bad
 |.NamedExpr _ _ _=>.bad
 |e=>Il r sc l O e
noncomputable def yA:V->Bool
 |.con _=>ai
 |_=>av
noncomputable def sI:aH->Bool
 |.ListComp .. =>ai
 |.SetComp .. =>ai
 |.DictComp .. =>ai
 |_=>av
noncomputable def lcV:aH->Option (aH×List xi×bM)
 |.ListComp elt gs bQ _=>U (elt,gs,bQ)
 |_=>.none
noncomputable def XH(r:Ev)(sc:bM)(l:Loc)(O:L)(e:aH):Res V:=
 if sI e then dN (lcV e) λy=>dN (El y.2.1) λz=>(sD r sc l O y.1 z.1 z.2 y.2.2).bind λout O=>new (.list out) O else r.e sc l O e
noncomputable def isSlice:aH->Bool
 |.Slice .. =>ai
 |_=>av
noncomputable def En:aH->Bool
 |.Tuple vs _ _=>vs.all (IY 8)||!(vs.all (BV 8))
 |_=>ai
noncomputable def Im:aH->Option aF
 |.Name x _=>U x
 |_=>.none
noncomputable def aet:aH->Option pX
 |.Constant k _ _=>U k
 |_=>.none
noncomputable def aac:aH->Option (aH×LX)
 |.Call f args [] _=>U (f,args)
 |_=>.none
noncomputable def aeu:dW->Option aH
 |.Return (U e) _=>U e
 |_=>.none
noncomputable def aev:BW->Option (aH×aF×LT)
 |.ExceptHandler (U e) (U n) b _=>U (e,n,b)
 |_=>.none
noncomputable def zO(e cause:Option aH):Option (aF×pX):=match cause with
 |some _=>.none
 |.none=>e.bind λe=>(aac e).bind λfa=>(Im fa.1).bind λx=>(one fa.2).bind λa=>(aet a).bind λk=>U (x,k)
noncomputable def XI(hs:List BW)(orelse fin:LT):Option (aF×aF×aF×aF):=match orelse,fin with
 | [],[]=>(one hs).bind λh=>(aev h).bind λq=>(Im q.1).bind λx=>(one q.2.2).bind λst=>(aeu st).bind λv=>(Em v).bind λa=>(Im a.1).bind λn'=>U (x,q.2.1,n',a.2.1)
 |_,_=>.none
noncomputable def i9(P:fF)(r:Ev)(sc:bM)(l:Loc)(O:L):dW->Res (fz×Loc)
 |.Expr e _=>if sI e then .bad else(r.e sc l O e).bind λv O=>match v with
  |.none=>.ok (.next,l) O
  |_=>.bad
 |.Return (U e) _=>(r.e sc l O e).bind λv O=>.ok (.ret v,l) O
 |.Continue _=>.ok (.cont,l) O
 |.Assign [t] e _=>match t with
  |.Name x _=>(XH r sc l O e).bind λv O=>(eD O (store sc x v l)).bind λl O=>.ok (.next,l) O
  |.Tuple es _ _=>dN (il es) λxs=>if(!En e||!distinct xs)then .bad else(r.e sc l O e).bind λv O=>dN (jk O v) λvs=>(eD O (storeAll sc xs vs l)).bind λl O=>.ok (.next,l) O
  |.Attribute o a _=>(r.e sc l O e).bind λv O=>(r.e sc l O o).bind λx O=>(qX (XG P x a v O)).bind λG O=>.ok (.next,l) O
  |.Subscript o i _=>match Ek i with
   |some (lo,hi)=>(r.e sc l O e).bind λv O=>(r.e sc l O o).bind λx O=>
    (r.e sc l O lo).bind λa O=>(r.e sc l O hi).bind λb O=>(qX (jB x a b v O)).bind λG O=>.ok (.next,l) O
   |.none=>if isSlice i then .bad else(r.e sc l O e).bind λv O=>(r.e sc l O o).bind λx O=>(r.e sc l O i).bind λy O=>(qX (setItem x y v O)).bind λG O=>.ok (.next,l) O
  |_=>.bad
 |.AugAssign (.Name x _) .Add e _=>dN ((l x).bind dE) λa=>(r.e sc l O e).bind λv O=>dN (dE v) λb=>
   (eD O (store sc x (.int (a+b)) l)).bind λl O=>.ok (.next,l) O
 |.If t a b _=>(r.t sc l O t).bind λc O=>if c then mf (r.x sc) a l O else mf (r.x sc) b l O
 |.For t it body [] _=>if wx it then(r.e sc l O it).bind λx O=>match qm O x with
  |some i=>loop (λv l O=>(eD O (jl sc t v O l)).bind λl O=>mf (r.x sc) body l O) i.nx bE 0 l O
  |.none=>.bad
  else .bad
 |.While t body [] _=>whl (λl O=>r.t sc l O t) (λl O=>mf (r.x sc) body l O) 8 l O
 |.Raise e cause _=>match zO e cause with
  |some (x,k)=>if x=P.exc/\ (l x).isNone/\ mu sc x then match oO k with
   |some v=>.exc v O
   |.none=>.bad
   else .bad
  |.none=>.bad
 |.Try body hs orelse fin _=>match XI hs orelse fin with
  |some (x,n,n',w)=>
   if x=P.exc/\ (l x).isNone/\ mu sc x/\ n'=n/\ w= "why" /\ sc.names.lookup n=U .local/\ (n==aE "__debug__")=av then match mf (r.x sc) body l O with
    |.ok a O=>.ok a O
    |.exc v O=>if yA v then .bad else .ok (.ret v,λG=>.none) O
    |.bad=>.bad
   else .bad
  |.none=>.bad
 |_=>.bad
noncomputable def fk(P:fF)(r:Ev)(f:V)(args:LV)(O:L):Res V:=match f with
 |.con (.ref a)=>match P.fn a with
  |some d=>match bindArgs d.params d.dflt args with
   |some l=>(mf (r.x d.scope) d.body l O).bind λo O=>match o with
    |(.ret v,_)=>.ok v O
    |_=>.ok .none O
   |.none=>.bad
  |.none=>match P.cls a with
   |some d=>(mn (r.c (.con (.ref d.init)) (.ref (J O)::args) (O++ [.inst a []]))).bind λv aZ=>match v with
    |.none=>.ok (.ref (J O)) aZ
    |_=>.bad
   |.none=>.bad
 |.con v=>jU v args O
 |_=>.bad
noncomputable def gn(P:fF)(c:V->LV->L->Res V):Nat->Ev
 |0=>#[λG G G G=>.bad,λG G G G=>.bad,λG G G G=>.bad,c]
 |d+1=>#[jK P (gn P c d),stepT (gn P c d),i9 P (gn P c d),c]
noncomputable def deep:Nat:=20
theorem dG{α:Type _}{a:α}{aoU:Prop}(h:(u:Option α)=U a):aoU:=absurd h nofun
noncomputable def Me(b:Bool)(p:Prop):Prop:=match b with
 |true=>True
 |false=>p
theorem Me.get{p:Prop}(h:b=av)(k:Me b p):p:=by subst h;exact k
noncomputable def Mf{α:Type}(o:Option α)(p:α->Prop):Prop:=match o with
 |some a=>p a
 |.none=>True
theorem Mf.get(h:o=U z)(k:Mf o p):p z:=by subst h;exact k
set_option genInjectivity false
noncomputable abbrev bG:=List (ay×ay)
noncomputable def cy(ρ:bG)(b:ay):Prop:=∃(i:Nat) (a d:ay),ρ[i]? =U (a,d)/\ (b=a \/b=d)
noncomputable def fe(o:fh):Prop:=(o.cls= .type "tuple" \/o.cls= .type "range")/\ (∀es n,o.data≠ .dict es n)/\ ∀v,o.data≠ .cell v
mutual
inductive Rep(H:aQ)(ρ:bG)(h:aQ):V->az->Prop
 |none:Rep H ρ h .none .none
 |bool (b:Bool):Rep H ρ h (.bool b) (.bool b)
 |int (i:Int) (t:ix):Rep H ρ h (.int i) (.int i t)
 |str (x:aF) (t:ix):Rep H ρ h (.str x) (.str x t)
 |bytes (b:U8) (t:ix):Rep H ρ h (.bytes b) (.bytes b.toArray t)
 |tup {xs:LV} {a:ay} {vs:LU}:h.IsTuple a vs.toArray->bJ H ρ h xs vs->Rep H ρ h (.tup xs) (.ref a)
 |lst {xs:LV} {a:ay} {vs:LU}:H.IsList a vs.toArray->bJ H ρ h xs vs->Rep H ρ h (.lst xs) (.ref a)
 |ee {a b:Int} {x:ay} {t ag v:ix}:BX h x a b 1 t ag v->Rep H ρ h (.ee a b) (.ref x)
 |ref {i:Nat} {a d:ay}:ρ[i]? =U (a,d)->Rep H ρ h (.ref i) (.ref a)
 |con (v:az):Rep H ρ h (.con v) v
inductive bJ(H:aQ)(ρ:bG)(h:aQ):LV->LU->Prop
 |nil:bJ H ρ h [] []
 |cons {x:V} {v:az} {xs:LV} {vs:LU}:Rep H ρ h x v->bJ H ρ h xs vs->bJ H ρ h (x::xs) (v::vs)
end
theorem nn{α:Type _}{o:Option α}{v:α}{aoU:Prop}(h:o=u)(h':o=U v):aoU:=absurd (h.symm.trans h') nofun
theorem ss{α:Type _}{o:Option α}{v v':α}(h:o=U v)(h':o=U v'):v=v':=bh (h.symm.trans h')
theorem pp{α β:Type _}{o:Option (α×β)}{a a':α}{b b':β}{aoU:Prop}(h:o=U (a,b))(h':o=U (a',b'))(k:a=a'->b=b'->aoU):aoU:=k (yk (ss h h')).1 (yk (ss h h')).2
section
variable{H:aQ}{ρ:bG}{h:aQ}
theorem Rep.map(hT:∀a vs,h.IsTuple a vs->h'.IsTuple a vs)(hL:∀a vs,H.IsList a vs->H'.IsList a vs)(hR:∀{a b x t ag v},BX h x a b 1 t ag v->BX h' x a b 1 t ag v)(hF:∀(i:Nat) (p:ay×ay),ρ[i]? =U p->aS[i]? =U p)(r:Rep H ρ h x v):Rep H' aS h' x v:=
 @Rep.rec H ρ h (λx v G=>Rep H' aS h' x v) (λxs vs G=>bJ H' aS h' xs vs) .none .bool .int .str .bytes (λa G ih=>.tup (hT _ _ a) ih) (λa G ih=>.lst (hL _ _ a) ih) (λa=>.ee (hR a)) (λe=>.ref (hF _ _ e)) .con .nil (λG G a b=>.cons a b) x v r
theorem bJ.map(hh:∀{x v},Rep H ρ h x v->Rep H' aS h' x v)(r:bJ H ρ h xs vs):bJ H' aS h' xs vs:=
 @bJ.rec H ρ h (λG G G=>True) (λxs vs G=>bJ H' aS h' xs vs) trivial (λG=>trivial) (λG G=>trivial) (λG G=>trivial) (λG G=>trivial) (λG G G=>trivial) (λG G G=>trivial) (λG=>trivial) (λG=>trivial) (λG=>trivial) .nil (λa G G b=>.cons (hh a) b) xs vs r
theorem Rep.tupI(r:Rep H ρ h (.tup xs) v):∃a vs,v= .ref a/\ h.IsTuple a vs.toArray/\ bJ H ρ h xs vs:=by
 cases r with|tup a b=>exact #[_,_,rfl,a,b]
theorem Rep.jC(r:Rep H ρ h (.ref i) v):∃a d,v= .ref a/\ ρ[i]? =U (a,d):=by
 cases r with|ref a=>exact #[_,_,rfl,a]
theorem Rep.sg(r:Rep H ρ h (.bytes b) v):∃t,v= .bytes b.toArray t:=by
 cases r with|bytes b t=>exact #[_,rfl]
theorem Rep.kY(r:Rep H ρ h (.int i) v):∃t,v= .int i t:=by
 cases r with|int b t=>exact #[_,rfl]
theorem Rep.zP(r:Rep H ρ h (.str i) v):∃t,v= .str i t:=by
 cases r with|str b t=>exact #[_,rfl]
theorem Rep.flI(r:Rep H ρ h x v)(e:flat x=U a):∃t,v=a.val t:=by
 cases r with
 |none=>exact #[0,bh e▸rfl]
 |bool b=>exact #[0,bh e▸rfl]
 |int i t=>exact #[t,bh e▸rfl]
 |str s t=>exact #[t,bh e▸rfl]
 |_=>exact nomatch e
theorem bJ.yB(r:bJ H ρ h [] vs):vs= []:=by cases r;rfl
theorem bJ.ph(r:bJ H ρ h (x::xs) vs):∃v ws,vs=v::ws/\ Rep H ρ h x v/\ bJ H ρ h xs ws:=by
 cases r with|cons a b=>exact #[_,_,rfl,a,b]
theorem bJ.one(r:bJ H ρ h [x] vs):∃v,vs= [v]/\ Rep H ρ h x v:=r.ph.elim λv h=>h.elim λws h=>#[v,h.2.2.yB▸h.1,h.2.1]
theorem bJ.two(r:bJ H ρ h [x,y] vs):∃v w,vs= [v,w]/\ Rep H ρ h x v/\ Rep H ρ h y w:=r.ph.elim λv h=>h.elim λws h=>h.2.2.one.elim λw g=>#[v,w,g.1▸h.1,h.2.1,g.2]
theorem bJ.length{xs:LV}{vs:LU}(r:bJ H ρ h xs vs):J vs=J xs:=
 @bJ.rec H ρ h (λG G G=>True) (λxs vs G=>J vs=J xs) trivial (λG=>trivial) (λG G=>trivial) (λG G=>trivial) (λG G=>trivial) (λG G G=>trivial) (λG G G=>trivial) (λG=>trivial) (λG=>trivial) (λG=>trivial) rfl (λG G G b=>I jv b) xs vs r
theorem bJ.get{xs:LV}:∀{vs:LU} (_:bJ H ρ h xs vs) {i:Nat} {x:V},xs[i]? =U x->∃v,vs[i]? =U v/\ Rep H ρ h x v:=by
 induction xs with
 |nil=>intro vs r i x e;exact nomatch e
 |cons y ys ih=>
  intro vs r i x e;obtain ⟨v,ws,rfl,a,b⟩:=r.ph;induction i using jw with
  |zero=>exact #[v,rfl,bh e▸a]
  |succ i=>exact ih b e
theorem bJ.XJ{xs:LV}{vs:LU}(r:bJ H ρ h xs vs){i:Nat}{v:az}(e:vs[i]? =U v):∃x,xs[i]? =U x/\ Rep H ρ h x v:=
 have hi:i<J xs:=r.length▸(jj e).1
 (r.get (dS hi)).elim λw q=>#[xs[i],dS hi,ss q.1 e▸q.2]
theorem bJ.append:∀{vs ws:LU},bJ H ρ h xs vs->bJ H ρ h ys ws->bJ H ρ h (xs++ys) (vs++ws):=by
 induction xs with
 |nil=>intro vs ws r q;exact r.yB▸q
 |cons x xs ih=>intro vs ws r q;obtain ⟨v,us,rfl,a,b⟩:=r.ph;exact .cons a (ih b q)
theorem bJ.take:∀{vs:LU} (n:Nat),bJ H ρ h xs vs->bJ H ρ h (xs.take n) (vs.take n):=by
 induction xs with
 |nil=>intro vs n r;simp only [r.yB,Kn,Kn];exact .nil
 |cons x xs ih=>intro vs n r;obtain ⟨v,us,rfl,a,b⟩:=r.ph;induction n using jw with
  |zero=>exact .nil
  |succ n=>exact .cons a (ih n b)
theorem bJ.drop:∀{vs:LU} (n:Nat),bJ H ρ h xs vs->bJ H ρ h (xs.drop n) (vs.drop n):=by
 induction xs with
 |nil=>intro vs n r;simp only [r.yB,CN,CN];exact .nil
 |cons x xs ih=>intro vs n r;induction n using jw with
  |zero=>exact r
  |succ n=>obtain ⟨v,us,rfl,a,b⟩:=r.ph;exact ih n b
theorem bJ.rep(r:bJ H ρ h xs vs)(n:Nat):bJ H ρ h (kj n xs).flatten (kj n vs).flatten:=by
 induction n with
 |zero=>exact .nil
 |succ n ih=>exact r.append ih
end
structure cG(Z X:AP)(ρ:bG)(h:aQ)(aS:bG)(h':aQ):Prop where
 pre:∀(i:Nat) (p:ay×ay),ρ[i]? =U p->aS[i]? =U p
 new:∀b,cy aS b->¬cy ρ b->h.get? b=u
 keep:∀b o,h.get? b=U o->¬cy ρ b->¬X b->¬Z b->h'.get? b=U o
 slot:∀b o,h.get? b=U o->¬cy ρ b->¬X b->∃sl,h'.get? b=U {o with slots:=sl}
 kL:∀b o,h.get? b=U o->fe o->h'.get? b=U o
 alive:∀b o,h.get? b=U o->∃o',h'.get? b=U o'
 own:∀b,¬cy ρ b->X b->((∃m,h.Ns b m)->∃m,h'.Ns b m)/\ ((∃v,h.IsCell b v)->∃v,h'.IsCell b v)
noncomputable def bj:ay->Prop:=λG=>False
theorem cG.refl(Z X:AP)(ρ:bG)(h:aQ):cG Z X ρ h ρ h:=
 #[λG G e=>e,λb f n=>(n f).elim,λG G e G G G=>e,λG o e G G=>#[o.slots,e],λG G e G=>e,λG o e=>#[o,e],λG G G=>#[id,id]]
theorem yC{h:aQ}{b:ay}(x:∃m,h.Ns b m):∃o,h.get? b=U o:=by obtain ⟨m,o,es,ep,e,_⟩:=x;exact #[o,e]
theorem Eo{h:aQ}{b:ay}(x:∃v,h.IsCell b v):∃o,h.get? b=U o:=by obtain ⟨v,o,e,_⟩:=x;exact #[o,e]
theorem zQ{h h':aQ}(k:∀o,h.get? b=U o->∃sl,h'.get? b=U {o with slots:=sl}):((∃m,h.Ns b m)->∃m,h'.Ns b m)/\ ((∃v,h.IsCell b v)->∃v,h'.IsCell b v):=by
 constructor
 ·rintro ⟨m,o,es,ep,e,r⟩;obtain ⟨sl,e'⟩:=k o e;exact #[m,_,es,ep,e',r]
 ·rintro ⟨v,o,e,r⟩;obtain ⟨sl,e'⟩:=k o e;exact #[v,_,e',r]
theorem cG.trans{Z X ρ h aS h' ρ'' h''}(s:cG Z X ρ h aS h')(t:cG Z X aS h' ρ'' h''):cG Z X ρ h ρ'' h'' where
 pre:=λi p e=>t.pre i p (s.pre i p e)
 new:=λb f n=>by
  by_cases q:cy aS b
  ·exact s.new b q n
  ·rcases e:h.get? b with _|o
   ·rfl
   ·
    exact (s.alive b o e).elim λo' e'=>nn (t.new b f q) e'
 keep:=λb o e n x z=>by
  refine t.keep b o (s.keep b o e n x z) (λq=>?_) x z;exact nn (s.new b q n) e
 slot:=λb o e n x=>by
  refine (s.slot b o e n x).elim λsl e1=>?_;refine t.slot b {o with slots:=sl} e1 (λq=>?_) x;exact nn (s.new b q n) e
 kL:=λb o e f=>t.kL b o (s.kL b o e f) f
 alive:=λb o e=>by obtain ⟨o',e'⟩:=s.alive b o e;exact t.alive b o' e'
 own:=λb n x=>by
  have nf:∀o,h.get? b=U o->¬cy aS b:=λo e q=>by
   exact nn (s.new b q n) e
  refine #[λy=>?_,λy=>?_]
  ·obtain ⟨o,e⟩:=yC y;exact (t.own b (nf o e) x).1 ((s.own b n x).1 y)
  ·obtain ⟨o,e⟩:=Eo y;exact (t.own b (nf o e) x).2 ((s.own b n x).2 y)
theorem cG.weak{ρ h aS h'}(s:cG Z X ρ h aS h')(xy:∀b,X b->Y b):cG Z Y ρ h aS h':=
 ⟨s.pre,s.new,λb o e n y z=>s.keep b o e n (λx=>y (xy b x)) z,λb o e n y=>s.slot b o e n (λx=>y (xy b x)),s.kL,s.alive,λb n y=>by
  by_cases x:X b
  ·exact s.own b n x
  ·exact zQ λo e=>s.slot b o e n x⟩
theorem cG.nU{ρ h aS h'}(s:cG Z X ρ h aS h')(xy:∀b o,h.get? b=U o->X b->Y b):cG Z Y ρ h aS h':=
 ⟨s.pre,s.new,λb o e n y z=>s.keep b o e n (λx=>y (xy b o e x)) z,λb o e n y=>s.slot b o e n (λx=>y (xy b o e x)),s.kL,s.alive,λb n y=>by
  by_cases x:X b
  ·exact s.own b n x
  ·exact zQ λo e=>s.slot b o e n x⟩
theorem cG.mX{ρ h aS h'}(s:cG Z X ρ h aS h')(zz:∀b o,h.get? b=U o->Z b->Z' b):cG Z' X ρ h aS h':=
 #[s.pre,s.new,λb o e n y z=>s.keep b o e n y λx=>z (zz b o e x),s.slot,s.kL,s.alive,s.own]
theorem cG.k7{Z X ρ h aS h'}(s:cG Z X ρ h aS h'){b:ay}{o:fh}(e:h.get? b=U o)(n:¬cy ρ b):¬cy aS b:=λq=>nn (s.new b q n) e
theorem abu{h h':aQ}(s:∀b o,h.get? b=U o->fe o->h'.get? b=U o)(i:h.IsTuple a vs):h'.IsTuple a vs:=
 i.elim λo q=>#[o,s _ o q.1 #[.inl q.2.1,q.2.2.elim λn y=>#[λes k z=>(nomatch y.symm.trans z),λv z=>(nomatch y.symm.trans z)]],q.2]
section
variable{H:aQ}{ρ:bG}{h:aQ}{aS:bG}{h':aQ}(pre:∀(i:Nat) (p:ay×ay),ρ[i]? =U p->aS[i]? =U p)(kL:∀b o,h.get? b=U o->fe o->h'.get? b=U o)
include pre kL
theorem Rep.lift(r:Rep H ρ h x v):Rep H aS h' x v:=
 r.map (λG G i=>abu kL i) (λG G i=>i) (λi=>kL _ _ i #[.inr rfl,λes k z=>(nomatch z),λv z=>(nomatch z)]) pre
theorem bJ.lift(r:bJ H ρ h xs vs):bJ H aS h' xs vs:=r.map (Rep.lift pre kL)
end
theorem Rep.mono{H Z X ρ h aS h'}(s:cG Z X ρ h aS h')(r:Rep H ρ h x v):Rep H aS h' x v:=r.lift s.pre s.kL
theorem bJ.mono{H Z X ρ h aS h'}(s:cG Z X ρ h aS h')(r:bJ H ρ h xs vs):bJ H aS h' xs vs:=r.lift s.pre s.kL
noncomputable def gS(H:aQ)(ρ:bG)(h:aQ):Option V->OV->Prop
 |some x,U v=>Rep H ρ h x v
 |none,u=>True
 |_,_=>False
theorem gS.lift(pre:∀(i:Nat) (p:ay×ay),ρ[i]? =U p->aS[i]? =U p)(kL:∀b o,h.get? b=U o->fe o->h'.get? b=U o)(r:gS H ρ h x v):gS H aS h' x v:=by
 rcases x with _|_
 ·rcases v with _|_
  ·trivial
  ·exact r.elim
 ·rcases v with _|_
  ·exact r.elim
  ·exact Rep.lift pre kL r
theorem gS.mono{H Z X ρ h aS h'}(s:cG Z X ρ h aS h')(r:gS H ρ h x v):gS H aS h' x v:=r.lift s.pre s.kL
noncomputable def ec{K:Type}(H:aQ)(ρ:bG)(h:aQ)(kvs:List (K×V))(ws:List (K×az)):Prop:=kvs.map (·.1)=ws.map (·.1)/\ bJ H ρ h (kvs.map (·.2)) (ws.map (·.2))
theorem ec.mono{H Z X ρ h aS h'}(s:cG Z X ρ h aS h')(r:ec H ρ h kvs ws):ec H aS h' kvs ws:=#[r.1,r.2.mono s]
noncomputable def jD(prog:gW)(w:cP)(H:aQ)(ρ:bG)(h:aQ)(a d:ay):MO->Prop
 |.list xs=>d=a/\ ∃vs n,h.get? a=U #[.type "list",u,.seq vs n, #[]]/\ bJ H ρ h xs vs.toList
 |.dict kvs=>d=a/\ ∃ws,h.DictOf (strKind prog w) a ws/\ ec H ρ h kvs ws
 |.fW kvs=>d=a/\ ∃ws,h.DictOf (intKind prog w) a ws/\ ec H ρ h kvs ws
 |.inst C kvs=>a≠d/\ h.get? a=U (jz C d)/\ ∃m,h.Ns1 d m/\ ∀x,gS H ρ h (look x kvs) (m x)
 |.bu b=>d=a/\ h.get? a=U #[.type "bytearray",u,.bytearray b.toArray 0, #[]]
structure Inv(prog:gW)(w:cP)(H:aQ)(ρ:bG)(O:L)(h:aQ):Prop where
 base:∀b o,H.get? b=U o->h.get? b=U o
 size:J ρ=J O
 objs:∀(i:Nat) (m:MO),O[i]? =U m->∃a d,ρ[i]? =U (a,d)/\ jD prog w H ρ h a d m
 apart:∀(i j:Nat) (a d a' d':ay),i≠j->ρ[i]? =U (a,d)->ρ[j]? =U (a',d')->a≠a'/\ a≠d'/\ d≠a'/\ d≠d'
 fresh:∀b,cy ρ b->H.get? b=u
section
variable{prog:gW}{w:cP}{H:aQ}{ρ:bG}{O:L}{h:aQ}
theorem jD.lift(r:jD prog w H ρ h a d m)(pre:∀(i:Nat) (p:ay×ay),ρ[i]? =U p->aS[i]? =U p)(kL:∀b o,h.get? b=U o->fe o->h'.get? b=U o)(ea:h'.get? a=h.get? a)(ed:h'.get? d=h.get? d):jD prog w H aS h' a d m:=by
 induction m using MO.casesOn with
 |list xs=>exact #[r.1,r.2.imp λvs q=>q.imp λn q=>#[ea.trans q.1,q.2.lift pre kL]]
 |dict kvs=>exact #[r.1,r.2.imp λws q=>#[q.1.imp λo z=>z.imp λes z=>z.imp λep z=>#[ea.trans z.1,z.2],q.2.1,q.2.2.lift pre kL]]
 |fW kvs=>exact #[r.1,r.2.imp λws q=>#[q.1.imp λo z=>z.imp λes z=>z.imp λep z=>#[ea.trans z.1,z.2],q.2.1,q.2.2.lift pre kL]]
 |inst C kvs=>exact #[r.1,ea.trans r.2.1,r.2.2.imp λm q=>#[q.1.imp λo z=>z.imp λes z=>z.imp λep z=>#[ed.trans z.1,z.2],λx=>(q.2 x).lift pre kL]]
 |bu b=>exact #[r.1,ea.trans r.2]
theorem jD.congr(r:jD prog w H ρ h a d m)(s:cG Z X ρ h aS h')(ea:h'.get? a=h.get? a)(ed:h'.get? d=h.get? d):jD prog w H aS h' a d m:=r.lift s.pre s.kL ea ed
theorem S4(hc:o.cls= .type k)(h1:k≠ "tuple")(h2:k≠ "range"):¬fe o:=λf=>f.1.elim (λq=>h1 (oK (hc.symm.trans q))) λq=>h2 (oK (hc.symm.trans q))
theorem FW(h1:k≠ "tuple")(h2:k≠ "range"):¬fe #[.type k,od,da,sl]:=λf=>f.1.elim (λq=>h1 (oK q)) λq=>h2 (oK q)
theorem jD.calm(r:jD prog w H ρ h a d m):∀b,b=a \/b=d->∃o,h.get? b=U o/\ ¬fe o:=by
 have one:∀{b} (e:d=a),b=a \/b=d->b=a:=λe hb=>hb.elim id λz=>z.trans e;intro b hb;induction m using MO.casesOn with
 |list xs=>exact one r.1 hb▸r.2.elim λvs q=>q.elim λn q=>#[_,q.1,FW (by decide) (by decide)]
 |dict kvs=>exact one r.1 hb▸r.2.elim λws q=>q.1.elim λo z=>z.elim λes z=>z.elim λep z=>#[o,z.1,S4 z.2.1.1 (by decide) (by decide)]
 |fW kvs=>exact one r.1 hb▸r.2.elim λws q=>q.1.elim λo z=>z.elim λes z=>z.elim λep z=>#[o,z.1,S4 z.2.1.1 (by decide) (by decide)]
 |inst C kvs=>
  rcases hb with rfl|rfl
  ·exact #[_,r.2.1,λf=>f.1.elim (λq=>nomatch q) λq=>nomatch q]
  ·exact r.2.2.elim λm q=>q.1.elim λo z=>z.elim λes z=>z.elim λep z=>#[o,z.1,λf=>f.2.1 _ _ z.2.1]
 |bu b=>exact one r.1 hb▸#[_,r.2,FW (by decide) (by decide)]
theorem Inv.at(af:Inv prog w H ρ O h){i:Nat}(e:O[i]? =U m)(e':ρ[i]? =U (a,d)):jD prog w H ρ h a d m:=by
 obtain ⟨a',d',q,r⟩:=af.objs i m e;exact pp q e' λh1 h2=>h1▸h2▸r
theorem Inv.some(af:Inv prog w H ρ O h){i:Nat}{a d:ay}(e':ρ[i]? =U (a,d)):∃m,O[i]? =dp m:=by
 have:i<J O:=by rw [←af.size];exact (jj e').1
 exact #[O[i],by simp [this]]
theorem Inv.foot(af:Inv prog w H ρ O h)(f:cy ρ b):∃o,h.get? b=dp o/\ ¬fe o:=by
 refine bl λaG=>?_;refine f.elim λi hq=>hq.elim λa hq=>hq.elim λd hq=>hq.elim λe q=>?_;refine (af.some e).elim λm hm=>?_;refine aG ?_;exact (af.at hm e).calm b q
theorem Inv.more(af:Inv prog w H ρ O h)(k:∀b o,h.get? b=dp o->h'.get? b=dp o):Inv prog w H ρ O h':=by
 refine #[λb o e=>k b o (af.base b o e),af.size,λi m e=>?_,af.apart,af.fresh];refine bl λaG=>?_;refine (af.objs i m e).elim λa hq=>hq.elim λd hq=>hq.elim λq r=>?_;refine (r.calm a (.inl rfl)).elim λoa hq=>?_;have ea:=hq.1;refine (r.calm d (.inr rfl)).elim λod hq=>?_;refine aG ?_;exact #[a,d,q,r.congr (#[λG G e=>e,λb f n=>(n f).elim,λb o e G G G=>k b o e,λb o e G G=>#[o.slots,k b o e],λb o e G=>k b o e,λb o e=>#[o,k b o e],λG G x=>x.elim]:cG bj bj ρ h ρ h') ((k _ _ ea).trans ea.symm) ((k _ _ hq.1).trans hq.1.symm)]
theorem cG.more(k:∀b o,h.get? b=dp o->h'.get? b=dp o):cG Z X ρ h ρ h':=
 #[λG G e=>e,λb f n=>(n f).elim,λb o e G G G=>k b o e,λb o e G G=>#[o.slots,k b o e],λb o e G=>k b o e,λb o e=>#[o,k b o e],λG G G=>zQ λo e=>#[o.slots,k _ o e]]
theorem cG.loose(Zf:∀b o,Z b->h.get? b=dp o->¬fe o)(Yf:∀b o,Y b->h.get? b=dp o->¬fe o)
  (k1:∀b o,h.get? b=dp o->¬Y b->¬Z b->h'.get? b=dp o) (k2:∀b o,h.get? b=dp o->¬Y b->∃sl,h'.get? b=dp {o with slots:=sl})
  (k3:∀b o,h.get? b=dp o->∃o',h'.get? b=dp o') (own:∀b,Y b->((∃m,h.Ns b m)->∃m,h'.Ns b m)/\ ((∃v,h.IsCell b v)->∃v,h'.IsCell b v)):cG Z Y ρ h ρ h':=
 #[λG G e=>e,λb f n=>(n f).elim,λb o e G y z=>k1 b o e y z,λb o e G y=>k2 b o e y,λb o e f=>k1 b o e (λy=>Yf b o y e f) (λz=>Zf b o z e f),k3,λb G y=>own b y]
theorem Inv.loose(af:Inv prog w H ρ O h)(s:cG Z Y ρ h ρ h')(k1:∀b o,h.get? b=dp o->¬Y b->¬Z b->h'.get? b=dp o)
  (Zf:∀b,Z b->¬cy ρ b/\ H.get? b=u) (Yf:∀b,Y b->¬cy ρ b/\ H.get? b=u):Inv prog w H ρ O h':=by
 refine #[λb o e=>k1 b o (af.base b o e) (λy=>nn (Yf b y).2 e) (λz=>nn (Zf b z).2 e),af.size,λi m e=>?_,af.apart,af.fresh];refine bl λaG=>?_;refine (af.objs i m e).elim λa hq=>hq.elim λd hq=>hq.elim λq r=>?_;refine (r.calm a (.inl rfl)).elim λoa hq=>?_;have ea:=hq.1;refine (r.calm d (.inr rfl)).elim λod hq=>?_;refine aG ?_
 exact ⟨a,d,q,r.congr s ((k1 a oa ea (λy=>(Yf a y).1 #[i,a,d,q,.inl rfl]) (λz=>(Zf a z).1 #[i,a,d,q,.inl rfl])).trans ea.symm)
  ((k1 d od hq.1 (λy=>(Yf d y).1 #[i,a,d,q,.inr rfl]) (λz=>(Zf d z).1 #[i,a,d,q,.inr rfl])).trans hq.1.symm)⟩
theorem Inv.Io(af:Inv prog w H ρ O h)(e:ρ[i]? =dp (a,d))(hb:b=a \/b=d)(hk:∀c o,c≠b->h.get? c=dp o->h'.get? c=dp o)(alive:∃o',h'.get? b=dp o')
  (r:cG bj bj ρ h ρ h'->jD prog w H ρ h' a d m'):Inv prog w H ρ (O.set i m') h'/\ cG bj bj ρ h ρ h':=by
 have fb:cy ρ b:=#[i,a,d,e,hb]
 have s:cG bj bj ρ h ρ h':=⟨λG G e=>e,λb f n=>(n f).elim,λc o q n G G=>hk c o (λz=>n (z▸fb)) q,
  λc o q n G=>#[o.slots,hk c o (λz=>n (z▸fb)) q],
  λc o q f=>hk c o (λz=>by
   subst z;exact (af.foot fb).elim λo' q'=>q'.2 (ss q q'.1▸f)) q,
  λc o q=>by
   by_cases z:c=b
   ·rw [z];exact alive
   ·exact #[o,hk c o z q],λG G x=>x.elim⟩
 refine #[#[λc o q=>hk c o (λz=>nn (af.fresh _ fb) (z▸q)) (af.base c o q),by simp only [oz];exact af.size,λj m q=>?_,af.apart,af.fresh],s];have hi:i<J O:=by simp only [←af.size];exact (jj e).1
 by_cases z:i=j
 ·subst z
  exact ss (uB hi) q▸#[a,d,e,r s]
 ·rw [km z]at q
  refine bl λaG=>?_;refine (af.objs j m q).elim λa' hq=>hq.elim λd' hq=>hq.elim λq' r'=>?_;have ap:=af.apart i j a d a' d' z e q';have na:a'≠b:=by rcases hb with rfl|rfl<;>first|exact bP ap.1|exact bP ap.2.2.1
  have nd:d'≠b:=by rcases hb with rfl|rfl<;>first|exact bP ap.2.1|exact bP ap.2.2.2
  refine (r'.calm a' (.inl rfl)).elim λoa hq=>?_;have ea:=hq.1;refine (r'.calm d' (.inr rfl)).elim λod hq=>?_;refine aG ?_;exact #[a',d',q',r'.congr s ((hk _ _ na ea).trans ea.symm) ((hk _ _ nd hq.1).trans hq.1.symm)]
theorem Inv.turn(af:Inv prog w H ρ O h)(e:ρ[i]? =dp (a,d))(hb:b=a \/b=d)(hs:iW b h h')(alive:∃o',h'.get? b=dp o')
  (r:cG bj bj ρ h ρ h'->jD prog w H ρ h' a d m'):Inv prog w H ρ (O.set i m') h'/\ cG bj bj ρ h ρ h':=
 af.Io e hb (λc o n q=>(hs.2 c n).trans q) alive r
theorem A2{α:Type}{x y:α}{i:Nat}(q:n<=i)(e: [x][i - n]? =dp y):i=n/\ y=x:=by
 induction z:i - n using jw with
 |zero=>rw [z]at e;exact #[Nat.le_antisymm (Nat.sub_eq_zero_iff_le.mp z) q,(bh e).symm]
 |succ k=>simp only [z]at e;exact nomatch e
theorem Inv.alloc(af:Inv prog w H ρ O h)(k:∀b o,h.get? b=dp o->h'.get? b=dp o)(na:h.get? a=u)(nd:h.get? d=u)
  (r:cG bj bj ρ h (ρ++ [(a,d)]) h'->jD prog w H (ρ++ [(a,d)]) h' a d m):Inv prog w H (ρ++ [(a,d)]) (O++ [m]) h'/\ cG bj bj ρ h (ρ++ [(a,d)]) h'/\ (ρ++ [(a,d)])[J O]? =dp (a,d):=by
 have pre:∀(i:Nat) (p:ay×ay),ρ[i]? =dp p->(ρ++ [(a,d)])[i]? =dp p:=λi p e=>by
  rw [eA (jj e).1];exact e
 have oQ:∀(i:Nat) (p:ay×ay),(ρ++ [(a,d)])[i]? =dp p->ρ[i]? =dp p \/(i=J ρ/\ p=(a,d)):=λi p e=>by
  rcases kc i (J ρ)with q|q
  ·rw [eA q]at e;exact .inl e
  ·rw [ji q]at e
   exact .inr (A2 q e)
 have vE:∀b,cy (ρ++ [(a,d)]) b->cy ρ b \/b=a \/b=d:=λb f=>by
  refine bl λaG=>?_;obtain ⟨i,x,y,e,q⟩:=f;refine aG ?_;rcases oQ _ _ e with e|⟨_,e⟩
  ·exact .inl #[i,x,y,e,q]
  ·cases e;exact .inr q
 have s:cG bj bj ρ h (ρ++ [(a,d)]) h':=⟨pre,λb f n=>by
   rcases vE b f with q|q|q
   ·exact (n q).elim
   ·rw [q];exact na
   ·rw [q];exact nd,λb o e G G G=>k b o e,λb o e G G=>#[o.slots,k b o e],λb o e G=>k b o e,λb o e=>#[o,k b o e],λG G x=>x.elim⟩
 have last:(ρ++ [(a,d)])[J O]? =dp (a,d):=by rw [←af.size];simp
 refine #[#[λb o e=>k b o (af.base b o e),by simp [af.size],λi m' e=>?_,λi j a1 d1 a2 d2 ne e1 e2=>?_,λb f=>?_],s,last]
 ·rcases kc i (J O)with q|q
  ·rw [eA q]at e
   refine bl λaG=>?_;refine (af.objs i m' e).elim λa' hq=>hq.elim λd' hq=>hq.elim λe' r'=>?_;refine (r'.calm a' (.inl rfl)).elim λoa hq=>?_;have ea:=hq.1;refine (r'.calm d' (.inr rfl)).elim λod hq=>?_;refine aG ?_;exact #[a',d',pre _ _ e',r'.congr s ((k _ _ ea).trans ea.symm) ((k _ _ hq.1).trans hq.1.symm)]
  ·rw [ji q]at e
   refine (A2 q e).elim λz1 z2=>?_;exact #[a,d,z1▸last,z2▸r s]
 ·have live:∀(i:Nat) (x y:ay),ρ[i]? =dp (x,y)->∀b,b=x \/b=y->b≠a/\ b≠d:=λi x y e b q=>by
   refine bl λaG=>?_;refine (af.foot #[i,x,y,e,q]).elim λo hq=>?_;refine aG ?_;exact #[λz=>nn na (z▸hq.1),λz=>nn nd (z▸hq.1)]
  rcases oQ _ _ e1 with e1|⟨z1,e1⟩<;>rcases oQ _ _ e2 with e2|⟨z2,e2⟩
  ·exact af.apart i j _ _ _ _ ne e1 e2
  ·cases e2
   have l1:=live i a1 d1 e1 a1 (.inl rfl);have l2:=live i a1 d1 e1 d1 (.inr rfl);exact #[l1.1,l1.2,l2.1,l2.2]
  ·cases e1
   exact #[bP (live j a2 d2 e2 a2 (.inl rfl)).1,bP (live j a2 d2 e2 d2 (.inr rfl)).1,bP (live j a2 d2 e2 a2 (.inl rfl)).2,bP (live j a2 d2 e2 d2 (.inr rfl)).2]
  ·exact absurd (z1.trans z2.symm) ne
 ·rcases vE b f with q|q
  ·exact af.fresh b q
  ·rcases e:H.get? b with _|o
   ·rfl
   ·
    exact q.elim (λz=>nn na (z▸af.base b o e)) λz=>nn nd (z▸af.base b o e)
end
section
open PyProof.Rows
noncomputable def yD(H:aQ)(ρ:bG)(h₀:aQ)(b:ay):Prop:=h₀.get? b=u/\ H.get? b=u/\ ¬cy ρ b
structure alH(K:OV->Prop)(H:aQ)(ρ:bG)(h₀ h:aQ)(x d:ay)(vs:Array az)(T:ay)(ts:Array az)(fl:az):Prop where
 v1:vs[1]? =U (.ref T)
 nx:T≠x
 nd:T≠d
 new:yD H ρ h₀ T
 at_:h.get? T=U #[.type "traceback",u,.fields ts, #[]]
 t3:ts[3]? =U fl
 k:K (U fl)
structure PY(K:OV->Prop)(C:ay)(H:aQ)(ρ:bG)(h₀ h:aQ)(y:V)(x d:ay)(vs:Array az)(sl:Array (OV)):Prop where
 ne:x≠d
 nx:yD H ρ h₀ x
 nd:yD H ρ h₀ d
 ex:h.get? x=U #[.ref C,U d,.fields vs,sl]
 why:∃m cv,h.Ns d m/\ m "why" =U cv/\ Rep H ρ h y cv
 tb:(vs[1]? =U .none/\ K u) \/∃T ts fl,alH K H ρ h₀ h x d vs T ts fl
noncomputable def gZ(K:OV->Prop)(C:ay)(H:aQ)(ρ:bG)(h₀ h:aQ)(y:V)(e:az):Prop:=∃x d vs sl,e= .ref x/\ PY K C H ρ h₀ h y x d vs sl
noncomputable def K0:OV->Prop:=λk=>k=u \/k=U .none
noncomputable def KF(F:OA):OV->Prop:=λk=>K0 k \/∃f,F=U f/\ k=U (gX f)
theorem gZ.weak{K K':OV->Prop}{C H ρ h₀ h y e}(f:gZ K C H ρ h₀ h y e)(kk:∀k,K k->K' k):gZ K' C H ρ h₀ h y e:=by
 refine bl λaG=>?_;refine f.elim λx hq=>hq.elim λd hq=>hq.elim λvs hq=>hq.elim λsl hq=>?_;have f:=hq.2;refine aG ?_;exact #[x,d,vs,sl,hq.1,{f with tb:=f.tb.imp (λq=>#[q.1,kk _ q.2]) λq=>q.imp λT q=>q.imp λts q=>q.imp λfl q=>{q with k:=kk _ q.k}}]
structure jV(prog:gW)(w:cP)(H:aQ)(Z X:AP)(ρ:bG)(s:aA)(aS:bG)(aZ:L)(s':aA):Prop where
 cq:cG Z X ρ s.heap aS s'.heap
 inv:Inv prog w H aS aZ s'.heap
 gens:s'.gens=s.gens
 os:s'.os=s.os
structure Cx where
 prog:gW
 w:cP
 H:aQ
 C:ay
noncomputable abbrev b9(c:Cx):=Inv c.prog c.w c.H
noncomputable abbrev b7(c:Cx):=jV c.prog c.w c.H
inductive hU{α β:Type}(c:Cx)(Z X:AP)(ρ:bG)(s:aA)(r:Res α)(R:bG->aQ->α->β->Prop)(b:β)(s':aA):Prop
 |mk (a:α) (aZ:L) (aS:bG):r= .ok a aZ->b7 c Z X ρ s aS aZ s'->R aS s'.heap a b->hU c Z X ρ s r R b s'
theorem hU.elim{α β:Type}{c:Cx}{Z X:AP}{ρ:bG}{s:aA}{r:Res α}{R:bG->aQ->α->β->Prop}{b:β}{s':aA}{aoU:Prop}(q:hU c Z X ρ s r R b s')(k:∀a aZ aS,r= .ok a aZ->b7 c Z X ρ s aS aZ s'->R aS s'.heap a b->aoU):aoU:=by cases q with|mk a aZ aS e p f=>exact k a aZ aS e p f
theorem hU.okE{aoU:Prop}(q:hU c Z X ρ s (.ok a O) R b s')(k:∀aS,b7 c Z X ρ s aS O s'->R aS s'.heap a b->aoU):aoU:=by cases q with|mk a aZ aS e p f=>cases e;exact k aS p f
inductive By{α:Type}(c:Cx)(Z X:AP)(ρ:bG)(s:aA)(r:Res α)(e:az)(s':aA):Prop
 |mk (y:V) (aZ:L) (aS:bG):r= .exc y aZ->b7 c Z X ρ s aS aZ s'->gZ K0 c.C c.H aS s.heap s'.heap y e->By c Z X ρ s r e s'
theorem By.elim{α:Type}{c:Cx}{Z X:AP}{ρ:bG}{s:aA}{r:Res α}{e:az}{s':aA}{aoU:Prop}(q:By c Z X ρ s r e s')(k:∀y aZ aS,r= .exc y aZ->b7 c Z X ρ s aS aZ s'->gZ K0 c.C c.H aS s.heap s'.heap y e->aoU):aoU:=by cases q with|mk a aZ aS e p f=>exact k a aZ aS e p f
noncomputable def W{α β:Type}(c:Cx)(A:bk)(Z X:AP)(ρ:bG)(r:Res α)(R:bG->aQ->α->β->Prop)(t:b6 β)(s:aA):Prop:=
 r≠ .bad->aN (aJ c.prog c.w) A t (hU c Z X ρ s r R) (By c Z X ρ s r) s
theorem jV.refl{prog w H Z X ρ O s}(af:Inv prog w H ρ O s.heap):jV prog w H Z X ρ s ρ O s:=#[cG.refl ..,af,rfl,rfl]
theorem jV.trans{prog w H Z X ρ s aS aZ s' ρ'' O'' eY}(p:jV prog w H Z X ρ s aS aZ s')(q:jV prog w H Z X aS s' ρ'' O'' eY):jV prog w H Z X ρ s ρ'' O'' eY:=
 #[p.cq.trans q.cq,q.inv,q.gens.trans p.gens,q.os.trans p.os]
theorem jV.weak{prog w H}{Z X Y:AP}{ρ s aS aZ s'}(p:jV prog w H Z X ρ s aS aZ s')(xy:∀b,X b->Y b):jV prog w H Z Y ρ s aS aZ s':=#[p.cq.weak xy,p.inv,p.gens,p.os]
theorem gZ.back{K:OV->Prop}{C H ρ h₀ fc h y e}(f:gZ K C H ρ fc h y e)(al:∀b o,h₀.get? b=U o->∃o',fc.get? b=U o'):gZ K C H ρ h₀ h y e:=by
 refine bl λaG=>?_;refine f.elim λx hq=>hq.elim λd hq=>hq.elim λvs hq=>hq.elim λsl hq=>?_;have f:=hq.2;refine aG ?_
 have no:∀b,yD H ρ fc b->yD H ρ h₀ b:=λb q=>⟨by
  rcases z:h₀.get? b with _|o
  ·rfl
  ·exact (al b o z).elim λo' z'=>nn q.1 z',q.2⟩
 exact #[x,d,vs,sl,hq.1,{f with nx:=no _ f.nx,nd:=no _ f.nd,tb:=f.tb.imp id λq=>q.imp λT q=>q.imp λts q=>q.imp λfl q=>{q with new:=no _ q.new}}]
theorem hU.trans{α β:Type}{c:Cx}{Z X:AP}{ρ s aS aZ s'}{r:Res α}{R:bG->aQ->α->β->Prop}(p:b7 c Z X ρ s aS aZ s'){b:β}{eY:aA}(q:hU c Z X aS s' r R b eY):hU c Z X ρ s r R b eY:=q.elim λa hZ kX e1 p2 f=>#[a,hZ,kX,e1,p.trans p2,f]
theorem jE{α β:Type}{r:Res α}{f:α->L->Res β}(h:r.bind f≠ .bad):r≠ .bad:=λe=>h (by rw [e];rfl)
theorem iD{α β:Type}{r:Res α}{f:α->L->Res β}{a:α}(e:r= .ok a O):r.bind f=f a O:=by rw [e];rfl
section
variable{α β γ:Type}{c:Cx}{A:bk}{Z X:AP}{ρ:bG}{s:aA}
theorem W.no:W c A Z X ρ .bad R t s:=λh=>(h rfl).elim
theorem W.opt(h:∀a,o=U a->W c A Z X ρ (f a) R t s):W c A Z X ρ (dN o f) R t s:=by
 rcases o with _|a
 ·exact W.no
 ·exact h a rfl
theorem W.eD(h:∀a,o=U a->aN (aJ c.prog c.w) A t (hU c Z X ρ s (.ok a O) R) (By c Z X ρ s (.ok a O)) s):W c A Z X ρ (eD O o) R t s:=by
 rcases o with _|a
 ·exact W.no
 ·exact λG=>h a rfl
theorem W.qX(h:∀a,o=U a->aN (aJ c.prog c.w) A t (hU c Z X ρ s (.ok () a) R) (By c Z X ρ s (.ok () a)) s):W c A Z X ρ (qX o) R t s:=by
 rcases o with _|a
 ·exact W.no
 ·exact λG=>h a rfl
theorem W.ite{p:Prop} [Decidable p]{r:Res α}{R:bG->aQ->α->β->Prop}{t:b6 β}(h:p->W c A Z X ρ r R t s):W c A Z X ρ (if p then r else .bad) R t s:=by
 by_cases q:p
 ·rw [au q];exact h q
 ·rw [ax q];exact W.no
end
noncomputable def cI(c:Cx):bG->aQ->V->az->Prop:=λρ h x v=>Rep c.H ρ h x v
noncomputable def Ip(c:Cx):bG->aQ->LV->LU->Prop:=λρ h x v=>bJ c.H ρ h x v
noncomputable def Mg:bG->aQ->Bool->Bool->Prop:=λG G a b=>a=b
noncomputable def bq(l:List aU)(b:ay):Prop:=∃env∈l,env.frame=U b
structure eB(H:aQ)(ρ:bG)(h:aQ)(env:aU):Prop where
 kind:env.scope.kind≠ .module
 at_:∃(ao:ay) (o:fh) (es:Array tX) (n:Nat),env.frame=U ao/\ H.get? ao=u/\ ¬cy ρ ao/\ h.get? ao=U o/\ o.data= .dict es n
structure td(n:Nat)(A:bk)(l:List aU):Prop where
 frames:A.frames=U l
 handled:A.handled=u
 depth:A.depth+n<BY
 units:A.units+40*n+100<ku
 guards:A.guards=U []
noncomputable def cJ(env:aU)(b:ay):Prop:=b=env.locals \/∃x,env.kindOf x=U .cell/\ env.cells.lookup x=U b
structure gT(H:aQ)(ρ:bG)(h:aQ)(env:aU)(l:Loc):Prop where
 kind:env.scope.kind= .function
 glob:env.globals=ew
 blt:env.builtins=jr
 ns:∃m,h.Ns env.locals m/\ ∀x v,l x=U v->env.kindOf x=U .local->∃r,m x=U r/\ Rep H ρ h v r
 wA:∀x v,l x=U v->env.kindOf x=U .local \/((env.kindOf x=U .cell \/(env.kindOf x=U .free/\ (x==aE "__classdict__")=av))/\ ∃c r,env.cells.lookup x=U c/\ h.IsCell c (U r)/\ Rep H ρ h v r)
 has:∀x,env.kindOf x=U .cell->∃c ov,env.cells.lookup x=U c/\ h.IsCell c ov
 own:¬cy ρ env.locals/\ H.get? env.locals=u
 qG:∀x c,env.cells.lookup x=U c->¬cy ρ c/\ H.get? c=u/\ c≠env.locals/\ ∃o v,h.get? c=U o/\ o.data= .cell v
 inj:∀x y c,env.cells.lookup x=U c->env.cells.lookup y=U c->x=y
theorem zR{ρ h aS h'}(s:cG Z X ρ h aS h')(nf:¬cy ρ b)(nx:¬X b)(N:h.Ns b m):h'.Ns b m:=by
 refine bl λaG=>?_;refine N.elim λo hq=>hq.elim λes hq=>hq.elim λep hq=>hq.elim λe r=>?_;refine (s.slot b o e nf nx).elim λsl e'=>?_;refine aG ?_;exact #[{o with slots:=sl},es,ep,e',r]
theorem Mh{ρ h aS h'}(s:cG Z X ρ h aS h')(nf:¬cy ρ b)(nx:¬X b)(N:h.IsCell b v):h'.IsCell b v:=by
 refine N.elim λo hq=>hq.elim λe r=>?_;refine (s.slot b o e nf nx).elim λsl e'=>?_;exact #[{o with slots:=sl},e',r]
theorem gT.mono{H Z ρ h aS h' env l}(F:gT H ρ h env l)(s:cG Z X ρ h aS h')(nx:¬X env.locals)(nc:∀x c,env.cells.lookup x=U c->¬X c):gT H aS h' env l:=by
 refine bl λaG=>?_;refine F.ns.elim λm hq=>hq.elim λN hm=>?_;refine (id N).elim λoL hq=>hq.elim λG hq=>hq.elim λG hq=>?_;refine aG ?_;refine #[F.kind,F.glob,F.blt,#[m,zR s F.own.1 nx N,λx v e k=>?_],λx v e=>?_,λx k=>?_,#[(s.k7 hq.1 F.own.1),F.own.2],λx c e=>?_,F.inj]
 ·obtain ⟨r,a,b⟩:=hm x v e k;exact #[r,a,b.mono s]
 ·rcases F.wA x v e with k|⟨k,c,r,a,b,d⟩
  ·exact .inl k
  ·exact .inr #[k,c,r,a,Mh s (F.qG x c a).1 (nc x c a) b,d.mono s]
 ·obtain ⟨c,ov,a,b⟩:=F.has x k
  exact #[c,ov,a,Mh s (F.qG x c a).1 (nc x c a) b]
 ·obtain ⟨a1,a2,a3,o,ov,a4,a5⟩:=F.qG x c e
  refine (s.slot _ _ a4 a1 (nc x c e)).elim λsl e'=>?_;exact #[s.k7 a4 a1,a2,a3,_,ov,e',a5]
theorem gT.on{H Z ρ h aS h' env l}(F:gT H ρ h env l)(s:cG Z bj ρ h aS h'):gT H aS h' env l:=F.mono s id λG G G=>id
theorem eB.mono{H Z ρ h aS h' env}(F:eB H ρ h env)(s:cG Z X ρ h aS h')(nx:∀b,X b->∀o es n,h.get? b=U o->o.data= .dict es n->∃o' es n,h'.get? b=U o'/\ o'.data= .dict es n):eB H aS h' env:=by
 refine bl λaG=>?_;obtain ⟨k,ao,o,es,n,e1,e2,e3,e4,e5⟩:=F;refine aG ?_;by_cases x:X ao
 ·obtain ⟨o',es',n',z,z'⟩:=nx ao x o _ _ e4 e5
  exact #[k,ao,o',es',n',e1,e2,s.k7 e4 e3,z,z']
 ·obtain ⟨sl,e'⟩:=s.slot _ _ e4 e3 x
  exact #[k,ao,_,es,n,e1,e2,s.k7 e4 e3,e',e5]
theorem eB.on{H Z ρ h aS h' env}(F:eB H ρ h env)(s:cG Z bj ρ h aS h'):eB H aS h' env:=F.mono s λG x=>x.elim
end
set_option backward.match.sparseCases true
theorem aV(h:rI a b=ai):a<=b:=qa h
theorem bF(h:rI (a+1) b=ai):a<b:=qa h
theorem nV{n:Nat}(h:a+b<=m)(k:m<=n):a<=n:=bt (cg a b) (bt h k)
theorem A3{n:Nat}(h:a+b<=m)(k:m<=n):b<=n:=bt (fx b a) (bt h k)
theorem Ep{z:Nat}(h:a<=x)(k:b<=y)(l:x+y<=z):a+b<=z:=bt (kf h k) l
theorem zS(h:a+(b+1)<=m):a+1+b<=m:=bt (bf (kF a 1 b)) h
theorem aad(h:x+(y+1)<=m)(k:z<=x+1):z+y<=m:=bt (lJ k y) (zS h)
theorem Rg(h:x+c*(y+1)<=m)(k:z<=x+d)(l:d<=c):z+c*y<=m:=
 bt (lJ (bt k (kG l x)) _) (bt (bf ((kF x c (c*y)).trans (rJ ..))) h)
theorem Iq(h:x+c*(y+1)<=m)(k:z<=c):x+z+c*y<=m:=Rg h (ez _) k
theorem si{n:Nat}(h:a<=c*x)(k:x<=y)(l:c*y<=n):a<=n:=bt h (bt (mL c k) l)
theorem A4{n:Nat}(h:R<=r)(k:x<=y)(l:r+c*y<=n):R+c*x<=n:=bt (kf h (mL c k)) l
theorem aae(h:i+(k+1)=l):i+1+k=l:=(kF i 1 k).trans h
theorem aiI(h:i+(k+1)=l):i<l:=gG (jg (cg i k)) (bf h)
theorem aaf(h:i+0=l):l<=i:=bf h.symm
theorem yE{a:Nat}:¬(a:Int)<0:=rW.mpr (bV a)
theorem tw(p:decide (M=0)=av):N % M=((N % M).toNat:Int):=(yf (C3 N (of_decide_eq_false p))).symm
theorem Rh{M:Int}(h:k=(N % M).toNat)(p:decide (M=0)=av):N % M=k:=h▸tw p
theorem pT{M:Int}{m:Nat}(e:M=m)(h:rI 1 m=ai):(N % M).toNat<m:=by
 subst e;exact (yg (C3 N (C4 (uG.mpr (qa h))))).mpr (Int.emod_lt_of_pos N (uG.mpr (qa h)))
theorem aag(h:s+w<=16)(k:w=n):4*s+4*n<=64:=k▸bt (bf (qb 4 s w).symm) (mL 4 h)
theorem yF(h:4*s+n<=x)(k:m<=n):4*s+m<=x:=bt (kG k _) h
theorem Ri(h:s+w<=16)(k:0<w):4*s+4<=64:=mL 4 (bt (kG k s) h)
theorem aah{n:Nat}(h:a=b)(k:b<=n):a<=n:=h▸k
theorem A5{b:Nat}(h:a<b):(a:Int)<b:=uG.mpr h
theorem mY{a b:Nat}(h:a<=b):(a:Int)<=b:=lW.mpr h
theorem Ir{a b:Nat}(h:(a:Int)<b):a<b:=uG.mp h
theorem yG{a b:Nat}(h:(a:Int)<=b):a<=b:=lW.mp h
theorem aiJ{a m:Nat}{o:Int}{l:Nat}(h:0<=o/\ o+a+m<=l):o.toNat+a+m<=l:=by
 obtain ⟨n,rfl⟩:=iA h.1;exact yG h.2
theorem Iu{a:Nat}{n:Nat}{c:Int}(h:a<=n)(e:decide ((n:Int)<=c)=ai):(a:Int)<=c:=qf (mY h) (fj e)
theorem qH{a:Nat}{n:Nat}{c:Int}(h:a<=n)(e:decide ((n:Int)<c)=ai):(a:Int)<c:=qg (mY h) (fj e)
theorem aai{M:Int}(p:decide (M=0)=av):0<=N % M:=C3 N (of_decide_eq_false p)
theorem PZ{c:Int}(h:c+b=a):a - b=c:=h▸Int.add_sub_cancel c b
theorem Rj{n:Nat}(h:a<=x)(k:b<=y)(l:c<=z)(e:x+y+z<=n):a+b+c<=n:=bt (kf (kf h k) l) e
theorem aiK{m:Nat}(h:a<=w*x)(p:x<=m)(k:b<=y)(l:c<=z)(e:w*m+y+z<=n):a+b+c<=n:=Rj (si h p (ez _)) k l e
theorem aiL{m:Nat}(h:a<=w*x)(p:x<=m)(k:b<=y)(e:y+w*m<=n):b+a<=n:=Ep k (si h p (ez _)) e
theorem aiM{z:Nat}(h:a<=w*x)(p:x<=m)(k:b<=y)(l:c<=z)(e:y+w*m+z<=n):b+a+c<=n:=Rj k (si h p (ez _)) l e
theorem alI(h:x<=n)(l:c*n<=a):0+c*x<=a:=A4 (ez 0) h (bt (bf (kg _)) l)
theorem Iv(h:x<=n)(l:n<=a):0+x<=a:=bt (bf (kg x)) (bt h l)
theorem Rk(h:m=1 \/m=2)(k:x=m):x=1 \/x=2 \/x=4:=k▸h.imp id .inl
theorem A6(h:m=1 \/m=2 \/m=4)(k:x=m):x=1 \/x=2 \/x=4 \/x=16:=k▸h.imp id λh=>h.imp id .inl
theorem aaj{m:Nat}(h:m=1 \/m=2 \/m=4):(m:Int)=1 \/(m:Int)=2 \/(m:Int)=4:=h.imp (I qc) λh=>h.imp (I qc) (I qc)
theorem yH(h:4*s+4<=x)(k:m=1 \/m=2 \/m=4):4*s+m<=x:=yF h (k.elim (λz=>z▸aV rfl) λk=>k.elim (λz=>z▸aV rfl) bf)
theorem Rl(h:4*s+4<=x)(k:m=1 \/m=2):4*s+m<=x:=yH h (Rk k rfl)
theorem aiN{b:Int}(h:k<(b - a).toNat):0<((b - a).toNat:Int) - k:=Int.sub_pos_of_lt (A5 h)
theorem aiO{m:Nat}(h:x<=m):min n x<=m:=bt (JP n x) h
theorem aiP{x:Nat}(h:¬x<n):n+(x - n)=x:=xQ (kh h)
theorem aiQ{k:Nat}(h:n=a+b)(e:a<=k)(l:k<n):k - a<b:=Cz e (h▸l)
theorem Rm{p:Int}{n:Nat}(h:0<=p)(k:p<n):p.toNat<n:=(yg h).mpr k
theorem aiR{p:Int}{n:Nat}(h:0<=p)(k:¬p<n):n<=p.toNat:=kh λz=>k ((yg h).mp z)
theorem aiS{p:Int}(h:0<=p)(k:p.toNat<n):p<n:=(yg h).mp k
theorem aiT{p:Int}{n c:Nat}{C:Int}(h:p<n)(k:n<=c)(e:decide ((c:Int)<=C)=ai):p<C:=C5 h (Iu k e)
theorem Rn{b:Int}(h:0<=a)(k:0<=b):0<=a+b:=Int.add_nonneg h k
theorem Ro{x:Int}(h:0<=p)(k:0<=x):0<=p+1+x:=Rn (Rn h KW) k
theorem aak{x:Nat}(h:A+(n+a)<b)(k:x<=n):A+x+a<b:=gd (bt (lJ (kG k A) a) (bf (rJ A n a))) h
set_option backward.match.sparseCases false
section
open PyProof.Rows Builtin
theorem bits_add(f g t:Nat->Nat->Nat)(d:∀x y,f x y/2=f (x/2) (y/2))(d':∀x y,g x y/2=g (x/2) (y/2))(m:∀x y,f x y % 2=f (x % 2) (y % 2))(m':∀x y,g x y % 2=g (x % 2) (y % 2))
  (ht:∀x y,2*t (x/2) (y/2)+t (x % 2) (y % 2)=t x y) (z:∀y,f 0 y+g 0 y=t 0 y) (b:∀p<2,∀q<2,f p q+g p q=t p q) (x:Nat):∀y,f x y+g x y=t x y:=by
 induction x using Nat.strongRecOn with
 |_ x ih=>
  intro y;by_cases hx:x=0
  ·rw [hx];exact z y
  ·have h:=ih (x/2) (Nat.div_lt_self (JQ hx) (by decide)) (y/2)
   rw [←ht,←h,←(b (x % 2) ((λn=>dH n (by decide)) x) (y % 2) ((λn=>dH n (by decide)) y)),←d,←d',←m,←m',qb,JR,uq,uq]
theorem abv(x y:Nat):(x|||y)+(x&&&y)=x+y:=
 bits_add (·|||·) (·&&&·) (·+·) (λG G=>JS) (λG G=>JT) (λG G=>JU (n:=1)) (λG G=>JV (n:=1)) (λx y=>by
  simp only [qb,JR,uq,uq]) (λy=>by simp) (by decide) x y
theorem XK(x y:Nat):(x^^^y)+(x&&&y)=(x|||y):=
 bits_add (·^^^·) (·&&&·) (·|||·) (λG G=>Nat.xor_div_two) (λG G=>JT) (λG G=>JW (n:=1)) (λG G=>JV (n:=1)) (λx y=>by
  simp only [←JS,←show(x|||y) % 2=_ from JU (n:=1),uq]) (λy=>by simp) (by decide) x y
theorem aez{c:Int}(h:c+b=a):a - b=c:=by exact (PZ h)
theorem S5{a b:Int}(h:0<=a/\ 0<=b):LI a b=((a.toNat|||b.toNat:Nat):Int):=by
 simp only [bitOr_and,Dx h.1 h.2];rw [←yf h.1,←yf h.2];exact aez (I KX (abv _ _))
theorem abw{a b:Int}(h:0<=a/\ 0<=b):WU a b=((a.toNat^^^b.toNat:Nat):Int):=by
 show LI a b - WV a b=_
 simp only [S5 h,Dx h.1 h.2];exact aez (I KX (XK _ _))
section
variable{c:Cx}{A:bk}{Z X:AP}{ρ:bG}{O:L}{s:aA}
theorem sj(af:b9 c ρ O s.heap)(hk:∀b o,s.heap.get? b=U o->h'.get? b=U o)(r:R ρ h' a b):
  hU c Z X ρ s (.ok a O) R b {s with heap:=h',toks:=k}:=#[a,O,ρ,rfl,#[cG.more hk,af.more hk,rfl,rfl],r]
theorem iZ{α β:Type}{R:bG->aQ->α->β->Prop}{a:α}{b:β}{k:Nat}(af:b9 c ρ O s.heap)(r:R ρ s.heap a b):
  hU c Z X ρ s (.ok a O) R b {s with toks:=k}:=#[a,O,ρ,rfl,#[cG.refl ..,af,rfl,rfl],r]
theorem lZ(af:b9 c ρ O s.heap)(r:R ρ s.heap a b):
  hU c Z X ρ s (.ok a O) R b s:=#[a,O,ρ,rfl,#[cG.refl ..,af,rfl,rfl],r]
theorem qx(af:b9 c ρ O s.heap)(hk:∀b o,s.heap.get? b=U o->h'.get? b=U o)(na:s.heap.get? a=u)(nd:s.heap.get? d=u)
  (r:cG bj bj ρ s.heap (ρ++ [(a,d)]) h'->jD c.prog c.w c.H (ρ++ [(a,d)]) h' a d m):
  hU c Z X ρ s (new m O) (cI c) (.ref a) {s with heap:=h',toks:=k}:=by
 refine bl λaG=>?_;refine (af.alloc hk na nd r).elim λI' hq=>hq.elim λst e=>?_;refine aG ?_;exact #[.ref (J O),O++ [m],ρ++ [(a,d)],rfl,#[(st.weak λG x=>x.elim).mX λG G G x=>x.elim,I',rfl,rfl],.ref e]
theorem dU(h:aQ):h.get? h.objs.size=none:=by
 rcases e:h.get? h.objs.size with _|o
 ·rfl
 ·exact absurd (mR e) (xR _)
theorem g8(af:b9 c ρ O s.heap){i:Nat}{a d:ay}{xs:LV}(e:ρ[i]? =U (a,d))(es:O[i]? =U (.list xs)):
  d=a/\ ∃vs n,s.heap.get? a=U #[.type "list",u,.seq vs n, #[]]/\ bJ c.H ρ s.heap xs vs.toList/\ s.heap.IsList a vs:=by
 refine bl λaG=>?_;refine (af.at es e).elim λq hq=>hq.elim λvs hq=>hq.elim λn hq=>hq.elim λh1 h2=>?_;refine aG ?_;exact #[q,vs,n,h1,h2,#[_,h1,rfl,n,rfl]]
theorem v3{a:Int}{k:Nat}(h:a.natAbs<2^k):LJ a<=k:=by
 unfold LJ
 split
 ·exact (bp _)
 ·rename_i vG
  have:a.natAbs≠0:=by simpa using vG
  have:=(JX this).mpr h
  assumption
theorem aiU{a b:Int}(h:a.natAbs<2^64 \/b.natAbs<2^64):IntMulOk a b:=by
 rcases h with h|h
 ·exact Xg (v3 h)
 ·exact Xh (v3 h)
theorem W.yI{p:Prop} [Decidable p]{d:Int}{t:b6 az}(h:p->aN (aJ c.prog c.w) A t (hU c Z X ρ s (.ok (V.int d) O) (cI c)) (By c Z X ρ s (.ok (V.int d) O)) s):W c A Z X ρ (dN (if p then U d else u) λd=>.ok (V.int d) O) (cI c) t s:=by
 by_cases q:p
 ·rw [au q];exact λG=>h q
 ·rw [ax q];exact W.no
theorem aeA{n k:Nat}(h:n<2^k)(hk:k≠0):n.log2<k:=by
 by_cases z:n=0
 ·subst z;exact JQ hk
 ·exact (JX z).mpr h
set_option exponentiation.threshold 2000 in
theorem aeB{op:lx}{a b:Int}{t ag:ix}(af:b9 c ρ O s.heap):W c A Z X ρ (dN (binI op a b) λd=>Res.ok (V.int d) O) (cI c) (rj op (.int a t) (.int b ag)) s:=by
 have fin:∀{d:Int} {k t:Nat},hU c Z X ρ s (.ok (V.int d) O) (cI c) (.int d t) {s with toks:=k}:=λ{d k t}=>iZ af (.int d t);induction op using r6 with
 |Add=>exact λG=>Wn fin
 |Sub=>exact λG=>Wo fin
 |Mult=>exact W.yI λh=>mul_int fin (aiU h)
 |FloorDiv=>
  refine W.yI λh=>?_
  with_reducible refine floordiv_int (C4 h.1) ?_ (.inl (Xi ?_))
  ·rw [KY _ (rX h.1)];exact fin
  ·exact (gG (aeA h.2 (by decide)) (aV rfl))
 |Mod=>
  refine W.yI λh=>mod_int' (C4 h) ?_;rw [Int.fmod_eq_emod_of_nonneg _ (rX h)];exact fin
 |Pow=>exact W.yI λh=>pow_int_small h.2.1 h.2.2 h.1 fin
 |LShift=>
  refine W.yI λh=>lshift_int h.2.1 ?_ fin;have:=v3 h.1;exact (qf (Int.add_le_add (mY this) h.2.2) (by decide))
 |RShift=>
  refine W.yI λh=>rshift_int h ?_;rw [KY _ (rX (Int.pow_pos (by decide)))];exact fin
 |BitAnd=>
  refine W.yI λh=>and_int ?_;rw [Dx h.1 h.2];exact fin
 |BitOr=>
  refine W.yI λh=>or_int ?_;rw [S5 h];exact fin
 |BitXor=>
  refine W.yI λh=>xor_int ?_;rw [abw h];exact fin
 |_=>exact W.no
theorem Rp{a b:ay}{xs ys:LV}{vs ws:Array az}{n n2:Nat}(af:b9 c ρ O s.heap)(h1:s.heap.get? a=U #[.type "list",u,.seq vs n, #[]])(h2:s.heap.get? b=U #[.type "list",u,.seq ws n2, #[]])
  (r1:bJ c.H ρ s.heap xs vs.toList) (r2:bJ c.H ρ s.heap ys ws.toList) (hz:vs.size+ws.size<=gy):
  aN (aJ c.prog c.w) A (rj .Add (.ref a) (.ref b)) (hU c Z X ρ s (new (.list (xs++ys)) O) (cI c)) (By c Z X ρ s (new (.list (xs++ys)) O)) s:=by
 refine concat_meets #[_,h1,rfl] #[_,h2,rfl] noFill_list_add seq_list_add WA WB (WC _ _) (list_addW a b vs ws n n2 u u #[] #[] hz) #[h1,h2,?_]
 exact qx af (λG G e=>c7 _ e) (dU _) (dU _) λst=>⟨rfl,_,_,iX _ rfl,by
  simp only [Array.toList_append];exact (r1.append r2).mono st⟩
theorem Rq{a:ay}{xs:LV}{vs:Array az}{n:Nat}{k:Int}{t:ix}(af:b9 c ρ O s.heap)(h1:s.heap.get? a=U #[.type "list",u,.seq vs n, #[]])
  (r1:bJ c.H ρ s.heap xs vs.toList) (h0:0<=k) (hk:k<=100) (hm:vs.size*k.toNat<=10000):
  aN (aJ c.prog c.w) A (rj .Mult (.ref a) (.int k t)) (hU c Z X ρ s (new (.list (kj k.toNat xs).flatten) O) (cI c)) (By c Z X ρ s (new (.list (kj k.toNat xs).flatten) O)) s:=by
 refine wpAny_binaryOp_repeat_ref (by decide) #[_,h1,rfl] (λs'=>BZ s' k t) noFill_list_mul F.fills_int_mul F.slot_int_rmul repeat_list F.slot_int_index.lookup
  (B0 F.slot_int_rmul (BZ s k t) F.entry_int_rmul (F.args_int_rmul_2 _ _) (lm_int_rmul_list_any k t a vs n u #[])
   ⟨h1,rfl,#[_,h1,rfl],B0 F.slot_list_mul #[_,h1,rfl] F.entry_list_mul (F.args_list_mul_2 _ _)
    (lm_list_mul_any a vs n u #[] k t (by simp [Xj];lia) (dK (bt hm (aV rfl))) (by simp [Xk,gy];exact (bt hm (aV rfl))))
    #[h1,?_]⟩)
 rw [listMul_foldl_if];refine qx af (λG G e=>c7 _ e) (dU _) (dU _) λst=>#[rfl,_,_,iX _ rfl,?_];exact (r1.rep k.toNat).mono st
theorem Mi{α:Type}{P:Prop}(h:(Res.bad:Res α)≠ .bad):P:=(h rfl).elim
theorem qI(e:pe x=U xs):x= .tup xs:=by
 induction x using V.casesOn with
 |tup ys=>exact I V.tup (bh e)
 |_=>exact nomatch e
theorem gL{x:V}{xs:U8}(e:jJ x=U xs):x= .bytes xs:=by
 induction x using V.casesOn with
 |bytes ys=>exact I V.bytes (bh e)
 |_=>exact nomatch e
theorem yJ(e:yy x=U xs):x= .lst xs:=by
 induction x using V.casesOn with
 |lst ys=>exact I V.lst (bh e)
 |_=>exact nomatch e
theorem dF{x:V}{i:Nat}(e:dw x=U i):x= .ref i:=by
 induction x using V.casesOn with
 |ref j=>exact I V.ref (bh e)
 |_=>exact nomatch e
theorem lb{x:V}{i:aF}(e:nS x=U i):x= .str i:=by
 induction x using V.casesOn with
 |str j=>exact I V.str (bh e)
 |_=>exact nomatch e
theorem cD(e:dE x=U i):x= .int i:=by
 induction x using V.casesOn with
 |int j=>exact I V.int (bh e)
 |_=>exact nomatch e
theorem eH{O:L}{i:Nat}{xs:LV}(h:listAt O i=U xs):O[i]? =U (.list xs):=by
 unfold listAt at h;generalize O[i]? =o at h⊢;induction o using aK with
 |none=>exact nomatch h
 |some m=>induction m using MO.casesOn with
  |list ys=>exact I (λx=>U (MO.list x)) (bh h)
  |_=>exact nomatch h
theorem gH(h:fY O i=U xs):O[i]? =U (.bu xs):=by
 unfold fY at h;generalize O[i]? =o at h⊢;induction o using aK with
 |none=>exact nomatch h
 |some m=>induction m using MO.casesOn with
  |bu ys=>exact I (λx=>U (MO.bu x)) (bh h)
  |_=>exact nomatch h
theorem ie(h:dictAt O i=U xs):O[i]? =U (.dict xs):=by
 unfold dictAt at h;generalize O[i]? =o at h⊢;induction o using aK with
 |none=>exact nomatch h
 |some m=>induction m using MO.casesOn with
  |dict ys=>exact I (λx=>U (MO.dict x)) (bh h)
  |_=>exact nomatch h
theorem zT(h:AZ O i=U xs):O[i]? =U (.fW xs):=by
 unfold AZ at h;generalize O[i]? =o at h⊢;induction o using aK with
 |none=>exact nomatch h
 |some m=>induction m using MO.casesOn with
  |fW ys=>exact I (λx=>U (MO.fW x)) (bh h)
  |_=>exact nomatch h
theorem v5(h:nB O i=U x):O[i]? =U (.inst x.1 x.2):=by
 unfold nB at h;generalize O[i]? =o at h⊢;induction o using aK with
 |none=>exact nomatch h
 |some m=>induction m using MO.casesOn with
  |inst C ys=>exact I (λx=>U (MO.inst x.1 x.2)) (bh h)
  |_=>exact nomatch h
theorem aeC{op:lx}{a:V}{k:Int}{x:az}{ag:ix}(af:b9 c ρ O s.heap)(ra:Rep c.H ρ s.heap a x):W c A Z X ρ (Rc op a k O) (cI c) (rj op x (.int k ag)) s:=by
 induction op using r6 with
 |Mult=>
  unfold Rc;induction ha:jJ a using aK with
  |some b=>
   obtain ⟨t,rfl⟩:=(gL ha▸ra).sg;exact W.ite λh G=>bytes_mul_any (List.length_pos_iff.mp h.2.2.1) (by lia) (qf h.2.1 (by decide)) h.2.2.2 λt' k'=>iZ af (.bytes _ t')
  |none=>
   refine W.opt λi hi=>W.opt λxs e1=>W.ite λh G=>?_;obtain ⟨p,d,rfl,hp⟩:=(dF hi▸ra).jC;refine bl λaG=>?_;refine (g8 af hp (eH e1)).elim λG hq=>hq.elim λvs hq=>hq.elim λn hq=>hq.elim λh1 hq=>?_;have r1:=hq.1;have l1:=hq.2;refine aG ?_;have a1:vs.size=J xs:=r1.length;exact Rq af h1 r1 h.1 h.2.1 (Nat.mul_le_mul (a1▸h.2.2) (by exact (lK (Rm h.1 (qg h.2.1 (by decide))))):vs.size*k.toNat<=100*100)
 |_=>exact W.no
theorem aeD{op:lx}{a b:V}{x y:az}(af:b9 c ρ O s.heap)(ra:Rep c.H ρ s.heap a x)(rb:Rep c.H ρ s.heap b y):W c A Z X ρ (Mb op a b O) (cI c) (rj op x y) s:=by
 induction op using r6 with
 |Add=>
  unfold Mb;induction ha:nS a using aK with
  |some a'=>
   obtain ⟨t,rfl⟩:=(lb ha▸ra).zP;refine W.opt λb' hb=>W.ite λh G=>?_;obtain ⟨ag,rfl⟩:=(lb hb▸rb).zP;exact Wq (λt' k=>iZ af (.str _ t')) ((λh=>bt h (by decide):∀{n:Nat},n<=aR->n<=gy) h)
  |none=>induction ha:jJ a using aK with
   |some a'=>
    obtain ⟨t,rfl⟩:=(gL ha▸ra).sg;refine W.opt λb' hb=>W.ite λh G=>?_;obtain ⟨ag,rfl⟩:=(gL hb▸rb).sg;have hz:a'.toArray.size+b'.toArray.size<=16777216:=bt ((λh=>bt h (by decide):∀{n:Nat},n<=aR->n<=gy) h) (by decide)
    with_reducible refine KBy.add_bytes hz λt' k=>?_
    rw [List.append_toArray];exact iZ af (.bytes _ t')
   |none=>
    refine W.opt λi hi=>W.opt λj hj=>W.opt λxs e1=>W.opt λys e2=>W.ite λh G=>?_;obtain ⟨p,d,rfl,hp⟩:=(dF hi▸ra).jC;obtain ⟨q,d',rfl,hq⟩:=(dF hj▸rb).jC;refine bl λaG=>?_;obtain ⟨_,vs,n,h1,r1,l1⟩:=g8 af hp (eH e1);have a1:vs.size=J xs:=r1.length;obtain ⟨_,ws,n2,h2,r2,l2⟩:=g8 af hq (eH e2);refine aG ?_;have a2:ws.size=J ys:=r2.length;exact Rp af h1 h2 r1 r2 (a1▸a2▸(λh=>bt h (by decide):∀{n:Nat},n<=aR->n<=gy) h)
 |_=>exact W.no
theorem aiV(af:b9 c ρ O s.heap)(ra:Rep c.H ρ s.heap a x)(rb:Rep c.H ρ s.heap b y):W c A Z X ρ (bin op a b O) (cI c) (rj op x y) s:=by
 unfold bin;induction hb:dE b using aK with
 |none=>exact aeD af ra rb
 |some j=>
  obtain ⟨ag,rfl⟩:=(cD hb▸rb).kY;induction ha:dE a using aK with
  |none=>exact aeC af ra
  |some i=>
   obtain ⟨t,rfl⟩:=(cD ha▸ra).kY;exact aeB af
end
end
section
open PyProof.Rows Builtin PySem.SeqAt PySem.MeetsSeq PySem.MeetsSeq2 PySem.MeetsSeq3 PySem.SeqRoads2
section
variable{H:aQ}{ρ:bG}{A:bk}{s:aA}
noncomputable def E3(A:bk)(s:aA)(v ag:az)(b:Bool):Prop:=EqAt A s v ag b/\ RcAt A s v ag b/\ RcNeAt A s v ag (!b)
theorem aiW(a b:Fl)(e:Fl.eq a b=U r):E3 A s (a.val t) (b.val t') r:=by
 induction a using Fl.casesOn with
 |none=>induction b using Fl.casesOn with
  |none=>exact bh e▸#[EqAt.same _,RcAt.none_none,RcNeAt.none_none]
  |bool _=>exact bh e▸#[EqAt.none_bool _,RcAt.none_bool _,RcNeAt.none_bool _]
  |int _=>exact bh e▸#[EqAt.none_int _ _,RcAt.none_int _ _,RcNeAt.none_int _ _]
  |str _=>exact bh e▸#[EqAt.none_str _ _,RcAt.none_str _ _,RcNeAt.none_str _ _]
 |bool _=>induction b using Fl.casesOn with
  |none=>exact bh e▸#[EqAt.bool_none _,RcAt.bool_none _,RcNeAt.bool_none _]
  |bool _=>exact bh e▸#[EqAt.bool_bool _ _,RcAt.bool_bool _ _,RcNeAt.bool_bool _ _]
  |_=>exact nomatch e
 |int _=>induction b using Fl.casesOn with
  |none=>exact bh e▸#[EqAt.int_none _ _,RcAt.int_none _ _,RcNeAt.int_none _ _]
  |int _=>exact bh e▸#[EqAt.int_int _ _ _ _,RcAt.int_int _ _ _ _,RcNeAt.int_int _ _ _ _]
  |_=>exact nomatch e
 |str _=>induction b using Fl.casesOn with
  |none=>exact bh e▸#[EqAt.str_none _ _,RcAt.str_none _ _,RcNeAt.str_none _ _]
  |str _=>exact bh e▸#[EqAt.str_str _ _ _ _,RcAt.str_str _ _ _ _,RcNeAt.str_str _ _ _ _]
  |_=>exact nomatch e
theorem aeE(e:Bw x y=U r):∃a b,flat x=U a/\ flat y=U b/\ Fl.eq a b=U r:=by
 unfold Bw at e;generalize flat x=a at e⊢;generalize flat y=b at e⊢;induction a using aK with
 |none=>exact nomatch e
 |some a=>induction b using aK with
  |none=>exact nomatch e
  |some b=>exact #[a,b,rfl,rfl,e]
theorem Rr(rx:Rep H ρ s.heap x v)(ry:Rep H ρ s.heap y ag)(e:Bw x y=U r):∃a b t t',v=Fl.val a t/\ ag=Fl.val b t'/\ Fl.eq a b=U r:=
 (aeE e).elim λa h=>h.elim λb h=>(rx.flI h.1).elim λt p=>(ry.flI h.2.1).elim λt' q=>#[a,b,t,t',p,q,h.2.2]
theorem S6(r:Rep H ρ s.heap x v)(q:Rep H ρ s.heap y ag)(e:Bw x y=U b):E3 A s v ag b:=by
 obtain ⟨a,b,t,t',rfl,rfl,h⟩:=Rr r q e;exact aiW a b h
theorem P2(a b:U8)(t ag:ix):RcAt A s (.bytes a.toArray t) (.bytes b.toArray ag) (a==b):=λprog w E Q h=>by
 have:= @Wf prog w A E s a.toArray b.toArray t ag Q (h);exact this
theorem S7(a b:U8)(t ag:ix):RcNeAt A s (.bytes a.toArray t) (.bytes b.toArray ag) (!(a==b)):=λprog w E Q h=>by
 have:= @Wg prog w A E s a.toArray b.toArray t ag Q (h);exact this
theorem abx(a b:U8)(t ag:ix):EqAt A s (.bytes a.toArray t) (.bytes b.toArray ag) (a==b):=λprog w E Q h=>by
 unfold eqBool;refine gY ?_;refine wpAny_ite_split (λhab=>?_) (λG=>?_)
 ·have e:a=b:=by have:=eq_of_beq hab;injection this with h1;simpa using h1
  subst e;rw [sf]at h;exact aB (xj (aX h))
 ·exact aB (P2 a b t ag prog w E _ (tY h))
noncomputable def ej(f:V->V->Option Bool)(xs ys:LV)(j:Nat):Bool:=match xs[j]?,ys[j]? with
 |some x,U y=>(f x y).getD av
 |_,_=>av
theorem aeF(e:(match o,p with|some a,U b=>U (a&&b)|_,_=>u)=U b):∃x y,o=U x/\ p=U y/\ (x&&y)=b:=by
 rcases o with _|x
 ·exact nomatch e
 ·rcases p with _|y
  ·exact nomatch e
  ·exact #[x,y,rfl,rfl,bh e]
noncomputable def EqS(f:V->V->Option Bool)(xs ys:LV)(b:Bool):Prop:=J xs=J ys/\ (cC (J xs)).all (ej f xs ys)=b/\ ∀(j:Nat) (x y:V),xs[j]? =U x->ys[j]? =U y->f x y=U (ej f xs ys j)
theorem Es(f:V->V->Option Bool)(xs:LV):∀(ys:LV) (b:Bool),allEq f xs ys=U b->EqS f xs ys b:=by
 induction xs with
 |nil=>intro ys b e;induction ys using bS with
  |nil=>exact #[rfl,bh e,λj x y h=>nomatch h]
  |cons _ _=>exact nomatch e
 |cons x xs ih=>intro ys b e;induction ys using bS with
  |nil=>exact nomatch e
  |cons y ys=>
   obtain ⟨a,b',ha,hb,rfl⟩:=aeF e;have e1:ej f (x::xs) (y::ys) 0=a:=I (·.getD av) ha;refine #[I jv (ih ys b' hb).1,?_,λj p q hp hq=>?_]
   ·simp only [oA,List.range_succ_eq_map,lR,List.all_map,e1,←(ih ys b' hb).2.1];rfl
   ·induction j using jw with
    |zero=>exact bh hp▸bh hq▸ha.trans (I U e1.symm)
    |succ j=>exact (ih ys b' hb).2.2 j p q hp hq
theorem Mj{h:aQ}{ws:LU}(h1:h.IsTuple a vs.toArray)(h2:h.IsTuple a ws.toArray):vs=ws:=by
 refine bl λaG=>?_;refine h1.elim λo hq=>hq.elim λe hq=>hq.elim λc hq=>hq.elim λn d=>?_;refine h2.elim λo' hq=>hq.elim λe' hq=>hq.elim λc' hq=>hq.elim λn' d'=>?_;have z:=d.symm.trans ((I lX (ss e e')).trans d');refine aG ?_
 injection z with z
 exact I Dv z
theorem aeG{b:Fl}(e:a.val t=b.val t'):a=b:=by
 rcases a<;>rcases b<;>first|rfl|(exfalso;injection e;done)|(injection e with e;exact I _ e)
theorem aby(e:Fl.eq a a=U r):r=true:=by
 rcases a<;>first|exact (bh e).symm|exact (bh e).symm.trans (sf _)
theorem XM(r:Rep H ρ s.heap x v)(q:Rep H ρ s.heap y v)(e:Bw x y=U b):b=true:=by
 refine bl λaG=>?_;refine (Rr r q e).elim λa hq=>hq.elim λb hq=>hq.elim λt hq=>hq.elim λt' hq=>?_;refine aG ?_;exact aby (aeG (hq.1.symm.trans hq.2.1)▸hq.2.2)
theorem Mk(e:tc (k+1) x y=U b):
  (∃xs ys,x= .tup xs/\ y= .tup ys/\ EqS (tc k) xs ys b) \/(∃a a',x= .bytes a/\ y= .bytes a'/\ (a==a')=b) \/Bw x y=U b:=by
 unfold tc at e;induction hx:pe x using aK with
 |some xs=>
  rw [hx]at e;induction hy:pe y using aK with
  |none=>simp only [hy]at e;exact nomatch e
  |some ys=>rw [hy]at e;exact .inl #[xs,ys,qI hx,qI hy,Es _ _ _ _ e]
 |none=>
  rw [hx]at e;induction hx:jJ x using aK with
  |some xs=>
   simp only [hx]at e;induction hy:jJ y using aK with
   |none=>simp only [hy]at e;exact nomatch e
   |some ys=>rw [hy]at e;exact .inr (.inl #[xs,ys,gL hx,gL hy,bh e])
  |none=>rw [hx]at e;exact .inr (.inr e)
theorem XN(k:Nat):∀{x y:V} {v:az} {b:Bool},Rep H ρ s.heap x v->Rep H ρ s.heap y v->tc k x y=U b->b=true:=by
 induction k with
 |zero=>intro x y v b r q e;exact nomatch e
 |succ k ih=>
  intro x y v b r q e;rcases Mk e with⟨xs,ys,rfl,rfl,e1,e2,e3⟩|⟨a,a',rfl,rfl,rfl⟩|e
  ·obtain ⟨a,vs,rfl,h1,r1⟩:=r.tupI
   obtain ⟨a',ws,z,h2,r2⟩:=q.tupI
   injection z with z
   subst z;have:=Mj h1 h2;subst this;rw [←e2,jh];intro j hj;refine bl λaG=>?_;refine (r1.get (dS (rP.mp hj))).elim λv hq=>hq.elim λhv rv=>?_;refine (r2.XJ hv).elim λy hq=>hq.elim λhy ry=>?_;refine aG ?_;exact ih rv ry (e3 j _ y (dS (rP.mp hj)) hy)
  ·obtain ⟨t,rfl⟩:=r.sg
   obtain ⟨t',z⟩:=q.sg
   injection z with z
   exact dX.mpr (I Dv z)
  ·exact XM r q e
theorem DN(ih:∀{x y:V} {v ag:az} {b:Bool},Rep H ρ s.heap x v->Rep H ρ s.heap y ag->f x y=U b->EqAt A s v ag b)
 {vs ws:Array az} (r1:bJ H ρ s.heap xs vs.toList) (r2:bJ H ρ s.heap ys ws.toList) (e3:∀(j:Nat) (x y:V),xs[j]? =U x->ys[j]? =U y->f x y=U (ej f xs ys j))
  (j:Nat) (p1:j<vs.size) (p2:j<ws.size):EqAt A s vs[j] ws[j] (ej f xs ys j):=by
 refine bl λaG=>?_;refine (r1.XJ (by rw [ym,Lm p1])).elim λx hq=>hq.elim λhx rx=>?_;refine (r2.XJ (by rw [ym,Lm p2])).elim λy hq=>hq.elim λhy ry=>?_;refine aG ?_;exact ih rx ry (e3 j _ _ hx hy)
theorem Ml(k:Nat):∀{A:bk} {x y:V} {v ag:az} {b:Bool},A.units+k<ku->Rep H ρ s.heap x v->Rep H ρ s.heap y ag->tc k x y=U b->E3 A s v ag b:=by
 induction k with
 |zero=>intro A x y v ag b hu r q e;exact nomatch e
 |succ k ih=>
  intro A x y v ag b hu r q e;have Mm:A.in1.units+k<cLine:=by show A.units+1+k<ku;rw [kF];exact hu
  rcases Mk e with⟨xs,ys,rfl,rfl,e1,e2,e3⟩|⟨a,a',rfl,rfl,rfl⟩|e'
  ·obtain ⟨a,vs,rfl,h1,r1⟩:=r.tupI
   obtain ⟨a',ws,rfl,h2,r2⟩:=q.tupI
   have hb:((cC (min vs.toArray.size ws.toArray.size)).all (ej (tc k) xs ys)&&vs.toArray.size==ws.toArray.size)=b:=by
    simp only [CO,CO,r1.length,r2.length,←e1,Nat.min_self,beq_self_eq_true,IT];exact e2
   have lt:A.units<cLine:=gd (cg _ _) hu;have rc:=RcAt.tuples h1 h2 lt (DN (λr q e=>(ih Mm r q e).1) r1 r2 e3);have rn:=RcNeAt.tuples h1 h2 lt (DN (λr q e=>(ih Mm r q e).1) r1 r2 e3);simp only [hb]at rc rn;refine #[?_,rc,rn];by_cases z:a=a'
   ·subst z
    have:=Mj h1 h2;subst this;have:=XN (k+1) (.tup h1 r1) (.tup h1 r2) e;rw [this];exact EqAt.same _
   ·exact EqAt.of_refs z rc
  ·obtain ⟨t,rfl⟩:=r.sg
   obtain ⟨t',rfl⟩:=q.sg;exact #[abx _ _ _ _,P2 _ _ _ _,S7 _ _ _ _]
  ·exact S6 r q e'
noncomputable def vEq:az->az->Bool
 |.none,.none=>ai
 |.bool a,.bool b=>a==b
 |.int a _,.int b _=>a==b
 |.str a _,.str b _=>a==b
 |_,_=>av
theorem aeH(e:Fl.eq a b=U r):vEq (a.val t) (b.val t')=r:=by
 induction a using Fl.casesOn with
 |none=>rcases b<;>exact bh e
 |bool _=>rcases b<;>first|exact bh e|exact nomatch e
 |int _=>rcases b<;>first|exact bh e|exact nomatch e
 |str _=>rcases b<;>first|exact bh e|exact nomatch e
theorem abz(r:Rep H ρ s.heap x v)(q:Rep H ρ s.heap y ag)(e:Bw x y=U b):vEq v ag=b:=by
 obtain ⟨a,b,t,t',rfl,rfl,h⟩:=Rr r q e;exact aeH h
theorem or2(e:(match o,p with|some a,U b=>U (a||b)|_,_=>u)=U b):∃x y,o=U x/\ p=U y/\ (x||y)=b:=by
 rcases o with _|x
 ·exact nomatch e
 ·rcases p with _|y
  ·exact nomatch e
  ·exact #[x,y,rfl,rfl,bh e]
theorem Et(q:Rep H ρ s.heap x v):∀{vs:LU} {b:Bool},bJ H ρ s.heap ys vs->fw x ys=U b->
  (vs.any λy=>vEq y v)=b/\ ∀y∈vs,EqAt A s y v (vEq y v):=by
 induction ys with
 |nil=>intro vs b r e;rw [r.yB];exact #[bh e,λy h=>nomatch h]
 |cons y ys ih=>
  intro vs b r e;obtain ⟨w,ws,rfl,ry,rs⟩:=r.ph;obtain ⟨a,b',ha,hb,rfl⟩:=or2 e;have e1:=abz ry q ha;refine #[by rw [rQ,e1,(ih rs hb).1],λz hz=>?_];rcases eU.mp hz with rfl|hz
  ·exact e1▸(S6 ry q ha).1
  ·exact (ih rs hb).2 z hz
end
section
variable{H:aQ}{ρ:bG}{h:aQ}
theorem ec.nil_inv{K:Type}{ws:List (K×az)}(r:ec H ρ h ([]:List (K×V)) ws):ws= []:=Ko.mp r.1.symm
theorem ec.cons_inv{K:Type}{k:K}{v:V}{kvs:List (K×V)}{ws:List (K×az)}(r:ec H ρ h ((k,v)::kvs) ws):∃w r',ws=(k,w)::r'/\ Rep H ρ h v w/\ ec H ρ h kvs r':=by
 rcases ws with _|⟨a,b⟩
 ·exact nomatch r.1
 ·
  refine bl λaG=>?_;refine r.2.ph.elim λw hq=>hq.elim λws hq=>hq.elim λe2 hq=>hq.elim λr1 r2=>?_;refine aG ?_;exact #[w,b,((uL e2).1.symm)▸I (λx=>(x,a.2)::b) (uL r.1).1.symm,r1,(uL r.1).2,((uL e2).2.symm)▸r2]
theorem ec.cons{K:Type}{k:K}{v:V}{w:az}{kvs:List (K×V)}{ws:List (K×az)}(p:Rep H ρ h v w)(r:ec H ρ h kvs ws):ec H ρ h ((k,v)::kvs) ((k,w)::ws):=
 #[I (uC k) r.1,.cons p r.2]
theorem ec.nil{K:Type}:ec H ρ h ([]:List (K×V)) ([]:List (K×az)):=#[rfl,.nil]
theorem ec.length{K:Type}{kvs:List (K×V)}{ws:List (K×az)}(r:ec H ρ h kvs ws):J ws=J kvs:=
 (cQ _).symm.trans ((I uD r.1).symm.trans (cQ _))
theorem zU{K:Type} [DecidableEq K](k k':K)(v:az)(r:List (K×az)):pY ((k',v)::r) k=if k'=k then U v else pY r k:=by
 unfold pY;simp only [xU];by_cases e:k'=k<;>simp [e]
theorem ec.at{kvs:SV}:∀{ws:List (aF×az)},ec H ρ h kvs ws->∀k,gS H ρ h (look k kvs) (pY ws k):=by
 induction kvs with
 |nil=>intro ws r k;rw [r.nil_inv];trivial
 |cons p kvs ih=>
  intro ws r k;obtain ⟨w,r',rfl,h1,h2⟩:=r.cons_inv;simp only [zU];show gS H ρ h (if p.1=k then U p.2 else look k kvs) _
  by_cases e:p.1=k
  ·rw [au e,au e];exact h1
  ·rw [ax e,ax e];exact ih h2 k
theorem ec.atI{kvs:List (Int×V)}:∀{ws:List (Int×az)},ec H ρ h kvs ws->∀k,gS H ρ h (Eh k kvs) (pY ws k):=by
 induction kvs with
 |nil=>intro ws r k;rw [r.nil_inv];trivial
 |cons p kvs ih=>
  intro ws r k;obtain ⟨w,r',rfl,h1,h2⟩:=r.cons_inv;simp only [zU];show gS H ρ h (if p.1=k then U p.2 else Eh k kvs) _
  by_cases e:p.1=k
  ·rw [au e,au e];exact h1
  ·rw [ax e,ax e];exact ih h2 k
theorem gS.mZ(r:gS H ρ h (U x) ov):∃v,ov=U v/\ Rep H ρ h x v:=by
 rcases ov with _|v
 ·exact r.elim
 ·exact #[v,rfl,r]
theorem gS.none_inv(r:gS H ρ h u ov):ov=none:=by
 rcases ov with _|v
 ·rfl
 ·exact r.elim
end
theorem G6{H:aQ}{ρ:bG}{A:bk}{s:aA}{kb:SV}{wb:List (aF×az)}(hu:A.units+8<ku)(rb:ec H ρ s.heap kb wb)
  {ka:SV}:∀{wa:List (aF×az)} {b:Bool},ec H ρ s.heap ka wa->DM kb ka=U b->KeqHits A s wb wa b:=by
 induction ka with
 |nil=>intro wa b ra e;rw [ra.nil_inv];exact bh e▸ .nil
 |cons p r ih=>
  intro wa b ra e;obtain ⟨w,r',rfl,h1,h2⟩:=ra.cons_inv
  replace e:(match look p.1 kb with
   |some w=>(match eqv p.2 w,DM kb r with
    |some a,U b=>U (a&&b)
    |_,_=>.none)
   |.none=>.none)=U b:=e
  rcases hl:look p.1 kb with _|w'
  ·simp only [hl]at e;exact nomatch e
  ·
   rw [hl]at e;obtain ⟨a,b',ha,hb,rfl⟩:=aeF e;obtain ⟨y,ey,ry⟩:=gS.mZ (hl▸rb.at p.1);exact .hit ey (Ml 8 hu h1 ry ha).1 (ih h2 hb)
noncomputable def abA:bG->aQ->Bool->az->Prop:=λG G b v=>v= .bool b
section
variable{c:Cx}{A:bk}{Z X:AP}{ρ:bG}{O:L}{s:aA}
theorem pj(af:b9 c ρ O s.heap)(hS:∃o,c.H.get? ly=U o){a:ay}(f:cy ρ a):(a==ly)=false:=
 ql.mpr λz=>hS.elim λo e=>nn (af.fresh _ f) (z▸e)
theorem k8(af:b9 c ρ O s.heap){i:Nat}{a d:ay}{kvs:SV}(e:ρ[i]? =U (a,d))(es:O[i]? =U (.dict kvs)):
  d=a/\ cy ρ a/\ ∃ws,s.heap.DictOf (strKind c.prog c.w) a ws/\ ec c.H ρ s.heap kvs ws:=
 #[(af.at es e).1,#[i,a,d,e,.inl rfl],(af.at es e).2]
theorem ite_no{p:Prop} [Decidable p]{α:Type}{a:Option α}{v:α}(e:(if p then u else a)=U v):a=U v:=by
 by_cases q:p
 ·rw [au q]at e;exact nomatch e
 ·rw [ax q]at e;exact e
theorem ite_yes{p:Prop} [Decidable p]{α:Type}{a:Option α}{v:α}(e:(if p then a else u)=U v):p/\ a=U v:=by
 by_cases q:p
 ·rw [au q]at e;exact #[q,e]
 ·rw [ax q]at e;exact nomatch e
noncomputable abbrev EqW(c:Cx)(A:bk)(s:aA)(x y:az)(r:Bool):Prop:=∀(Q:VP) (E:VP),
  (Q (.bool r) s->aN (aJ c.prog c.w) A (oh .Eq x y) Q E s)/\ (Q (.bool (!r)) s->aN (aJ c.prog c.w) A (oh .NotEq x y) Q E s)
noncomputable abbrev InW(c:Cx)(A:bk)(s:aA)(x y:az)(r:Bool):Prop:=∀(Q:VP) (E:VP),
  ((∀k,Q (.bool r) {s with toks:=k})->aN (aJ c.prog c.w) A (oh .In x y) Q E s)/\ ((∀k,Q (.bool (!r)) {s with toks:=k})->aN (aJ c.prog c.w) A (oh .NotIn x y) Q E s)
section
variable(hS:∃o,c.H.get? ly=U o)(af:b9 c ρ O s.heap){r:Bool}
include af
theorem XO{i j:Nat}{a d a' d':ay}{xs ys:LV}(hu:A.units+20<ku)(hi:ρ[i]? =U (a,d))(hj:ρ[j]? =U (a',d'))(e1:listAt O i=U xs)(e2:listAt O j=U ys)(e:allEq eqv xs ys=U r):EqW c A s (.ref a) (.ref a') r:=by
 refine bl λaG=>?_;obtain ⟨_,vs,n,h1,r1,l1⟩:=g8 af hi (eH e1);obtain ⟨_,ws,n2,h2,r2,l2⟩:=g8 af hj (eH e2);obtain ⟨z1,z2,z3⟩:=Es _ _ _ _ e;refine aG ?_;have a1:vs.size=J xs:=r1.length;have a2:ws.size=J ys:=r2.length;have Mm:A.in1.units+8<cLine:=by show A.units+1+8<ku;exact (aak hu (aV rfl))
 have he:=DN (A:=A.in1) (f:=eqv) (λr q e=>(Ml 8 Mm r q e).1) r1 r2 z3;have hb:(cC vs.size).all (ej eqv xs ys)=r:=a1▸z2;have lt:A.units<cLine:=gd (cg _ _) hu;have sz:vs.size=ws.size:=a1.trans (z1.trans a2.symm);have rc:=RcAt.lists (A:=A) l1 l2 sz lt he;have rn:=RcNeAt.lists (A:=A) l1 l2 sz lt he;rw [hb]at rc rn;exact λQ E=>#[λq=>rc _ _ _ _ q,λq=>rn _ _ _ _ q]
include hS
theorem XP{i j:Nat}{a d a' d':ay}{xs ys:SV}(hu:A.units+20<ku)(hi:ρ[i]? =U (a,d))(hj:ρ[j]? =U (a',d'))(e1:dictAt O i=U xs)(e2:dictAt O j=U ys)(hl:J xs=J ys)(e:DM ys xs=U r):EqW c A s (.ref a) (.ref a') r:=by
 refine bl λaG=>?_;obtain ⟨_,f1,ws,h1,r1⟩:=k8 af hi (ie e1);obtain ⟨_,f2,us,h2,r2⟩:=k8 af hj (ie e2);refine aG ?_;have Mm:A.in1.units+8<cLine:=by show A.units+1+8<ku;exact (aak hu (aV rfl))
 have hb:(J ws==(J us)&&r)=r:=by simp only [r1.length,r2.length,hl,beq_self_eq_true,Bool.true_and]
 exact λQ E=>#[λq=>keq_eq (pj af hS f1) (pj af hS f2) h1 h2 (gd (cg _ _) hu) (λG=>(G6 (A:=A.in1) Mm r2 r1 e)) (hb.symm▸q),λq=>keq_ne (pj af hS f1) (pj af hS f2) h1 h2 (gd (cg _ _) hu) (λG=>(G6 (A:=A.in1) Mm r2 r1 e)) (hb.symm▸q)]
theorem aal{a b:V}{x y:az}(hu:A.units+20<ku)(ra:Rep c.H ρ s.heap a x)(rb:Rep c.H ρ s.heap b y)(e:G4 O a b=U r):EqW c A s x y r:=by
 unfold G4 at e;induction ha:dw a using aK with
 |none=>
  rw [ha]at e;induction hb:dw b using aK with
  |some j=>rw [hb]at e;exact nomatch e
  |none=>
   rw [hb]at e;have h:=Ml 8 (A:=A) (by exact (gd (lJ (cg _ _) _) hu)) ra rb e;exact λQ E=>#[λq=>h.2.1 _ _ _ _ q,λq=>h.2.2 _ _ _ _ q]
 |some i=>
  rw [ha]at e;induction hb:dw b using aK with
  |none=>rw [hb]at e;exact nomatch e
  |some j=>
   rw [hb]at e;obtain ⟨p,d,rfl,hi⟩:=(dF ha▸ra).jC;obtain ⟨p',d',rfl,hj⟩:=(dF hb▸rb).jC;replace e:=ite_no e;induction e1:listAt O i using aK with
   |some xs=>
    rw [e1]at e;induction e2:listAt O j using aK with
    |none=>rw [e2]at e;exact nomatch e
    |some ys=>rw [e2]at e;exact XO af hu hi hj e1 e2 e
   |none=>
    rw [e1]at e;induction e1:dictAt O i using aK with
    |none=>rw [e1]at e;exact nomatch e
    |some xs=>
     rw [e1]at e;induction e2:dictAt O j using aK with
     |none=>rw [e2]at e;exact nomatch e
     |some ys=>rw [e2]at e;exact XP hS af hu hi hj e1 e2 (ite_yes e).1 (ite_yes e).2
omit hS
theorem in_list(ra:Rep c.H ρ s.heap a x)(hi:ρ[i]? =U (p,d))(e1:listAt O i=U ys)(e:fw a ys=U r):InW c A s x (.ref p) r:=by
 refine bl λaG=>?_;obtain ⟨_,vs,n,h1,r1,l1⟩:=g8 af hi (eH e1);refine (Et (A:=A.in1) ra r1 e).elim λz1 z2=>?_;refine aG ?_;exact λQ E=>#[λq=>in_listAt (λy=>vEq y x) l1 (λy hy=>z2 y (yn.mpr hy)) ((Ln.symm.trans z1).symm▸q s.toks),λq=>notIn_listAt (λy=>vEq y x) l1 (λy hy=>z2 y (yn.mpr hy)) ((Ln.symm.trans z1).symm▸q s.toks)]
include hS
theorem in_dict(ra:Rep c.H ρ s.heap (.str k) x)(hi:ρ[i]? =U (p,d))(e1:dictAt O i=U kvs):InW c A s x (.ref p) (look k kvs).isSome:=by
 obtain ⟨t,rfl⟩:=ra.zP;refine bl λaG=>?_;refine (k8 af hi (ie e1)).elim λG hq=>hq.elim λf1 hq=>hq.elim λws hq=>hq.elim λh1 r1=>?_;refine aG ?_
 have hk:(pY ws k).isSome=(look k kvs).isSome:=by
  have:=r1.at k;generalize look k kvs=o at this⊢;induction o using aK with
  |none=>rw [this.none_inv];rfl
  |some v=>obtain ⟨w,e3,_⟩:=this.mZ;rw [e3];rfl
 exact λQ E=>#[λq=>wpAny_in_of (by simp [kz,qj]) (pj af hS f1) h1.mapOf (hk.symm▸q _),λq=>wpAny_notIn_of (by simp [kz,qj]) (pj af hS f1) h1.mapOf (hk.symm▸q _)]
theorem aam(ra:Rep c.H ρ s.heap a x)(rb:Rep c.H ρ s.heap b y)(e:Ei O a b=U r):InW c A s x y r:=by
 unfold Ei at e;induction hb:pe b using aK with
 |some ys=>
  rw [hb]at e;obtain ⟨p,vs,rfl,h1,r1⟩:=(qI hb▸rb).tupI;refine (Et (A:=A.in1) ra r1 e).elim λz1 z2=>?_;exact λQ E=>#[λq=>in_tupleAt (λy=>vEq y x) h1 (λy hy=>z2 y (Kp.mp hy)) ((Kq.trans z1).symm▸q s.toks),λq=>notIn_tupleAt (λy=>vEq y x) h1 (λy hy=>z2 y (Kp.mp hy)) ((Kq.trans z1).symm▸q s.toks)]
 |none=>
  rw [hb]at e;induction hb:dw b using aK with
  |none=>simp only [hb]at e;exact nomatch e
  |some i=>
   rw [hb]at e;dsimp only at e;obtain ⟨p,d,rfl,hi⟩:=(dF hb▸rb).jC;induction e1:listAt O i using aK with
   |some ys=>rw [e1]at e;exact in_list af ra hi e1 e
   |none=>
    rw [e1]at e;dsimp only at e;induction e1:dictAt O i using aK with
    |none=>simp only [e1]at e;exact nomatch e
    |some kvs=>
     rw [e1]at e;dsimp only at e;induction ha:nS a using aK with
     |none=>simp only [ha]at e;exact nomatch e
     |some k=>rw [ha]at e;exact bh e▸in_dict hS af (lb ha▸ra) hi e1
end
theorem aiX(ra:Rep c.H ρ s.heap a x)(e:isS a .none=U r):(x== .none)=r:=by
 cases ra with
 |con=>induction x using rZ with
  |ref _=>exact bh e
  |_=>exact nomatch e
 |_=>exact bh e
theorem Eu(ra:Rep c.H ρ s.heap a x)(rb:Rep c.H ρ s.heap b y)(e:FV a b f=U r):∃i j t ag,x= .int i t/\ y= .int j ag/\ f i j=r:=by
 unfold FV at e;induction ha:dE a using aK with
 |none=>simp only [ha]at e;exact nomatch e
 |some i=>
  rw [ha]at e;induction hb:dE b using aK with
  |none=>simp only [hb]at e;exact nomatch e
  |some j=>
   rw [hb]at e;obtain ⟨t,rfl⟩:=(cD ha▸ra).kY;obtain ⟨ag,rfl⟩:=(cD hb▸rb).kY;exact #[i,j,t,ag,rfl,rfl,bh e]
theorem S8(ra:Rep c.H ρ s.heap a x)(rb:Rep c.H ρ s.heap b y)(e:XF a b=U r):y= .none/\ (x== .none)=r:=by
 induction b using V.casesOn with
 |none=>exact #[by cases rb;rfl,aiX ra e]
 |_=>exact nomatch e
theorem XQ(e:o.map (!·)=U r):∃q,o=U q/\ (!q)=r:=by
 rcases o with _|q
 ·exact nomatch e
 ·exact #[q,rfl,bh e]
theorem aeK(hS:∃o,c.H.get? ly=U o)(hu:A.units+20<ku)(af:b9 c ρ O s.heap)(ra:Rep c.H ρ s.heap a x)(rb:Rep c.H ρ s.heap b y)(e:cmp O op a b=U r)
 (fin:∀k,Q (.bool r) {s with toks:=k}):aN (aJ c.prog c.w) A (oh op x y) Q E s:=by
 induction op using Xl with
 |Eq=>exact (aal hS af hu ra rb e _ _).1 (fin s.toks)
 |NotEq=>obtain ⟨q,e2,rfl⟩:=XQ e;exact (aal hS af hu ra rb e2 _ _).2 (fin s.toks)
 |Lt=>obtain ⟨i,j,t,ag,rfl,rfl,rfl⟩:=Eu ra rb e;exact Wr (fin s.toks)
 |LtE=>obtain ⟨i,j,t,ag,rfl,rfl,rfl⟩:=Eu ra rb e;exact Ws (fin s.toks)
 |Gt=>obtain ⟨i,j,t,ag,rfl,rfl,rfl⟩:=Eu ra rb e;exact Wt (fin s.toks)
 |GtE=>obtain ⟨i,j,t,ag,rfl,rfl,rfl⟩:=Eu ra rb e;exact Wu (fin s.toks)
 |Is=>obtain ⟨rfl,rfl⟩:=S8 ra rb e;exact PySem.is_none (fin s.toks)
 |IsNot=>obtain ⟨q,e2,rfl⟩:=XQ e;obtain ⟨rfl,rfl⟩:=S8 ra rb e2;exact PySem.isNot_none (fin s.toks)
 |In=>exact (aam hS af ra rb e _ _).1 fin
 |NotIn=>obtain ⟨q,e2,rfl⟩:=XQ e;exact (aam hS af ra rb e2 _ _).2 fin
theorem aan(hS:∃o,c.H.get? ly=U o)(hu:A.units+20<ku)(af:b9 c ρ O s.heap)(ra:Rep c.H ρ s.heap a x)(rb:Rep c.H ρ s.heap b y):
  W c A Z X ρ (eD O (cmp O op a b)) abA (oh op x y) s:=by
 intro hb;induction e:cmp O op a b using aK with
 |none=>rw [e]at hb;exact (hb rfl).elim
 |some r=>exact aeK hS hu af ra rb e λk=>iZ af rfl
end
end
set_option backward.match.sparseCases true
section
open Sem (wp)
noncomputable def sE:tZ->Bool
 |.builtin id _=>r8.contains id
 |_=>av
noncomputable def Ew(l:List (tZ×bz)):Prop:=∀x∈l,sE x.1=av
theorem Ew.cons(h:sE c=av)(n:Ew l):Ew ((c,p)::l):=λx hx=>by
 rcases eU.mp hx with rfl|hx
 ·exact h
 ·exact n x hx
noncomputable def bw{α:Type}(M:gz)(A:bk)(t:b6 α)(Q:α->aA->Prop)(E:VP)(s:aA):Prop:=
 ∀Γ p,Γ.In A->sE Γ.code=av->Ew Γ.below->wp M Γ t (λa G s'=>Q a s') (λe G s'=>E e s') p s
noncomputable def fG(M:gz)(A:bk)(c:tZ)(R:jt->aA->Prop)(s:aA):Prop:=
 ∀Γ p,Γ.code=c->Γ.Below A->Ew Γ.below->wpCode M Γ R p s
section
variable{α β:Type}{M:gz}{A:bk}{E:VP}{s:aA}
theorem bw.of(h:aN M A t Q E s):bw M A t Q E s:=λΓ p lh G G=>h Γ p lh
theorem bb(h:Q a s):bw M A (pure a) Q E s:=λG G G G G=>h
theorem cB(h:bw M A t Q E s)(hQ:∀a s,Q a s->Q' a s)(hE:∀e s,E e s->E' e s):bw M A t Q' E' s:=
 λΓ p lh h1 h2=>uM M Γ t (λa G s=>hQ a s) (λe G s=>hE e s) p s (h Γ p lh h1 h2)
theorem aw(h:bw M A m (λa s'=>bw M A (f a) Q E s') E s):bw M A (m>>=f) Q E s:=λΓ p lh h1 h2=>by
 simp -iota only [Sem.wp_bind'];exact uM M Γ m (λa p' s' h'=>h' Γ p' lh h1 h2) (λG G G h'=>h') p s (h Γ p lh h1 h2)
theorem cc(h:bw M A m Q E s):bw M A (holding vs m) Q E s:=
 λΓ p lh h1 h2=>by simp -iota only [Sem.wp_holding];exact h Γ p lh h1 h2
theorem ig(h:Q () s):bw M A (lz pos) Q E s:=λG G G G G=>h
theorem jX(h:bw M A m Q (λe s'=>bw M A (k e) (λG eY=>E e eY) E s') s):bw M A (m.onRaise k) Q E s:=λΓ p lh h1 h2=>by
 simp -iota only [Sem.wp_onRaise];exact uM M Γ m (λG G G h'=>h') (λe p' s' h'=>h' Γ p' lh h1 h2) p s (h Γ p lh h1 h2)
theorem v7{m:b6 α}(h:bw M A m (λa=>Q (.ok a)) (λe=>Q (.error e)) s):bw M A m.attempt Q E s:=λΓ p lh h1 h2=>by
 simp -iota only [Sem.wp_attempt];exact h Γ p lh h1 h2
theorem zV(e:t=t')(h:bw M A t' Q E s):bw M A t Q E s:=by rw [e];exact h
theorem jN(h:fG M A c R s)(hR:∀r s,R r s->R' r s):fG M A c R' s:=λΓ p hc lh h2=>wpCode_mono hR (h Γ p hc lh h2)
theorem P4
  (hc:fG M (A.mark h) c (λr s'=>match r with|.ok f=>Q f s'|.error e=>E e s') s) (hnb:h≠U byPass:=by intro x;exact nomatch x):bw M A (run c h) Q E s:=
 λΓ p lh h1 h2=>by simp -iota only [Sem.wp_run];exact hc _ p rfl (lh.enter c h p hnb) (h2.cons h1)
theorem Mn
  (hc:fG M A c (λr s'=>match r with|.ok (.ret v)=>Q v s'|.ok _=>False|.error e=>E e s') s):bw M A (runValue c) Q E s:=
 λΓ p lh h1 h2=>by simp -iota only [Sem.wp_runValue];exact hc _ p rfl (lh.enter c u p (by intro x;cases x)) (h2.cons h1)
theorem sk
  (hc:fG M A (.call f #[pos,kw]) (λr s'=>match r with|.ok (.ret v)=>Q v s'|.ok _=>False|.error e=>E e s') s):bw M A (call f pos kw) Q E s:=Mn hc
theorem eS(hd:sE c=av)
  (h:bw M (A.under c) (M.den c) (λfin s'=>match fin with|.done f=>R (.ok f) s'|.again c'=>c'.quiet=ai/\ fG M A c' R s') (λe s'=>R (.error e) s') s):fG M A c R s:=λΓ p hc lh h2=>by
 rw [wpCode_iff_wp,hc];refine uM M Γ _ (λfin p' s' h'=>?_) (λG G G h'=>h') p s (h Γ p (hc▸lh.in) (by rw [hc];exact hd) h2);induction fin using WW with
 |done f=>exact h'
 |again c'=>exact #[h'.1,h'.2 (Γ.goto c') p' rfl (lh.goto c') h2]
theorem zW{p:Prop} [Decidable p]{a:p->Bool}{b:¬p->Bool}(ha:p->False)(hb:∀h,b h=av):dite p a b=false:=by
 by_cases q:p
 ·exact (ha q).elim
 ·rw [dif_neg q];exact hb q
theorem uR{id s:String}(g:(Code.builtin id a).isGuard=av)(hs:guardIds.contains s=ai)(e:id=s):False:=by
 subst e;exact jq (hs.symm.trans g)
theorem Mo(hg:A.guards=U [])(h:Q av s):bw M A (Wk v) Q E s:=λΓ p lh h1 h2=>by
 have hz:guardsOf ((Γ.code,p)::Γ.below)= []:=by rw [guardsOf_cons];exact lh.2.2.2.1 _ hg
 have key:∀f:tZ×bz->Bool,(∀x∈((Γ.code,p)::Γ.below),f x=av)->Q (((Γ.code,p)::Γ.below).any f) s:=λf hf=>by
  rw [Kr.mpr λx hx=>xf.mp (hf x hx)];exact h
 refine key _ λx hx=>?_
 have g:x.1.isGuard=false:=by
  rcases e:x.1.isGuard with _|_
  ·rfl
  ·
   have hm:x.1∈guardsOf ((Γ.code,p)::Γ.below):=Ks.mpr #[iR.mpr #[x,hx,rfl],e];exact absurd (hz▸hm) iT
 have d:=(h2.cons h1) x hx;clear key hz hx h2 h1 lh;obtain ⟨c,q⟩:=x;cases c with
 |builtin id a=>
  delta Xm
  refine zW (uR g (by decide)) λG=>zW (uR g (by decide)) λG=>zW (uR g (by decide)) λG=>zW (uR g (by decide)) λG=>zW (uR g (by decide)) λG=>?_;obtain ⟨pos,kw⟩:=a;induction pos using bS with
  |nil=>rfl
  |cons w tl=>exact (I (Wl w v&&·) (show r8.contains id=av from d)).trans (xg _)
 |_=>rfl
end
end
set_option backward.match.sparseCases false
section
open PyProof.Rows Builtin
section
variable{c:Cx}{A:bk}{Z X:AP}{ρ:bG}{O:L}{s:aA}
theorem aiY(af:b9 c ρ O s.heap)(r:Rep c.H ρ s.heap (.int i) v):W c A Z X ρ (.ok (V.int (-i)) O) (cI c) (unaryOp .USub v) s:=by
 obtain ⟨t,rfl⟩:=r.kY;exact λG=>Wv (iZ af (.int _ _))
theorem Rep.Rt(r:Rep H ρ h (.bool b) v):v= .bool b:=(r.flI rfl).elim λG e=>e
theorem aiZ(af:b9 c ρ O s.heap)(r:Rep c.H ρ s.heap (.bool b) v):W c A Z X ρ (.ok (V.bool (!b)) O) (cI c) (unaryOp .Not v) s:=by
 rw [r.Rt];exact λG=>Ww (tY (lZ af (.bool _)))
theorem DO(af:b9 c ρ O s.heap)(h:c.H.IsList a vs):s.heap.IsList a vs:=h.imp λG q=>#[af.base _ _ q.1,q.2]
theorem nO(af:b9 c ρ O s.heap){i:Nat}(e:ρ[i]? =U (a,d))(es:O[i]? =U (.bu b)):
  d=a/\ cy ρ a/\ s.heap.get? a=U #[.type "bytearray",u,.bytearray b.toArray 0, #[]]:=#[(af.at es e).1,#[i,a,d,e,.inl rfl],(af.at es e).2]
theorem Mp(af:b9 c ρ O s.heap){i:Nat}(e:ρ[i]? =U (a,d))(es:O[i]? =U (.fW kvs)):
  d=a/\ cy ρ a/\ ∃ws,s.heap.DictOf (intKind c.prog c.w) a ws/\ ec c.H ρ s.heap kvs ws:=#[(af.at es e).1,#[i,a,d,e,.inl rfl],(af.at es e).2]
theorem P5(e:G5 xs i=U x):0<=i/\ i<1099511627776/\ xs[i.toNat]? =U x:=#[(ite_yes e).1.1,(ite_yes e).1.2,(ite_yes e).2]
theorem Rep.Ru(r:Rep H ρ h (.lst xs) v):∃a vs,v= .ref a/\ H.IsList a vs.toArray/\ bJ H ρ h xs vs:=by
 cases r with|lst a b=>exact #[_,_,rfl,a,b]
theorem aeM{i:Int}(h:i<1099511627776):i<2^63:=Int.lt_trans h (by decide)
theorem abE(h0:0<=i)(h:i.toNat<n):seqIndex? i n=U i.toNat:=by
 unfold seqIndex?;simp [rW.mpr h0,h0,(aiS h0 h)]
section
variable{r:V}{i:Int}{t:ix}{xs:LV}{Q:VP}{E:VP}(af:b9 c ρ O s.heap)(fin:∀{v:az} (k:Nat),Rep c.H ρ s.heap r v->Q v {s with toks:=k})
include fin
theorem Mq(l1:s.heap.IsList a vs.toArray)(r1:bJ c.H ρ s.heap xs vs)(e:G5 xs i=U r):aN (aJ c.prog c.w) A (pZ (.ref a) (.int i t)) Q E s:=by
 refine bl λaG=>?_;refine (P5 e).elim λh0 hq=>hq.elim λhz hx=>?_;refine (r1.get hx).elim λv hq=>hq.elim λhv rv=>?_;refine aG ?_;exact Wx l1 h0 (aeM hz) hv (fin s.toks rv)
theorem abF(ro:Rep c.H ρ s.heap (.tup xs) x)(e:G5 xs i=U r):aN (aJ c.prog c.w) A (pZ x (.int i t)) Q E s:=by
 obtain ⟨a,vs,rfl,h1,r1⟩:=ro.tupI;refine bl λaG=>?_;obtain ⟨h0,hz,hx⟩:=P5 e;obtain ⟨v,hv,rv⟩:=r1.get hx;refine aG ?_;refine Wy (j:=i.toNat) (x:=v) h1 (qf (by decide) h0) (aeM hz) (abE h0 ?_) (qe.trans hv) (fin s.toks rv);exact (jj hv).1
include af
theorem Mr{K:Type} [DecidableEq K]{knd:IZ c.prog c.w K}{ws:List (K×az)}{k:K}(hk:knd.is k y=ai)(h1:s.heap.DictOf knd a ws)(r1:gS c.H ρ s.heap o (pY ws k))(e:o=U r):aN (aJ c.prog c.w) A (pZ (.ref a) y) Q E s:=by
 refine bl λaG=>?_;refine ((e▸r1:gS _ _ _ (U r) _).mZ).elim λv hq=>hq.elim λhv rv=>?_;refine aG ?_;exact wpAny_getItem_of hk h1.mapOf hv (fin _ rv)
theorem abG(ro:Rep c.H ρ s.heap (.ref j) x)(ri:Rep c.H ρ s.heap ii y)(e:index O (.ref j) ii=U r):aN (aJ c.prog c.w) A (pZ x y) Q E s:=by
 obtain ⟨a,d,rfl,hj⟩:=ro.jC;unfold index at e;dsimp only [dw]at e;induction e1:listAt O j using aK with
 |some xs=>
  rw [e1]at e;obtain ⟨n,hn,e⟩:=gm e;obtain ⟨t,rfl⟩:=(cD hn▸ri).kY;refine bl λaG=>?_;obtain ⟨_,vs,n',h1,r1,l1⟩:=g8 af hj (eH e1);refine aG ?_;exact Mq fin (vs:=vs.toList) l1 r1 e
 |none=>
  rw [e1]at e;dsimp only at e;induction e1:dictAt O j using aK with
  |some kvs=>
   rw [e1]at e;obtain ⟨k,hn,e⟩:=gm e;obtain ⟨t,rfl⟩:=(lb hn▸ri).zP;refine bl λaG=>?_;obtain ⟨_,f1,ws,h1,r1⟩:=k8 af hj (ie e1);refine aG ?_;exact Mr af fin (k:=k) (by simp [kz,qj]) h1 (r1.at k) e
  |none=>
   rw [e1]at e;refine bl λaG=>?_;obtain ⟨kvs,e1,e⟩:=gm e;obtain ⟨k,hn,e⟩:=gm e;refine aG ?_;obtain ⟨t,rfl⟩:=(cD hn▸ri).kY;refine bl λaG=>?_;obtain ⟨_,f1,ws,h1,r1⟩:=Mp af hj (zT e1);refine aG ?_;exact Mr af fin (k:=k) (by simp [B1,Lb]) h1 (r1.atI k) e
end
theorem abH(af:b9 c ρ O s.heap)(ro:Rep c.H ρ s.heap o x)(ri:Rep c.H ρ s.heap i y):W c A Z X ρ (eD O (index O o i)) (cI c) (pZ x y) s:=by
 refine W.eD λr e=>?_;have fin:∀{v:az} (k:Nat),Rep c.H ρ s.heap r v->hU c Z X ρ s (.ok r O) (cI c) v {s with toks:=k}:=λk h=>iZ af h;induction ho:dw o using aK with
 |some j=>cases dF ho;exact abG af fin ro ri e
 |none=>
  unfold index at e;rw [ho]at e;obtain ⟨n,hn,e⟩:=gm e;obtain ⟨t,rfl⟩:=(cD hn▸ri).kY;induction ho:pe o using aK with
  |some xs=>rw [ho]at e;exact abF fin (qI ho▸ro) e
  |none=>
   rw [ho]at e;dsimp only at e;induction ho:yy o using aK with
   |some xs=>
    rw [ho]at e;obtain ⟨a,vs,rfl,h1,r1⟩:=(yJ ho▸ro).Ru;exact Mq fin (DO af h1) r1 e
   |none=>
    simp only [ho]at e;obtain ⟨b,hb,e⟩:=gm e;obtain ⟨t,rfl⟩:=(gL hb▸ro).sg;obtain ⟨⟨q1,q2⟩,e⟩:=ite_yes e;obtain rfl:=bh e;exact Wh (bt q1 (by decide)) q2.1 q2.2 (fin _ (.int _ _))
theorem Ms:∀{vs:LU} {b:U8},bJ c.H ρ s.heap xs vs->bytesOf xs=U b->∃ns,IntsAre vs ns/\ (∀n∈ns,0<=n/\ n<256)/\ byteArr ns=b.toArray/\ (J b)=J vs:=by
 induction xs with
 |nil=>intro vs b r e;obtain rfl:=bh e;rw [r.yB];exact #[[],.nil,(λn h=>nomatch h),rfl,rfl]
 |cons x xs ih=>
  intro vs b r e;obtain ⟨v,ws,rfl,rx,rs⟩:=r.ph;obtain ⟨i,hi,e⟩:=gm e;refine (ite_yes e).elim λhr e=>?_;obtain ⟨b',e',rfl⟩:=je.mp e;obtain ⟨t,rfl⟩:=(cD hi▸rx).kY;refine bl λaG=>?_;refine (ih rs e').elim λns hq=>hq.elim λh1 hq=>hq.elim λh2 hq=>hq.elim λh3 h4=>?_;refine aG ?_;refine #[i::ns,.cons _ _ h1,λn hn=>(eU.mp hn).elim (λz=>z▸hr) (h2 n),?_,I jv h4];exact I (λl=>(i.toNat.toUInt8::l).toArray) (I Dv h3)
theorem ai0(af:b9 c ρ O s.heap)(ro:Rep c.H ρ s.heap o x)
  (ai1:∀(a:ay) (b:U8) (n:Nat),x= .ref a->s.heap.get? a=U #[.type "bytearray",u,.bytearray b.toArray 0, #[]]->J b<=aR->∀{Q:VP} {E:VP},(∀t k,Q (.int (J b) t) {s with toks:=k})->aN (aJ c.prog c.w) A (call (.builtin "len") [x]) Q E s):
  W c A Z X ρ ((eD O (len O o)).bind λn O=>if n<=aR then .ok (.int n) O else .bad) (cI c) (call (.builtin "len") [x]) s:=by
 rcases e:len O o with _|n
 ·exact W.no
 ·
  refine W.ite λhn G=>?_;have fin:∀(t:ix) (k:Nat),hU c Z X ρ s (.ok (V.int n) O) (cI c) (.int n t) {s with toks:=k}:=λt k=>iZ af (.int _ _);induction o using V.casesOn with
  |tup xs=>
   obtain ⟨a,vs,rfl,h1,r1⟩:=ro.tupI;have l:vs.toArray.size=n:=r1.length.trans (bh e);exact Wz h1 (l▸(qg (lW.mpr hn) (by decide))) (l▸fin _ _)
  |lst xs=>
   obtain ⟨a,vs,rfl,h1,r1⟩:=ro.Ru;have l:vs.toArray.size=n:=r1.length.trans (bh e);exact Lu (DO af h1) (l▸(qg (lW.mpr hn) (by decide))) (l▸fin _ _)
  |bytes b=>
   obtain ⟨t,rfl⟩:=ro.sg;have l:b.toArray.size=n:=bh e;exact Wi (l▸bt hn (by decide)) (l▸fin _ _)
  |ref i=>
   obtain ⟨a,d,rfl,hi⟩:=ro.jC
   replace e:(match listAt O i with
    |some xs=>U (J xs)
    |none=>match fY O i with
     |some b=>U (J b)
     |none=>u)=U n:=e
   induction e1:listAt O i using aK with
   |some xs=>
    rw [e1]at e;refine bl λaG=>?_;refine (g8 af hi (eH e1)).elim λG hq=>hq.elim λvs hq=>hq.elim λn' hq=>hq.elim λh1 hq=>?_;refine aG ?_;have l:vs.size=n:=(hq.1.length:vs.size=J xs).trans (bh e);exact Lu hq.2 (l▸(qg (lW.mpr hn) (by decide))) (l▸fin _ _)
   |none=>
    rw [e1]at e;dsimp only at e;induction e1:fY O i using aK with
    |none=>rw [e1]at e;exact nomatch e
    |some b=>
     rw [e1]at e;obtain rfl:=bh e;exact ai1 a b 0 rfl (nO af hi (gH e1)).2.2 hn fin
  |_=>exact nomatch e
theorem ai2(hh:A.handled=u)(af:b9 c ρ O s.heap)(ra:Rep c.H ρ s.heap (.int a) x)(rb:Rep c.H ρ s.heap (.int b) y):
  W c A Z X ρ (.ok (V.int (max a b)) O) (cI c) (call (.builtin "max") [x,y]) s:=by
 obtain ⟨t,rfl⟩:=ra.kY;obtain ⟨ag,rfl⟩:=rb.kY;refine λG=>max_two_ints hh λh' tk hk=>sj af hk ?_;by_cases h:b>a
 ·rw [au h,KZ (rX h)];exact .int _ _
 ·rw [ax h,Int.max_eq_left (rW.mp h)];exact .int _ _
theorem XR(af:b9 c ρ O s.heap)(rb:Rep c.H ρ s.heap (.int b) y):W c A Z X ρ (.ok (V.ee 0 b) O) (cI c) (call (.type "range") [y]) s:=by
 obtain ⟨t,rfl⟩:=rb.kY;exact λG=>call_range_1 (sj af (λG G e=>c7 _ e) (.ee (LL ..)))
theorem XS(af:b9 c ρ O s.heap)(ra:Rep c.H ρ s.heap (.int a) x)(rb:Rep c.H ρ s.heap (.int b) y):W c A Z X ρ (.ok (V.ee a b) O) (cI c) (call (.type "range") [x,y]) s:=by
 obtain ⟨t,rfl⟩:=ra.kY;obtain ⟨ag,rfl⟩:=rb.kY;exact λG=>call_range_2 (sj af (λG G e=>c7 _ e) (.ee (LL ..)))
theorem abI(af:b9 c ρ O s.heap)(r:Rep c.H ρ s.heap (.ref i) x)(e:O[i]? =U (.list xs))(hz:J xs<=aR):W c A Z X ρ (.ok (V.tup xs) O) (cI c) (call (.type "tuple") [x]) s:=by
 obtain ⟨a,d,rfl,hi⟩:=r.jC;refine bl λaG=>?_;refine (g8 af hi e).elim λG hq=>hq.elim λvs hq=>hq.elim λn' hq=>hq.elim λh1 hq=>?_;have r1:=hq.1;refine aG ?_;have l:vs.size=J xs:=r1.length;refine λG=>call_tuple_list hq.2 (λh' hk=>?_) (l▸bt hz (by decide));have tf:∀b o,s.heap.get? b=U o->(h'.push {cls:=.type "tuple",data:=.seq vs}).get? b=U o:=λb o q=>c7 _ (hk b o q);exact sj af tf (.tup #[_,iX _ rfl,rfl,0,rfl] (r1.mono (cG.more (Z:=bj) (X:=bj) tf)))
theorem XT(hh:A.handled=u)(af:b9 c ρ O s.heap)(r:Rep c.H ρ s.heap (.ref i) x)(e:O[i]? =U (.list xs))(eb:bytesOf xs=U b)(hz:J b<=aR):
  W c A Z X ρ (.ok (V.bytes b) O) (cI c) (call (.type "bytes") [x]) s:=by
 obtain ⟨a,d,rfl,hi⟩:=r.jC;refine bl λaG=>?_;obtain ⟨_,vs,n',h1,r1,l1⟩:=g8 af hi e;refine (Ms r1 eb).elim λns hq=>hq.elim λq1 hq=>hq.elim λq2 hq=>hq.elim λq3 q4=>?_;refine aG ?_;refine λG=>call_bytes_ints l1 q1 q2 (bt (q4▸hz:J vs.toList<=aR) (by decide)) hh λh' t k hk=>?_;simp only [q3];exact sj af hk (.bytes _ _)
end
end
section
open PyProof.Rows Builtin
section
variable{c:Cx}{A:bk}{Z X:AP}{ρ:bG}{O:L}{s:aA}
theorem ec.aeN{K:Type} [DecidableEq K]{k:K}(hv:Rep H ρ h v w):∀{kvs:List (K×V)} {ws:List (K×az)},ec H ρ h kvs ws->
  ec H ρ h (kvs.map λkv=>if kv.1=k then(kv.1,v)else kv) (ws.map λkv=>if kv.1=k then(kv.1,w)else kv):=by
 intro kvs;induction kvs with
 |nil=>intro ws r;simp only [r.nil_inv];exact .nil
 |cons p kvs ih=>
  obtain ⟨k',v'⟩:=p;intro ws r;obtain ⟨w',r',rfl,h1,h2⟩:=r.cons_inv;simp only [iU];by_cases e:k'=k
  ·simp only [e,if_true];exact .cons hv (ih h2)
  ·simp only [e,if_false];exact .cons h1 (ih h2)
theorem ec.put{K:Type} [DecidableEq K]{k:K}(hv:Rep H ρ h v w){kvs:List (K×V)}{ws:List (K×az)}(r:ec H ρ h kvs ws):ec H ρ h (put k v kvs) (xk ws k w):=by
 have alJ:ws.any (λkv=>kv.1=k)=kvs.any (λkv=>kv.1=k):=by
  have:=I (λl:List K=>l.any λx=>decide (x=k)) r.1
  simpa [Kt,Xn]using this.symm
 unfold Mine.Internal.put xk;rw [alJ]
 split
 ·exact r.aeN hv
 ·refine #[by simp [r.1],?_]
  simp only [oB,iU,CP];exact r.2.append (.cons hv .nil)
theorem ec.putAll:∀{more:SV} {us:List (aF×az)} {kvs:SV} {ws:List (aF×az)},ec H ρ h kvs ws->ec H ρ h more us->ec H ρ h (putAll kvs more) (B2 ws us)
 | [],_,kvs,ws,r,q=>by rw [q.nil_inv];exact r
 |(k,v)::more,_,kvs,ws,r,q=>by
  obtain ⟨w',r',rfl,h1,h2⟩:=q.cons_inv;have:=ec.putAll (ec.put (k:=k) h1 r) h2;exact this
theorem FX{α β:Type}{R:bG->aQ->α->β->Prop}{m:MO}{h':aQ}{k:Nat}{i:Nat}{a d b:ay}{x:α}{v:β}(af:b9 c ρ O s.heap)(e:ρ[i]? =U (a,d))(hb:b=a \/b=d)(hs:iW b s.heap h')
  (alive:∃o',h'.get? b=U o') (r:cG bj bj ρ s.heap ρ h'->jD c.prog c.w c.H ρ h' a d m) (rr:R ρ h' x v):
  hU c Z X ρ s (.ok x (O.set i m)) R v {s with heap:=h',toks:=k}:=by
 refine bl λaG=>?_;refine (af.turn e hb hs alive r).elim λI' st=>?_;refine aG ?_;exact #[x,O.set i m,ρ,rfl,#[(st.weak λG x=>x.elim).mX λG G G x=>x.elim,I',rfl,rfl],rr]
theorem XU{i:Nat}{a d:ay}{xs:LV}{v:V}{x:az}(af:b9 c ρ O s.heap)(hi:ρ[i]? =U (a,d))(e:O[i]? =U (.list xs))(rv:Rep c.H ρ s.heap v x)(hz:J xs<=aR):
  W c A Z X ρ (.ok V.none (O.set i (.list (xs++ [v])))) (cI c) (call (.builtin "list.append") [.ref a,x]) s:=λG=>by
 refine bl λaG=>?_;refine (g8 af hi e).elim λhd hq=>hq.elim λvs hq=>hq.elim λn hq=>hq.elim λh1 hq=>?_;have r1:=hq.1;refine aG ?_;have l:=r1.length;simp only [Dw]at l;refine B0 Lv hq.2.typeIs WE (WG _ _) (Xp a vs n x (by unfold aR at hz;simp only [lA];exact (aah l (bt hz (aV rfl))))) #[h1,?_];refine FX af hi (.inl rfl) (qk ..) #[_,(mS (Le λx_1=>x_1.push x) h1 rfl)] (λst=>#[hd,vs.push x,_,(mS (Le λx_1=>x_1.push x) h1 rfl),?_]) .none;simp only [Array.toList_push];exact (r1.mono st).append (.cons (rv.mono st) .nil)
theorem aeP{i:Nat}(hS:∃o,c.H.get? ly=U o)(af:b9 c ρ O s.heap)(hi:ρ[i]? =U (a,d))(e:O[i]? =U (.dict kvs))(rd:Rep c.H ρ s.heap dv dx):
  W c A Z X ρ (.ok ((look k kvs).getD dv) O) (cI c) (call (.builtin "dict.get") [.ref a,.str k t,dx]) s:=λG=>by
 refine bl λaG=>?_;refine (k8 af hi e).elim λhd hq=>hq.elim λf1 hq=>hq.elim λws hq=>hq.elim λh1 r1=>?_;refine aG ?_;have:=r1.at k;refine B3 Dz h1.typeIs Lw (WH _ _ _) (meets_dict_get_default (kz c.prog c.w) a (k:=k) (by simp [kz,qj]) (pj af hS f1) dx) #[_,h1.mapOf,?_];refine iZ af ?_;induction e2:look k kvs using aK with
 |none=>rw [e2]at this;rw [this.none_inv];exact rd
 |some v=>rw [e2]at this;obtain ⟨w,e3,g9⟩:=this.mZ;rw [e3];exact g9
theorem aeQ{i:Nat}(hS:∃o,c.H.get? ly=U o)(af:b9 c ρ O s.heap)(hi:ρ[i]? =U (a,d))(e:O[i]? =U (.dict kvs)):
  W c A Z X ρ (.ok ((look k kvs).getD .none) O) (cI c) (call (.builtin "dict.get") [.ref a,.str k t]) s:=λG=>by
 refine bl λaG=>?_;refine (k8 af hi e).elim λhd hq=>hq.elim λf1 hq=>hq.elim λws hq=>hq.elim λh1 r1=>?_;refine aG ?_;have:=r1.at k;refine B3 Dz h1.typeIs Lw (WI _ _) (meets_dict_get (kz c.prog c.w) a (k:=k) (by simp [kz,qj]) (pj af hS f1)) #[_,h1.mapOf,?_];refine iZ af ?_;induction e2:look k kvs using aK with
 |none=>rw [e2]at this;rw [this.none_inv];exact .none
 |some v=>rw [e2]at this;obtain ⟨w,e3,g9⟩:=this.mZ;rw [e3];exact g9
theorem DictOf.fwd{K:Type} [DecidableEq K]{knd:IZ c.prog c.w K}{h:aQ}{ws:List (K×az)}(h1:h.DictOf knd a ws):∃o,h.get? a=U o:=by
 obtain ⟨o,es,ep,q,_⟩:=h1;exact #[o,q]
theorem XW{i:Nat}{kvs more:SV}(hS:∃o,c.H.get? ly=U o)(af:b9 c ρ O s.heap)(hi:ρ[i]? =U (a,d))(e:O[i]? =U (.dict kvs))(hj:ρ[j]? =U (a',d'))(e':O[j]? =U (.dict more))(hij:i≠j)
  (hz:J kvs+J more<=1000):W c A Z X ρ (.ok V.none (O.set i (.dict (putAll kvs more)))) (cI c) (call (.builtin "dict.update") [.ref a,.ref a']) s:=λG=>by
 refine bl λaG=>?_;refine (k8 af hi e).elim λhd hq=>hq.elim λf1 hq=>hq.elim λws hq=>hq.elim λh1 r1=>?_;refine (k8 af hj e').elim λsJ hq=>hq.elim λf2 hq=>hq.elim λus hq=>hq.elim λh2 r2=>?_;refine aG ?_
 refine B3 Lx h1.typeIs WJ (WK _ _) (meets_dict_update (kz c.prog c.w) a a' ((af.apart i j _ _ _ _ hij hi hj).1) (pj af hS f2))
  #[ws,us,h1,h2,by simp only [r1.length,r2.length,lA];exact (bt hz (aV rfl)),λh' q1 q2 hs=>?_]
 exact FX af hi (.inl rfl) hs (DictOf.fwd q1) (λst=>#[hd,_,q1,(r1.mono st).putAll (r2.mono st)]) .none
theorem S9{kvs:SV}{x:az}(af:b9 c ρ O s.heap)(hj:ρ[j]? =U (a,d))(e:O[j]? =U (.dict kvs))(rv:Rep c.H ρ s.heap v x)(hz:J kvs<=1000):
  W c A Z X ρ (.ok () (O.set j (.dict (put k v kvs)))) (λG G G G=>True) (rm (.ref a) (.str k t) x) s:=λG=>by
 refine bl λaG=>?_;refine (k8 af hj e).elim λhd hq=>hq.elim λf1 hq=>hq.elim λws hq=>hq.elim λh1 r1=>?_;refine aG ?_;refine wpAny_setItem_pairs (k:=k) (by simp [kz,qj]) h1 (λh' q1 hs=>?_) (by simp only [r1.length,lA];exact (bt hz (aV rfl)));exact FX af hj (.inl rfl) hs (DictOf.fwd q1) (λst=>#[hd,_,q1,ec.put (rv.mono st) (r1.mono st)]) trivial
end
end
section
open PyProof.Rows Builtin
structure alK where
 nm:aF
 q:aF
 N:ay
 bs:LU
 sn:LR
 sub:LU
 ab:Bool
 col:Option Bool
 dd:OA
 k0:OV
 k1:OV
 k2:OV
 k3:OV
 k5:OV
 newId:String
 mN:aF->OV
structure ClsAt(c:Cx)(C:ay)(d:S2)(x:alK):Prop where
 q1:c.H.get? C=U (B4 x.nm x.q C x.N x.bs [.type "object"] ai x.sn x.sub x.ab x.col x.dd x.k0 x.k1 x.k2 x.k3 x.k5 x.newId)
 q2:c.H.Ns x.N x.mN
 q3:x.mN "__getattribute__" =u
 q4:x.mN "__getattr__" =u
 q5:x.mN "__setattr__" =u
 q6:∀a,d.attrs.contains a=ai->x.mN a=u/\ d9 (.type "object") a=pure u
 q7:∀m f,d.meths.lookup m=U f->x.mN m=U (.ref f)/\ (∃o,c.H.get? f=U o/\ o.cls= .type "function")/\ ∃y,d9 (.type "object") m=pure y
structure Iw(c:Cx)(C:ay)(d:S2):Prop where
 obj:∃x,ClsAt c C d x
 makes:Makes (aJ c.prog c.w) c.H C
 init:dM (aJ c.prog c.w) c.H (d9 (.ref C) "__init__") (U (.ref d.init))
 bind:∀self,dM (aJ c.prog c.w) c.H (t4 (.ref d.init) self) (.ref d.init,[self])
section
variable{c:Cx}{A:bk}{Z X:AP}{ρ:bG}{O:L}{s:aA}{P:fF}
structure InstAt(c:Cx)(ρ:bG)(h:aQ)(a d C:ay)(kvs:SV)(m:aF->OV):Prop where
 inst:h.Inst a C m
 rep:∀x,gS c.H ρ h (look x kvs) (m x)
 ne:a≠d
 at_:h.get? a=U (jz C d)
 ns:h.Ns1 d m
theorem FY(af:b9 c ρ O s.heap){i:Nat}(e:ρ[i]? =U (a,d))(es:O[i]? =U (.inst C kvs)):∃m,InstAt c ρ s.heap a d C kvs m:=by
 have h:=af.at es e;exact h.2.2.imp λm q=>#[#[_,h.2.1,rfl,(λG x=>(nomatch x)),.inr #[d,rfl,(λz=>h.1 z.symm),q.1]],q.2,h.1,h.2.1,q.1]
theorem Inv.ns(af:b9 c ρ O s.heap)(q:c.H.Ns N m):s.heap.Ns N m:=by
 refine bl λaG=>?_;refine q.elim λo hq=>hq.elim λes hq=>hq.elim λep hq=>hq.elim λz z'=>?_;refine aG ?_;exact #[o,es,ep,af.base _ _ z,z']
theorem Ex(e:aaa o=U r):o=U r/\ ∀v,r≠ .con v:=by
 rcases o with _|x
 ·exact nomatch e
 ·induction x using V.casesOn with
   |con v=>exact nomatch e
   |_=>exact #[e,λv z=>nomatch(bh e).trans z]
theorem handed(rv:Rep H ρ h r v)(hr:∀v,r≠ .con v):B5 v=pure v:=by
 cases rv with
 |con v=>exact absurd rfl (hr v)
 |_=>rfl
theorem aeR(hP:∀C d,P.cls C=U d->Iw c C d)(af:b9 c ρ O s.heap)(ro:Rep c.H ρ s.heap o x):W c A Z X ρ (eD O (Rd P o a O)) (cI c) (B6 x a ai) s:=by
 refine W.eD λr e=>?_;refine bl λaG=>?_;refine (gm e).elim λj hq=>hq.elim λhj e=>?_;refine (gm e).elim λy hq=>hq.elim λe1 e=>?_;refine (gm e).elim λdd hq=>hq.elim λhd e=>?_;refine aG ?_;obtain ⟨p,d,rfl,hj⟩:=(dF hj▸ro).jC;refine bl λaG=>?_;obtain ⟨m,i⟩:=FY af hj (v5 e1);obtain ⟨ag,q⟩:=(hP _ _ hd).obj;obtain ⟨v,hv,rv⟩:=((Ex (ite_yes e).2).1▸i.rep a:gS _ _ _ (U r) _).mZ;have fin:∀k,hU c Z X ρ s (.ok r O) (cI c) v {s with toks:=k}:=λk=>iZ af rv;obtain ⟨hh,g,d,t,os⟩:=s;refine aG ?_;exact load_attr (af.base _ _ q.q1) (af.ns q.q2) q.q3 (q.q6 a (ite_yes e).1).1 (q.q6 a (ite_yes e).1).2 i.inst hv (handed rv (Ex (ite_yes e).2).2) (fin _)
theorem XX(kvs:SV):(kvs.any λkv=>kv.1=k)=ai->look y (kvs.map λkv=>if kv.1=k then(kv.1,v)else kv)=if y=k then U v else look y kvs:=by
 induction kvs with
 |nil=>intro h;exact nomatch h
 |cons p r ih=>
  intro h;show look y ((if p.1=k then(p.1,v)else p)::_)=_
  by_cases e:p.1=k
  ·rw [au e]
   show(if p.1=y then U v else look y _)=_
   by_cases e2:p.1=y
   ·rw [au e2,au (e2.symm.trans e)]
   ·rw [ax e2,ax λz=>e2 (e.trans z.symm)]
    show _=(if p.1=y then U p.2 else look y r)
    rw [ax e2];clear ih h;induction r with
    |nil=>rfl
    |cons q r ih=>
     show look y ((if q.1=k then(q.1,v)else q)::_)=_
     by_cases f:q.1=k
     ·rw [au f]
      show(if q.1=y then U v else look y _)=(if q.1=y then U q.2 else look y r)
      rw [ax (λz=>e2 ((e.trans f.symm).trans z)),ax (λz=>e2 ((e.trans f.symm).trans z)),ih]
     ·rw [ax f]
      show(if q.1=y then U q.2 else look y _)=(if q.1=y then U q.2 else look y r)
      rw [ih]
  ·rw [ax e]
   have h2:(r.any λkv=>kv.1=k)=true:=by
    simp only [rQ,decide_eq_false e,Bool.false_or]at h;exact h
   show(if p.1=y then U p.2 else look y _)=(if y=k then U v else if p.1=y then U p.2 else look y r)
   by_cases e2:p.1=y
   ·rw [au e2,au e2,ax λz=>e (e2.trans z)]
   ·rw [ax e2,ax e2];exact ih h2
theorem Ey(kvs:SV):(kvs.any λkv=>kv.1=k)=av->look y (kvs++ [(k,v)])=if y=k then U v else look y kvs:=by
 induction kvs with
 |nil=>
  intro _;show(if k=y then U v else u)=(if y=k then U v else u)
  by_cases e:k=y
  ·rw [au e,au e.symm]
  ·rw [ax e,ax (bP e)]
 |cons p r ih=>
  intro h;simp only [rQ,IU]at h;show(if p.1=y then U p.2 else look y (r++_))=(if y=k then U v else if p.1=y then U p.2 else look y r)
  by_cases e2:p.1=y
  ·rw [au e2,au e2,ax λz=>of_decide_eq_false h.1 (e2.trans z)]
  ·rw [ax e2,ax e2];exact ih h.2
theorem Ta(kvs:SV):look y (put k v kvs)=if y=k then U v else look y kvs:=by
 unfold put;by_cases h:(kvs.any λkv=>kv.1=k)=ai
 ·rw [au h];exact XX kvs h
 ·rw [ax h];exact Ey kvs (Bool.not_eq_true _▸h)
theorem XY:look y kvs=U v->y∈kvs.map (·.1):=by
 induction kvs with
 |nil=>intro e;exact nomatch e
 |cons p r ih=>
  intro e;replace e:(if p.1=y then U p.2 else look y r)=U v:=e;by_cases z:p.1=y
  ·exact z▸cY
  ·rw [ax z]at e;exact cZ _ (ih e)
theorem Tb(z2:FZ.cls=(jz C d).cls)(z3:FZ.data=(jz C d).data)(z4:FZ.slots=(jz C d).slots)(z5:FZ.dict=U d):FZ=jz C d:=by
 obtain ⟨oc,od,oda,osl⟩:=FZ;obtain rfl:=z2;obtain rfl:=z3;obtain rfl:=z4;obtain rfl:=z5;rfl
theorem aeS(hP:∀C d,P.cls C=U d->Iw c C d)(af:b9 c ρ O s.heap)(ro:Rep c.H ρ s.heap o x)(rv:Rep c.H ρ s.heap v y):
  W c A Z X ρ (qX (XG P o a v O)) (λG G G G=>True) (xl x a y) s:=by
 refine W.qX λaZ e=>?_;obtain ⟨j,hj,e⟩:=gm e;obtain ⟨⟨C,kvs⟩,e1,e⟩:=gm e;obtain ⟨dd,hd,e⟩:=gm e;obtain ⟨a',d,rfl,hj⟩:=(dF hj▸ro).jC;obtain ⟨m,i⟩:=FY af hj (v5 e1);refine ((hP _ _ hd).obj).elim λag q=>?_;rw [←(bh (ite_yes e).2)];have b:=q.q6 a ((ite_yes e).1).1;obtain ⟨hh,g,dr,t,os⟩:=s;have hxC:a'≠C:=λz=>nn (af.fresh a' #[j,a',d,hj,.inl rfl]) (z▸q.q1)
 have hw:Within m (kvs.map (·.1)):=λy hy=>by
  have h:=i.rep y;induction z:look y kvs using aK with
  |none=>rw [z]at h;exact absurd h.none_inv hy
  |some v=>exact XY z
 have hl:J (kvs.map (·.1))<=sizeLine:=by rw [cQ];exact bt ((ite_yes e).1).2 (by decide)
 refine store_attr Ly (af.base _ _ q.q1) (af.ns q.q2) q.q5 b.1 b.2 hxC i.inst (λh' tk' I' hk ai3=>?_) hw hl;refine bl λaG=>?_;refine (ai3 _ i.at_).elim λFZ hq=>hq.elim λz1 hq=>?_;have ho1:h'.get? a'=U (jz C d):=z1.trans (I U (Tb hq.1 hq.2.1 hq.2.2.1 (hq.2.2.2 d rfl)))
 have tf:∀b o,b≠d->hh.get? b=U o->h'.get? b=U o:=λb o nb hb=>by
  by_cases z:b=a'
  ·exact z▸ho1.trans (i.at_.symm.trans (z▸hb))
  ·exact hk b o z (λaoB dx e1 e2 z=>nb (z.trans (bh (e2.symm.trans (I Obj.dict (ss e1 i.at_)))))) hb
 obtain ⟨o',q1',q2',q3',q4'⟩:=I'
 have aeU:h'.Ns1 d (λy_1=>if y_1=a then U y else m y_1):=by
  have ho:=ss ho1 q1';subst ho;rcases q4' with⟨z,_⟩|⟨d',z,_,z'⟩
  ·exact nomatch z
  ·exact bh z▸z'
 have hr:∀st:cG bj bj ρ hh ρ h',∀z,gS c.H ρ h' (look z (put a v kvs)) (if z=a then U y else m z):=λst z=>by
  rw [Ta];by_cases e2:z=a
  ·rw [au e2,au e2];exact rv.mono st
  ·rw [ax e2,ax e2];exact (i.rep z).mono st
 refine (af.Io (m':=.inst C (put a v kvs)) hj (.inr rfl) tf (aeU.imp λo z=>z.elim λG z=>z.elim λG z=>z.1) (λst=>#[i.ne,ho1,_,aeU,hr st])).elim λI2 st=>?_;refine aG ?_;exact #[(),_,ρ,rfl,#[(st.weak λG x=>x.elim).mX λG G G x=>x.elim,I2,rfl,rfl],tv]
end
end
section
open PyProof.Rows Builtin
inductive fA{α:Type}(F:OA)(c:Cx)(Z X:AP)(ρ:bG)(s:aA)(r:Res α)(e:az)(s':aA):Prop
 |mk (y:V) (aZ:L) (aS:bG):r= .exc y aZ->b7 c Z X ρ s aS aZ s'->gZ (KF F) c.C c.H aS s.heap s'.heap y e->fA F c Z X ρ s r e s'
theorem fA.elim{α:Type}{F:OA}{c:Cx}{Z X:AP}{ρ:bG}{s:aA}{r:Res α}{e:az}{s':aA}{aoU:Prop}(q:fA F c Z X ρ s r e s')(k:∀y aZ aS,r= .exc y aZ->b7 c Z X ρ s aS aZ s'->gZ (KF F) c.C c.H aS s.heap s'.heap y e->aoU):aoU:=by cases q with|mk a aZ aS e p f=>exact k a aZ aS e p f
theorem fA.okE{F:OA}{s:aA}{e:az}{s':aA}{aoU:Prop}(q:fA F c Z X ρ s (.ok a O) e s'):aoU:=q.elim λG G G h G G=>nomatch h
noncomputable def WX{α β:Type}(F:OA)(c:Cx)(A:bk)(Z X:AP)(ρ:bG)(r:Res α)(R:bG->aQ->α->β->Prop)(t:b6 β)(s:aA):Prop:=
 r≠ .bad->bw (aJ c.prog c.w) A t (hU c Z X ρ s r R) (fA F c Z X ρ s r) s
section
variable{α β γ δ:Type}{F:OA}{c:Cx}{A:bk}{Z X:AP}{ρ:bG}{s:aA}
theorem W.x(h:W c A Z X ρ r R t s):WX F c A Z X ρ r R t s:=λhb=>
 cB (bw.of (h hb)) (λG G q=>q) λe s' q=>q.elim λy aZ aS a b d=>#[y,aZ,aS,a,b,d.weak λG x=>.inl x]
theorem fA.trans{aS aZ s'}{r:Res α}(p:b7 c Z X ρ s aS aZ s'){e:az}{eY:aA}(q:fA F c Z X aS s' r e eY):fA F c Z X ρ s r e eY:=q.elim λy hZ kX e1 p2 f=>#[y,hZ,kX,e1,p.trans p2,f.back p.cq.alive]
theorem fA.weak{Y:AP}{r:Res α}{e:az}{eY:aA}(q:fA F c Z X ρ s r e eY)(xy:∀b,X b->Y b):fA F c Z Y ρ s r e eY:=q.elim λy hZ kX e1 p2 f=>#[y,hZ,kX,e1,p2.weak xy,f]
theorem fA.Rv(q:fA u c Z X ρ s r e eY):fA F' c Z X ρ s r e eY:=q.elim λy hZ kX e1 p2 f=>#[y,hZ,kX,e1,p2,f.weak λk q=>q.imp id (λ#[f,a,_]=>nomatch a)]
theorem fA.bind{r:Res α}{f:α->L->Res γ}{e:az}{s':aA}(q:fA F c Z X ρ s r e s'):fA F c Z X ρ s (r.bind f) e s':=q.elim λy hZ kX e1 p2 f'=>#[y,hZ,kX,by rw [e1];rfl,p2,f']
theorem WX.bind(h:WX F c A Z X ρ r R t s)
  (g:∀a aZ b s' aS,r= .ok a aZ->b7 c Z X ρ s aS aZ s'->R aS s'.heap a b->WX F c A Z X aS (f a aZ) R' (k b) s'):WX F c A Z X ρ (r.bind f) R' (t>>=k) s:=λhb=>by
 refine aw (cB (h (jE hb)) (λb s' q=>q.elim λa aZ aS e1 p1 r1=>?_) λG G q=>q.bind);have:=g a aZ b s' aS e1 p1 r1 (iD (f:=f) e1▸hb);rw [(iD e1)];exact cB this (λG G q=>hU.trans p1 q) λG G q=>fA.trans p1 q
theorem pJ{ε:Type}{m:Res α}{g:γ->L->Res ε}:(m.bind λa O=>(f a O).bind g)=(m.bind f).bind g:=by rcases m<;>rfl
theorem WX.pure(af:b9 c ρ O s.heap)(h:R ρ s.heap a b):WX F c A Z X ρ (.ok a O) R (pure b) s:=λG=>
 bb #[a,O,ρ,rfl,jV.refl af,h]
theorem hU.map{α β β':Type}{c:Cx}{Z X:AP}{ρ:bG}{s s':aA}{r:Res α}{R:bG->aQ->α->β->Prop}{R':bG->aQ->α->β'->Prop}{b:β}{b':β'}(q:hU c Z X ρ s r R b s')(k:∀ρ a,R ρ s'.heap a b->R' ρ s'.heap a b'):hU c Z X ρ s r R' b' s':=
 q.elim λG G G a b r=>#[_,_,_,a,b,k _ _ r]
theorem WX.bad(e:r= .bad):WX F c A Z X ρ r R t s:=λhb=>(hb e).elim
theorem WX.no:WX F c A Z X ρ .bad R t s:=λhb=>(hb rfl).elim
theorem WX.opt(h:∀a,o=U a->WX F c A Z X ρ (f a) R t s):WX F c A Z X ρ (dN o f) R t s:=by
 rcases o with _|a
 ·exact WX.no
 ·exact h a rfl
theorem WX.ite{p:Prop} [Decidable p]{r:Res α}{R:bG->aQ->α->β->Prop}{t:b6 β}(h:p->WX F c A Z X ρ r R t s):WX F c A Z X ρ (if p then r else .bad) R t s:=by
 by_cases q:p
 ·rw [au q];exact h q
 ·rw [ax q];exact WX.no
theorem WX.Mt{p:Prop} [Decidable p](h:¬p->WX F c A Z X ρ r R t s):WX F c A Z X ρ (if p then .bad else r) R t s:=by
 by_cases q:p
 ·rw [au q];exact WX.no
 ·rw [ax q];exact h q
theorem WX.holding(h:WX F c A Z X ρ r R t s):WX F c A Z X ρ r R (holding vs t) s:=λhb=>cc (h hb)
theorem WX.fH(h:WX F c A Z X ρ r R (t ()) s):WX F c A Z X ρ r R (lz p>>=t) s:=λhb=>aw (ig (h hb))
theorem WX.of_eq(e:t=t')(h:WX F c A Z X ρ r R t' s):WX F c A Z X ρ r R t s:=e▸h
theorem F5{G7:Prop} [Decidable G7](h1:G7->bw M A a Q E s)(h2:¬G7->bw M A b Q E s):bw M A (if G7 then a else b) Q E s:=by
 by_cases q:G7
 ·rw [au q];exact h1 q
 ·rw [ax q];exact h2 q
theorem qo(h:Q () s):bw M A (rule tag) Q E s:=λG G G G G=>h
theorem zX(h:Q () s):bw M A point Q E s:=λG G G G G=>h
theorem Bz(h:bw M A m Q E s):bw M A (operate vs m) Q E s:=λΓ p lh h1 h2=>by
 simp only [Sem.wp_operate];exact h Γ p lh h1 h2
theorem Px(h:Q () s):bw M A (release vs keep) Q E s:=bw.of (I0 h)
theorem WX.rel{vs keep:LU}{r:Res α}{R:bG->aQ->α->β->Prop}{t:b6 β}(h:WX F c A Z X ρ r R t s):WX F c A Z X ρ r (λG G G G=>True) (t>>=λG=>PySem.release vs keep) s:=λhb=>
 aw (cB (h hb) (λG G q=>Px (q.map λG G G=>trivial)) λG G q=>q)
theorem WX.operate(h:WX F c A Z X ρ r R t s):WX F c A Z X ρ r R (operate vs t) s:=λhb=>Bz (h hb)
end
structure FnAt(c:Cx)(a:ay)(d:la)(o:fh)(fd:oi):Prop where
 at_:c.H.get? a=U o
 data:o.data= .func fd
 Tc:fd.closure= []
 glo:fd.globals=ew
 blt:fd.builtins=jr
 Td:fd.scope=d.scope
 body:fd.body= .stmts d.body
 code:c.H.CodeRec fd.code fd.qualname
 kind:fd.scope.kind= .function
 cor:fd.scope.isCoroutine=av
 gen:fd.scope.isGenerator=av
 pos:fd.params.posonlyargs= []
 var:fd.params.vararg=u
 kwo:fd.params.kwonlyargs= []
 kwa:fd.params.kwarg=u
 args:fd.params.args.map (·.arg)=d.params
 dist:distinct d.params=ai
 dflt:(d.dflt= []/\ fd.defaults= .none) \/∃(T:ay) (vs:LU) (n:Nat) (oT:fh),fd.defaults= .ref T/\ c.H.get? T=U oT/\ oT.data= .seq vs.toArray n/\ bJ c.H [] c.H d.dflt vs
 kwd:fd.kwdefaults= .none
structure aeZ(c:Cx)(a:ay)(d:la):Prop where
 ex:∃(o:fh) (fd:oi),FnAt c a d o fd
 kinds:∀x∈d.params,d.scope.names.lookup x=U .local \/d.scope.names.lookup x=U .cell
 once:distinct (d.scope.names.map (·.1))=ai
structure fX(c:Cx)(P:fF):Prop where
 sys:∃o,c.H.get? ly=U o
 cls:∀C d,P.cls C=U d->Iw c C d
 fn:∀a d,P.fn a=U d->aeZ c a d
 Rw:c.H.NoLimit
 glob:∃mg mb,c.H.Ns ew mg/\ c.H.Ns jr mb/\ ∀x v,P.glob x=U v->∃ag,v= .con ag/\ (mg x=U ag \/(mg x=u/\ mb x=U ag))
theorem A7{c:Cx}(af:b9 c ρ O h)(N:c.H.Ns a m):h.Ns a m:=N.imp λG x=>x.imp λG x=>x.imp λG x=>#[af.base _ _ x.1,x.2]
structure cz(c:Cx)(n:Nat)(A:bk)(aL:List aU)(env:aU)(ρ:bG)(O:L)(l:Loc)(s:aA):Prop where
 inv:b9 c ρ O s.heap
 fr:gT c.H ρ s.heap env l
 fs:∀e∈aL,eB c.H ρ s.heap e
 a:td n A aL
theorem cz.on{c n A aL env ρ O l s aS aZ s'}(E:cz c n A aL env ρ O l s)(p:b7 c (bq aL) bj ρ s aS aZ s'):cz c n A aL env aS aZ l s':=
 #[p.inv,E.fr.on p.cq,λe he=>(E.fs e he).on p.cq,E.a]
theorem td.le{n m A l}(h:td n A l)(k:m<=n):td m A l:=#[h.frames,h.handled,gd (kG k _) h.depth,gd (lJ (kG (mL 40 k) _) 100) h.units,h.guards]
noncomputable def SE(c:Cx)(n:Nat)(r:Ev):Prop:=∀{e:aH} {l:Loc} {O:L} {ρ:bG} {s:aA} {A:bk} {aL:List aU} {env:aU},cz c n A aL env ρ O l s->
 WX u c A (bq aL) bj ρ (r.e env.scope l O e) (cI c) (eval e env) s
noncomputable def ST(c:Cx)(n:Nat)(r:Ev):Prop:=∀{e:aH} {l:Loc} {O:L} {ρ:bG} {s:aA} {A:bk} {aL:List aU} {env:aU},cz c n A aL env ρ O l s->
 WX u c A (bq aL) bj ρ (r.t env.scope l O e) Mg (t6 e env (eval e env)) s
noncomputable def SC(c:Cx)(n:Nat)(qJ:V->LV->L->Res V):Prop:=∀{f:V} {args:LV} {fv:az} {vs:LU} {O:L} {ρ:bG} {s:aA} {A:bk} {aL:List aU},
 b9 c ρ O s.heap->(∀e∈aL,eB c.H ρ s.heap e)->td n A aL->Rep c.H ρ s.heap f fv->bJ c.H ρ s.heap args vs->WX u c A (bq aL) bj ρ (qJ f args O) (cI c) (call fv vs) s
noncomputable def eZ(c:Cx)(env:aU):bG->aQ->fz×Loc->Flow->Prop:=λρ h a b=>gT c.H ρ h env a.2/\ match a.1,b with
 |.next,.next=>True
 |.cont,.cont=>True
 |.ret v,.ret x=>Rep c.H ρ h v x
 |_,_=>False
noncomputable def SX(c:Cx)(n:Nat)(r:Ev):Prop:=∀{st:dW} {l:Loc} {O:L} {ρ:bG} {s:aA} {A:bk} {aL:List aU} {env:aU},cz c n A (env::aL) env ρ O l s->
 WX env.frame c A (bq (env::aL)) (cJ env) ρ (r.x env.scope l O st) (eZ c env) (exec st env) s
structure e7(c:Cx)(n:Nat)(r:Ev):Prop where
 e:SE c n r
 t:ST c n r
 x:SX c n r
 c:SC c n r.c
end
section
open PyProof.Rows Builtin
section
variable{P:fF}{c:Cx}{n:Nat}{r:Ev}{l:Loc}{O:L}{ρ:bG}{s:aA}{A:bk}{aL:List aU}{env:aU}
theorem nP{α:Type}{f:OA}{A:bk}{Z X:AP}{β:Type}{R:bG->aQ->α->β->Prop}{x:α}{t:b6 β}(h:aN (aJ c.prog c.w) A t (hU c Z X ρ s (.ok x O) R) (By c Z X ρ s (.ok x O)) s):WX f c A Z X ρ (.ok x O) R t s:=W.x λG=>h
theorem abJ(af:b9 c ρ O s.heap)(k:pX):WX u c A (bq aL) bj ρ (eD O (oO k)) (cI c) (I1 env k) s:=by
 induction k using Xq with
 |none=>exact nP (aX (lZ af .none))
 |bool=>exact nP (aX (lZ af (.bool _)))
 |int=>exact nP (t7 (iZ af (.int _ _)))
 |str=>exact nP (xm (iZ af (.str _ _)))
 |bytes=>exact nP (I3 (iZ af (.bytes _ _)))
 |_=>exact WX.no
theorem zY(hg:mu env.scope x=ai):env.kindOf x=U .globalImplicit:=by
 unfold mu at hg;show env.scope.names.lookup x=_
 generalize env.scope.names.lookup x=o at hg⊢;induction o using aK with
 |none=>exact nomatch hg
 |some k=>cases k with
  |globalImplicit=>rfl
  |_=>exact nomatch hg
theorem abK(E:cz c n A aL env ρ O l s)(e:l x=U v):WX u c A (bq aL) bj ρ (.ok v O) (cI c) (B7 env x) s:=by
 rcases E.fr.wA x v e with k|⟨k,cl,ag,h1,h2,h3⟩
 ·obtain ⟨m,N,hm⟩:=E.fr.ns
  obtain ⟨ag,h1,h2⟩:=hm x v e k;exact nP (B8 E.fr.kind k N h1 (lZ E.inv h2))
 ·rcases k with k|⟨k,hk⟩
  ·exact nP (I4 E.fr.kind k h1 h2 (lZ E.inv h3))
  ·exact nP (I5 E.fr.kind k h1 h2 (lZ E.inv h3) hk)
theorem XZ(B:fX c P)(E:cz c n A aL env ρ O l s)(hg:mu env.scope x=ai)(e2:P.glob x=U v):WX u c A (bq aL) bj ρ (.ok v O) (cI c) (B7 env x) s:=by
 have af:=E.inv;refine bl λaG=>?_;refine B.glob.elim λmg hq=>hq.elim λmb hq=>?_;refine aG ?_;obtain ⟨ag,rfl,hu⟩:=hq.2.2 x v e2;refine nP ?_;simp only [yq E.fr.kind (zY hg)];have g1:s.heap.Ns env.globals mg:=E.fr.glob▸A7 af hq.1;rcases hu with hu|⟨h0,hu⟩
 ·exact DB g1 hu (lZ af (.con ag))
 ·exact LC g1 h0 (E.fr.blt▸A7 af hq.2.1) hu (lZ af (.con ag))
theorem ae0(B:fX c P)(E:cz c n A aL env ρ O l s)(x:aF)(pos:bz):WX u c A (bq aL) bj ρ (jK P r env.scope l O (.Name x pos)) (cI c) (eval (.Name x pos) env) s:=by
 simp only [arm_eval_Name];refine WX.fH (WX.Mt λhd=>?_);rw [ax hd];induction e:l x using aK with
 |some v=>exact abK E e
 |none=>
  refine WX.ite λhg=>?_;induction e2:P.glob x using aK with
  |none=>exact WX.no
  |some v=>exact XZ B E hg e2
theorem X0(S:e7 c n r)(op:BoolOp)(pos:bz)(vs:LX):∀{O:L} {ρ:bG} {s:aA},cz c n A aL env ρ O l s->WX u c A (bq aL) bj ρ (uQ (r.e env.scope l) op vs O) (cI c) (boolOp pos op (evalEach vs env)) s:=by
 induction vs with
 |nil=>intro O ρ s E;exact WX.no
 |cons e rest ih=>
  intro O ρ s E;induction rest using bS with
  |nil=>exact S.e E
  |cons e2 rest=>
   refine WX.bind (S.e E) λv aZ x s' aS e1 p1 r1=>WX.fH ?_;have E1:=E.on p1;induction v using V.casesOn with
   |bool b=>
    rw [Rep.Rt r1];intro hb;refine aw (cc (bw.of (tY ?_)));induction op using Xr with
    |And=>induction b using dj with
     |false=>exact (bb #[_,_,_,rfl,jV.refl E1.inv,.bool _])
     |true=>exact (ih E1) hb
    |Or=>induction b using dj with
     |false=>exact (ih E1) hb
     |true=>exact (bb #[_,_,_,rfl,jV.refl E1.inv,.bool _])
   |_=>exact WX.no
theorem abL(S:e7 c n r)(E:cz c n A aL env ρ O l s)(a b:aH)(op:lx)(pos:bz):WX u c A (bq aL) bj ρ (jK P r env.scope l O (.BinOp a op b pos)) (cI c) (eval (.BinOp a op b pos) env) s:=by
 simp only [arm_eval_BinOp];refine WX.bind (S.e E) λx dO ag s1 dP e1 p1 r1=>?_;refine WX.bind (WX.holding (S.e (E.on p1))) λy hZ v s2 kX e2 p2 r2=>WX.fH ?_;exact WX.operate (aiV ((E.on p1).on p2).inv (Rep.mono p2.cq r1) r2).x
theorem abM(S:e7 c n r)(E:cz c n A aL env ρ O l s)(a:aH)(op:PySem.UnaryOp)(pos:bz):WX u c A (bq aL) bj ρ (jK P r env.scope l O (.UnaryOp op a pos)) (cI c) (eval (.UnaryOp op a pos) env) s:=by
 simp only [arm_eval_UnaryOp];refine WX.bind (S.e E) λx dO ag s1 dP e1 p1 r1=>WX.fH (WX.holding ?_);induction op using yr with
 |Not=>induction x using V.casesOn with
  |bool b=>exact (aiZ (E.on p1).inv r1).x
  |_=>exact WX.no
 |USub=>induction x using V.casesOn with
  |int i=>exact (aiY (E.on p1).inv r1).x
  |_=>exact WX.no
 |_=>exact WX.no
theorem abN(S:e7 c n r)(E:cz c n A aL env ρ O l s)(t a b:aH)(pos:bz):WX u c A (bq aL) bj ρ (jK P r env.scope l O (.IfExp t a b pos)) (cI c) (eval (.IfExp t a b pos) env) s:=by
 simp only [arm_eval_IfExp];refine WX.bind (S.t E) λx dO ag s1 dP e1 p1 r1=>?_;obtain rfl:=r1;rcases x with⟨⟩
 ·exact S.e (E.on p1)
 ·exact S.e (E.on p1)
theorem P6(E:cz c n A aL env ρ O l s):A.units+20<cLine:=gd (bt (kf (cg _ (40*n)) (by decide)) (ez _)) E.a.units
end
end
section
open PyProof.Rows Builtin
section
variable{P:fF}{c:Cx}{n:Nat}{r:Ev}{l:Loc}{O:L}{ρ:bG}{s:aA}{A:bk}{aL:List aU}{env:aU}
theorem zx(h:isStar e=av):fS (e::rest) env=(av,eval e env)::fS rest env:=by
 rcases e<;>first|rfl|exact nomatch h
theorem Rx(S:e7 c n r)(pos:bz)(es:LX):∀{O:L} {ρ:bG} {s:aA},cz c n A aL env ρ O l s->
  WX u c A (bq aL) bj ρ (l9 (r.e env.scope l) es O) (Ip c) (B9 (gA pos (fS es env))) s:=by
 induction es with
 |nil=>intro O ρ s E;exact WX.pure E.inv .nil
 |cons e rest ih=>
  intro O ρ s E;refine WX.Mt λhs=>?_;simp -iota only [zx (L8 hs)];show WX u c A (bq aL) bj ρ _ _ ((eval e env)>>=λv=>(DD [v]>>=λhere=>(Sem.bind (holding here (B9 (gA pos (fS rest env)))) λr=>DD (here++r)))) s
  refine WX.bind (S.e E) λv dO x s1 dP e1 p1 r1=>λhb=>aw (bb ?_);refine (WX.bind (WX.holding (ih (E.on p1))) (λvs hZ ws s2 kX e2 p2 r2=>?_):WX u c A (bq aL) bj dP _ (Ip c) _ s1) hb;exact WX.pure ((E.on p1).on p2).inv (.cons (Rep.mono p2.cq r1) r2)
theorem Ry(af:b9 c ρ O s.heap)(h:bJ c.H ρ s.heap xs vs)(hz:J vs<=gy):WX u c A Z X ρ (new (.list xs) O) (cI c) (Ca vs) s:=W.x λG=>by
 refine I6 ?_ hz;exact qx af (λG G e=>c7 _ e) (dU _) (dU _) λst=>#[rfl,_,_,iX _ rfl,h.mono st]
theorem Py(af:b9 c ρ O s.heap)(h:bJ c.H ρ s.heap xs vs)(hz:J vs<=gy):WX u c A Z X ρ (.ok (.tup xs) O) (cI c) (newTuple vs) s:=W.x λG=>by
 refine I7 ?_ hz;have hk:∀b o,s.heap.get? b=U o->(s.heap.push {cls:=.type "tuple",data:=.seq vs.toArray}).get? b=U o:=λb o q=>c7 _ q;exact sj af hk (.tup #[_,iX _ rfl,rfl,0,rfl] (h.mono (cG.more (Z:=bj) (X:=bj) hk)))
theorem Mu(h:k<=100):k<=sizeLine:=bt h (by decide)
theorem uS{α β:Type}{m:Res α}{f:α->L->Res β}{b:β}(h:m.bind f= .ok b aZ):∃a dO,m= .ok a dO/\ f a dO= .ok b aZ:=by
 induction m using Res.casesOn with
 |ok a dO=>exact #[a,dO,rfl,h]
 |_=>exact nomatch h
theorem Mv:∀{O aZ:L} {vs:LV},l9 f es O= .ok vs aZ->J vs=J es/\ es.all (λe=>!isStar e)=true:=by
 induction es with
 |nil=>intro O aZ vs h;cases h;exact #[rfl,rfl]
 |cons e rest ih=>
  intro O aZ vs h;by_cases q:isStar e=ai
  ·exact nomatch((au q).symm.trans h)
  ·obtain ⟨v,dO,_,h⟩:=uS ((ax q).symm.trans h)
   obtain ⟨ws,hZ,h2,h⟩:=uS h;cases h
   exact #[I jv (ih h2).1,by simp -iota only [lR,(ih h2).2,L8 q];rfl]
theorem P7(h:l9 f es O= .ok vs aZ):J vs=J es:=(Mv h).1
theorem ae1(S:e7 c n r)(E:cz c n A aL env ρ O l s)(es:LX)(pos:bz):WX u c A (bq aL) bj ρ (jK P r env.scope l O (.List es pos)) (cI c) (eval (.List es pos) env) s:=by
 simp -iota only [arm_eval_List];exact WX.fH (WX.ite λhl=>WX.bind (Rx S pos es E) λvs dO ws s1 dP e1 p1 r1=>Ry (E.on p1).inv r1 (r1.length.trans (P7 e1)▸Mu hl))
theorem abO(S:e7 c n r)(E:cz c n A aL env ρ O l s)(es:LX)(k:Nat)(pos:bz):WX u c A (bq aL) bj ρ (jK P r env.scope l O (.Tuple es k pos)) (cI c) (eval (.Tuple es k pos) env) s:=by
 simp -iota only [arm_eval_Tuple];exact WX.fH (WX.ite λhl=>WX.bind (Rx S pos es E) λvs dO ws s1 dP e1 p1 r1=>Py (E.on p1).inv r1 (r1.length.trans (P7 e1)▸Mu hl))
theorem qp{α:Type}{l:List α}{a:α}(e:one l=U a):l= [a]:=by
 rcases l with _|⟨b,l⟩
 ·exact nomatch e
 ·rcases l with _|⟨_,_⟩
  ·exact I (λx=> [x]) (bh e)
  ·exact nomatch e
theorem BB(h:mW b=ai):I8 op b=false:=by
 rcases b<;>first|rfl|exact nomatch h
theorem WX.pK{α β:Type}{r r':Res α}{R:bG->aQ->α->β->Prop}{t:b6 β}(e:r=r')(h:WX F c A Z X ρ r' R t s):WX F c A Z X ρ r R t s:=e▸h
theorem Rz(B:fX c P)(S:e7 c n r)(E:cz c n A aL env ρ O l s)(a b:aH)(op:tW)(pos:bz):
  WX u c A (bq aL) bj ρ (jK P r env.scope l O (.Compare a [op] [b] pos)) (cI c) (eval (.Compare a [op] [b] pos) env) s:=by
 simp -iota only [arm_eval_Compare];refine WX.ite λhp=>?_
 show WX u c A (bq aL) bj ρ ((r.e env.scope l O a).bind λx O=>(r.e env.scope l O b).bind λy O=>(eD O (cmp O op x y)).bind λc O=>.ok (V.bool c) O) _
  (do let x←eval a env;let rv←holding [x] (I9 op b (eval b env));lz pos;Cb [x,rv] (oh op x rv)) s
 simp -iota only [Ja (BB (op:=op) hp)];refine WX.bind (S.e E) λx dO ag s1 dP e1 p1 r1=>?_;refine WX.bind (WX.holding (S.e (E.on p1))) λy hZ v s2 kX e2 p2 r2=>WX.fH ?_;have:=aan (Z:=bq aL) (X:=bj) (op:=op) B.sys (P6 ((E.on p1).on p2)) ((E.on p1).on p2).inv (Rep.mono p2.cq r1) r2;generalize cmp hZ op x y=o at this⊢;induction o using aK with
 |none=>exact WX.no
 |some q=>exact λG=>cB (WX.operate (W.x (F:=u) this) (λh=>nomatch h)) (λb s' h=>h.okE λaS z2 r=>#[_,_,aS,rfl,z2,r▸ .bool _]) λe s' h=>h.okE
theorem ae2(S:e7 c n r)(op:BoolOp)(vs:LX):∀{O:L} {ρ:bG} {s:aA},cz c n A aL env ρ O l s->WX u c A (bq aL) bj ρ (Rf (r.t env.scope l) op vs O) Mg (allTrue op vs env) s:=by
 induction vs with
 |nil=>intro O ρ s E;exact WX.pure E.inv rfl
 |cons e rest ih=>
  intro O ρ s E;simp -iota only [arm_allTrue_cons];refine WX.bind (S.t E) λb dO ag s1 dP e1 p1 r1=>?_;obtain rfl:=r1;rcases op<;>rcases b<;>first|exact WX.pure (E.on p1).inv rfl|exact ih (E.on p1)
theorem P8(S:e7 c n r)(E:cz c n A aL env ρ O l s)(e:aH)(h:t6 e env (eval e env)=(do let v←eval e env;lz e.pos;holding [v] (truthy v))):WX u c A (bq aL) bj ρ (Il r env.scope l O e) Mg (t6 e env (eval e env)) s:=by
 rw [h];refine WX.bind (S.e E) λv dO ag s1 dP e1 p1 r1=>WX.fH (WX.holding ?_);induction v using V.casesOn with
 |bool b=>rw [Rep.Rt r1];exact nP (tY (lZ (E.on p1).inv rfl))
 |_=>exact WX.no
theorem Te(B:fX c P)(S:e7 c n r)(E:cz c n A aL env ρ O l s)(a:aH)(op:tW)(b:aH)(pos:bz)(hm:I8 op b=av):
  WX u c A (bq aL) bj ρ ((r.e env.scope l O a).bind λx O=>(r.e env.scope l O b).bind λy O=>eD O (cmp O op x y)) Mg (t6 (.Compare a [op] [b] pos) env (eval (.Compare a [op] [b] pos) env)) s:=by
 rw [arm_isTrue_Compare];show WX u c A (bq aL) bj ρ _ _ (do let x←eval a env;let rv←holding [x] (I9 op b (eval b env));lz pos;let c←Cb [x,rv] (oh op x rv);holding [c] (truthy c)) s
 rw [Ja hm];refine WX.bind (S.e E) λx dO ag s1 dP e1 p1 r1=>?_;have E1:=E.on p1;refine WX.bind (WX.holding (S.e E1)) λy hZ v s2 kX e2 p2 r2=>WX.fH λhb=>?_;have E2:=E1.on p2;have:=aan (A:=A) (Z:=bq aL) (X:=bj) (op:=op) B.sys (P6 E2) E2.inv (Rep.mono p2.cq r1) r2;refine aw (cB (WX.operate this.x hb) (λw s' h=>?_) λG G h=>h);obtain ⟨a,aZ,aS,z1,z2,rfl⟩:=h;exact cc (bw.of (tY #[_,_,_,z1,z2,rfl]))
theorem ae3(B:fX c P)(S:e7 c n r)(E:cz c n A aL env ρ O l s)(e:aH):WX u c A (bq aL) bj ρ (stepT r env.scope l O e) Mg (t6 e env (eval e env)) s:=by
 induction e using eV with
 |UnaryOp op a pos=>induction op using yr with
  |Not=>
   simp -iota only [arm_isTrue_UnaryOp];refine WX.bind (S.t E) λb dO ag s1 dP e1 p1 r1=>?_;obtain rfl:=r1;exact WX.pure (E.on p1).inv rfl
  |_=>exact P8 S E _ rfl
 |BoolOp op vs pos=>simp -iota only [arm_isTrue_BoolOp];exact ae2 S op vs E
 |IfExp=>exact WX.no
 |NamedExpr=>exact WX.no
 |Compare a ops bs pos=>
  unfold stepT;dsimp only;induction ho:one ops using aK with
  |none=>exact WX.no
  |some op=>induction hb:one bs using aK with
   |none=>exact WX.no
   |some b=>
    cases qp ho;cases qp hb
    exact WX.ite λhp=>Te B S E _ _ _ _ (BB hp)
 |_=>exact P8 S E _ rfl
end
end
section
open PyProof.Rows Builtin
section
variable{P:fF}{c:Cx}{n:Nat}{r:Ev}{l:Loc}{O:L}{ρ:bG}{s:aA}{A:bk}{aL:List aU}{env:aU}
theorem X1{α:Type}{M:gz}{A:bk}{vs:LU}{m:b6 α}{Q:α->aA->Prop}{E:VP}(h:bw M A m Q E s):bw M A (m.keep vs) Q E s:=
 λΓ p lh h1 h2=>by simp only [Sem.wp_keep];exact h Γ p lh h1 h2
theorem X2(B:fX c P){A:bk}{f:V}{fv:az}(af:b9 c ρ O s.heap)(rf:Rep c.H ρ s.heap f fv)(hc:iC P f=ai){Q:Keeper->aA->Prop}{E:VP}(h:∀k,k= .frame \/k= .machine->Q k s):
  aN (aJ c.prog c.w) A (keeperOf fv) Q E s:=by
 induction f using V.casesOn with
 |con v=>
  cases rf
  induction fv using rZ with
  |builtin=>exact aX (h _ (.inr rfl))
  |type=>exact aX (h _ (.inr rfl))
  |ref a=>
   replace hc:((P.fn a).isSome||(P.cls a).isSome)=true:=hc;induction e:P.fn a using aK with
   |some d=>
    refine ((B.fn a d e).ex).elim λo hq=>hq.elim λfd q=>?_;unfold keeperOf;refine aB (lB (af.base _ _ q.at_) ?_);rw [q.data];exact aX (h _ (.inl rfl))
   |none=>
    rw [e]at hc;induction e2:P.cls a using aK with
    |none=>rw [e2]at hc;exact nomatch hc
    |some d=>
     refine ((B.cls a d e2).obj).elim λx q=>?_;obtain ⟨hh,g,dr,t,os⟩:=s;exact Jb (af.base _ _ q.q1) (h _ (.inr rfl))
  |_=>exact nomatch hc
 |_=>exact nomatch hc
theorem v8(pos:bz)(h:isStar e=av):gA pos (fS (e::rest) env)=(av,eval e env)::gA pos (fS rest env):=by
 rw [zx h];rfl
theorem F6(pos:bz)(es:LX):es.all (λe=>!isStar e)=ai->(gA pos (fS es env)).all (λx=>!x.1)=true:=by
 induction es with
 |nil=>exact λG=>rfl
 |cons e rest ih=>
  intro h;simp only [lR,iK]at h;rw [v8 pos (og _▸h.1),lR,ih h.2];rfl
theorem X3(pos:bz){env:aU}(es:LX):es.all (λe=>!isStar e)=ai->J (gA pos (fS es env))=J es:=by
 induction es with
 |nil=>exact λG=>rfl
 |cons e rest ih=>
  intro h;simp only [lR,iK]at h;rw [v8 pos (og _▸h.1),oA,ih h.2];rfl
theorem abP{α:Type}{p:α->Bool}{l:List α}(h:l.all (λx=>!p x)=ai):l.any p=false:=by
 rw [Kr];intro x hx;exact xf.mp (og _▸jh.mp h x hx)
theorem Ez{f:L->aH->Res V}(pos:bz){env:aU}{es:LX}{O aZ:L}{vs:LV}(h:l9 f es O= .ok vs aZ):(gA pos (fS es env)).any (·.1)=false:=abP (F6 pos es (Mv h).2)
theorem EA(S:e7 c n r)(E:cz c n A aL env ρ O l s)(fv:az)(pos:bz)(es:LX):
  WX u c A (bq aL) bj ρ (l9 (r.e env.scope l) es O) (λρ h vs a=>Ip c ρ h vs a.pos/\ a.kw= []) (evalArgs fv ai (gA pos (fS es env)) []) s:=by
 intro hb
 have fin:bw (aJ c.prog c.w) A (B9 (gA pos (fS es env))) (λvs s'=>hU c (bq aL) bj ρ s (l9 (r.e env.scope l) es O) (λρ h vs a=>Ip c ρ h vs a.pos/\ a.kw= []) (#[vs,[]]:rq) s')
   (fA u c (bq aL) bj ρ s (l9 (r.e env.scope l) es O)) s:=cB (Rx S pos es E hb) (λvs s' q=>q.map λG G r1=>#[r1,rfl]) λG G q=>q
 unfold evalArgs;induction es using bS with
 |nil=>
  refine aw (cB fin (λvs s' h'=>cc ?_) λG G q=>q);exact aw (bb (aw (bb (bb h'))))
 |cons e rest=>
  by_cases hs:isStar e=ai
  ·exact (hb (au hs)).elim
  ·rw [v8 pos (L8 hs)]at fin⊢
   refine aw (cB fin (λvs s' h'=>cc ?_) λG G q=>q);exact aw (bb (aw (bb (bb h'))))
theorem EB(B:fX c P)(S:e7 c n r)(E:cz c n A aL env ρ O l s){f:V}{fv:az}{first:LV}{ED:LU}(rf:Rep c.H ρ s.heap f fv)(Tf:bJ c.H ρ s.heap first ED)(pos:bz)(es:LX)(hl:J es<=8):
  WX u c A (bq aL) bj ρ ((l9 (r.e env.scope l) es O).bind λvs O=>if iC P f then r.c f (first++vs) O else .bad) (cI c) (rt pos fv ED (gA pos (fS es env)) []) s:=by
 unfold rt;refine WX.bind (WX.holding (EA S E fv pos es)) λvs dO a s1 dP e1 p1 r1=>WX.fH ?_;have E1:=E.on p1;refine WX.ite λhc=>?_;obtain ⟨ap,ak⟩:=a;obtain ⟨r1,rk⟩:=r1;obtain rfl:=rk;intro hb
 have tail:∀{t:b6 az},bw (aJ c.prog c.w) A t (hU c (bq aL) bj dP s1 (r.c f (first++vs) dO) (cI c)) (fA u c (bq aL) bj dP s1 (r.c f (first++vs) dO)) s1->
   bw (aJ c.prog c.w) A (t>>=λr=>holding [r] point>>=λG=>pure r) (hU c (bq aL) bj dP s1 (r.c f (first++vs) dO) (cI c)) (fA u c (bq aL) bj dP s1 (r.c f (first++vs) dO)) s1:=
  λht=>aw (cB ht (λr v9 hr=>aw (cc (zX (bb hr)))) λG G x=>x)
 rw [(Ez pos (env:=env) e1),Ku,tU];refine aw (bw.of (X2 B E1.inv (Rep.mono p1.cq rf) hc λk hk=>?_));rcases hk with rfl|rfl
 ·dsimp only
  rw [CQ,ax (ur.mpr (X3 pos es (Mv e1).2▸bt hl (by decide)))];exact tail (by unfold callMarked;exact X1 ((S.c (vs:=ED++ap) E1.inv E1.fs E1.a (Rep.mono p1.cq rf) ((Tf.mono p1.cq).append r1)) hb))
 ·exact tail ((S.c (vs:=ED++ap) E1.inv E1.fs E1.a (Rep.mono p1.cq rf) ((Tf.mono p1.cq).append r1)) hb)
theorem ae4(B:fX c P)(S:e7 c n r)(E:cz c n A aL env ρ O l s)(f:aH)(es:LX)(pos:bz)(hna:∀o m p,f≠ .Attribute o m p):
  WX u c A (bq aL) bj ρ (if(J es)<=8 then(r.e env.scope l O f).bind λg O=>(l9 (r.e env.scope l) es O).bind λvs O=>if iC P g then r.c g vs O else .bad else .bad) (cI c) (eval (.Call f es [] pos) env) s:=by
 refine WX.ite λhl=>?_
 have ht:eval (.Call f es [] pos) env=(eval f env>>=λfv=>rt pos fv [] (gA pos (fS es env)) []):=by
  rcases f<;>first|rfl|exact absurd rfl (hna _ _ _)
 simp only [ht];refine WX.bind (S.e E) λg dO gv s1 dP e1 p1 r1=>?_;exact EB B S (E.on p1) r1 .nil pos es hl
theorem tx(h:mD o=ai):attributeBase o m env t=t:=by
 induction o using eV with
 |Call f args ks pos=>rcases f<;>first|rfl|exact nomatch h
 |_=>rfl
theorem qK(S:e7 c n r){id:String}(E:cz c n A aL env ρ O l s)(es:LX)(o:aH)(apos pos:bz)(hl:J es<=8)(pU:apos.endLine=pos.line)(wC:es.all (λe=>!isStar e)=ai)
  (hT:s.TypeIs ov T) (pa:PlainAttrs T) (slot:oj T m id) (hty:lC (.builtin id)=pure (.type "method_descriptor")) (hd:∀a,ov= .ref a->∃o,s.heap.get? a=U o/\ o.dict=u)
  (rx:Rep c.H ρ s.heap x ov)
  (h:∀vs ws dO s1 dP,cz c n A aL env dP dO l s1->bJ c.H dP s1.heap vs ws->Rep c.H dP s1.heap x ov->WX u c A (bq aL) bj dP (r' vs dO) (cI c) (call (.builtin id) (ov::ws)) s1):
  WX u c A (bq aL) bj ρ ((l9 (r.e env.scope l) es O).bind r') (cI c) (t8 o m apos pos env ov (J es+J ([]:List xp)) (gA pos (fS es env)) (xq pos (xr [] env))) s:=by
 have BC:=F6 pos (env:=env) es wC;have Mw:rz ai o env apos pos=pure pos:=by unfold rz;simp [pU]
 have RA:Jc (J es+J ([]:List xp)) (gA pos (fS es env)) (xq pos (xr [] env))=true:=by
  show((gA pos (fS es env)).all (λx=>!x.1)&&ai&&decide (J es+0+0<30))=ai
  rw [BC];simp;exact (gd hl (bF rfl))
 unfold t8;rw [RA];intro hb;refine aw (cc (bw.of (getMethod_builtin hT pa slot hty hd ?_)));refine aw (bw.of (cX Mw ?_));refine (?_:WX u c A (bq aL) bj ρ _ (cI c) (rt pos (.builtin id) [ov] (gA pos (fS es env)) []) s) hb;unfold rt;refine WX.bind (WX.holding (EA S E _ pos es)) λvs dO a s1 dP e1 p1 r1=>WX.fH ?_;obtain ⟨r1,rk⟩:=r1;obtain ⟨ap,ak⟩:=a;obtain rfl:=rk;intro hb;rw [(Ez pos (env:=env) e1),Ku,tU];refine aw (bb ?_);exact aw (cB ((h vs ap dO s1 dP (E.on p1) r1 (Rep.mono p1.cq rx)) hb) (λr v9 hr=>aw (cc (zX (bb hr)))) λG G x=>x)
end
end
section
open PyProof.Rows Builtin
section
variable{P:fF}{c:Cx}{n:Nat}{r:Ev}{l:Loc}{O:L}{ρ:bG}{s:aA}{A:bk}{aL:List aU}{env:aU}
theorem ae5(B:fX c P)(S:e7 c n r)(E:cz c n A aL env ρ O l s)(o:aH)(a:aF)(pos:bz):
  WX u c A (bq aL) bj ρ (if mD o then(r.e env.scope l O o).bind λx O=>eD O (Rd P x a O)else .bad) (cI c) (eval (.Attribute o a pos) env) s:=by
 refine WX.ite λhp=>?_;simp -iota only [Jd,tx hp];refine WX.bind (S.e E) λx dO ag s1 dP e1 p1 r1=>WX.fH ?_;intro hb;have:=(aeR (A:=A) (Z:=bq aL) (X:=bj) B.cls (a:=a) (E.on p1).inv r1);refine aw (cc (cB (W.x this hb) (λv s' q=>?_) λG G q=>q));exact aw (bw.of (Je (bb q)))
theorem F7(B:fX c P)(af:b9 c ρ O s.heap)(ro:Rep c.H ρ s.heap (.ref i) ov)(e1:O[i]? =U (.inst C kvs))
  (hd:P.cls C=U dd) (hk:(look m kvs).isNone=ai) (hm:dd.meths.lookup m=U f) (h:Q (.ref f,[ov]) s):aN (aJ c.prog c.w) A (getMethod ov m pl) Q E s:=by
 obtain ⟨a',d,rfl,hj⟩:=ro.jC;refine bl λaG=>?_;obtain ⟨mm,i⟩:=FY af hj e1;obtain ⟨x,q⟩:=(B.cls _ _ hd).obj;have hno:mm m=none:=((tT.mp hk)▸i.rep m:gS c.H ρ s.heap u _).none_inv;obtain ⟨g1,⟨of,g2,g3⟩,y,g4⟩:=q.q7 m f hm;obtain ⟨hh,g,dr,t,os⟩:=s;refine aG ?_;exact method_of (af.base _ _ q.q1) (af.ns q.q2) q.q3 q.q4 g1 (af.base _ _ g2) g3 g4 i.inst hno h
section
variable(B:fX c P)(S:e7 c n r)(E:cz c n A aL env ρ O l s)(o:aH)(m:aF)(apos pos:bz){args:LX}(hl:J args<=8)(pU:apos.endLine=pos.line)(wC:args.all (λe=>!isStar e)=ai){i:Nat}{a d:ay}(hj:ρ[i]? =U (a,d))
include S E hl pU wC hj
noncomputable abbrev A8(o:aH)(m:aF)(apos pos:bz)(env:aU)(v:az)(args:LX):b6 Value:=
 t8 o m apos pos env v (J args+J ([]:List xp)) (gA pos (fS args env)) (xq pos (xr [] env))
theorem X4(e2:O[i]? =U (.list xs)):WX u c A (bq aL) bj ρ ((l9 (r.e env.scope l) args O).bind λvs O=>methodCall .append i vs O) (cI c) (A8 o "append" apos pos env (.ref a) args) s:=by
 refine bl λaG=>?_;obtain ⟨hd,vs,n',h1,r2,l1⟩:=g8 E.inv hj e2;refine aG ?_;refine qK S E args o apos pos hl pU wC l1.typeIs WL Lv WM (λb hb=>#[_,yt hb▸h1,rfl]) (.ref hj) λvs ws hZ s2 kX E2 g9 rx=>?_;obtain ⟨_,d2,z,P9⟩:=rx.jC;cases z
 rcases vs with _|⟨v,r⟩
 ·exact WX.no
 ·induction r using bS with
   |cons _ _=>exact WX.no
   |nil=>
    obtain ⟨x,rfl,rv⟩:=g9.one;exact WX.opt λxs e3=>WX.ite λh=>(XU E2.inv P9 (eH e3) rv h).x
include B
theorem ai4(e2:O[i]? =U (.dict kvs)):WX u c A (bq aL) bj ρ ((l9 (r.e env.scope l) args O).bind λvs O=>methodCall .get i vs O) (cI c) (A8 o "get" apos pos env (.ref a) args) s:=by
 refine bl λaG=>?_;obtain ⟨hd,f1,ws0,h1,r2⟩:=k8 E.inv hj e2;obtain ⟨oo,es,ep,q1,q2⟩:=id h1;refine aG ?_;refine qK S E args o apos pos hl pU wC h1.typeIs Lz Dz WN (λb hb=>#[oo,yt hb▸q1,q2.1.2.1]) (.ref hj) λvs ws hZ s2 kX E2 g9 rx=>?_;obtain ⟨_,d2,z,P9⟩:=rx.jC;cases z
 rcases vs with _|⟨v,r⟩
 ·exact WX.no
 ·rcases r with _|⟨dv,r⟩
  ·
    obtain ⟨x,rfl,rv⟩:=g9.one;refine WX.opt λkvs e3=>WX.opt λk hk=>?_;obtain ⟨t,rfl⟩:=(lb hk▸rv).zP;exact (aeQ B.sys E2.inv P9 (ie e3)).x
  ·induction r using bS with
    |cons _ _=>exact WX.no
    |nil=>
     obtain ⟨x,y,rfl,rv,rd⟩:=g9.two;refine WX.opt λkvs e3=>WX.opt λk hk=>?_;obtain ⟨t,rfl⟩:=(lb hk▸rv).zP;exact (aeP B.sys E2.inv P9 (ie e3) rd).x
theorem X5(e2:O[i]? =U (.dict kvs)):WX u c A (bq aL) bj ρ ((l9 (r.e env.scope l) args O).bind λvs O=>methodCall .update i vs O) (cI c) (A8 o "update" apos pos env (.ref a) args) s:=by
 refine bl λaG=>?_;obtain ⟨hd,f1,ws0,h1,r2⟩:=k8 E.inv hj e2;obtain ⟨oo,es,ep,q1,q2⟩:=id h1;refine aG ?_;refine qK S E args o apos pos hl pU wC h1.typeIs Lz Lx WO (λb hb=>#[oo,yt hb▸q1,q2.1.2.1]) (.ref hj) λvs ws hZ s2 kX E2 g9 rx=>?_;obtain ⟨_,d2,z,P9⟩:=rx.jC;cases z
 rcases vs with _|⟨v,r⟩
 ·exact WX.no
 ·induction r using bS with
   |cons _ _=>exact WX.no
   |nil=>
    obtain ⟨x,rfl,rv⟩:=g9.one;refine WX.opt λj hk=>?_;obtain ⟨p,d3,rfl,hj3⟩:=(dF hk▸rv).jC;exact WX.opt λkvs e3=>WX.opt λmore e4=>WX.ite λh=>(XW B.sys E2.inv P9 (ie e3) hj3 (ie e4) h.1 h.2).x
theorem ai5(e2:O[i]? =U mo)(hk:yz mo m=U k):WX u c A (bq aL) bj ρ ((l9 (r.e env.scope l) args O).bind λvs O=>methodCall k i vs O) (cI c) (A8 o m apos pos env (.ref a) args) s:=by
 induction mo using MO.casesOn with
 |list xs=>
  obtain ⟨rfl,hk⟩:=ite_yes (show(if m= "append" then U Mc.append else u)=U k from hk);cases hk
  exact X4 S E o apos pos hl pU wC hj e2
 |dict xs=>
  replace hk:(if m= "get" then U Mc.get else if m= "update" then U Mc.update else u)=U k:=hk;by_cases hm:m= "get"
  ·rw [au hm]at hk
   cases hk;subst hm
   exact ai4 B S E o apos pos hl pU wC hj e2
  ·rw [ax hm]at hk
   obtain ⟨rfl,hk⟩:=ite_yes hk;cases hk
   exact X5 B S E o apos pos hl pU wC hj e2
 |_=>exact nomatch hk
theorem abQ(e2:O[i]? =U (.inst C kvs))(hf:((P.cls C).bind λd=>if(look m kvs).isNone then(d.meths.lookup m)else .none)=U f):
  WX u c A (bq aL) bj ρ ((l9 (r.e env.scope l) args O).bind λvs O=>if iC P (.con (.ref f))then r.c (.con (.ref f)) (V.ref i::vs) O else .bad) (cI c) (A8 o m apos pos env (.ref a) args) s:=by
 refine bl λaG=>?_;obtain ⟨dd,hd,hf⟩:=gm hf;obtain ⟨hk,hm⟩:=ite_yes hf;refine aG ?_
 have RA:Jc (J args+J ([]:List xp)) (gA pos (fS args env)) (xq pos (xr [] env))=true:=by
  show((gA pos (fS args env)).all (λx=>!x.1)&&ai&&decide (J args+0+0<30))=ai
  rw [F6 pos args wC,dC (gd hl (by decide):J args+0+0<30)];rfl
 have Mw:rz ai o env apos pos=pure pos:=by unfold rz;simp -iota [pU]
 unfold A8 t8;rw [RA];refine λhb=>aw (cc (bw.of (F7 B E.inv (.ref hj) e2 hd hk hm ?_)));refine aw (bw.of (cX Mw ?_));exact EB B S E (.con _) (.cons (.ref hj) .nil) pos args hl hb
end
theorem X6(B:fX c P)(S:e7 c n r)(E:cz c n A aL env ρ O l s)(o:aH)(m:aF)(apos pos:bz)(args:LX):
  WX u c A (bq aL) bj ρ (jK P r env.scope l O (.Call (.Attribute o m apos) args [] pos)) (cI c) (eval (.Call (.Attribute o m apos) args [] pos) env) s:=by
 refine WX.ite λhp=>?_;simp -iota only [Jf,tx hp.1];refine WX.bind (S.e E) λx dO ov s1 dP e1 p1 r1=>WX.fH (WX.opt λi hi=>?_);cases dF hi
 obtain ⟨a,d,rfl,hj⟩:=r1.jC;induction e2:nB dO i using aK with
 |some z=>exact WX.opt λf hf=>abQ B S (E.on p1) o m apos pos hp.2.1 hp.2.2.1 hp.2.2.2 hj (v5 e2) hf
 |none=>exact WX.opt λmo hm=>WX.opt λk hk=>ai5 B S (E.on p1) o m apos pos hp.2.1 hp.2.2.1 hp.2.2.2 hj hm hk
end
end
namespace BA
open PyProof.Rows Builtin
theorem owner:Xs.lookup (String.ofList ['y', 'a', 'r', 'r', 'a', 'e', 't', 'y', 'b'].reverse)=U Manifest.sig_bytearray:=by rfl'
theorem Mx:oj "bytearray" "__len__" "bytearray.__len__" :=
 .of (owner:= "bytearray") (n:= "__len__") (by rw [fT,fU];rfl') (by decide+kernel) (by decide+kernel) (by decide+kernel)
  (by first|exact .inl (by decide+kernel)|exact .inr (by decide+kernel)) (by rw [ju];rfl')
theorem entry_len:kA iL "bytearray.__len__" =U eT.«bytearray.__len__» :=rA (by rfl')
theorem uT:oj "bytearray" "__getitem__" "bytearray.__getitem__" :=
 .of (owner:= "bytearray") (n:= "__getitem__") (by rw [fT,fU];rfl') (by decide+kernel) (by decide+kernel) (by decide+kernel)
  (by first|exact .inl (by decide+kernel)|exact .inr (by decide+kernel)) (by rw [ju];rfl')
theorem Ie:kA iL "bytearray.__getitem__" =U eT.«bytearray.__getitem__» :=rA (by rfl')
theorem qL:oj "bytearray" "__setitem__" "bytearray.__setitem__" :=
 .of (owner:= "bytearray") (n:= "__setitem__") (by rw [fT,fU];rfl') (by decide+kernel) (by decide+kernel) (by decide+kernel)
  (by first|exact .inl (by decide+kernel)|exact .inr (by decide+kernel)) (by rw [ju];rfl')
theorem Ig:kA iL "bytearray.__setitem__" =U eT.«bytearray.__setitem__» :=rA (by rfl')
theorem RC(a:az):jf "bytearray.__len__" #[[a],[]]:=by
 unfold jf;rw [t9 (n:= ['_', '_', 'n', 'e', 'l', '_', '_']) (by rfl') owner];rfl'
theorem F8(a b:az):jf "bytearray.__getitem__" #[[a,b],[]]:=by
 unfold jf;rw [t9 (n:= ['_', '_', 'm', 'e', 't', 'i', 't', 'e', 'g', '_', '_']) (by rfl') owner];rfl'
theorem F9(a b d:az):jf "bytearray.__setitem__" #[[a,b,d],[]]:=by
 unfold jf;rw [t9 (n:= ['_', '_', 'm', 'e', 't', 'i', 't', 'e', 's', '_', '_']) (by rfl') owner];rfl'
theorem G8:oj "bytearray" "__iter__" "bytearray.__iter__" :=
 .of (owner:= "bytearray") (n:= "__iter__") (by rw [fT,fU];rfl') (by decide+kernel) (by decide+kernel) (by decide+kernel)
  (by first|exact .inl (by decide+kernel)|exact .inr (by decide+kernel)) (by rw [ju];rfl')
theorem RE:kA iL "bytearray.__iter__" =U eT.«bytearray.__iter__» :=rA (by rfl')
theorem slot_next:oj "bytearray_iterator" "__next__" "bytearray_iterator.__next__" :=
 .of (owner:= "bytearray_iterator") (n:= "__next__") (by rw [fT,fU];rfl') (by decide+kernel) (by decide+kernel) (by decide+kernel)
  (by first|exact .inl (by decide+kernel)|exact .inr (by decide+kernel)) (by rw [ju];rfl')
theorem entry_next:kA iL "bytearray_iterator.__next__" =U eT.«bytearray_iterator.__next__» :=rA (by rfl')
theorem RF:kA iL "bytearray.__init__" =U eT.«bytearray.__init__» :=rA (by rfl')
section
variable{prog:gW}{w:cP}{A:bk}{E:VP}{s:aA}{a:ay}{b:Array UInt8}
noncomputable def iq(h:aQ)(a:ay)(b:Array UInt8):Prop:=h.get? a=U #[.type "bytearray",u,.bytearray b 0, #[]]
theorem iq.typeIs(h:iq s.heap a b):s.TypeIs (.ref a) "bytearray" :=#[_,h,rfl]
theorem qM(h:iq s.heap a b)(q:Q b s):aN (aJ prog w) A (Dq (.ref a)) Q E s:=by
 unfold Dq Bytes.payload?;exact aB (aB (lB h (aX (aX q))))
theorem ae6(h:iq s.heap a b)(hz:(b.size:Int)<2^63)(q:Q (.int b.size (s.toks+1)) {s with toks:=s.toks+1+1}):
  aN (aJ prog w) A (call (.builtin "len") [.ref a]) Q E s:=by
 refine Calls.call_function_entry PySem.kind_len PySem.plain_len PySem.entry_len (PySem.args_len1 _) ?_;unfold eT.«len»;refine aB (aX ?_)
 refine aB (Cc h.typeIs Mx
  (rB Mx h.typeIs BA.entry_len ?_ (RC _)))
 ·show aN _ _ (Dq (.ref a)>>=λr=>retInt r.size) _ _ s
  refine aB (qM h (aB (t7 (aX #[_,rfl,?_]))));refine aB (gY (aX ?_));refine aB (Cd ?_);show aN _ _ (if((b.size:Nat):Int)<0 then _ else _) _ _ _
  rw [ax (yE)];show aN _ _ (if((b.size:Nat):Int)≥2^63 then _ else _) _ _ _
  rw [ax (by exact (K2 hz))];exact aB (t7 (aX #[_,rfl,q]))
theorem DP{lo:Option Int}(ho:s.heap.IsSliceOf sl l ag .none)(hl:ua l lo)(hu:ua ag hi)(q:Q (Ce lo,Ce hi,Ce u) s):
  aN (aJ prog w) A (Dr (.ref sl)) Q E s:=by
 obtain ⟨o,ho,hc,hd⟩:=ho;unfold Dr;refine aB (gC (x:=.none) ho hd rfl ?_)
 kby_none
 refine wpAny_ite (KBy.ite_no (rg) ?_);refine aB (gC (x:=l) ho hd rfl ?_)
 cases hl<;>cases hu<;>(first
  |(kby_none;(refine aB (gC (x:=.none) ho hd rfl ?_));kby_none)
  |(kby_none;(refine aB (gC (x:=.int _ _) ho hd rfl ?_));kby_int)
  |(kby_int;(refine aB (gC (x:=.none) ho hd rfl ?_));kby_none)
  |(kby_int;(refine aB (gC (x:=.int _ _) ho hd rfl ?_));kby_int))<;>exact aX q
theorem X7{lo:Option Int}(h:iq s.heap a b)(ho:s.heap.IsSliceOf sl l ag .none)(hl:ua l lo)(hu:ua ag hi)
  (hz:(yu b lo hi).size<=gy) (q:Q (.ref s.heap.objs.size) {s with heap:=s.heap.push {cls:=.type "bytearray",data:=.bytearray (yu b lo hi)}}):
  aN (aJ prog w) A (pZ (.ref a) (.ref sl)) Q E s:=by
 have ho':=ho;refine ho.elim λo hq=>?_;have ho:=hq.1;have hc:=hq.2.1;have hd:=hq.2.2;have hT:s.TypeIs (.ref sl) "slice" :=#[o,ho,hc];refine wpAny_getItem_slot h.typeIs (by decide) uT (rB uT h.typeIs BA.Ie ?_ (F8 _ _));show aN _ _ (Ds (.ref sl)>>=λr=>_) _ _ s
 refine aB ?_;unfold Ds;refine aB (fV hT Jg (aX ?_));refine aB (Cf hT ?_);show aN _ _ (Dr (.ref sl)>>=λr=>_) _ _ s
 refine aB (DP ho' hl hu ?_);refine aB (qM h ?_);refine aB (cX (Jh lo hi u b.size (λe=>nomatch e)) ?_);refine aB ?_;unfold Bytes.newBytearray;exact p7 (aX #[_,rfl,q]) hz
noncomputable def oR(h:aQ)(it a:ay)(i:Nat):Prop:=∃o,h.get? it=U o/\ o.cls= .type "bytearray_iterator" /\ o.data= .fields (CR [.ref a,.int i 0])
theorem oR.typeIs(h:oR s.heap it a i):s.TypeIs (.ref it) "bytearray_iterator" :=by obtain ⟨o,h1,h2,_⟩:=h;exact #[o,h1,h2]
theorem Pz(a:az):jf "bytearray.__iter__" #[[a],[]]:=by
 unfold jf;rw [t9 (n:= ['_', '_', 'r', 'e', 't', 'i', '_', '_']) (by rfl') owner];rfl'
theorem BD(a:az):jf "bytearray_iterator.__next__" #[[a],[]]:=by unfold jf;rfl'
theorem abR(h:iq s.heap a b)(hQ:∀h',(∀b o,s.heap.get? b=U o->h'.get? b=U o)->oR h' s.heap.objs.size a 0->Q (.ref s.heap.objs.size) {s with heap:=h'}):
  aN (aJ prog w) A (rC (.ref a)) Q E s:=by
 refine Ji h.typeIs G8 (rB G8 h.typeIs BA.RE ?_ (Pz _));show aN _ _ (ub "bytearray_iterator" [.ref a,gX 0]>>=λr=>ret r) _ _ s
 refine aB ?_;unfold ub;refine p7 (aX #[_,rfl, "bytearray_iterator",_,#[_,iX _ rfl,rfl],slot_next.lookup,hQ _ (λG G e=>c7 _ e) #[_,iX _ rfl,rfl,rfl]]) (by show 2<=gy+2;exact (aV rfl))
theorem slot_self:oj "bytearray_iterator" "__iter__" "bytearray_iterator.__iter__" :=
 .of (owner:= "bytearray_iterator") (n:= "__iter__") (by rw [fT,fU];rfl') (by decide+kernel) (by decide+kernel) (by decide+kernel)
  (by first|exact .inl (by decide+kernel)|exact .inr (by decide+kernel)) (by rw [ju];rfl')
theorem entry_self:kA iL "bytearray_iterator.__iter__" =U eT.«dict_keyiterator.__iter__» :=Jj (id':= "dict_keyiterator.__iter__") (by rfl') rfl (by decide+kernel) (by rfl')
theorem args_self(a:az):jf "bytearray_iterator.__iter__" #[[a],[]]:=by unfold jf;rfl'
theorem abS(hit:oR s.heap it a i)(h:Q (.ref it) s):aN (aJ prog w) A (rC (.ref it)) Q E s:=by
 refine Ji hit.typeIs slot_self (rB slot_self hit.typeIs entry_self ?_ (args_self _));show aN _ _ (ret (.ref it)) _ _ s
 exact aX #[_,rfl, "bytearray_iterator",_,hit.typeIs,slot_next.lookup,h]
theorem abT(hit:oR s.heap it a i)(h:iq s.heap a b)(hx:b[i]? =U x)
  (hQ:∀h',oR h' it a (i+1)->iW it s.heap h'->Q (U (.int x.toNat s.toks)) {s with heap:=h',toks:=s.toks+1}):
  aN (aJ prog w) A (uc (.ref it)) Q E s:=by
 refine (id hit).elim λo hq=>?_;have ho:=hq.1;have hc:=hq.2.1;have hd:=hq.2.2;unfold uc
 refine aB (Cg (Cc hit.typeIs slot_next
  (rB slot_next hit.typeIs BA.entry_next ?_ (BD _))))
 show aN _ _ (ud (.ref it) 0>>=_) _ _ s
 refine aB (gC ho hd (x:=.ref a) rfl ?_);show aN _ _ (load a>>=_) _ _ s
 refine aB (lB h ?_);show aN _ _ (ud (.ref it) 1>>=_) _ _ s
 refine aB (gC ho hd (x:=.int i 0) rfl ?_);simp only [mQ,hx];refine aB (rD ho hd (by simp -iota) ?_);refine aB (t7 (aX #[_,rfl,aX (hQ _ ?_ (qk ..))]))
 exact ⟨_,mS _ ho (Obj.isFreed_of_fields (Lf hd _)),(Obj.cls_mapFields ..).trans hc,by
  rw [Lf hd];simp -iota [gX]⟩
theorem ae7(hh:A.handled=u)(hit:oR s.heap it a i)(h:iq s.heap a b)(hx:b[i]? =u)
  (hQ:∀h',K5 it s.heap h'->Q u {s with heap:=h'}):aN (aJ prog w) A (uc (.ref it)) Q E s:=by
 refine (id hit).elim λo hq=>?_;have ho:=hq.1;have hc:=hq.2.1;have hd:=hq.2.2;unfold uc
 refine aB (Cg (Cc hit.typeIs slot_next
  (rB slot_next hit.typeIs BA.entry_next ?_ (BD _))))
 show aN _ _ (ud (.ref it) 0>>=_) _ _ s
 refine aB (gC ho hd (x:=.ref a) rfl ?_);show aN _ _ (load a>>=_) _ _ s
 refine aB (lB h ?_);show aN _ _ (ud (.ref it) 1>>=_) _ _ s
 refine aB (gC ho hd (x:=.int i 0) rfl ?_);simp only [mQ,hx];refine aB (xj (aB (rD ho hd (by simp -iota) ?_)));refine aB (Cd ?_);show aN _ _ (newExc (.type "StopIteration") []>>=_) _ _ _
 refine aB ?_;simp -iota only [newExc,newTuple];refine aB (p7 ?_ (by size_fits));refine aB (cX (a:=gh) (by first|rfl|(simp -iota only [firstArgMember];rfl)) ?_);refine p7 ?_ (by size_fits);simp -iota only [raiseNew];refine aB (wpAny_handled ?_);rw [show A.in1.handled=u from hh];refine aB (aX (wpAny_throw ?_));refine aB (ue #[_,iX _ rfl,rfl] isSubtype_stop ?_);exact aX (hQ _ (((qk ..).extBut.push _).push _))
theorem DQ{id:String}(hT:s.TypeIs v T)(hl:d9 (.type T) (aE name)=pure (U (.builtin id)))(he:id.endsWith ("." ++name)=ai)
  (hd:om (.type T) (.type (id.dropRight (name.length+1)))=pure ai) (q:Q ai s):aN (aJ prog w) A (Dt v name) Q E s:=by
 unfold Dt;refine aB (fV hT hl ?_);dsimp only;rw [he];exact ue hT hd q
theorem My:d9 (.type "bytearray") "__buffer__" =pure (U (.builtin "bytearray.__buffer__")):=by rw [fT,fU];rfl'
theorem ae8:d9 (.type "bytearray") "__release_buffer__" =pure (U (.builtin "bytearray.__release_buffer__")):=by rw [fT,fU];rfl'
theorem X8:d9 (.type "bytearray") "__bytes__" =pure none:=by rw [fT,fU];rfl'
theorem X9:d9 (.type "bytearray") "__index__" =pure none:=by rw [fT,fU];rfl'
theorem Ga:d9 (.type "bytes") "__buffer__" =pure (U (.builtin "bytes.__buffer__")):=by rw [fT,fU];rfl'
theorem abU:d9 (.type "bytes") "__release_buffer__" =pure none:=by rw [fT,fU];rfl'
theorem Tg:d9 (.type "bytes") "__bytes__" =pure (U (.builtin "bytes.__bytes__")):=by rw [fT,fU];rfl'
theorem G9:d9 (.type "bytes") "__index__" =pure none:=by rw [fT,fU];rfl'
theorem EE:om (.type "bytearray") (.type "bytearray")=pure true:=by rw [ju];rfl'
theorem ai6:om (.type "bytes") (.type "bytes")=pure true:=by rw [ju];rfl'
theorem Yb: "bytearray.__buffer__".dropRight ("__buffer__".length+1)= "bytearray" :=by decide+kernel
theorem Yc: "bytearray.__release_buffer__".dropRight ("__release_buffer__".length+1)= "bytearray" :=by decide+kernel
theorem Th: "bytes.__buffer__".dropRight ("__buffer__".length+1)= "bytes" :=by decide+kernel
theorem yK(h:iq s.heap a b)(q:Q av s):aN (aJ prog w) A (yi (.ref a)) Q E s:=by
 unfold yi;exact aB (DQ h.typeIs ae8 (by decide+kernel) (by rw [Yc];exact EE) (aX q))
theorem Ti(q:Q av s):aN (aJ prog w) A (yi (.bytes x t)) Q E s:=by
 unfold yi Dt;exact aB (aB (fV (iB s x t) abU (aX (aX q))))
theorem Tj(id:String)(f:Bool)(h:iq s.heap a b)(q:Q (U b) s):aN (aJ prog w) A (yj id (.ref a) f) Q E s:=by
 unfold yj;refine aB (fV h.typeIs My ?_);refine aB (DQ h.typeIs My (by decide+kernel) (by rw [Yb];exact EE) ?_);refine aB (fV h.typeIs My ?_);refine aB (yK h ?_);exact aB (qM h (aX q))
theorem Yd(id:String)(f:Bool)(q:Q (U x) s):aN (aJ prog w) A (yj id (.bytes x t) f) Q E s:=by
 unfold yj;refine aB (fV (iB s x t) Ga ?_);refine aB (DQ (iB s x t) Ga (by decide+kernel) (by rw [Th];exact ai6) ?_);refine aB (fV (iB s x t) Ga ?_);refine aB (Ti ?_);exact aB (cX rfl (aX q))
theorem Mz(h:iq s.heap a b)(hz:b.size<=gy)(q:∀t,Q (.bytes b t) {s with toks:=s.toks+1}):
  oq (aJ prog w) A (.call (.builtin "bytes.__new__") #[[.type "bytes",.ref a],[]]) (uf Q E) s:=by
 have fin:∀t,aN (aJ prog w) A.in1 (ret (.bytes b t)) (λfin s'=>match fin with|.done f=>uf Q E (.ok f) s'|.again c'=>c'.quiet=ai/\ oq (aJ prog w) A c' (uf Q E) s') (λe s'=>uf Q E (.error e) s') {s with toks:=s.toks+1}:=λt=>aX (q t);refine xt ?_;show aN _ A.in1 (do lE "bytes.__new__" #[[.type "bytes",.ref a],[]];again (.builtin "bytes.__new__" #[[.type "bytes",.ref a],[]])) _ _ s
 refine aB (cX (F.bm_newCall _) (aX #[xu F.bm_plain _,Jk F.bm_entry ?_]));rw [yv F.bm_plain _];unfold eT.«bytes.__new__»;refine aB (cX rfl ?_);refine p8 rfl ?_;refine aB (cX F.bm_sub ?_);refine p8 rfl ?_;refine aB (cX (F.bm_bind _) ?_);refine aB (cX rfl ?_);refine aB (cX rfl ?_);refine p8 rfl ?_;refine aB (fV h.typeIs X8 ?_);refine aB (aB ?_);show aN _ _ (load a>>=_) _ _ _
 refine aB (lB h ?_);refine aX (aX ?_);refine p8 rfl ?_;refine aB (fV h.typeIs X9 ?_);refine xw rfl ?_
 first
  |show aN _ _ (Lj "bytes.__new__" (.ref a) ai>>=_) _ _ _
  |(refine aB ?_;show aN _ _ (Lj "bytes.__new__" (.ref a) ai>>=_) _ _ _)
 refine aB (Tj _ _ h ?_);refine aB (xj ?_);refine aB (wpAny_mkBytes ?_ hz);show aN _ _ (if(oG "bytes" ==oG "bytes")=ai then _ else _) _ _ _
 refine xw (by decide) ?_
 first
  |exact aB (wpAny_mono (fin _) (λG G x=>aX (aX x)) λG G x=>x)
  |exact wpAny_mono (fin _) (λG G x=>aX x) λG G x=>x
  |exact aX (q _)
theorem abV(q:Q (.bytes x t) s):aN (aJ prog w) A (call (.type "bytes") [.bytes x t]) Q E s:=by
 refine Jl (Q₁:=λobj cN=>cN.TypeIs obj "bytes" /\ Q obj cN) F.bm_called (F.bm_typeCall _) F.entry_object_init
  ?_ λobj cN fc=>#[fc.1,F.args_object_init_2 obj _,Jm F.bm_called.init.lookup F.bm_called.made (by decide) prog w A.in1 _ cN #[fc.1,rfl,fc.2]]
 refine xt ?_;show aN _ A.in1.in1 (do lE "bytes.__new__" #[[.type "bytes",.bytes x t],[]];again (.builtin "bytes.__new__" #[[.type "bytes",.bytes x t],[]])) _ _ s
 refine aB (cX (F.bm_newCall _) (aX #[xu F.bm_plain _,Jk F.bm_entry ?_]));rw [yv F.bm_plain _];unfold eT.«bytes.__new__»;refine aB (cX rfl ?_);refine p8 rfl ?_;refine aB (cX F.bm_sub ?_);refine p8 rfl ?_;refine aB (cX (F.bm_bind _) ?_);refine aB (cX rfl ?_);refine aB (cX rfl ?_);refine p8 rfl ?_;refine aB (fV (iB s x t) Tg ?_);refine aB (xj ?_);refine aB (Cf (iB s x t) ?_);refine xw (by decide) ?_;show aN _ _ (if(oG "bytes" ==oG "bytes")=ai then _ else _) _ _ _
 refine xw (by decide) ?_
 first
  |exact aX #[iB _ _ _,q]
  |exact aB (aX (aX #[iB _ _ _,q]))
theorem Ye(h:iq s.heap a b)(hz:b.size<=gy)(q:∀t,Q (.bytes b t) {s with toks:=s.toks+1}):aN (aJ prog w) A (call (.type "bytes") [.ref a]) Q E s:=by
 refine Jl (Q₁:=λobj cN=>cN.TypeIs obj "bytes" /\ Q obj cN) F.bm_called (F.bm_typeCall _) F.entry_object_init
  (Mz h hz λt=>#[iB _ _ _,q t]) λobj cN fc=>?_
 exact #[fc.1,F.args_object_init_2 obj _,Jm F.bm_called.init.lookup F.bm_called.made (by decide) prog w A.in1 _ cN #[fc.1,rfl,fc.2]]
end
end BA
set_option maxRecDepth 1000000
namespace BA
open PyProof.Rows Builtin
theorem MA:xx (.type "bytearray")=pure [.type "bytearray",.type "object"]:=by rw [mroOf_type];rfl'
theorem RG:d9 (.type "bytearray") "__new__" =pure (U (.builtin "bytearray.__new__")):=by rw [fT,fU];rfl'
theorem sL:oj "bytearray" "__init__" "bytearray.__init__" :=
 .of (owner:= "bytearray") (n:= "__init__") (by rw [fT,fU];rfl') (by decide+kernel) (by decide+kernel) (by decide+kernel)
  (by first|exact .inl (by decide+kernel)|exact .inr (by decide+kernel)) (by rw [ju];rfl')
theorem called:TypeCalled "bytearray" "bytearray.__new__" "bytearray.__init__" :=
 #[by decide+kernel,by decide+kernel,#[_,_,MA],madeBy_type MA RG (by decide+kernel),by decide+kernel,by rw [ju];rfl',sL]
theorem RH(a:az):checkTypeCall "bytearray" #[[a],[]]=pure ():=by rfl'
theorem Tn(a:az):lE "bytearray.__new__" #[[.type "bytearray",a],[]]=pure ():=by rfl'
theorem To:kA iL "bytearray.__new__" =U eT.«list.__new__» :=Jj (id':= "list.__new__") (by rw [Jn];rfl') (by decide+kernel) (by decide+kernel) (by rw [Jn];rfl')
theorem Ha:plainId "bytearray.__new__" =true:=by decide+kernel
set_option maxHeartbeats 4000000 in
theorem Tp:("bytearray.__new__".splitOn ".__new__").headD "" = "bytearray" :=by simp+decide [String.splitOn,String.splitOnAux]
section
variable{prog:gW}{w:cP}{A:bk}{E:VP}{s:aA}
theorem Yg(a:az)
  (h:Q₁ (.ref s.heap.objs.size) {s with heap:=s.heap.push {cls:=.type "bytearray",data:=.bytearray #[]}}):
  oq (aJ prog w) A (.call (.builtin "bytearray.__new__") #[[.type "bytearray",a],[]]) (uf Q₁ E) s:=by
 refine xt ?_;refine aB (cX (Tn a) (aX #[xu Ha _,codeAny_builtin_stack To rfl λp st=>?_]));rw [yv Ha _];have aoC:=EE;obtain ⟨hp,g,d,tk,os⟩:=s;simp only [Tp]
 wp_walk
 exact h
end
section
variable{prog:gW}{w:cP}{A:bk}{E:VP}{s:aA}{a:ay}{b:Array UInt8}
theorem Hb(x:az):Wm "bytearray.__init__" "bytearray" ["source", "encoding", "errors"] [x] []=pure [U x,u,u]:=by rfl'
theorem MB(h:iq s.heap a b)(q:Q 0 s):aN (aJ prog w) A (Du (.ref a)) Q E s:=by
 unfold Du;exact aB (lB h (aX q))
theorem uU(h:iq s.heap a b)(f:Array UInt8->Array UInt8)(hz:(f b).size<=gy){Q:Unit->aA->Prop}(q:iq (s.heap.update a (oH f)) a (f b)->Q () {s with heap:=s.heap.update a (oH f)}):
  aN (aJ prog w) A (Bytes.write (.ref a) f) Q E s:=by
 show aN _ _ (Jo a f) _ _ _
 unfold Jo;refine aB (lB h ?_);refine aB (Jp h ?_);have aao:(s.heap.update a (oH f)).get? a=U {cls:=.type "bytearray",data:=.bytearray (f b)}:=mS (oH f) h rfl;refine Jq aao ?_ (q aao);show(if(f b).size>gy then U "bytearray:memory" else u)=u
 rw [ax (by exact (dK hz))]
theorem EF(hg:A.guards=U [])(h:iq s.heap a b){Q:Bool->aA->Prop}(q:Q av s):
  bw (aJ prog w) A (Bytes.exported (.ref a)<||>(do return(←Du (.ref a))>0)) Q E s:=by
 unfold orM;refine aw (Mo hg ?_);exact aw (bw.of (MB h (bb q)))
theorem dq{α:Type}{M:gz}{c:Bool}{x y:b6 α}{Q:α->aA->Prop}(hc:c=av)(h:bw M A y Q E s):bw M A (if c=ai then x else y) Q E s:=by
 subst hc;exact h
theorem wc{α:Type}{M:gz}{c:Bool}{x y:b6 α}{Q:α->aA->Prop}(hc:c=ai)(h:bw M A x Q E s):bw M A (if c=ai then x else y) Q E s:=by
 subst hc;exact h
theorem EG(hg:A.guards=U []){x:Array UInt8}{t:ix}(hz:x.size<=gy)(h:iq s.heap a #[]){Q:Fin->aA->Prop}
  (q:∀h',iq h' a x->iW a s.heap h'->Q (.done (.ret .none)) {s with heap:=h'}):
  bw (aJ prog w) A (eT.«bytearray.__init__» #[[.ref a,.bytes x t],[]]) Q E s:=by
 unfold eT.«bytearray.__init__»;refine aw (bw.of (yK h ?_));refine dq rfl ?_;refine aw (bw.of (cX (Hb _) ?_));refine aw (bw.of (cX rfl ?_));refine aw (bw.of (cX rfl ?_));refine aw (EF hg h ?_);refine dq rfl ?_;refine aw (bw.of (uU h (λG=> #[]) (bp _) λh1=>?_));refine aw (bw.of (cX rfl ?_));refine dq rfl ?_;refine aw (bw.of (cX rfl ?_));refine aw (bw.of (fV (iB _ x t) G9 ?_));refine dq rfl ?_;refine aw (bw.of (Yd _ _ ?_));refine aw (qo ?_);refine aw (bw.of (uU h1 (λG=>x) hz λh2=>?_))
 have fin:bw (aJ prog w) A (ret .none) Q E {s with heap:=(s.heap.update a (oH λG=> #[])).update a (oH λG=>x)}:=
  bb (q _ h2 ((qk ..).trans (qk ..)))
 first
  |exact fin
  |exact aw (cB fin (λG G z=>bb z) λG G z=>z)
theorem Yh(hg:A.guards=U []){k:Int}{t:ix}(h0:0<k)(hz:k<=1000)(h:iq s.heap a #[]){Q:Fin->aA->Prop}
  (q:∀h',iq h' a (yo k.toNat 0)->iW a s.heap h'->Q (.done (.ret .none)) {s with heap:=h'}):
  bw (aJ prog w) A (eT.«bytearray.__init__» #[[.ref a,.int k t],[]]) Q E s:=by
 unfold eT.«bytearray.__init__»;refine aw (bw.of (yK h ?_));refine dq rfl ?_;refine aw (bw.of (cX (Hb _) ?_));refine aw (bw.of (cX rfl ?_));refine aw (bw.of (cX rfl ?_));refine aw (EF hg h ?_);refine dq rfl ?_;refine aw (bw.of (uU h (λG=> #[]) (bp _) λh1=>?_));refine aw (bw.of (cX rfl ?_));refine dq rfl ?_;refine aw (bw.of (cX rfl ?_));refine aw (bw.of (fV (BZ _ k t) F.slot_int_index.lookup ?_));refine wc rfl ?_;refine aw (v7 (bw.of (cX (rfl:asIndex (.int k t)=pure k) ?_)));refine dq (by simp -iota [Bytes.fitsIndex];lia) ?_;refine F5 (λhn=>absurd hn (rY (rX h0))) λG=>?_;refine dq (by simp -iota;lia) ?_;refine dq (by simp -iota [Bytes.tooLong,gy];exact (qf hz (by decide))) ?_;refine aw (qo ?_);refine F5 (λG=>?_) λhn=>absurd h0 hn;refine aw (bw.of (uU h1 (λG=>yo k.toNat 0) (by rw [Array.size_replicate,lA];exact (iP (Rm (rX ‹_›) (qg hz (by decide))))) λh2=>?_))
 have fin:bw (aJ prog w) A (ret .none) Q E {s with heap:=(s.heap.update a (oH λG=> #[])).update a (oH λG=>yo k.toNat 0)}:=
  bb (q _ h2 ((qk ..).trans (qk ..)))
 first
  |exact fin
  |exact aw (cB fin (λG G z=>bb z) λG G z=>z)
theorem sZ{id:String}(hd:sE (.builtin id args)=av)(hb:kA iL id=U bi)
  (h:bw (aJ prog w) (A.under (.builtin id args)) (bi args)
   (λfin s'=>match fin with|.done f=>R (.ok f) s'|.again c'=>c'.quiet=ai/\ fG (aJ prog w) A c' R s') (λe s'=>R (.error e) s') s):
  fG (aJ prog w) A (.builtin id args) R s:=by
 refine eS hd ?_;show bw _ _ (match kA iL id with|some b=>b args|none=>Jr ((withoutEnding? id "#data").getD id)) _ _ s
 rw [hb];exact h
theorem sN{id:String}(hd:sE (.builtin id args)=av)(hq:plainId id=ai)(hb:kA iL id=U bi)
  (hc:∀{Q:Unit->aA->Prop} {E:VP},Q () s->aN (aJ prog w) A.in1 (lE id args) Q E s)
  (h:bw (aJ prog w) A.in1 (bi args)
   (λfin s'=>match fin with|.done f=>R (.ok f) s'|.again c'=>c'.quiet=ai/\ fG (aJ prog w) A c' R s') (λe s'=>R (.error e) s') s):
  fG (aJ prog w) A (.call (.builtin id) args) R s:=by
 refine eS rfl ?_;refine aw (bw.of (hc (bb (And.intro (xu hq args) ?_))));refine sZ hd hb ?_;rw [yv hq args];exact h
theorem MC(args:rq):sE (.builtin "bytearray.__init__" args)=false:=by
 show r8.contains "bytearray.__init__" =av
 decide+kernel
theorem so(args:rq):sE (.builtin "type.__call__" args)=false:=by
 show r8.contains "type.__call__" =av
 decide+kernel
theorem PA(x y:az):jf "bytearray.__init__" #[[x,y],[]]:=by
 unfold jf;rw [t9 (n:= ['_', '_', 't', 'i', 'n', 'i', '_', '_']) (by rfl') owner];rfl'
theorem Gb(hg:A.guards=U [])
  (hi:∀{A:bk} {s:aA} {a:ay} {Q:Fin->aA->Prop} {E:VP},A.guards=U []->iq s.heap a #[]->(∀h',iq h' a y->iW a s.heap h'->Q (.done (.ret .none)) {s with heap:=h'})->
   bw (aJ prog w) A (eT.«bytearray.__init__» #[[.ref a,x],[]]) Q E s)
 (q:∀h',iq h' s.heap.objs.size y->(∀b o,s.heap.get? b=U o->h'.get? b=U o)->Q (.ref s.heap.objs.size) {s with heap:=h'}):
  bw (aJ prog w) A (call (.type "bytearray") [x]) Q E s:=by
 refine sk (eS rfl ?_);refine bb #[yw _ (by decide+kernel),sZ (so _) F.entry_type_call ?_];rw [Around.under_plain (weight_type_call_type "bytearray" [x] []) rfl];unfold eT.«type.__call__»;dsimp only;refine dq rfl ?_;refine dq called.canCreate ?_;refine aw (bw.of (cX (RH x) ?_));refine aw (bw.of (cX MA ?_));refine dq rfl ?_;refine aw (bw.of (cX called.made ?_));refine aw (bb ?_);refine aw (cc (bw.of (ot (Jt (Yg (Q₁:=λv s'=>v= .ref s.heap.objs.size/\ s'={s with heap:=s.heap.push {cls:=.type "bytearray",data:=.bytearray #[]}}) (E:=λG G=>False) x #[rfl,rfl]) λr s' hr=>?_))));induction r using mT with
 |error e=>exact (hr:False).elim
 |ok fl=>
  induction fl using uK with
  |ret v=>
   obtain ⟨rfl,rfl⟩:=hr;have hb:iq (s.heap.push {cls:=.type "bytearray",data:=.bytearray #[]}) s.heap.objs.size #[]:=iX _ rfl;have hT:({s with heap:=s.heap.push {cls:=.type "bytearray",data:=.bytearray #[]}}:aA).TypeIs (.ref s.heap.objs.size) "bytearray" :=#[_,hb,rfl];refine aw (bw.of (ue hT EE ?_));refine dq rfl ?_;refine aw (cc ?_);simp -iota only [ug];refine aw (bw.of (fV hT sL.lookup ?_));simp only [sL.bind];refine cc (aw (bb (aw (sk ?_))));refine sN (MC _) sL.plain RF (λz=>sL.check _ _ _ _ _ _ _ _ hT (PA _ _) z) ?_;refine hi ?_ hb λh' h1 h2=>?_
   ·exact hg
   ·refine bb ?_
    refine dq rfl ?_;exact bb (q h' h1 λb o e=>(h2.2 b (lN (mR e))).trans (c7 _ e))
  |_=>exact hr.elim
end
end BA
set_option maxRecDepth 1000000
namespace BA
open PyProof.Rows Builtin
section
variable{prog:gW}{w:cP}{A:bk}{E:VP}{s:aA}{a:ay}{b:Array UInt8}
theorem abW:d9 (.type "bytes") "__int__" =pure none:=by rw [fT,fU];rfl'
theorem Tq:d9 (.type "bytes") "__float__" =pure none:=by rw [fT,fU];rfl'
theorem Yi:om (.type "bytes") (.type "bytearray")=pure false:=by rw [ju];rfl'
theorem Yj:om (.type "bytes") (.type "complex")=pure false:=by rw [ju];rfl'
theorem PB(args:rq):sE (.builtin "bytearray.__setitem__" args)=false:=by
 show r8.contains "bytearray.__setitem__" =av
 decide+kernel
theorem pick(h:a<=n):(if(a:Int)<0 then n - (-(a:Int)).toNat else min (a:Int).toNat n)=a:=(ax yE).trans (kH h)
theorem Tr{lo:Int}{n:Nat}(h0:0<=lo)(h1:lo<=hi)(h2:hi<=n):Ci (U lo) (U hi) u n=(lo,hi,1):=by
 obtain ⟨a,rfl⟩:=iA h0;obtain ⟨b,rfl⟩:=iA (qf h0 h1);have hb:b<=n:=lW.mp h2;have e1:kms_lo (U (a:Int)) n=a:=pick (bt (lW.mp h1) hb);have e2:kms_hi (U (b:Int)) n=b:=pick hb;rw [kms_bounds,e1,e2]
theorem Ts(hz:b.size<=1000):(b.extract i j).size<=1000:=bt (bf Array.size_extract) (bt (lQ _ _) (bt (JP _ _) hz))
theorem ae9{x:Array UInt8}{lo hi:Int}(h0:0<=lo)(h2:hi<=b.size)(h3:(x.size:Int)=hi - lo)(hz:b.size<=1000):x.size<=1000:=
 bt (lW.mp (h3▸qf (Int.sub_le_self hi h0) h2)) hz
theorem Tt(h:n<=3000):n<=sizeLine:=bt h (bt (aV rfl) (bf lA.symm))
theorem afa(h:x.size<=1000)(hz:b.size<=1000):(b.extract 0 i++x++b.extract j b.size).size<=sizeLine:=by
 rw [Lo,Lo];exact Tt (Rj (Ts hz) h (Ts hz) (aV rfl))
theorem afb(hg:A.guards=U []){lo:Int}(h:iq s.heap a b)(ho:s.heap.IsSliceOf sl (.int lo ag) (.int hi v) .none)(h0:0<=lo)(h1:lo<=hi)(h2:hi<=b.size)(h3:(x.size:Int)=hi - lo)(hz:b.size<=1000)
 (q:∀h' k,iq h' a (b.extract 0 lo.toNat++x++b.extract hi.toNat b.size)->(∀d o,d≠a->s.heap.get? d=U o->h'.get? d=U o)->Q () {s with heap:=h',toks:=k}):
  bw (aJ prog w) A (rm (.ref a) (.ref sl) (Lc x t)) Q E s:=by
 have hx:=ae9 h0 h2 h3 hz;unfold rm;refine cc (aw (bw.of (wpAny_sequenceKey h.typeIs (by decide) ?_)));refine aw ?_;simp -iota only [ug];refine aw (bw.of (fV h.typeIs qL.lookup ?_));simp only [qL.bind];refine cc (aw (bb (aw (sk ?_))));refine sN (PB _) qL.plain BA.Ig (λz=>qL.check _ _ _ _ _ _ _ _ h.typeIs (F9 _ _ _) z) ?_;refine aw ?_;unfold Ds;refine aw (bw.of (fV (ho.imp λG q=>#[q.1,q.2.1]) Jg ?_));refine bb ?_;refine aw (bw.of (Cf (ho.imp λG q=>#[q.1,q.2.1]) ?_));refine dq rfl ?_;refine aw (bw.of (DP ho (.int _ _) (.int _ _) ?_));refine aw (bw.of (ue (iB s x t) Yi ?_));refine wc rfl ?_;refine aw (bw.of ?_);unfold orM;refine aB (aB (fV (iB s x t) G9 (aX ?_)));refine aB (aB (fV (iB s x t) abW (aX ?_)));refine aB (aB (fV (iB s x t) Tq (aX ?_)));refine ue (iB s x t) Yj ?_;refine aw (bw.of (cX rfl ?_));refine dq rfl ?_;refine aw (qo ?_);refine aw (Gb (show A.in1.guards=U []from hg) (λhg h q=>EG hg (Tt (bt hx (aV rfl))) h q) λhh h4 hk=>?_);refine aw (cc (bw.of (DP (ho.imp λG q=>#[hk _ _ q.1,q.2]) (.int _ _) (.int _ _) ?_)));refine aw (bw.of (qM h4 ?_));refine aw (bw.of (qM (s:={s with heap:=hh}) (hk _ _ h) ?_));refine aw (bw.of (cX (Jh (U lo) (U hi) u b.size (λe=>nomatch e)) ?_));rw [Tr h0 h1 h2];refine wc rfl ?_;refine aw (qo ?_);rw [KZ h1];refine dq (bne_eq_false_iff_eq.mpr h3) (aw (bw.of (uU (s:={s with heap:=hh}) (hk _ _ h) (λb=>b.extract 0 lo.toNat++x++b.extract hi.toNat b.size) (afa hx hz) λh6=>?_)));have fin:=q _ s.toks h6 λd o nd e=>(oE _ _ (bP nd)).trans (hk _ _ e)
 first
  |exact bb (bb (bb fin))
  |exact aw (bb (bb (bb (bb fin))))
end
end BA
section
open PyProof.Rows Builtin
section
variable{P:fF}{c:Cx}{n:Nat}{r:Ev}{l:Loc}{O:L}{ρ:bG}{s:aA}{A:bk}{aL:List aU}{env:aU}
theorem PC(h:wz e=U z):∃p,e= .Slice z.1 z.2 u p:=by
 induction e using eV with
 |Slice a b st p=>induction st using aK with
  |none=>exact #[p,bh h▸rfl]
  |some _=>exact nomatch h
 |_=>exact nomatch h
theorem PD{slice:aH}(h:wz slice=u)(o i:az):subscripted slice av o i=Cb [o,i] (pZ o i):=by
 induction slice using eV with
 |Slice a b st p=>induction st using aK with
  |none=>exact nomatch h
  |some _=>rfl
 |_=>rfl
theorem abX(af:b9 c ρ O s.heap)(ro:Rep c.H ρ s.heap o ov)(e:index O o i=U x):∃T id,s.TypeIs ov T/\ d9 (.type T) "__getitem__" =pure (U (.builtin id)):=by
 unfold index at e;induction ho:dw o using aK with
 |some j=>
  rw [ho]at e;obtain ⟨a,d,rfl,hj⟩:=(dF ho▸ro).jC;dsimp only at e;induction e1:listAt O j using aK with
  |some xs=>
   refine (g8 af hj (eH e1)).elim λG hq=>hq.elim λvs hq=>hq.elim λn hq=>hq.elim λh1 hq=>?_;have r1:=hq.1;exact #[_,_,hq.2.typeIs,DA.lookup]
  |none=>
   rw [e1]at e;dsimp only at e;induction e1:dictAt O j using aK with
   |some kvs=>
    refine (k8 af hj (ie e1)).elim λG hq=>hq.elim λf1 hq=>hq.elim λws hq=>hq.elim λh1 r1=>?_;exact #[_,_,h1.typeIs,LA.lookup]
   |none=>
    rw [e1]at e;refine bl λaG=>?_;refine (gm e).elim λkvs hq=>?_;refine (Mp af hj (zT hq.1)).elim λG hq=>hq.elim λf1 hq=>hq.elim λws hq=>hq.elim λh1 r1=>?_;refine aG ?_;exact #[_,_,h1.typeIs,LA.lookup]
 |none=>
  rw [ho]at e;refine (gm e).elim λn hq=>hq.elim λhn e=>?_;induction ho:pe o using aK with
  |some xs=>
   obtain ⟨a,vs,rfl,h1,r1⟩:=(qI ho▸ro).tupI;exact #[_,_,h1.typeIs,WQ.lookup]
  |none=>
   rw [ho]at e;dsimp only at e;induction ho:yy o using aK with
   |some xs=>
    obtain ⟨a,vs,rfl,h1,r1⟩:=(yJ ho▸ro).Ru;exact #[_,_,(DO af h1).typeIs,DA.lookup]
   |none=>
    rw [ho]at e;refine (gm e).elim λb hq=>hq.elim λhb e=>?_;obtain ⟨t,rfl⟩:=(gL hb▸ro).sg;exact #[_,_,iB _ _ _,FB.slot_bytes_getitem.lookup]
theorem PE(B:fX c P)(S:e7 c n r)(E:cz c n A aL env ρ O l s)(o i:aH)(pos:bz)(hs:wz i=u):
  WX u c A (bq aL) bj ρ ((r.e env.scope l O o).bind λx O=>(r.e env.scope l O i).bind λy O=>eD O (index O x y)) (cI c) (eval (.Subscript o i pos) env) s:=by
 simp only [Ju];refine WX.bind (S.e E) λx dO ag s1 dP e1 p1 r1=>?_;refine WX.bind (WX.holding (S.e (E.on p1))) λy hZ v s2 kX e2 p2 r2=>WX.fH ?_;have r1':=Rep.mono p2.cq r1;have E2:=(E.on p1).on p2;have:=abH (A:=A) (Z:=bq aL) (X:=bj) E2.inv r1' r2;induction e:index hZ x y using aK with
 |none=>exact WX.no
 |some z=>
  refine bl λaG=>?_;refine (abX E2.inv r1' e).elim λT hq=>hq.elim λid hq=>hq.elim λh1 h2=>?_;refine aG ?_;rw [e]at this;exact W.x λhb=>Dy h1 h2 (this hb) (PD hs _ _)
theorem Hc(S:e7 c n r)(E:cz c n A aL env ρ O l s)(e:Option aH):WX u c A (bq aL) bj ρ (match e with|some e=>r.e env.scope l O e|.none=>.ok .none O) (cI c) (xA (xB e env)) s:=by
 rcases e with _|e
 ·exact WX.pure E.inv .none
 ·exact S.e E
theorem Tu{α:Type}(xs:List α)(lo hi:Nat):((xs.drop (min lo (J xs))).take (min hi (J xs) - min lo (J xs)))=cut lo hi xs:=by
 unfold cut;simp only [Kv];by_cases h:lo<=J xs
 ·rw [kH h]
  by_cases h2:hi<=J xs
  ·rw [kH h2]
  ·rw [CA (show(J xs)<=hi by exact (CB h2)),xV (by simp),xV (by simp;lia)]
 ·rw [CA (show(J xs)<=lo by exact (CB h)),xW (ez _),xW (show(J xs)<=lo by exact (CB h))]
  simp
theorem part_of(rv:Rep c.H ρ h v x)(e:Ej d v=U k):∃p:Option Int,ua x p/\ ((p=u/\ k=d) \/(p=U (k:Int))):=by
 induction v using V.casesOn with
 |none=>cases rv;exact #[u,.none,.inl #[rfl,(bh e).symm]]
 |int i=>
  obtain ⟨t,rfl⟩:=rv.kY;obtain ⟨hi,e⟩:=ite_yes e;exact #[U i,.int _ _,.inr (I U (bh e▸(yf hi.1).symm))]
 |_=>exact nomatch e
theorem Hd{a:Nat}(hp:(p=u/\ a=0) \/p=U (a:Int))(hq:(q=u/\ b=aR) \/q=U (b:Int))(hn:n<=aR):Ci p q u n=(((min a n:Nat):Int),((min b n:Nat):Int),1):=by
 unfold aR at hq hn
 rcases hp with⟨rfl,rfl⟩|rfl<;>rcases hq with⟨rfl,rfl⟩|rfl<;>simp only [Ci,Option.getD_none]<;>
  (try have a1:¬(a:Int)<0:=by exact yE)<;>(try have a2:¬(b:Int)<0:=by exact yE)<;>simp [*]<;>omega
theorem Tv{a:Nat}(hp:(p=u/\ a=0) \/p=U (a:Int))(hq:(q=u/\ b=aR) \/q=U (b:Int))(hn:xs.size<=aR):slicePick xs p q u=(cut a b xs.toList).toArray:=by
 unfold slicePick;rw [Hd hp hq hn];simp only [Jv,pick_run];simp only [←Tu,Dw]
theorem EH{a:Nat}(hp:(p=u/\ a=0) \/p=U (a:Int))(hq:(q=u/\ b=aR) \/q=U (b:Int))(hn:xs.size<=aR):yu xs p q=(cut a b xs.toList).toArray:=by
 unfold yu Bytes.sliced;rw [Hd hp hq hn];simp only [Jv,pick_run];simp only [←Tu,Dw]
theorem abY{α:Type}(lo hi:Nat)(xs:List α):J (cut lo hi xs)<=J xs:=by unfold cut;simp;exact (aiO (cg _ _))
theorem bJ.cut{H h}(r:bJ H ρ h xs vs)(lo hi:Nat):bJ H ρ h (cut lo hi xs) (cut lo hi vs):=(r.take hi).drop lo
theorem abZ{lo:V}(af:b9 c ρ O s.heap)(hs:s.heap.IsSliceOf sl vl vu .none)(ro:Rep c.H ρ s.heap o x)(rl:Rep c.H ρ s.heap lo vl)(ru:Rep c.H ρ s.heap hi vu):
  W c A Z X ρ (slice o lo hi O) (cI c) (subscriptTail value (.Slice le he u p) x (.ref sl)) s:=by
 refine W.opt λi hi=>W.opt λk1 e1=>W.opt λk2 e2=>?_;refine bl λaG=>?_;refine (part_of rl e1).elim λp1 hq=>hq.elim λq1 q2=>?_;refine (part_of ru e2).elim λp2 hq=>hq.elim λq3 q4=>?_;refine aG ?_;obtain ⟨a,d,rfl,hj⟩:=(dF hi▸ro).jC;induction e3:listAt O i using aK with
 |some xs=>
  refine W.ite λhz G=>?_;refine bl λaG=>?_;refine (g8 af hj (eH e3)).elim λhd hq=>hq.elim λvs hq=>hq.elim λn hq=>hq.elim λh1 hq=>?_;have r1:=hq.1;refine aG ?_;have hsz:vs.size<=aR:=bt (bf r1.length) hz;refine Dy hq.2.typeIs DA.lookup (wpAny_getItem_list_slice hq.2 hs q1 q3 .none (λz=>nomatch z) ?_ (bt hsz (by decide))) rfl;rw [Tv q2 q4 hsz];exact qx af (λG G e=>c7 _ e) (dU _) (dU _) λst=>#[rfl,_,_,iX _ rfl,(r1.cut k1 k2).mono st]
 |none=>
  refine W.opt λb e3=>W.ite λhz G=>?_;have hsz:b.toArray.size<=aR:=hz;refine bl λaG=>?_;have hd:=(nO af hj (gH e3)).1;have f1:=(nO af hj (gH e3)).2.1;refine aG ?_;have h1':BA.iq s.heap a b.toArray:=((nO af hj (gH e3)).2.2);refine Dy h1'.typeIs BA.uT.lookup (BA.X7 h1' hs q1 q3 ?_ ?_) rfl
  ·rw [EH q2 q4 hsz]
   exact bt (bt (abY k1 k2 b) hz) (by decide)
  ·rw [EH q2 q4 hsz]
   exact qx af (λG G e=>c7 _ e) (dU _) (dU _) λst=>#[rfl,iX _ rfl]
theorem zZ{β:Type}(m:Res V)(g:L->Res V)(f:V->V->L->Res β):(m.bind λa O=>(g O).bind λb O=>f a b O)=(m.bind λa O=>(g O).bind λb O=>.ok (a,b) O).bind λq O=>f q.1 q.2 O:=by
 induction m using Res.casesOn with
 |ok a O=>show(g O).bind _=((g O).bind _).bind _;cases g O<;>rfl
 |_=>rfl
noncomputable def ai7(c:Cx):bG->aQ->V×V->az->Prop:=λρ h p v=>∃sl vl vu,v= .ref sl/\ h.IsSliceOf sl vl vu .none/\ Rep c.H ρ h p.1 vl/\ Rep c.H ρ h p.2 vu
theorem EI(S:e7 c n r)(E:cz c n A aL env ρ O l s)(lo hi:Option aH):
  WX u c A (bq aL) bj ρ ((match lo with|some e=>r.e env.scope l O e|.none=>.ok .none O).bind λa O=>(match hi with|some e=>r.e env.scope l O e|.none=>.ok .none O).bind λb O=>.ok (a,b) O) (ai7 c)
   (xA (xB lo env)>>=λl=>holding [l] (xA (xB hi env))>>=λu'=>holding [l,u'] (xA (xB u env))>>=λs=>ub "slice" [l,u',s]) s:=by
 refine WX.bind (Hc S E lo) λa hZ vl s2 kX e2 p2 r2=>?_;refine WX.bind (WX.holding (Hc S (E.on p2) hi)) λb z6 vu s3 EJ e3 p3 r3=>λG=>?_;refine aw (cc (bb (bw.of ?_)));unfold ub;refine p7 ?_ (by show 3<=gy+2;decide);have hk:∀b o,s3.heap.get? b=U o->(s3.heap.push {cls:=.type "slice",data:=.fields [vl,vu,gh].toArray}).get? b=U o:=λb o q=>c7 _ q;have st:cG (bq aL) bj EJ s3.heap EJ (s3.heap.push {cls:=.type "slice",data:=.fields [vl,vu,gh].toArray}):=cG.more hk;exact #[(a,b),z6,EJ,rfl,#[st,((E.on p2).on p3).inv.more hk,rfl,rfl],_,vl,vu,rfl,Xu s3.heap vl vu .none,(Rep.mono p3.cq r2).mono st,Rep.mono st r3]
theorem alL(B:fX c P)(S:e7 c n r)(E:cz c n A aL env ρ O l s)(o:aH)(lo hi:Option aH)(p pos:bz):
  WX u c A (bq aL) bj ρ (jK P r env.scope l O (.Subscript o (.Slice lo hi u p) pos)) (cI c) (eval (.Subscript o (.Slice lo hi u p) pos) env) s:=by
 simp only [Ju];refine WX.bind (S.e E) λx dO ag s1 dP e1 p1 r1=>?_;refine WX.pK (zZ ..) ?_;refine WX.bind (WX.holding (EI S (E.on p1) lo hi)) λq hZ v s2 kX e2 p2 r2=>WX.fH ?_;obtain ⟨sl,vl,vu,rfl,hs,q1,q2⟩:=r2;exact (abZ ((E.on p1).on p2).inv hs (Rep.mono p2.cq r1) q1 q2).x
end
end
section
open PyProof.Rows Builtin
section
variable{P:fF}{c:Cx}{n:Nat}{r:Ev}{l:Loc}{O:L}{ρ:bG}{s:aA}{A:bk}{aL:List aU}{env:aU}
theorem jV.adopt(af:Inv prog w H ρ O s.heap)(nd:s.heap.get? d=u)
  (hk:∀b o,s.heap.get? b=U o->sd.heap.get? b=U o) (gs:sd.gens=s.gens) (os:sd.os=s.os) (exd:∃o,sd.heap.get? d=U o/\ ¬fe o)
  (p:jV prog w H Z bj ρ sd dP dO s1) (hs:iW d s1.heap h') (nz:¬Z d) (r:(∀{x:V} {v:az},Rep H dP s1.heap x v->Rep H (dP++ [(d,d)]) h' x v)->jD prog w H (dP++ [(d,d)]) h' d d m):
  jV prog w H Z bj ρ s (dP++ [(d,d)]) (dO++ [m]) {s1 with heap:=h',toks:=k}/\ (dP++ [(d,d)])[J dO]? =U (d,d):=by
 refine bl λaG=>?_;refine exd.elim λod hq=>hq.elim λed nf=>?_;refine aG ?_;have nfd:¬cy ρ d:=λf=>(af.foot f).elim λo e=>nn nd e.1
 have hB:H.get? d=none:=by
  rcases e:H.get? d with _|o
  ·rfl
  ·exact nn nd (af.base d o e)
 have RI:¬cy dP d:=p.cq.k7 ed nfd;have pre:∀(i:Nat) (q:ay×ay),dP[i]? =U q->(dP++ [(d,d)])[i]? =U q:=λi q e=>(eA (jj e).1).trans e;have kL:∀b o,s1.heap.get? b=U o->fe o->h'.get? b=U o:=λb o e f=>(hs.2 b λq=>nf (ss (q▸e) (p.cq.keep d od ed nfd (λx=>x) nz)▸f)).trans e
 have oQ:∀(i:Nat) (q:ay×ay),(dP++ [(d,d)])[i]? =U q->dP[i]? =U q \/(i=J dP/\ q=(d,d)):=λi q e=>by
  rcases kc i (J dP)with z|z
  ·exact .inl ((eA z).symm.trans e)
  ·exact .inr (A2 z ((ji z).symm.trans e))
 have vE:∀b,cy (dP++ [(d,d)]) b->cy dP b \/b=d:=λb f=>by
  refine bl λaG=>?_;refine f.elim λi hq=>hq.elim λx hq=>hq.elim λy hq=>hq.elim λe q=>?_;refine aG ?_;rcases oQ _ _ e with e|⟨_,e⟩
  ·exact .inl #[i,x,y,e,q]
  ·exact .inr (q.elim (λz=>z.trans (yk e).1) λz=>z.trans (yk e).2)
 have last:(dP++ [(d,d)])[J dO]? =U (d,d):=by rw [←p.inv.size];simp
 have afc:∀b o,s1.heap.get? b=U o->∃o',h'.get? b=U o':=λb o e=>by
  by_cases q:b=d
  ·exact q▸((r λx=>x.lift pre kL).calm d (.inl rfl)).imp λG z=>z.1
  ·exact #[o,(hs.2 b q).trans e]
 have Qa:∀b o,s.heap.get? b=U o->b≠d:=λb o e q=>nn nd (q▸e)
 have cq:cG Z bj ρ s.heap (dP++ [(d,d)]) h':=
  ⟨λi q e=>pre i q (p.cq.pre i q e),λb f n=>by
   rcases vE b f with q|q
   ·rcases e:s.heap.get? b with _|o
    ·rfl
    ·exact nn (p.cq.new b q n) (hk b o e)
   ·exact q▸nd,
   λb o e n x z=>(hs.2 b (Qa b o e)).trans (p.cq.keep b o (hk b o e) n x z),
   λb o e n x=>(p.cq.slot b o (hk b o e) n x).imp λsl q=>(hs.2 b (Qa b o e)).trans q,
   λb o e f=>(hs.2 b (Qa b o e)).trans (p.cq.kL b o (hk b o e) f),
   λb o e=>(p.cq.alive b o (hk b o e)).elim λo' q=>afc b o' q,λG G x=>x.elim⟩
 refine #[#[cq,#[λb o e=>(hs.2 b λq=>nn hB (q▸e)).trans (p.inv.base b o e),by simp [p.inv.size],λi m' e=>?_,λi j a1 d1 a2 d2 ne e1 e2=>?_,λb f=>?_],p.gens.trans gs,p.os.trans os],last]
 ·rcases kc i (J dO)with q|q
  ·obtain ⟨a',d',e',r'⟩:=p.inv.objs i m' ((eA q).symm.trans e)
   exact #[a',d',pre _ _ e',r'.lift pre kL (hs.2 a' λz=>RI #[i,a',d',e',.inl z.symm]) (hs.2 d' λz=>RI #[i,a',d',e',.inr z.symm])]
  ·obtain ⟨z1,z2⟩:=A2 q ((ji q).symm.trans e)
   exact #[d,d,z1▸last,z2▸r λx=>x.lift pre kL]
 ·have live:∀{i:Nat} {x y:ay},dP[i]? =U (x,y)->x≠d/\ y≠d:=λ{i x y} e=>#[λz=>RI #[i,x,y,e,.inl z.symm],λz=>RI #[i,x,y,e,.inr z.symm]]
  rcases oQ _ _ e1 with e1|⟨z1,e1⟩<;>rcases oQ _ _ e2 with e2|⟨z2,e2⟩
  ·exact p.inv.apart i j _ _ _ _ ne e1 e2
  ·cases e2
   have l1:=live e1;exact #[l1.1,l1.1,l1.2,l1.2]
  ·cases e1
   have l2:=live e2;exact #[bP l2.1,bP l2.2,bP l2.1,bP l2.2]
  ·exact absurd (z1.trans z2.symm) ne
 ·exact (vE b f).elim (p.inv.fresh b) λq=>q▸hB
end
end
section
open PyProof.Rows Builtin
section
variable{P:fF}{c:Cx}{n:Nat}{r:Ev}{l:Loc}{O:L}{ρ:bG}{s:aA}{A:bk}{aL:List aU}{env:aU}
noncomputable def Tw(env:aU)(pos:bz)(ks:List (Option aH)):LX->List (b6 az×b6 az):=match ks with
 | []=>λG=> []
 |k::ks=>λvs=>match k,vs with
  |some k,v::vs=>(eval k env,eval v env>>=λx=>lz pos>>=λG=>pure x)::Tw env pos ks vs
  |_,_=> []
theorem Tx(env:aU)(pos:bz)(ks:List (Option aH)):∀(vs:LX),J ks=J vs->ks.all (·.isSome)=ai->
  (evalEachOpt ks env).zip ((evalEach vs env).map λv=>do let x←v;lz pos;pure x)=(Tw env pos ks vs).map λp=>(U p.1,p.2):=by
 induction ks with
 |nil=>intro vs h _;induction vs using bS with
  |nil=>rfl
  |cons _ _=>exact nomatch h
 |cons k ks ih=>intro vs h h2;induction vs using bS with
  |nil=>exact nomatch h
  |cons v vs=>induction k using aK with
   |none=>exact nomatch h2
   |some k=>exact I (uC (U (eval k env),_)) (ih vs (kJ h) h2)
theorem ab0(env:aU)(pos:bz)(ks:List (Option aH)):∀(vs:LX),J (Tw env pos ks vs)<=J ks:=by
 induction ks with
 |nil=>exact λG=>ez _
 |cons k ks ih=>intro vs;induction k using aK with
  |none=>exact bp _
  |some k=>induction vs using bS with
   |nil=>exact bp _
   |cons v vs=>exact mM (ih vs)
noncomputable def vH(c:Cx):bG->aQ->List (V×V)->List (az×az)->Prop:=λρ h kvs ps=>bJ c.H ρ h (kvs.map (·.1)) (ps.map (·.1))/\ bJ c.H ρ h (kvs.map (·.2)) (ps.map (·.2))
theorem Tz(S:e7 c n r)(pos:bz)(ks:List (Option aH)):∀(vs:LX) {O:L} {ρ:bG} {s:aA},cz c n A aL env ρ O l s->
  WX u c A (bq aL) bj ρ (wu (r.e env.scope l) ks vs O) (vH c) (evalPairs (Tw env pos ks vs)) s:=by
 induction ks with
 |nil=>intro vs O ρ s E;induction vs using bS with
  |nil=>exact WX.pure E.inv #[.nil,.nil]
  |cons _ _=>exact WX.no
 |cons k ks ih=>intro vs O ρ s E;induction k using aK with
  |none=>exact WX.no
  |some k=>induction vs using bS with
   |nil=>exact WX.no
   |cons v vs=>
    refine WX.bind (S.e E) λkv dO ag s1 dP e1 p1 r1=>?_
    have hv:WX u c A (bq aL) bj dP (r.e env.scope l dO v) (cI c) (holding [ag] (eval v env>>=λx=>lz pos>>=λG=>pure x)) s1:=
     WX.holding λhb=>aw (cB (S.e (E.on p1) hb) (λx s2 q=>aw (ig (bb q))) λG G q=>q)
    refine WX.bind hv λvv hZ w s2 kX e2 p2 r2=>?_;have E2:=(E.on p1).on p2;refine WX.bind (WX.holding (ih vs E2)) λrest z6 ps s3 EJ e3 p3 r3=>?_;exact WX.pure (E2.on p3).inv #[.cons (Rep.mono p3.cq (Rep.mono p2.cq r1)) r3.1,.cons (Rep.mono p3.cq r2) r3.2]
theorem vH.cons_inv(q:vH c ρ h (p::kvs) ps):∃x r,ps=x::r/\ Rep c.H ρ h p.1 x.1/\ Rep c.H ρ h p.2 x.2/\ vH c ρ h kvs r:=by
 rcases ps with _|⟨x,r⟩
 ·exact nomatch bJ.length q.1
 ·
  refine bl λaG=>?_;obtain ⟨v,ws,e,a,b⟩:=q.1.ph;obtain ⟨v',ws',e',a',b'⟩:=q.2.ph;refine aG ?_;cases e;cases e'
  exact #[x,r,rfl,a,a',b,b']
theorem vH.nil_inv(q:vH c ρ h [] ps):ps= []:=Ko.mp q.1.yB
theorem TA:∀{ps:List (az×az)} {d:SV},vH c ρ h kvs ps->strKeys kvs=U d->∃ws,Cj (kz c.prog c.w) ps ws/\ ec c.H ρ h d ws:=by
 induction kvs with
 |nil=>intro ps d q e;obtain rfl:=bh e;rw [q.nil_inv];exact #[[],tv,.nil]
 |cons p kvs ih=>
  intro ps d q e;obtain ⟨k,hk,e⟩:=gm e;obtain ⟨d',e',rfl⟩:=je.mp e;obtain ⟨⟨kx,vx⟩,r,rfl,a1,a2,b⟩:=q.cons_inv;obtain ⟨t,rfl⟩:=(lb hk▸a1).zP;obtain ⟨ws,w1,w2⟩:=ih b e';exact #[(_,vx)::ws,#[by simp [kz,qj],rfl,w1],.cons a2 w2]
theorem TB:∀{ps:List (az×az)} {d:List (Int×V)},vH c ρ h kvs ps->intKeys kvs=U d->∃ws,Cj (B1 c.prog c.w) ps ws/\ ec c.H ρ h d ws:=by
 induction kvs with
 |nil=>intro ps d q e;obtain rfl:=bh e;rw [q.nil_inv];exact #[[],tv,.nil]
 |cons p kvs ih=>
  intro ps d q e;obtain ⟨k,hk,e⟩:=gm e;obtain ⟨d',e',rfl⟩:=je.mp e;obtain ⟨⟨kx,vx⟩,r,rfl,a1,a2,b⟩:=q.cons_inv;obtain ⟨t,rfl⟩:=(cD hk▸a1).kY;obtain ⟨ws,w1,w2⟩:=ih b e';exact #[(_,vx)::ws,#[by simp [B1,Lb],rfl,w1],.cons a2 w2]
theorem PF:∀{vs:LX} {O aZ:L} {kvs:List (V×V)},wu f ks vs O= .ok kvs aZ->J kvs=J ks:=by
 induction ks with
 |nil=>intro vs O aZ kvs h;induction vs using bS with
  |nil=>cases h;rfl
  |cons _ _=>exact nomatch h
 |cons k ks ih=>intro vs O aZ kvs h;induction k using aK with
  |none=>exact nomatch h
  |some k=>induction vs using bS with
   |nil=>exact nomatch h
   |cons v vs=>
    refine bl λaG=>?_;obtain ⟨kv,dO,_,h⟩:=uS h;obtain ⟨vv,hZ,_,h⟩:=uS h;obtain ⟨r,z6,h3,h⟩:=uS h;refine aG ?_;cases h
    exact I jv (ih h3)
theorem uV(f:∀{x:V} {v:az},Rep H ρ h x v->Rep H aS h' x v)(r:bJ H ρ h xs vs):bJ H aS h' xs vs:=r.map f
theorem ab1{K:Type} [DecidableEq K]{k:K}{ks:List K}(acc:List (K×az)):distinct (acc.map (·.1)++k::ks)=ai->acc.any (λkv=>kv.1=k)=false:=by
 induction acc with
 |nil=>exact λG=>rfl
 |cons p acc ih=>
  intro h;replace h:=(iK _ _▸h:_/\ _);simp only [rQ,ih h.2,tU];have h1:(!(acc.map (·.1)++k::ks).contains p.1)=true:=h.1;refine fy λq=>?_;simp only [q,Kw,og,decide_eq_false_iff_not]at h1;exact h1 (List.mem_append_right _ cY)
theorem RJ{K:Type} [DecidableEq K](ws:List (K×az)):∀acc:List (K×az),distinct (acc.map (·.1)++ws.map (·.1))=ai->B2 acc ws=acc++ws:=by
 induction ws with
 |nil=>exact λacc G=>(cL _).symm
 |cons p ws ih=>
  intro acc h;show B2 (xk acc p.1 p.2) ws=_
  unfold xk;rw [ab1 acc h];have:=ih (acc++ [p]) (by rw [oB,cM];exact h);simp only [cM]at this;exact this
theorem MD(F:∀e∈aL,eB H ρ h e)(nd:h.get? d=u):¬bq aL d:=λ#[env,he,hf]=>by
 obtain ⟨_,ao,o,es,k,f1,_,_,f2,_⟩:=F env he;exact nn nd (bh (hf.symm.trans f1)▸f2)
theorem ME{K:Type} [DecidableEq K]{knd:KeyKind c.prog c.w K}{d:List (K×V)}{ws:List (K×az)}(af:b9 c ρ O s.heap)
  (hk:∀b o,s.heap.get? b=U o->sd.heap.get? b=U o) (gs:sd.gens=s.gens) (os:sd.os=s.os) (ed:sd.heap.get? s.heap.objs.size=U {cls:=.type "dict",data:=.dict #[]}) (p1:b7 c (bq aL) bj ρ sd dP dO s1) (nz:¬bq aL s.heap.objs.size)
  (hd0:s1.heap.DictOf knd s.heap.objs.size []) (hlp:J ps<=15) (w1:Cj knd ps ws) (w2:ec c.H dP s1.heap d ws) (tA:distinct (d.map (·.1))=ai)
  (hm:∀{aS:bG} {h':aQ} {a:ay},h'.DictOf knd a ws->ec c.H aS h' d ws->jD c.prog c.w c.H aS h' a a m)
  (hQ:∀s',hU c (bq aL) bj ρ s (new m dO) (cI c) (.ref s.heap.objs.size) s'->Q DE s'):
  aN (aJ c.prog c.w) A (forIn ps DE λx (_:PUnit)=>(do dictSet s.heap.objs.size x.1 x.2;pure (mU DE):b6 (ForInStep PUnit))) Q E s1:=by
 refine wpAny_storeAll ps ws [] s1 _ w1 hd0 (bt (bf (kg _)) (bt (w1.length▸hlp) (by decide))) λh' Qb hs=>hQ _ ?_;rw [RJ ws [] (w2.1▸tA:distinct (ws.map (·.1))=ai)]at Qb;refine (jV.adopt (k:=s1.toks+J ps) af (dU _) hk gs os #[_,ed,λz=>z.2.1 _ _ rfl] p1 hs nz λlift=>hm Qb #[w2.1,uV lift w2.2]).elim λpf last=>?_;exact #[_,_,_,rfl,pf,.ref last]
theorem afd(S:e7 c n r)(E:cz c n A aL env ρ O l s)(ks:List (Option aH))(vs:LX)(pos:bz):
  WX u c A (bq aL) bj ρ (jK P r env.scope l O (.Dict ks vs pos)) (cI c) (eval (.Dict ks vs pos) env) s:=by
 refine WX.ite λhp=>?_;obtain ⟨hl,hl2,aff⟩:=hp;simp only [arm_eval_Dict,Tx env pos ks vs hl2 aff];refine WX.fH ?_;induction ks using bS with
 |nil=>induction vs using bS with
  |cons _ _=>exact nomatch hl2
  |nil=>
   show WX u c A (bq aL) bj ρ (new (.dict []) O) (cI c) newDict s
   exact W.x λG=>p7 (qx E.inv (λG G e=>c7 _ e) (dU _) (dU _) λst=>#[rfl,[],LM _,.nil]) (bp _)
 |cons k ks=>
  have vG:Tw env pos (k::ks) vs≠ []:=by
   rcases vs with _|⟨v,vs⟩
   ·exact nomatch hl2
   ·rcases k with _|k
    ·exact nomatch aff
    ·exact List.cons_ne_nil _ _
  have hlen:=bt (ab0 env pos (k::ks) vs) hl;generalize k::ks=ks at hl vG hlen⊢;rw [dictDisplay_pairs _ vG (gd hlen (bF rfl))];intro hb;unfold subDict;refine aw (aw (bw.of (Jw ?_)));have hk:∀b o,s.heap.get? b=U o->(s.heap.push {cls:=.type "dict",data:=.dict #[]}).get? b=U o:=λb o q=>c7 _ q;have alM:∀{K:Type} [DecidableEq K] {knd:KeyKind c.prog c.w K},(s.heap.push {cls:=.type "dict",data:=.dict #[]}).DictOf knd s.heap.objs.size []:=λ{K _ knd}=>LM s.heap;have ed:(s.heap.push {cls:=.type "dict",data:=.dict #[]}).get? s.heap.objs.size=U {cls:=.type "dict",data:=.dict #[]}:=iX _ rfl;generalize EK:(#[s.heap.push {cls:=.type "dict",data:=.dict #[]},s.gens,s.drawn,s.toks,s.os]:aA)=sd;have p0:b7 c (bq aL) bj ρ s ρ O sd:=EK▸#[cG.more hk,E.inv.more hk,rfl,rfl];refine aw (cc ?_);rw [au (by assumption)];refine aw (cB (Tz S pos ks vs (E.on p0) (jE hb)) (λps s1 q=>?_) λG G q=>fA.trans p0 q.bind);refine bl λaG=>?_;obtain ⟨kvs,dO,dP,e1,p1,r1⟩:=q;refine aG ?_;have nz:¬bq aL s.heap.objs.size:=MD E.fs (dU _);have eds:sd.heap.get? s.heap.objs.size=U {cls:=.type "dict",data:=.dict #[]}:=EK▸ed
  have hd0:∀{K:Type} [DecidableEq K] {knd:KeyKind c.prog c.w K},s1.heap.DictOf knd s.heap.objs.size []:=λ{K _ knd}=>by
   refine bl λaG=>?_;refine (alM (knd:=knd)).elim λo hq=>hq.elim λes hq=>hq.elim λep hq=>hq.elim λq1 q2=>?_;refine aG ?_;exact #[o,es,ep,p1.cq.keep _ _ (EK▸q1) (λf=>(E.inv.foot f).elim λo q=>nn (dU _) q.1) (λx=>x) nz,q2]
  have hlp:J ps<=15:=by
   have a1:J ps=J kvs:=by have:=r1.1.length;rwa [cQ,cQ]at this
   exact a1▸PF e1▸hl
  rw [iD e1]at hb⊢;unfold Md at hb⊢;induction hsk:strKeys kvs using aK with
  |some d=>
   rw [hsk]at hb;refine bl λaG=>?_;refine (TA r1 hsk).elim λws hq=>hq.elim λw1 w2=>?_;refine aG ?_;dsimp only at hb⊢;by_cases tA:distinct (d.map (·.1))=ai
   ·rw [au tA]
    exact cc (aw (bw.of (ME (m:=.dict d) E.inv (EK▸hk) (EK▸rfl) (EK▸rfl) eds p1 nz hd0 hlp w1 w2 tA (λa b=>#[rfl,ws,a,b]) λs' q=>bb (bb (bb q)))))
   ·rw [ax tA]at hb;exact Mi hb
  |none=>
   rw [hsk]at hb;dsimp only at hb⊢;induction hik:intKeys kvs using aK with
   |none=>rw [hik]at hb;exact Mi hb
   |some d=>
    rw [hik]at hb;refine (TB r1 hik).elim λws hq=>?_;have w1:=hq.1;have w2:=hq.2;dsimp only at hb⊢;by_cases tA:distinct (d.map (·.1))=ai
    ·rw [au tA]
     exact cc (aw (bw.of (ME (m:=.fW d) E.inv (EK▸hk) (EK▸rfl) (EK▸rfl) eds p1 nz hd0 hlp w1 w2 tA (λa b=>#[rfl,ws,a,b]) λs' q=>bb (bb (bb q)))))
    ·rw [ax tA]at hb;exact Mi hb
end
end
section
open PyProof.Rows Builtin
section
variable{P:fF}{c:Cx}{n:Nat}{r:Ev}{l:Loc}{O:L}{ρ:bG}{s:aA}{A:bk}{aL:List aU}{env:aU}
theorem jV.nU(p:jV prog w H Z X ρ s aS aZ s')(xy:∀b o,s.heap.get? b=U o->X b->Y b):jV prog w H Z Y ρ s aS aZ s':=
 #[p.cq.nU xy,p.inv,p.gens,p.os]
theorem z7{h h':aQ}(e:h.get? b=U o)(d:o.data= .fields vs):((∃m,h.Ns b m)->∃m,h'.Ns b m)/\ ((∃v,h.IsCell b v)->∃v,h'.IsCell b v):=by
 constructor
 ·rintro ⟨m,o',es,ep,e',z,_⟩;exact nomatch d.symm.trans ((I lX (ss e e')).trans z)
 ·rintro ⟨v,o',e',z⟩;exact nomatch d.symm.trans ((I lX (ss e e')).trans z)
theorem gT.raw(F:gT H ρ h env l)(s:cG Z (cJ env) ρ h aS h'):gT H aS h' env (λG=>u):=by
 refine bl λaG=>?_;refine F.ns.elim λm hq=>?_;have N:=hq.1;refine (id N).elim λoL hq=>hq.elim λG hq=>hq.elim λG hq=>?_;obtain ⟨m',N'⟩:=(s.own env.locals F.own.1 (.inl rfl)).1 #[m,N];refine aG ?_;refine #[F.kind,F.glob,F.blt,#[m',N',(λx v e=>nomatch e)],(λx v e=>nomatch e),λx k=>?_,#[s.k7 hq.1 F.own.1,F.own.2],λx c e=>?_,F.inj]
 ·obtain ⟨c,ov,a,b⟩:=F.has x k
  obtain ⟨v',b'⟩:=(s.own c (F.qG x c a).1 (.inr #[x,k,a])).2 #[ov,b];exact #[c,v',a,b']
 ·obtain ⟨a1,a2,a3,o,ov,a4,a5⟩:=F.qG x c e
  by_cases xo:cJ env c
  ·obtain ⟨v',o',e',d'⟩:=(s.own c a1 xo).2 #[ov,o,a4,a5]
   exact #[s.k7 a4 a1,a2,a3,o',v',e',d']
  ·obtain ⟨sl,e'⟩:=s.slot _ _ a4 a1 xo
   exact #[s.k7 a4 a1,a2,a3,_,ov,e',a5]
theorem eB.raw(K:eB H ρ h e)(F:gT H ρ h env l)(s:cG Z (cJ env) ρ h aS h'):eB H aS h' e:=
 K.mono s λb x o es n e d=>by
  rcases x with rfl|⟨x,k,q⟩
  ·obtain ⟨m,N,_⟩:=F.ns
   refine bl λaG=>?_;refine ((s.own env.locals F.own.1 (.inl rfl)).1 #[m,N]).elim λm' hq=>hq.elim λo' hq=>hq.elim λes' hq=>hq.elim λep hq=>?_;refine aG ?_;exact #[o',es',ep,hq.1,hq.2.1]
  ·obtain ⟨_,_,_,o',ov,a4,a5⟩:=F.qG x b q
   exact nomatch d.symm.trans ((I lX (ss e a4)).trans a5)
theorem cz.DR(E:cz c n A (env::aL) env ρ O l s)(p:b7 c (bq (env::aL)) X ρ s aS aZ s')(hx:∀b o,s.heap.get? b=U o->X b->cJ env b):cz c n A (env::aL) env aS aZ (λG=>u) s':=
 #[p.inv,E.fr.raw (p.nU hx).cq,λe he=>(E.fs e he).raw E.fr (p.nU hx).cq,E.a]
theorem cz.next(E:cz c n A (env::aL) env ρ O l s)(p:b7 c (bq (env::aL)) X ρ s aS aZ s')(hx:∀b o,s.heap.get? b=U o->X b->cJ env b)(F:gT c.H aS s'.heap env l'):cz c n A (env::aL) env aS aZ l' s':=
 #[p.inv,F,λe he=>(E.fs e he).raw E.fr (p.nU hx).cq,E.a]
theorem TC{l:List aU}:(∀e∈l,eB c.H ρ s.heap e)->s.heap.FunFrames c.H l:=by
 induction l with
 |nil=>intro _;trivial
 |cons e l ih=>
  intro h;refine bl λaG=>?_;obtain ⟨k,ao,o,es,m,e1,e2,e3,e4,e5⟩:=h e cY;refine aG ?_;exact #[k,#[ao,o,e1,e2,e4,λvs z=>nomatch e5.symm.trans z],ih λe he=>h e (cZ _ he)]
theorem Gd{l:List aU}:b∈l.filterMap (·.frame)->bq l b:=λh=>by
 refine (List.mem_filterMap.mp h).elim λe hq=>hq.elim λhe hf=>?_;exact #[e,he,hf]
theorem MF{l:List aU}(F:∀e∈l,eB c.H ρ s.heap e)(z:bq l b):¬cy ρ b/\ c.H.get? b=u/\ ∃o es n,s.heap.get? b=U o/\ o.data= .dict es n:=by
 refine bl λaG=>?_;refine z.elim λe hq=>hq.elim λhe hf=>?_;obtain ⟨k,ao,o,es,m,e1,e2,e3,e4,e5⟩:=F e he;refine aG ?_;exact bh (e1.symm.trans hf)▸#[e3,e2,o,es,m,e4,e5]
theorem TF{vs:Array az}(hc:o.cls= .type k)(h1:k≠ "tuple")(h2:k≠ "range"):¬fe o:=λf=>f.1.elim (λq=>h1 (oK (hc.symm.trans q))) λq=>h2 (oK (hc.symm.trans q))
theorem TG{K:OV->Prop}(f:gZ K c.C c.H ρ h₀ h y e):∃x d vs sl,e= .ref x/\ PY K c.C c.H ρ h₀ h y x d vs sl:=f
theorem afi:¬fe #[.ref C,od,da,sl]:=λf=>f.1.elim (λq=>nomatch q) λq=>nomatch q
theorem ai8:¬fe #[.type "traceback",od,da,sl]:=TF (vs:= #[]) rfl (by decide) (by decide)
structure Yk(c:Cx)(ρ:bG)(h₀ h:aQ)(d:ay)(b:ay):Prop where
 new:yD c.H ρ h₀ b
 nd:b≠d
 obj:∃o vs,h.get? b=U o/\ o.data= .fields vs/\ ¬fe o
theorem PY.Y{K:OV->Prop}(f:PY K c.C c.H ρ h₀ h y x d vs sl)(hb:b=x \/vs[1]? =U (.ref b)):Yk c ρ h₀ h d b:=by
 rcases hb with rfl|q
 ·exact #[f.nx,f.ne,_,_,f.ex,rfl,afi]
 ·rcases f.tb with⟨z,_⟩|⟨T,ts,fl,g⟩
  ·exact nomatch q.symm.trans z
  ·have e:=yt (ss g.v1 q)
   subst e;exact #[g.new,g.nd,_,_,g.at_,rfl,ai8]
theorem MG{K:OV->Prop}
  (hz:∀b,Z b->¬cy ρ b/\ c.H.get? b=u/\ ∀o,s.heap.get? b=U o->¬fe o) (p:b7 c Z X cu bN ρ O s) (f:PY K c.C c.H ρ bN.heap s.heap y x d vs sl) (Y:AP) (hY:∀b,Y b->b=x \/vs[1]? =U (.ref b)) (gs:s'.gens=s.gens) (os:s'.os=s.os)
  (k1:∀b o,s.heap.get? b=U o->¬Y b->¬Z b->s'.heap.get? b=U o) (k2:∀b o,s.heap.get? b=U o->¬Y b->∃sl,s'.heap.get? b=U {o with slots:=sl}) (k3:∀b,Y b->∃o',s'.heap.get? b=U o'):
  b7 c Z Y ρ s ρ O s'/\ b7 c Z X cu bN ρ O s'/\ (∃m cv,s'.heap.Ns d m/\ m "why" =U cv/\ Rep c.H ρ s'.heap y cv):=by
 have He:∀b,Y b->Yk c ρ bN.heap s.heap d b:=λb yb=>f.Y (hY b yb)
 have st:cG Z Y ρ s.heap ρ s'.heap:=cG.loose (λb o zb e=>(hz b zb).2.2 o e) (λb o yb e=>(He b yb).obj.elim λo' q=>q.elim λG q=>ss q.1 e▸q.2.2) k1 k2 (λb o e=>by
   by_cases yb:Y b
   ·exact k3 b yb
   ·exact (k2 b o e yb).elim λG q=>#[_,q]) λb yb=>(He b yb).obj.elim λo' q=>q.elim λG q=>z7 q.1 q.2.1
 refine #[(#[st,(p.inv.loose st k1 (λb zb=>#[(hz b zb).1,(hz b zb).2.1]) λb yb=>#[(He b yb).new.2.2,(He b yb).new.2.1]),gs,os]:b7 c Z Y ρ s ρ O s'),?_,?_]
 ·have t:=jV.trans (p.weak (Y:=λb=>X b \/Y b) λG=>.inl) ((#[st,(p.inv.loose st k1 (λb zb=>#[(hz b zb).1,(hz b zb).2.1]) λb yb=>#[(He b yb).new.2.2,(He b yb).new.2.1]),gs,os]:b7 c Z Y ρ s ρ O s').weak λG=>.inr)
  exact t.nU λb o e xy=>xy.elim id λyb=>nn (He b yb).new.1 e
 ·obtain ⟨m,cv,⟨o,es,ep,e,z⟩,b,r⟩:=f.why
  refine (k2 d o e λyd=>(He d yd).nd rfl).elim λsl e'=>?_;exact #[m,cv,#[_,es,ep,e',z],b,r.mono st]
theorem MH{l:List aU}(fs:∀e∈l,eB c.H ρ s.heap e):∀b,bq l b->¬cy ρ b/\ c.H.get? b=u/\ ∀o,s.heap.get? b=U o->¬fe o:=λb z=>(MF fs z).imp id λq=>#[q.1,λo e f=>q.2.elim λo' q=>q.elim λes q=>q.elim λn q=>f.2.1 _ _ ((I lX (ss e q.1)).trans q.2)]
theorem pW{K:OV->Prop}
  (hz:∀b,Z b->¬cy ρ b/\ c.H.get? b=u/\ ∀o,s.heap.get? b=U o->¬fe o) (p:b7 c Z X cu bN ρ O s) (f:gZ K c.C c.H ρ bN.heap s.heap y e) (k0:K u->K' u) (k1:K' (U (fr.elim .none λf=>gX f)))
  (h:∀s',b7 c Z (λb=>bN.heap.get? b=u) ρ s ρ O s'->b7 c Z X cu bN ρ O s'->gZ K' c.C c.H ρ bN.heap s'.heap y e->Q () s'):aN M A (Ck e fr) Q E s:=by
 obtain ⟨x,d,vs,sl,rfl,f⟩:=f;unfold Ck;rcases f.tb with⟨h1,hk⟩|⟨T,ts,fl,g⟩
 ·refine aB (gC f.ex rfl h1 ?_)
  rw [ax (show¬((gh !=gh)=ai) by decide)];exact aX (h _ (jV.refl p.inv) p #[x,d,vs,sl,rfl,{f with tb:=.inl #[h1,k0 hk]}])
 ·refine aB (gC f.ex rfl g.v1 ?_)
  rw [au (show(gF T !=gh)=ai by simp)];have t5:=(yp.mp g.t3).1;refine rD g.at_ rfl t5 ?_;have hT:=mS (iY (·.setIfInBounds 3 (fr.elim gh λf=>gX f))) g.at_ rfl;have z8:∀b,b≠T->(s.heap.update T (iY (·.setIfInBounds 3 (fr.elim gh λf=>gX f)))).get? b=s.heap.get? b:=λb hb=>oE _ _ (bP hb);generalize s.heap.update T (iY (·.setIfInBounds 3 (fr.elim gh λf=>gX f)))=h' at hT z8⊢;refine (MG (s':={s with heap:=h'}) hz p f (λb=>b=T) (λb hb=>.inr (hb▸g.v1)) rfl rfl (λb o e nb G=>(z8 b nb).trans e) (λb o e nb=>#[o.slots,(z8 b nb).trans e]) (λb hb=>#[_,hb▸hT])).elim λp1 hq=>hq.elim λp2 w=>?_;refine h _ (p1.weak λb hb=>hb▸g.new.1) p2 #[x,d,vs,sl,rfl,f.ne,f.nx,f.nd,(z8 x (bP g.nx)).trans f.ex,w,.inr #[T,_,_,g.v1,g.nx,g.nd,g.new,hT,?_,k1]];rw [Lq,au t5]
theorem EL(x:Heap.SlotsOnly S h h'){Z:AP}(z:∀b,b∈S->Z b)(e:h.get? b=U o):(¬Z b->h'.get? b=U o)/\ ∃sl,h'.get? b=U {o with slots:=sl}:=
 #[λn=>(x.2.1 b λq=>n (z b q)).trans e,x.2.2 b o e]
section
variable{M:gz}{K:OV->Prop}{X:AP}{bN:aA}{cu:bG}{y:V}{ao:ay}{outer:List aU}{Q:Unit->aA->Prop}{E:VP}{x d:ay}{vs:Array az}{sl:Array (OV)}
  (Hf:A.frames=U (env::outer)) (fs:∀e∈env::outer,eB c.H ρ s.heap e) (hf:env.frame=U ao) (p:b7 c (bq (env::outer)) X cu bN ρ O s) (f:PY K c.C c.H ρ bN.heap s.heap y x d vs sl)
  (h:∀s',b7 c (bq (env::outer)) (λb=>bN.heap.get? b=u) ρ s ρ O s'->b7 c (bq (env::outer)) X cu bN ρ O s'->gZ (λk=>k=U (gX ao)) c.C c.H ρ bN.heap s'.heap y (.ref x)->Q () s')
include Hf fs hf p f h
theorem Hg(Y:AP)(hY:∀b,Y b->b=x \/vs[1]? =U (.ref b))(Yx:Y x)(g1:cN.gens=s.gens)(g2:cN.os=s.os)
   (k1:∀b o,s.heap.get? b=U o->¬Y b->cN.heap.get? b=U o) (k2:∀b,Y b->∃o',cN.heap.get? b=U o') (ex1:cN.heap.get? x=s.heap.get? x):
   aN M A (do let a←frameOf env;let pl←entryPlaceOf ao b;let b←EntryCells.newEntry head a .none (gX ao) .none pl;setField (.ref x) 1 b) Q E cN:=by
 have hY':∀b,Y b->Yk c ρ bN.heap s.heap d b:=λb yb=>f.Y (hY b yb);have hzx:¬bq (env::outer) x:=λz=>(MF fs z).2.2.elim λo q=>q.elim λes q=>q.elim λn q=>nomatch(I lX (ss f.ex q.1)).trans q.2;have hsz:1<vs.size:=f.tb.elim (λq=>(yp.mp q.1).1) λq=>q.elim λG q=>q.elim λG q=>q.elim λG q=>(yp.mp q.v1).1
 have alN:∀e∈env::outer,eB c.H ρ cN.heap e:=λe he=>by
  refine bl λaG=>?_;obtain ⟨k,L',o,es,m,e1,e2,e3,e4,e5⟩:=fs e he;refine aG ?_;exact #[k,L',o,es,m,e1,e2,e3,k1 _ _ e4 λyb=>(hY' _ yb).obj.elim λo' q=>q.elim λG q=>(nomatch(q.2.1.symm.trans (I lX (ss q.1 e4))).trans e5),e5]
 refine aB (wpAny_frameOf_fun Hf (TC alN) hf λfc EM=>?_);refine aB (wpAny_entryPlaceOf λpl TH=>?_);have aar:fc.get? x=U #[.ref c.C,U d,.fields vs,sl]:=(EM.2.1 x λq=>hzx (Gd q)).trans (ex1.trans f.ex);unfold EntryCells.newEntry ub;refine aB (p7 ?_ (TH.sizeOk5 _ _ _ _ _));generalize hO:({cls:=.type "traceback",dict:=u,data:=.fields ([head,.ref ao,.none,gX ao,.none]++(if pl.isEmpty then kj 6 gh else pl)).toArray}:fh)=OT;have RK:=c7 OT aar;have hTx:fc.objs.size≠x:=gD (mR aar);refine rD RK rfl hsz ?_;have Iy:=mS (iY (·.setIfInBounds 1 (gF fc.objs.size))) RK rfl;have z8:∀b,b≠x->((fc.push OT).update x (iY (·.setIfInBounds 1 (gF fc.objs.size)))).get? b=(fc.push OT).get? b:=λb hb=>oE _ _ (bP hb);have RL:=(z8 _ hTx).trans (iX fc (by rw [←hO];rfl));have keep:∀b o,b≠x->fc.get? b=U o->((fc.push OT).update x (iY (·.setIfInBounds 1 (gF fc.objs.size)))).get? b=U o:=λb o nb e=>(z8 b nb).trans (c7 _ e)
 have nT:s.heap.get? fc.objs.size=none:=by
  rcases q:s.heap.get? fc.objs.size with _|o
  ·rfl
  ·
   have:∃o',cN.heap.get? fc.objs.size=U o':=by
    by_cases yb:Y fc.objs.size
    ·exact k2 _ yb
    ·exact #[o,k1 _ _ q yb]
   exact this.elim λo' q'=>(EM.2.2 _ _ q').elim λG q''=>absurd (mR q'') (xR _)
 generalize (fc.push OT).update x (iY (·.setIfInBounds 1 (gF fc.objs.size)))=Ge at Iy RL keep⊢;generalize fc.objs.size=T at hTx Iy RL nT⊢;clear z8 RK
 obtain ⟨p1,p2,w⟩:=MG (s':={cN with heap:=Ge}) (MH fs) p f Y hY g1 g2
  (λb o e yb zb=>keep b o (λq=>yb (q▸Yx)) ((EL EM (λb q=>Gd q) (k1 b o e yb)).1 zb))
  (λb o e yb=>(EL EM (λb q=>Gd q) (k1 b o e yb)).2.imp λsl q=>keep b _ (λq=>yb (q▸Yx)) q)
  (λb yb=>by
   by_cases q:b=x
   ·exact #[_,q▸Iy]
   ·exact (k2 b yb).elim λo' e'=>(EM.2.2 b o' e').elim λsl e''=>#[_,keep b _ q e''])
 have n0:yD c.H ρ bN.heap T:=by
  refine #[?_,?_,λq=>(p.inv.foot q).elim λo z=>nn nT z.1]
  ·rcases z:bN.heap.get? T with _|o
   ·rfl
   ·exact (p.cq.alive T o z).elim λo' z'=>nn nT z'
  ·rcases z:c.H.get? T with _|o
   ·rfl
   ·exact nn nT (p.inv.base _ _ z)
 refine h _ (p1.weak λb hb=>(hY' b hb).new.1) p2 #[x,d,vs.setIfInBounds 1 (gF T),sl,rfl,f.ne,f.nx,f.nd,Iy,w,.inr #[T,_,gX ao,?_,hTx,λq=>?_,n0,RL.trans (I U hO.symm),rfl,rfl]]
 ·rw [Lq,au hsz]
 ·exact f.why.elim λm q'=>q'.elim λcv q'=>q'.1.elim λo q'=>q'.elim λes q'=>q'.elim λep q'=>nn nT (q▸q'.1)
end
theorem Ih{K:OV->Prop}
  (Hf:A.frames=U (env::outer)) (fs:∀e∈env::outer,eB c.H ρ s.heap e) (hf:env.frame=U ao) (p:b7 c (bq (env::outer)) X cu bN ρ O s) (f:gZ K c.C c.H ρ bN.heap s.heap y e)
  (h:∀s',b7 c (bq (env::outer)) (λb=>bN.heap.get? b=u) ρ s ρ O s'->b7 c (bq (env::outer)) X cu bN ρ O s'->gZ (λk=>k=U (gX ao)) c.C c.H ρ bN.heap s'.heap y e->Q () s'):aN M A (ou e env) Q E s:=by
 obtain ⟨x,d,vs,sl,rfl,f⟩:=f;unfold ou;rw [hf];rcases f.tb with⟨h1,hk⟩|⟨T,ts,fl,g⟩
 ·refine aB (gC f.ex rfl h1 ?_)
  rw [ax (show¬((gh !=gh)=ai) by decide)];exact Hg Hf fs hf p f h (λb=>b=x) (λb hb=>.inl hb) rfl rfl rfl (λb o e G=>e) (λb hb=>#[_,hb▸f.ex]) rfl
 ·refine aB (gC f.ex rfl g.v1 ?_)
  rw [au (show(gF T !=gh)=ai by simp)];refine aB (gC g.at_ rfl g.t3 ?_);by_cases hfl:(fl==gX ao)=ai
  ·rw [au hfl]
   exact aX (h _ (jV.refl p.inv) p #[x,d,vs,sl,rfl,{f with tb:=.inr #[T,ts,_,{g with k:=I U (eq_of_beq hfl)}]}])
  ·rw [ax hfl]
   refine aB (rD g.at_ rfl (yp.mp g.t3).1 ?_)
   exact Hg Hf fs hf p f h (λb=>b=x \/b=T) (λb hb=>hb.imp id λ(q:b=T)=>q▸g.v1) (.inl rfl) rfl rfl
    (λb o e nb=>((λb hb=>oE _ _ (bP hb):∀b,b≠T->(s.heap.update T (iY (·.setIfInBounds 3 gh))).get? b=s.heap.get? b) b λq=>nb (.inr q)).trans e) (λb hb=>by
     rcases hb with rfl|rfl
     ·exact #[_,((λb hb=>oE _ _ (bP hb):∀b,b≠T->(s.heap.update T (iY (·.setIfInBounds 3 gh))).get? b=s.heap.get? b) _ (bP g.nx)).trans f.ex]
     ·exact #[_,(mS (iY (·.setIfInBounds 3 gh)) g.at_ rfl)]) ((λb hb=>oE _ _ (bP hb):∀b,b≠T->(s.heap.update T (iY (·.setIfInBounds 3 gh))).get? b=s.heap.get? b) x (bP g.nx))
end
end
set_option backward.match.sparseCases true
section
open PyProof.Rows Builtin
inductive ir(H:aQ)(ρ:bG)(h:aQ)(af:ay)(k:Nat):It->Prop where
 |tup {xs:LV} {t:ay} {vs:LU}:h.IsTupleIter af t k->h.IsTuple t vs.toArray->bJ H ρ h xs vs->ir H ρ h af k (.tup xs)
 |bytes {b:U8} {t:ix}:KBw.IsBytesIter h af b.toArray t k->ir H ρ h af k (.bytes b)
 |ee {a b:Int}:Jx h af (a+(k:Int)) (((b - a).toNat:Int) - (k:Int)) 1->ir H ρ h af k (.ee a b)
 |list {i:Nat} {a d:ay}:ρ[i]? =U (a,d)->h.IsListIter af a k->ir H ρ h af k (.list i)
 |bu {i:Nat} {a d:ay}:ρ[i]? =U (a,d)->BA.oR h af a k->ir H ρ h af k (.bu i)
section
variable{P:fF}{c:Cx}{n:Nat}{r:Ev}{l:Loc}{O:L}{ρ:bG}{s:aA}{A:bk}{aL:List aU}{env:aU}{H:aQ}{h:aQ}{af:ay}{k:Nat}{x:It}
theorem qN{n:String}(c:o.cls= .type n)(h1:(n== "tuple")=av)(h2:(n== "range")=av):¬fe o:=λz=>
 z.1.elim (λq=>jq (h1.symm.trans (dX.mpr (oK (c.symm.trans q))))) λq=>jq (h2.symm.trans (dX.mpr (oK (c.symm.trans q))))
theorem ir.obj(t:ir H ρ h af k x):∃o vs,h.get? af=U o/\ o.data= .fields vs/\ ¬fe o:=by
 cases t with
 |tup a b r=>exact a.imp λo z=>#[_,z.1,z.2.2,qN z.2.1 (by decide) (by decide)]
 |bytes a=>exact a.imp λo z=>#[_,z.1,z.2.2,qN z.2.1 (by decide) (by decide)]
 |ee a=>exact #[_,_,a,rfl,qN rfl (by decide) (by decide)]
 |list e a=>exact a.imp λo z=>#[_,z.1,z.2.2,qN z.2.1 (by decide) (by decide)]
 |bu e a=>exact a.imp λo z=>#[_,z.1,z.2.2,qN z.2.1 (by decide) (by decide)]
theorem Hh(b:h.IsTuple t vs)(st:cG Z X ρ h aS h'):h'.IsTuple t vs:=
 b.imp λo z=>#[st.kL _ _ z.1 #[.inl z.2.1,(λes k q=>z.2.2.elim λm d=>nomatch d.symm.trans q),λv q=>z.2.2.elim λm d=>nomatch d.symm.trans q],z.2]
theorem ir.mono(t:ir H ρ h af k x)(st:cG Z X ρ h aS h')(e:h'.get? af=h.get? af):ir H aS h' af k x:=by
 cases t with
 |tup a b r=>exact .tup (a.imp λo q=>#[e.trans q.1,q.2]) (Hh b st) (r.mono st)
 |bytes a=>exact .bytes (a.imp λo q=>#[e.trans q.1,q.2])
 |ee a=>exact .ee (e.trans a)
 |list z a=>exact .list (st.pre _ _ z) (a.imp λo q=>#[e.trans q.1,q.2])
 |bu z a=>exact .bu (st.pre _ _ z) (a.imp λo q=>#[e.trans q.1,q.2])
inductive Gf(O:L):V->It->Prop
 |tup (xs:LV):Gf O (.tup xs) (.tup xs)
 |bytes (b:U8):Gf O (.bytes b) (.bytes b)
 |ee (a b:Int):(b - a<=1000/\ -(2^40)<a/\ a<2^40/\ -(2^40)<b/\ b<2^40)->Gf O (.ee a b) (.ee a b)
 |list (i:Nat) (ys:LV):O[i]? =U (.list ys)->Gf O (.ref i) (.list i)
 |bu (i:Nat) (b:U8):O[i]? =U (.bu b)->Gf O (.ref i) (.bu i)
theorem Yl(e:qm O y=U x):Gf O y x:=by
 have no:∀{aoU:Prop},(u:Option It)=U x->aoU:=λz=>absurd z nofun;induction y using V.casesOn with
 |tup xs=>exact bh e▸ .tup xs
 |bytes b=>exact bh (jo.mp e).2▸ .bytes b
 |ee a b=>exact (bh (jo.mp e).2)▸ .ee a b (jo.mp e).1
 |ref i=>
  unfold qm at e;dsimp only at e;induction e1:O[i]? using aK with
  |none=>rw [e1]at e;exact no e
  |some m=>
   rw [e1]at e;induction m using MO.casesOn with
   |list ys=>exact bh e▸ .list i ys e1
   |bu b=>exact bh e▸ .bu i b e1
   |_=>exact no e
 |_=>exact no e
theorem Ym{Q:VP}(ae:b9 c ρ O s.heap)
  (h:∀af s',s.heap.get? af=u->(∀b o,s.heap.get? b=U o->s'.heap.get? b=U o)->b7 c bj bj ρ s ρ O s'->ir c.H ρ s'.heap af 0 x->Q (.ref af) s') (o:fh) (g:∀h',(∀b o,s.heap.get? b=U o->h'.get? b=U o)->h'.get? s.heap.objs.size=U o->cG bj bj ρ s.heap ρ h'->ir c.H ρ h' s.heap.objs.size 0 x) (hf:o.isFreed=av):
  Q (.ref s.heap.objs.size) {s with heap:=s.heap.push o}:=
 have hk:∀b o',s.heap.get? b=U o'->(s.heap.push o).get? b=U o':=λb o' q=>c7 _ q
 h _ _ (dU _) hk #[cG.more hk,ae.more hk,rfl,rfl] (g _ hk (iX _ hf) (cG.more hk))
theorem yL(ae:b9 c ρ O s.heap)(rx:Rep c.H ρ s.heap y xv)(hx:qm O y=U x)
  (h:∀af s',s.heap.get? af=u->(∀b o,s.heap.get? b=U o->s'.heap.get? b=U o)->b7 c bj bj ρ s ρ O s'->ir c.H ρ s'.heap af 0 x->Q (.ref af) s'):aN (aJ c.prog c.w) A (rC xv) Q E s:=by
 have fin:=Ym ae h;have HB:∀{h':aQ},(∀b o,s.heap.get? b=U o->h'.get? b=U o)->ir c.H ρ h' s.heap.objs.size 0 x->Q (.ref s.heap.objs.size) {s with heap:=h'}:=λhk i=>h _ _ (dU _) hk #[cG.more hk,ae.more hk,rfl,rfl] i;clear h;cases Yl hx with
 |tup xs=>
  cases rx with
  |tup h1 r1=>exact wpAny_pyIter_tuple h1 (fin _ (λh' hk hI st=>.tup #[_,hI,rfl,rfl] (h1.imp λo z=>#[hk _ _ z.1,z.2]) (r1.mono st)) rfl)
 |bytes b=>
  cases rx
  exact KBw.pyIter_bytes (fin _ (λh' hk hI st=>.bytes #[_,hI,rfl,rfl]) rfl)
 |ee a b hb=>
  cases rx with
  |ee h1=>
   refine wpAny_pyIter_range h1 (small_one (by omega) (C5 hb.2.2.1 (by decide)) (by omega) (C5 hb.2.2.2.2 (by decide))) (fin _ (λh' hk hI st=>?_) rfl);refine .ee ?_;rw [rangeSize_nat]at hI
   simpa [gX,Jx]using hI
 |list i ys e1=>
  cases rx with
  |ref e=>
   refine bl λaG=>?_;refine (g8 ae e e1).elim λG hq=>hq.elim λvs hq=>hq.elim λn hq=>hq.elim λh1 hq=>?_;have r1:=hq.1;exact aG (wpAny_pyIter_list hq.2 (fin _ (λh' hk hI st=>.list e #[_,hI,rfl,rfl]) rfl))
 |bu i b e1=>
  cases rx with
  |ref e=>exact BA.abR (nO ae e e1).2.2 λh' hk hi=>HB hk (.bu e hi)
noncomputable def EN(c:Cx)(ρ:bG)(O:L)(s:aA)(af:ay)(k:Nat)(x:It)(s':aA):Option V->OV->Prop
 |none,u=>True
 |some v,U ag=>b7 c bj (λb=>b=af) ρ s ρ O s'/\ Rep c.H ρ s'.heap v ag/\ ir c.H ρ s'.heap af (k+1) x
 |_,_=>False
@[elab_as_elim] theorem EN.two{aoU:OV->Prop}(r:EN c ρ O s af k x s' ov ag)(h0:ov=u->aoU u)(h1:∀v ag,ov=U v->b7 c bj (λb=>b=af) ρ s ρ O s'->Rep c.H ρ s'.heap v ag->ir c.H ρ s'.heap af (k+1) x->aoU (U ag)):aoU ag:=by
 rcases ov<;>rcases ag with⟨⟩
 ·exact h0 rfl
 ·exact LO r
 ·exact LO r
 ·exact h1 _ _ rfl r.1 r.2.1 r.2.2
noncomputable def EO(c:Cx)(ρ:bG)(O:L)(s:aA)(af:ay)(k:Nat)(x:It)(ov:Option V)(Q:OV->aA->Prop):Prop:=
 ∀ag s',(∀b o,b≠af->s.heap.get? b=U o->s'.heap.get? b=U o)->s'.gens=s.gens->s'.os=s.os->EN c ρ O s af k x s' ov ag->Q ag s'
theorem uW(ae:b9 c ρ O s.heap)(t:ir c.H ρ s.heap af k x)(hI:¬cy ρ af)(hB:c.H.get? af=u)(h:EO c ρ O s af k x (U v) Q)(hs:iW af s.heap h')(al:∃o',h'.get? af=U o')
  (hr:cG bj (λb=>b=af) ρ s.heap ρ h'->Rep c.H ρ h' v ag/\ ir c.H ρ h' af (k+1) x):Q (U ag) {s with heap:=h',toks:=tk}:=by
 refine bl λaG=>?_;refine t.obj.elim λoI hq=>hq.elim λvsI hq=>hq.elim λeI hq=>hq.elim λdI fI=>?_;have k1:∀b o,b≠af->s.heap.get? b=U o->h'.get? b=U o:=λb o nb e=>(hs.2 b nb).trans e
 have st:cG bj (λb=>b=af) ρ s.heap ρ h':=cG.loose (λb o z=>z.elim) (λb o yb e=>bh (eI.symm.trans (yb▸e))▸fI) (λb o e nb G=>k1 b o nb e) (λb o e nb=>#[o.slots,k1 b o nb e]) (λb o e=>by
  by_cases q:b=af
  ·exact q▸al
  ·exact #[o,k1 b o q e]) λb yb=>yb▸z7 eI dI
 exact aG (h _ _ (λb o nb e=>k1 b o nb e) rfl rfl #[#[st,ae.loose st (λb o e nb G=>k1 b o nb e) (λb z=>z.elim) λb yb=>yb▸#[hI,hB],rfl,rfl],(hr st).1,(hr st).2])
theorem sO(h:EO c ρ O s af k x u Q)(he:K5 af s.heap h'):Q u {s with heap:=h'}:=h u _ (λb o nb e=>he b o nb e) rfl rfl trivial
theorem tB(hh:A.handled=u)(ae:b9 c ρ O s.heap)(t:ir c.H ρ s.heap af k x)(hx:It.nx x=nx)(hv:nx O k=U ov)
  (hI:¬cy ρ af) (hB:c.H.get? af=u) (h:EO c ρ O s af k x ov Q):aN (aJ c.prog c.w) A (uc (.ref af)) Q E s:=by
 subst hx;cases t with
 | @tup xs t vs h1 h2 r1=>
  obtain rfl:=bh hv;induction e:xs[k]? using aK with
  |none=>exact wpAny_pyNext_tuple_end hh h1 h2 (by rw [qe,xX,r1.length];exact xX.mp e) λh' he=>sO (e▸h) he
  |some v=>
   refine (r1.get e).elim λag z=>wpAny_pyNext_tuple_item h1 h2 (qe.trans z.1) λh' hi hs=>?_;exact uW ae (.tup h1 h2 r1) hI hB (e▸h) hs (hi.imp λG q=>q.1) λst=>#[z.2.mono st,.tup hi (Hh h2 st) (r1.mono st)]
 | @bytes b t h1=>
  obtain rfl:=bh hv;induction e:b[k]? using aK with
  |none=>exact KBw.next_end hh h1 (qe.trans e) λh' he=>sO (e▸h) he
  |some v=>exact KBw.next_item h1 (qe.trans e) λh' hi hs=>uW ae (.bytes h1) hI hB (Eq.mp (I (λo:Option UInt8=>EO c ρ O s af k _ (o.map λx=>V.int x.toNat) Q) e) h) hs (hi.imp λG q=>q.1) λst=>#[.int _ _,.bytes hi]
 | @ee a b h1=>
  obtain rfl:=bh hv;by_cases hk:k<(b - a).toNat
  ·rw [au hk]at h
   refine wpAny_pyNext_range_item h1 (aiN hk) λh' hi hs=>uW ae (.ee h1) hI hB h hs #[_,hi] λst=>#[.int _ _,.ee ?_];rw [Int.natCast_add,←Int.add_assoc,←Int.sub_sub];exact hi
  ·rw [ax hk]at h
   exact wpAny_pyNext_range_end hh h1 (Int.sub_nonpos_of_le (lW.mpr (kh hk))) λh' he=>sO h he
 | @list i a d z h1=>
  rcases e1:O[i]? with _|m
  ·dsimp only [It.nx]at hv;rw [e1]at hv;exact nomatch hv
  ·
   dsimp only [It.nx]at hv;rw [e1]at hv;induction m using MO.casesOn with
   |list xs=>
    obtain rfl:=bh hv;refine bl λaG=>?_;refine (g8 ae z e1).elim λhd hq=>hq.elim λvs hq=>hq.elim λn hq=>hq.elim λh2 hq=>?_;have r1:=hq.1;have l1:=hq.2;refine aG ?_;induction e:xs[k]? using aK with
    |none=>exact wpAny_pyNext_list_end hh h1 l1 (by rw [←ym,xX,r1.length];exact xX.mp e) λh' he=>sO (e▸h) he
    |some v=>exact (r1.get e).elim λag y=>wpAny_pyNext_list_item h1 l1 (ym.symm.trans y.1) λh' hi hs=>uW ae (.list z h1) hI hB (e▸h) hs (hi.imp λG q=>q.1) λst=>#[y.2.mono st,.list z hi]
   |_=>exact absurd hv nofun
 | @bu i a d z h1=>
  rcases e1:O[i]? with _|m
  ·dsimp only [It.nx]at hv;rw [e1]at hv;exact nomatch hv
  ·
   dsimp only [It.nx]at hv;rw [e1]at hv;induction m using MO.casesOn with
   |bu b=>
    obtain rfl:=bh hv;have h2:BA.iq s.heap a b.toArray:=(nO ae z e1).2.2;induction e:b[k]? using aK with
    |none=>exact BA.ae7 hh h1 h2 (qe.trans e) λh' he=>sO (e▸h) he
    |some v=>exact BA.abT h1 h2 (qe.trans e) λh' hi hs=>uW ae (.bu z h1) hI hB (Eq.mp (I (λo:Option UInt8=>EO c ρ O s af k _ (o.map λx=>V.int x.toNat) Q) e) h) hs (hi.imp λG q=>q.1) λst=>#[.int _ _,.bu z hi]
   |_=>exact absurd hv nofun
theorem Hi(t:ir H ρ s.heap af k x)(h:Q () s):aN (aJ c.prog c.w) A (Cm target (.ref af) v) Q E s:=by
 have key:∀(nm:String) (vs:Array az) (o:fh),s.heap.get? af=U o->o.cls= .type nm->o.data= .fields vs->
   (["enumerate", "zip", "dict_itemiterator", "dict_reverseitemiterator", "odict_iterator", "itertools.zip_longest", "itertools.pairwise"].contains nm)=av->aN (aJ c.prog c.w) A (Cm target (.ref af) v) Q E s:=by
  intro nm vs o e hc hd hn;unfold Cm
  have go:aN (aJ c.prog c.w) A (do
    let(.ref r,.ref a):=(gF af,v)|return
    let o←load r
    match o.cls,o.data with
    |.type n,.fields vs=>
     if ["enumerate", "zip", "dict_itemiterator", "dict_reverseitemiterator", "odict_iterator", "itertools.zip_longest", "itertools.pairwise"].contains n&&vs[0]? ==U (gX a)then
      rule "for.unpacks-the-owned-tuple"
      updateField r 0 .none
    |_,_=>pure ()) Q E s:=by
   rcases v<;>try exact aX h
   refine aB (lB e ?_);simp only [hc,hd,hn,IV,lu,if_false];exact aX h
  rcases target<;>first|exact go|exact aX h
 cases t with
 |tup a b r=>obtain ⟨o,e,c,d⟩:=a;exact key _ _ _ e c d (by decide)
 |bytes a=>obtain ⟨o,e,c,d⟩:=a;exact key _ _ _ e c d (by decide)
 |ee a=>exact key _ _ _ a rfl rfl (by decide)
 |list e a=>obtain ⟨o,e,c,d⟩:=a;exact key _ _ _ e c d (by decide)
 |bu e a=>obtain ⟨o,e,c,d⟩:=a;exact key _ _ _ e c d (by decide)
end
end
set_option backward.match.sparseCases false
section
open PyProof.Rows Builtin
section
variable{P:fF}{c:Cx}{n:Nat}{r:Ev}{l:Loc}{O:L}{ρ:bG}{s:aA}{A:bk}{aL:List aU}{env:aU}{Z:AP}
theorem EP(e:store env.scope x v l=U l'):(env.kindOf x=U .local \/env.kindOf x=U .cell)/\ l'=upd x v l:=by
 unfold store at e
 split at e
 ·rename_i h
  obtain rfl:=bh e;refine #[?_,rfl];unfold oP at h;show env.scope.names.lookup x=_ \/env.scope.names.lookup x=_
  revert h
  rcases env.scope.names.lookup x with _|k
  ·intro h;exact nomatch h
  ·rcases k<;>intro h<;>first|exact .inl rfl|exact .inr rfl|exact nomatch h
 ·exact nomatch e
theorem RM{h:aQ}(N:h.Ns b m):∀o,h.get? b=U o->¬fe o:=λo e f=>by
 obtain ⟨o',es,ep,e',d,_⟩:=N;rw [e]at e';obtain rfl:=bh e';exact f.2.1 _ _ d
theorem sP(ae:b9 c ρ O s.heap)(F:gT c.H ρ s.heap env l)(rv:Rep c.H ρ s.heap v ag)(e:store env.scope x v l=U l')(hL:X env.locals)(hC:env.kindOf x=U .cell->∀a,env.cells.lookup x=U a->X a)
  (h:∀s',b7 c Z X ρ s ρ O s'->gT c.H ρ s'.heap env l'->Q () s'):aN (aJ c.prog c.w) A (storeName env x ag) Q E s:=by
 obtain ⟨hk,rfl⟩:=EP e;obtain ⟨m,N,hm⟩:=F.ns;have hp:(env.scope.kind== .class||(env.scope.kind== .module&&env.locals !=env.globals))=false:=by rw [F.kind];rfl
 rcases hk with hk|hk
 ·refine Jy hk N (λh' vK mh=>?_) hp
  have k1:∀b o,s.heap.get? b=U o->¬b=env.locals->h'.get? b=U o:=λb o e nb=>(mh.2 b nb).trans e
  have st:cG bj (λb=>b=env.locals) ρ s.heap ρ h':=cG.loose (λb o z=>z.elim) (λb o yb e=>by subst yb;exact RM N o e) (λb o e nb G=>k1 b o e nb) (λb o e nb=>#[o.slots,k1 b o e nb]) (λb o e=>by
    by_cases q:b=env.locals
    ·subst q;obtain ⟨o',_,_,e',_⟩:=vK;exact #[o',e']
    ·exact #[o,k1 b o e q]) λb yb=>by
     subst yb;refine #[λG=>#[_,vK],λy=>?_];refine bl λaG=>?_;refine y.elim λv hq=>hq.elim λo hq=>hq.elim λe d=>?_;obtain ⟨o',es,ep,e',d',_⟩:=N;refine aG ?_;rw [e]at e';obtain rfl:=bh e';rw [d]at d';cases d'
  have J':=ae.loose st (λb o e nb G=>k1 b o e nb) (λb z=>z.elim) λb yb=>by subst yb;exact F.own
  have p:b7 c Z X ρ s ρ O {s with heap:=h',toks:=s.toks+1}:=#[(st.mX λG G G z=>z.elim).weak λb yb=>by subst yb;exact hL,J',rfl,rfl];refine h _ p #[F.kind,F.glob,F.blt,#[_,vK,λy w ey ky=>?_],λy w ey=>?_,λy ky=>?_,F.own,λy a ey=>?_,F.inj]
  ·unfold upd at ey
   by_cases q:y=x
   ·rw [au q]at ey;obtain rfl:=bh ey
    exact #[ag,by rw [au q],rv.mono st]
   ·rw [ax q]at ey
    refine (hm y w ey ky).elim λw' hq=>hq.elim λa b=>?_;exact #[w',by rw [ax q];exact a,b.mono st]
  ·unfold upd at ey
   by_cases q:y=x
   ·exact .inl (q▸hk)
   ·rw [ax q]at ey
    rcases F.wA y w ey with k|⟨k,cl,w',a,b,d⟩
    ·exact .inl k
    ·exact .inr #[k,cl,w',a,b.sameBut mh (F.qG y cl a).2.2.1,d.mono st]
  ·obtain ⟨cl,ov,a,b⟩:=F.has y ky
   exact #[cl,ov,a,b.sameBut mh (F.qG y cl a).2.2.1]
  ·obtain ⟨a1,a2,a3,o,ov,a4,a5⟩:=F.qG y a ey
   exact #[a1,a2,a3,o,ov,k1 a o a4 a3,a5]
 ·obtain ⟨cl,ov,hc,hv⟩:=F.has x hk
  refine bl λaG=>?_;obtain ⟨f1,f2,f3,oc,vc,f4,f5⟩:=F.qG x cl hc;refine aG ?_;refine wpAny_storeName_cell F.kind hk hc hv λh' TJ mh=>?_;have k1:∀b o,s.heap.get? b=U o->¬b=cl->h'.get? b=U o:=λb o e nb=>(mh.2 b nb).trans e
  have st:cG bj (λb=>b=cl) ρ s.heap ρ h':=cG.loose (λb o z=>z.elim) (λb o yb e f=>by subst yb;rw [f4]at e;obtain rfl:=bh e;exact f.2.2 _ f5) (λb o e nb G=>k1 b o e nb) (λb o e nb=>#[o.slots,k1 b o e nb]) (λb o e=>by
    by_cases q:b=cl
    ·rw [q];obtain ⟨o',e',_⟩:=TJ;exact #[o',e']
    ·exact #[o,k1 b o e q]) λb yb=>by
     rw [yb];refine #[λy=>?_,λG=>#[_,TJ]];refine bl λaG=>?_;obtain ⟨m,o,es,ep,e,d,_⟩:=y;refine aG ?_;rw [f4]at e;obtain rfl:=bh e;rw [f5]at d;cases d
  have J':=ae.loose st (λb o e nb G=>k1 b o e nb) (λb z=>z.elim) λb yb=>by rw [yb];exact #[f1,f2]
  have p:b7 c Z X ρ s ρ O {s with heap:=h'}:=#[(st.mX λG G G z=>z.elim).weak λb yb=>by rw [yb];exact hC hk _ hc,J',rfl,rfl];refine h _ p #[F.kind,F.glob,F.blt,#[m,N.sameBut mh (bP f3),λy w ey ky=>?_],λy w ey=>?_,λy ky=>?_,F.own,λy a ey=>?_,F.inj]
  ·unfold upd at ey
   by_cases q:y=x
   ·subst q;rw [hk]at ky;exact nomatch ky
   ·rw [ax q]at ey
    refine (hm y w ey ky).elim λw' hq=>?_;have a:=hq.1;have b:=hq.2;exact #[w',a,b.mono st]
  ·unfold upd at ey
   by_cases q:y=x
   ·subst q;rw [au rfl]at ey;obtain rfl:=bh ey
    exact .inr #[.inl hk,cl,ag,hc,TJ,rv.mono st]
   ·rw [ax q]at ey
    rcases F.wA y w ey with k|⟨k,Qc,w',a,b,d⟩
    ·exact .inl k
    ·exact .inr #[k,Qc,w',a,b.sameBut mh (λz=>q (F.inj y x cl (z▸a) hc)),d.mono st]
  ·obtain ⟨Qc,ov',a,b⟩:=F.has y ky
   by_cases q:Qc=cl
   ·subst q;exact #[Qc,_,a,TJ]
   ·exact #[Qc,ov',a,b.sameBut mh q]
  ·obtain ⟨a1,a2,a3,o,ov',a4,a5⟩:=F.qG y a ey
   by_cases q:a=cl
   ·subst q;obtain ⟨o',e',d'⟩:=TJ;exact #[a1,a2,a3,o',_,e',d']
   ·exact #[a1,a2,a3,o,ov',k1 a o a4 q,a5]
end
end
set_option backward.match.sparseCases true
section
open PyProof.Rows Builtin
section
variable{af:ay}{P:fF}{c:Cx}{n:Nat}{r:Ev}{l:Loc}{O:L}{ρ:bG}{s:aA}{A:bk}{aL:List aU}{env:aU}{Z:AP}
theorem Yn(hx:It.nx x=nx)(hh:A.handled=u)(vs:LV):∀(k:Nat) {s:aA} {Q:LU->aA->Prop} {E:VP},b9 c ρ O s.heap->ir c.H ρ s.heap af k x->
  ¬cy ρ af->c.H.get? af=u->(∀j v,vs[j]? =U v->nx O (k+j)=U (U v))->
  (∀us s',(∀b o,b≠af->s.heap.get? b=U o->s'.heap.get? b=U o)->s'.gens=s.gens->s'.os=s.os->b9 c ρ O s'.heap->bJ c.H ρ s'.heap vs us->ir c.H ρ s'.heap af (k+J vs) x->Q us s')->
  aN (aJ c.prog c.w) A (draw (.ref af) (J vs)) Q E s:=by
 induction vs with
 |nil=>exact λk s Q E ae t f b hv h=>aX (h [] s (λG G G e=>e) rfl rfl ae .nil t)
 |cons v vs ih=>
  intro k s Q E ae t f b hv h;refine aB (tB hh ae t hx (hv 0 v rfl) f b λag s1 hk g o nr=>?_);induction ag using aK with
  |none=>exact nr.elim
  |some ag=>
   refine aB (gY (ih (k+1) nr.1.inv nr.2.2 f b (λj w e=>(I (nx O) (kF k 1 j)).trans (hv (j+1) w e)) λus s2 Hj g2 o2 J2 rs t2=>aX ?_))
   have st:cG bj (λb=>b=af) ρ s1.heap ρ s2.heap:=by
    refine bl λaG=>?_;obtain ⟨oI,vI,eI,dI,fI⟩:=nr.2.2.obj;obtain ⟨oJ,vJ,eJ,dJ,fJ⟩:=t2.obj;refine aG (cG.loose (λb o z=>z.elim) (λb o yb e=>bh (eI.symm.trans (yb▸e))▸fI) (λb o e nb G=>Hj b o nb e) (λb o e nb=>#[o.slots,Hj b o nb e]) (λb o e=>?_) λb yb=>yb▸z7 eI dI);by_cases q:b=af
    ·exact #[_,q▸eJ]
    ·exact #[o,Hj b o q e]
   exact h _ s2 (λb o nb e=>Hj b o nb (hk b o nb e)) (g2.trans g) (o2.trans o) J2 (.cons (nr.2.1.mono st) rs) ((kF k 1 (J vs):k+1+J vs=k+(J vs+1))▸t2)
theorem PG(e:jk O x=U vs):x= .tup vs \/∃i,x= .ref i/\ O[i]? =U (.list vs):=by
 have no:∀{aoU:Prop},(u:Option (LV))=U vs->aoU:=λz=>absurd z nofun;induction x using V.casesOn with
 |tup xs=>exact .inl (I V.tup (bh e))
 |ref i=>
  refine .inr #[i,rfl,?_];unfold jk at e;dsimp only at e;induction e1:O[i]? using aK with
  |none=>rw [e1]at e;exact no e
  |some m=>
   rw [e1]at e;induction m using MO.casesOn with
   |list ys=>exact I (λl=>U (MO.list l)) (bh e)
   |_=>exact no e
 |_=>exact no e
theorem Qd(ae:b9 c ρ O s.heap)(nI:s.heap.get? af=u):¬cy ρ af:=λf=>(ae.foot f).elim λo e=>nn nI e.1
theorem Qe(ae:b9 c ρ O s.heap)(nI:s.heap.get? af=u):c.H.get? af=none:=Option.eq_none_iff_forall_ne_some.mpr λo e=>nn nI (ae.base _ _ e)
theorem afn(ae:b9 c ρ O s.heap)(nI:s.heap.get? af=u)(k:∀b o,b≠af->s.heap.get? b=U o->s3.heap.get? b=U o)(g:s3.gens=s.gens)(o:s3.os=s.os):b7 c bj bj ρ s ρ O s3:=
 #[cG.more (λb o e=>k b o (λq=>nn nI (q▸e)) e),ae.more (λb o e=>k b o (λq=>nn nI (q▸e)) e),g,o]
theorem alO(e:O[i]? =U (.list vs)):It.nx (.list i) O j=U vs[j]? :=by
 dsimp only [It.nx];rw [e]
theorem alP(e:O[i]? =U (.list vs)):qm O (.ref i)=U (.list i):=by
 dsimp only [qm];rw [e]
theorem ER(hh:A.handled=u)(ae:b9 c ρ O s.heap)(rx:Rep c.H ρ s.heap x xv)(h1:qm O x=U it)(h3:∀j v,vs[j]? =U v->It.nx it O j=U (U v))(h4:It.nx it O (J vs)=U u)
  (h5:aN (aJ c.prog c.w) A (uh xv "__iter__") (λo s'=>s'=s/\ o.isSome) E s) (h:∀us s',b7 c bj bj ρ s ρ O s'->bJ c.H ρ s'.heap vs us->Q us s'):aN (aJ c.prog c.w) A (Cn xv (J vs) u) Q E s:=by
 unfold Cn notIterableAtAll;refine aB (aB (wpAny_mono h5 (λo s' q=>?_) λG G q=>q));rw [q.1,au q.2];refine aX (aB (gY (yL ae rx h1 λaf s1 nI hk p1 t1=>?_)));refine aB (gY (Yn rfl hh vs 0 p1.inv t1 (Qd ae nI) (Qe ae nI) (λj v e=>(kg j).symm▸h3 j v e) λus s2 Hj g2 o2 J2 rs t2=>?_));rw [ax (by rw [rs.length];exact xR _)];refine aB (gY (tB hh J2 ((kg (J vs))▸t2) rfl h4 (Qd ae nI) (Qe ae nI) λag s3 hk3 g3 o3 nr=>?_));refine EN.two nr (λG=>?_) λv ag h0=>nomatch h0;exact aX (h us s3 (afn ae nI (λb o n e=>hk3 b o n (Hj b o n (hk b o e))) ((g3.trans g2).trans p1.gens) ((o3.trans o2).trans p1.os)) (uV (λ{x v} q=>q.lift (λi p e=>e) λb o e f=>hk3 b o (λz=>t2.obj.elim λoI y=>y.elim λvI y=>y.2.2 (ss e (z▸y.1)▸f)) e) rs))
theorem vL(hh:A.handled=u)(ae:b9 c ρ O s.heap)(rx:Rep c.H ρ s.heap x xv)(e:jk O x=U vs)
  (h:∀us s',b7 c bj bj ρ s ρ O s'->bJ c.H ρ s'.heap vs us->Q us s'):aN (aJ c.prog c.w) A (Cn xv (J vs) u) Q E s:=by
 refine (PG e).elim (λq=>?_) λq=>q.elim λi q=>?_
 ·exact (q▸rx:Rep c.H ρ s.heap (.tup vs) xv).tupI.elim λa z=>z.elim λus z=>by
   rw [z.1];exact ER hh ae (.tup z.2.1 z.2.2) rfl (λj v e=>I U e) (I U (lS (ez _))) (fV z.2.1.typeIs F.slot_tuple_iter.lookup #[rfl,rfl]) h
 ·exact (q.1▸rx:Rep c.H ρ s.heap (.ref i) xv).jC.elim λa z=>z.elim λd z=>by
   have nx:∀j,It.nx (.list i) O j=U vs[j]? :=λj=>alO q.2;rw [z.1];exact (g8 ae z.2 q.2).2.elim λvs' y=>y.elim λn y=>ER hh ae (.ref z.2) (alP q.2) (λj v q=>(nx j).trans (I U q)) ((nx _).trans (I U (lS (ez _)))) (fV y.2.2.typeIs PySem.slot_list_iter.lookup #[rfl,rfl]) h
theorem ES(h:il (e::es)=U xs):∃x pos xs',e= .Name x pos/\ il es=U xs'/\ xs=x::xs':=
 Mf.get (p:=λxs=>∃x pos xs',e= .Name x pos/\ il es=U xs'/\ xs=x::xs') h (by
  clear h;induction e using eV with
  |Name x pos=>
   show Mf ((il es).map (x::·)) _
   rcases q:il es with _|xs'
   ·exact tv
   ·exact #[x,pos,xs',rfl,rfl,rfl]
  |_=>exact tv)
structure ai9(es:LX)(xs:LR)(env:aU):Prop where
 none:(ow es env).findIdx? (·.1)=u
 len:J (ow es env)=J xs
 at':∀(j:Nat) (x:aF),xs[j]? =U x->∃pos,((ow es env).map (·.2))[j]? =U (kD (.Name x pos) env)
theorem RN:∀{xs:LR},il es=U xs->ai9 es xs env:=by
 induction es with
 |nil=>exact λh=>bh h▸#[rfl,rfl,λj x e=>nomatch e]
 |cons e es ih=>
  intro xs h;obtain ⟨x,pos,xs',rfl,e2,rfl⟩:=ES h;refine #[?_,I jv (ih e2).len,λj y q=>?_]
  ·show List.findIdx? (λx=>x.1) ((av,kD (.Name x pos) env)::ow es env)=_
   rw [List.findIdx?_cons,(ih e2).none]
   rfl
  ·induction j using jw with
   |zero=>exact #[pos,I (λx=>U (kD (.Name x pos) env)) (bh q)]
   |succ j=>exact (ih e2).at' j y q
theorem s6(e:storeAll sc (x::xs) (v::vs) l=U l'):∃l1,store sc x v l=U l1/\ storeAll sc xs vs l1=U l':=gm e
theorem z9(hL:X env.locals):∀{vs:LV} {us:LU} {ts:List (az->b6 Unit)} {l l':Loc} {s:aA} {Q:Unit->aA->Prop} {E:VP},b9 c ρ O s.heap->gT c.H ρ s.heap env l->bJ c.H ρ s.heap vs us->storeAll env.scope xs vs l=U l'->(∀x∈xs,env.kindOf x=U .cell->∀a,env.cells.lookup x=U a->X a)->
  (J ts)=J xs->(∀(j:Nat) (x:aF),xs[j]? =U x->∃t:az->b6 Unit,ts[j]? =U t/\ ∀(ag:az) {s:aA} {Q:Unit->aA->Prop} {E:VP},aN (aJ c.prog c.w) A (storeName env x ag) Q E s->aN (aJ c.prog c.w) A (t ag) Q E s)->
  (∀s',b7 c Z X ρ s ρ O s'->gT c.H ρ s'.heap env l'->Q () s')->aN (aJ c.prog c.w) A (assignInOrder ts us) Q E s:=by
 induction xs with
 |nil=>
  intro vs us ts l l' s Q E ae F R e hC hl ht h;obtain rfl:=xY.mp hl;induction vs using bS with
  |cons _ _=>exact nomatch e
  |nil=>exact aX (h s (jV.refl ae) (bh e▸F))
 |cons x xs ih=>
  intro vs us ts l l' s Q E ae F R e hC hl ht h;induction vs using bS with
  |nil=>exact nomatch e
  |cons v vs=>
   cases R with
   |cons rv rvs=>
    rcases ts with _|⟨t,ts⟩
    ·exact nomatch hl
    ·
     obtain ⟨_,ht1,ht2⟩:=(ht 0 x rfl);obtain rfl:=bh ht1
     exact aB (gY (ht2 _ (sP ae F rv (s6 e).choose_spec.1 hL (hC x cY) λs1 (p1:b7 c Z X ρ s ρ O s1) F1=>
      ih p1.inv F1 (rvs.mono p1.cq) (s6 e).choose_spec.2 (λy hy=>hC y (cZ _ hy)) (kJ hl) (λj y q=>ht (j+1) y q) λs2 p2 F2=>h s2 (p1.trans p2) F2)))
theorem MI:∀{vs:LV} {l l':Loc},storeAll sc xs vs l=U l'->J vs=J xs:=by
 induction xs with
 |nil=>
  intro vs l l' e;induction vs using bS with
  |nil=>rfl
  |cons=>exact nomatch e
 |cons x xs ih=>
  intro vs l l' e;induction vs using bS with
  |nil=>exact nomatch e
  |cons v vs=>exact (s6 e).elim λl1 z=>I jv (ih z.2)
theorem MJ(hL:X env.locals)(hh:A.handled=u)(ae:b9 c ρ O s.heap)(F:gT c.H ρ s.heap env l)(rx:Rep c.H ρ s.heap x xv)
  (e1:il es=U xs) (e2:jk O x=U vs) (e3:storeAll env.scope xs vs l=U l') (hC:∀x∈xs,env.kindOf x=U .cell->∀a,env.cells.lookup x=U a->X a) (h:∀s',b7 c Z X ρ s ρ O s'->gT c.H ρ s'.heap env l'->Q () s'):
  aN (aJ c.prog c.w) A (unpack xv (ow es env)) Q E s:=by
 have n:=RN (env:=env) e1;unfold unpack;simp only [n.none,n.len,←MI e3]
 exact aB (gY (vL hh ae rx e2 λus s1 p1 r1=>z9 hL p1.inv (F.on p1.cq) r1 e3 hC ((cQ _).trans n.len) (λj x q=>(n.at' j x q).elim λpos z=>#[_,z,λag s Q E hq=>xC hq])
  λs2 p2 F2=>h s2 (jV.trans #[(p1.cq.mX λG G G z=>z.elim).weak λG z=>z.elim,p1.inv,p1.gens,p1.os] p2) F2))
end
end
set_option backward.match.sparseCases false
section
open PyProof.Rows Builtin
section
variable{P:fF}{c:Cx}{n:Nat}{r:Ev}{l:Loc}{O:L}{ρ:bG}{s:aA}{A:bk}{aL:List aU}{env:aU}{Z:AP}
theorem jV.any(p:jV prog w H bj bj ρ s aS aZ s'):jV prog w H Z X ρ s aS aZ s':=
 #[(p.cq.mX λG G G z=>z.elim).weak λG z=>z.elim,p.inv,p.gens,p.os]
noncomputable def TK:aH->aF->Prop
 |.Name y _,x=>x=y
 |.Tuple es _ _,x=>∃xs,il es=U xs/\ x∈xs
 |_,_=>False
theorem ET(hL:X env.locals)(hC:∀x,TK t x->env.kindOf x=U .cell->∀a,env.cells.lookup x=U a->X a)(hh:A.handled=u)(ae:b9 c ρ O s.heap)(F:gT c.H ρ s.heap env l)(rx:Rep c.H ρ s.heap v ag)(e:jl env.scope t v O l=U l')
  (h:∀s',b7 c Z X ρ s ρ O s'->gT c.H ρ s'.heap env l'->Q () s'):aN (aJ c.prog c.w) A (kD t env ag) Q E s:=by
 induction t using eV with
 |Name x pos=>exact xC (sP ae F rx e hL (hC x rfl) h)
 |Tuple es k pos=>
  unfold jl at e;dsimp only at e;induction e1:il es using aK with
  |none=>simp -iota only [e1]at e;exact nomatch e
  |some xs=>induction e2:jk O v using aK with
   |none=>simp -iota only [e1,e2]at e;exact nomatch e
   |some vs=>
    rw [e1,e2]at e;simp -iota only [Jz];exact aB (kE (MJ hL hh ae F rx e1 e2 (ite_yes e).2 (λx hx=>hC x #[xs,e1,hx]) h))
 |_=>exact nomatch e
theorem RO(hh:A.handled=u)(ae:b9 c ρ O s.heap)(F:gT c.H ρ s.heap env l)(rx:Rep c.H ρ s.heap v ag)(e:jl env.scope t v O l=U l')
  (h:∀s',b7 c Z (cJ env) ρ s ρ O s'->gT c.H ρ s'.heap env l'->Q () s'):aN (aJ c.prog c.w) A (kD t env ag) Q E s:=
 ET (.inl rfl) (λx G k a q=>.inr #[x,k,q]) hh ae F rx e h
theorem A9(S:e7 c n r)(sts:LT):∀{l:Loc} {O:L} {ρ:bG} {s:aA},cz c n A (env::aL) env ρ O l s->WX env.frame c A (bq (env::aL)) (cJ env) ρ (mf (r.x env.scope) sts l O) (eZ c env) (execs sts env) s:=by
 induction sts with
 |nil=>intro l O ρ s E;exact WX.pure E.inv #[E.fr,tv]
 |cons st rest ih=>
  intro l O ρ s E;simp -iota only [arm_execs_cons];refine WX.bind (S.x E) λa aZ b s' aS e1 p1 r1=>?_;obtain ⟨fl,l'⟩:=a;obtain ⟨F1,r1⟩:=r1;induction fl using fz.casesOn with
  |next=>rcases b<;>first|exact ih (E.next p1 (λG G G x=>x) F1)|exact r1.elim
  |cont=>rcases b<;>first|exact r1.elim|exact WX.pure (E.next p1 (λG G G x=>x) F1).inv #[F1,tv]
  |ret v=>rcases b<;>first|exact r1.elim|exact WX.pure (E.next p1 (λG G G x=>x) F1).inv #[F1,r1]
inductive we{α:Type}(env:aU)(c:Cx)(Z X:AP)(ρ:bG)(s:aA)(r:Res α)(e:az)(s':aA):Prop
 |mk (y:V) (aZ:L) (aS:bG):r= .exc y aZ->b7 c Z X ρ s aS aZ s'->gZ (λk=>∃ao,env.frame=U ao/\ k=U (gX ao)) c.C c.H aS s.heap s'.heap y e->we env c Z X ρ s r e s'
theorem we.elim{α:Type}{r:Res α}{aoU:Prop}(q:we env c Z X ρ s r e s')(k:∀y aZ aS,r= .exc y aZ->b7 c Z X ρ s aS aZ s'->gZ (λk=>∃ao,env.frame=U ao/\ k=U (gX ao)) c.C c.H aS s.heap s'.heap y e->aoU):aoU:=by cases q with|mk y aZ aS a b d=>exact k y aZ aS a b d
theorem we.nU{α:Type}{r:Res α}(q:we env c Z X ρ s r e s')(xy:∀b o,s.heap.get? b=U o->X b->Y b):we env c Z Y ρ s r e s':=q.elim λy aZ aS a b d=>#[y,aZ,aS,a,b.nU xy,d]
theorem EU(E:cz c n A (env::aL) env ρ O l s):∃ao,env.frame=U ao:=by
 refine bl λaG=>?_;obtain ⟨_,ao,_,_,_,e,_⟩:=E.fs env cY;refine aG ?_;exact #[ao,e]
theorem Aa{α:Type}{M:gz}{X:AP}{res:Res α}{e:az}{s':aA}{Er:VP}(E:cz c n A (env::aL) env ρ O l s)(hx:∀b o,s.heap.get? b=U o->X b->cJ env b)(q:fA env.frame c (bq (env::aL)) X ρ s res e s'){Q:Unit->aA->Prop}
  (h:∀eY,we env c (bq (env::aL)) X ρ s res e eY->Q () eY):aN M A (ou e env) Q Er s':=by
 exact q.elim λy aZ aS a p f=>(EU E).elim λao hL=>Ih E.a.frames (E.DR p hx).fs hL p f λs2 p1 p2 f2=>h s2 #[y,aZ,aS,a,p2,f2.weak λk q=>#[ao,hL,q]]
theorem Qf{α:Type}{M:gz}{X:AP}{res:Res α}{e:az}{s':aA}{Er:VP}(E:cz c n A (env::aL) env ρ O l s)(hx:∀b o,s.heap.get? b=U o->X b->cJ env b)(q:fA env.frame c (bq (env::aL)) X ρ s res e s'){Q:Unit->aA->Prop}
  (h:∀eY,we env c (bq (env::aL)) X ρ s res e eY->Q () eY):bw M A (do ou e env;xD e) Q Er s':=
 aw (bw.of (Aa E hx q λeY q'=>bw.of (wpAny_theTreesLotGoes (h eY q'))))
noncomputable abbrev MK(e:az)(env:aU):b6 Unit:=do
 if(←ud e 1)== .none then Jr "frame.own-activation:exception-without-traceback"
 Ck e env.frame
theorem Yo(E:cz c n A (env::aL) env ρ O l s)(hx:∀b o,s.heap.get? b=U o->X b->cJ env b)(q:we env c (bq (env::aL)) X ρ s res e s')
  (h:∀eY,fA env.frame c (bq (env::aL)) X ρ s res e eY->Q () eY):aN M A (MK e env) Q Er s':=by
 refine bl λaG=>?_;obtain ⟨y,aZ,aS,a,p,f⟩:=q;refine (EU E).elim λao hL=>?_;refine aG ?_;obtain ⟨x,d,vs,sl,rfl,g⟩:=id f;rcases g.tb with⟨_,k⟩|⟨T,ts,fl,g2⟩
 ·exact k.elim λG k=>nomatch k.2
 ·refine aB (gC g.ex rfl g2.v1 ?_)
  rw [ax (show¬((gF T==gh)=ai) by simp -iota)];exact pW (MH (E.DR p hx).fs) p f (λk=>k.elim λG k=>nomatch k.2) (.inr #[ao,hL,by rw [hL];rfl]) λs2 p1 p2 f2=>h s2 #[y,aZ,aS,a,p2,f2]
theorem Yp(hc:fG M A c' (λr s'=>match r with|.ok f=>Q f s'|.error e=>aN M A (MK e env) (λG eY=>E e eY) E s') s):bw M A (Co c' env) Q E s:=by
 unfold Co;refine jX (P4 ?_);refine jN hc λr s' q=>?_;induction r using mT with
 |ok f=>exact q
 |error e=>exact bw.of q
theorem ab2(h:R (.ok .next) s):fG (aJ c.prog c.w) A (.block [] env) R s:=by
 refine eS rfl ?_;refine aw (jX ?_);simp -iota only [Cp];exact bb (bb h)
theorem jV.afp(p:b7 c Z X' cu bN ρ O s)(hk:∀b o,b≠af->s.heap.get? b=U o->s'.heap.get? b=U o)(g:s'.gens=s.gens)(o:s'.os=s.os)
  (nI:bN.heap.get? af=u) (fI:¬cy ρ af) (bI:c.H.get? af=u) (zI:∀o,s.heap.get? af=U o->¬fe o) (hx:∀b,X' b->X b \/b=af) (hx':∀b,X b->X' b):b7 c Z X cu bN ρ O s':=by
 have ne:∀{b o},bN.heap.get? b=U o->b≠af:=λ{b o} e q=>by subst q;rw [nI]at e;exact nomatch e
 have nx:∀{b o},bN.heap.get? b=U o->¬X b->¬X' b:=λ{b o} e n x'=>(hx b x').elim n (ne e)
 refine ⟨#[p.cq.pre,p.cq.new,λb o e n x z=>hk b o (ne e) (p.cq.keep b o e n (nx e x) z),λb o e n x=>?_,λb o e f=>hk b o (ne e) (p.cq.kL b o e f),λb o e=>?_,λb n x=>?_],
  #[λb o e=>hk b o (λq=>by subst q;rw [bI]at e;exact nomatch e) (p.inv.base b o e),p.inv.size,λi m e=>?_,p.inv.apart,p.inv.fresh],g.trans p.gens,o.trans p.os⟩
 ·obtain ⟨sl,e'⟩:=p.cq.slot b o e n (nx e x);exact #[sl,hk b _ (ne e) e']
 ·obtain ⟨o',e'⟩:=p.cq.alive b o e;exact #[o',hk b _ (ne e) e']
 ·refine #[λy=>?_,λy=>?_]
  ·obtain ⟨o,e⟩:=yC y
   refine ((p.cq.own b n (hx' b x)).1 y).elim λm hq=>hq.elim λo' hq=>hq.elim λes hq=>hq.elim λep hq=>?_;have e':=hq.1;have z:=hq.2;exact #[m,o',es,ep,hk b _ (ne e) e',z]
  ·obtain ⟨o,e⟩:=Eo y
   refine ((p.cq.own b n (hx' b x)).2 y).elim λm hq=>hq.elim λo' hq=>?_;have z:=hq.2;exact #[m,o',hk b _ (ne e) hq.1,z]
 ·obtain ⟨a,d,q,r⟩:=p.inv.objs i m e
  refine bl λaG=>?_;refine (r.calm a (.inl rfl)).elim λoa hq=>?_;have ea:=hq.1;refine (r.calm d (.inr rfl)).elim λod hq=>?_;refine aG ?_;refine #[a,d,q,r.lift (λG G e=>e) (λb o e f=>hk b o (λz=>by subst z;exact zI o e f) e) ((hk a oa (λz=>?_) ea).trans ea.symm) ((hk d od (λz=>?_) hq.1).trans hq.1.symm)]
  ·subst z;exact fI #[i,a,d,q,.inl rfl]
  ·subst z;exact fI #[i,a,d,q,.inr rfl]
theorem gT.but(F:gT c.H ρ h env l)(hk:∀b o,b≠af->h.get? b=U o->h'.get? b=U o)(zI:∀o,h.get? af=U o->¬fe o)(n1:af≠env.locals)(n2:∀x a,env.cells.lookup x=U a->af≠a):gT c.H ρ h' env l:=by
 refine bl λaG=>?_;refine F.ns.elim λm hq=>hq.elim λN hm=>?_;refine aG ?_;have up:∀{v:V} {ag:az},Rep c.H ρ h v ag->Rep c.H ρ h' v ag:=λq=>q.lift (λG G e=>e) λb o e f=>hk b o (λz=>by subst z;exact zI o e f) e;have cell:∀{x a v},env.cells.lookup x=U a->h.IsCell a v->h'.IsCell a v:=λ{x a v} q #[o,e,d]=>#[o,hk a o (bP (n2 x a q)) e,d];refine #[F.kind,F.glob,F.blt,#[m,?_,λx v e k=>?_],λx v e=>?_,λx k=>?_,F.own,λx a e=>?_,F.inj]
 ·obtain ⟨o,es,ep,e,z⟩:=N;exact #[o,es,ep,hk _ o (bP n1) e,z]
 ·obtain ⟨w,a,b⟩:=hm x v e k;exact #[w,a,up b]
 ·rcases F.wA x v e with k|⟨k,cl,w,a,b,d⟩
  ·exact .inl k
  ·exact .inr #[k,cl,w,a,cell a b,up d]
 ·obtain ⟨cl,ov,a,b⟩:=F.has x k;exact #[cl,ov,a,cell a b]
 ·obtain ⟨a1,a2,a3,o,ov,a4,a5⟩:=F.qG x a e
  exact #[a1,a2,a3,o,ov,hk _ o (bP (n2 x a e)) a4,a5]
structure Apart(c:Cx)(env:aU)(Z:AP)(bN:aA)(af:ay):Prop where
 new:bN.heap.get? af=u
 base:c.H.get? af=u
 z:¬Z af
 loc:af≠env.locals
 wA:∀x a,env.cells.lookup x=U a->af≠a
theorem Apart.of(E:cz c n A aL env ρ O l s){af:ay}(nI:s.heap.get? af=u):Apart c env (bq aL) s af:=by
 refine #[nI,?_,MD E.fs nI,λq=>?_,λx a e q=>?_]
 ·rcases z:c.H.get? af with _|o
  ·rfl
  ·have:=E.inv.base _ _ z;rw [nI]at this;exact nomatch this
 ·obtain ⟨m,⟨o,es,ep,e,_⟩,_⟩:=E.fr.ns;rw [←q,nI]at e;exact nomatch e
 ·obtain ⟨_,_,_,o,ov,a4,_⟩:=E.fr.qG x a e;rw [←q,nI]at a4;exact nomatch a4
theorem Apart.own(a:Apart c env Z bN af):¬cJ env af:=λq=>q.elim a.loc λ#[x,_,e]=>a.wA x af e rfl
noncomputable def Yq(env:aU)(c:Cx)(Z:AP)(cu:bG)(bN:aA)(r:Res (fz×Loc))(res:jt)(s':aA):Prop:=match res with
 |.ok fl=>hU c Z (cJ env) cu bN r (eZ c env) fl s'
 |.error e=>we env c Z (cJ env) cu bN r e s'
noncomputable abbrev Yr(r:Ev)(env:aU)(t:aH)(body:LT):V->Loc->L->Res (fz×Loc):=λv l O=>(eD O (jl env.scope t v O l)).bind λl O=>mf (r.x env.scope) body l O
noncomputable def OrI(env:aU)(af b:ay):Prop:=cJ env b \/b=af
structure yM(c:Cx)(n:Nat)(A:bk)(aL:List aU)(env:aU)(x:It)(af:ay)(cu:bG)(bN:aA)(k:Nat)(l:Loc)(O:L)(ρ:bG)(s:aA):Prop where
 E:cz c n A (env::aL) env ρ O l s
 it:ir c.H ρ s.heap af k x
 fI:¬cy ρ af
 p:b7 c (bq (env::aL)) (OrI env af) cu bN ρ O s
section
variable{x:It}{af:ay}{cu:bG}{bN:aA}{k:Nat}
theorem yM.turn(ao:yM c n A aL env x af cu bN k l O ρ s)(ap:Apart c env (bq (env::aL)) bN af)(p1:b7 c bj (λb=>b=af) ρ s ρ O s1)(ML:ir c.H ρ s1.heap af (k+1) x):yM c n A aL env x af cu bN (k+1) l O ρ s1:=by
 refine bl λaG=>?_;refine ao.it.obj.elim λoI hq=>hq.elim λvI hq=>hq.elim λeI hq=>hq.elim λdI zI=>?_;refine aG ?_
 exact ⟨#[p1.inv,ao.E.fr.mono p1.cq (λq=>ap.loc q.symm) (λx a e q=>ap.wA x a e q.symm),λe he=>(ao.E.fs e he).mono p1.cq λb yb o' es n' e' d'=>(nomatch dI.symm.trans ((I lX (ss eI (yb▸e'))).trans d')),ao.E.a],ML,ao.fI,
  ao.p.trans #[(p1.cq.mX λG G G z=>z.elim).weak λb yb=>.inr yb,p1.inv,p1.gens,p1.os]⟩
theorem yM.own(ao:yM c n A aL env x af cu bN k l O ρ s)(ap:Apart c env (bq (env::aL)) bN af)(p:b7 c (bq (env::aL)) (cJ env) ρ s aS aZ s')(F:gT c.H aS s'.heap env l'):yM c n A aL env x af cu bN k l' aZ aS s':=by
 refine bl λaG=>?_;refine ao.it.obj.elim λoI hq=>hq.elim λvI hq=>hq.elim λeI hq=>hq.elim λdI zI=>?_;refine aG ?_;exact #[ao.E.next p (λG G G x=>x) F,ao.it.mono p.cq ((p.cq.keep _ _ eI ao.fI ap.own ap.z).trans eI.symm),p.cq.k7 eI ao.fI,ao.p.trans (p.weak λb yb=>.inl yb)]
noncomputable def alQ(B:V->Loc->L->Res (fz×Loc))(nx:L->Nat->Option (Option V))(f k:Nat)(a:fz×Loc)(O:L):Res (fz×Loc):=match a with
 |(.ret v,l)=>.ok (.ret v,l) O
 |(_,l)=>loop B nx f (k+1) l O
noncomputable def lpM(B:V->Loc->L->Res (fz×Loc))(nx:L->Nat->Option (Option V))(f k:Nat)(l:Loc)(O:L)(o:Option (Option V)):Res (fz×Loc):=match o with
 |.none=>.bad
 |some .none=>.ok (.next,l) O
 |some (U v)=>(B v l O).bind (alQ B nx f k)
theorem Ys(h:nx O k=o):loop B nx (f+1) k l O=lpM B nx f k l O o:=I (lpM B nx f k l O) h
theorem afr(hr:q=loop (Yr r env t body) nx (f+1) k l O)(hb:q≠ .bad):∃ov,nx O k=U ov:=by
 rcases e:nx O k with _|ov
 ·exact (hb (hr.trans (Ys e))).elim
 ·exact #[ov,rfl]
theorem Yt(hr:q=(Yr r env t body v l O).bind g)(hb:q≠ .bad):∃l1,jl env.scope t v O l=U l1/\ q=(mf (r.x env.scope) body l1 O).bind g:=by
 have key:∀o,jl env.scope t v O l=o->q=((eD O o).bind λl O=>mf (r.x env.scope) body l O).bind g:=λo h=>h▸hr;induction e:jl env.scope t v O l using aK with
 |none=>exact (hb (key _ e)).elim
 |some l1=>exact #[l1,rfl,key _ e]
theorem yM.done(ao:yM c n A aL env x af cu bN k l O ρ s)(ap:Apart c env (bq (env::aL)) bN af)(hk:∀b o,b≠af->s.heap.get? b=U o->s1.heap.get? b=U o)(g:s1.gens=s.gens)(o:s1.os=s.os)(hq:q= .ok (.next,l) O):hU c (bq (env::aL)) (cJ env) cu bN q (eZ c env) .next s1:=
 ao.it.obj.elim λoI h=>h.elim λvI h=>
  #[_,_,_,hq,ao.p.afp hk g o ap.new ao.fI ap.base (λo' e=>ss h.1 e▸h.2.2) (λb q=>q) λb q=>.inl q,ao.E.fr.but hk (λo' e=>ss h.1 e▸h.2.2) ap.loc ap.wA,tv]
theorem afs(S:e7 c n r)(qr:cz c n A (env::aL) env cu tC MM bN)(hx:It.nx x=nx)(t:aH)(body:LT)(ap:Apart c env (bq (env::aL)) bN af)(f:Nat):
  ∀(k:Nat) {l:Loc} {O:L} {ρ:bG} {s:aA},yM c n A aL env x af cu bN k l O ρ s->∀{q:Res (fz×Loc)},q=loop (Yr r env t body) nx f k l O->q≠ .bad->fG (aJ c.prog c.w) A (.forLoop t (.ref af) body [] env) (Yq env c (bq (env::aL)) cu bN q) s:=by
 have hxw:∀b o,bN.heap.get? b=U o->OrI env af b->cJ env b:=λb o e q=>q.elim id λz=>nn ap.new (z▸e);induction f with
 |zero=>intro k l O ρ s ao q hr hb;exact (hb hr).elim
 |succ f ih=>
  intro k l O ρ s ao q hr hb;refine (afr hr hb).elim λov hn=>?_;refine eS rfl ?_;show bw _ A ((forTurn t (.ref af) body [] env).onRaise (λx=>do ou x env;xD x)) _ _ s
  refine jX (cB (E:=fA env.frame c (bq (env::aL)) (OrI env af) cu bN q) ?_ (λfin s' q=>q) λe s' q=>Qf qr hxw q λeY q'=>q'.nU hxw);unfold forTurn;refine aw (ig (aw (jX (bw.of (tB ao.E.a.handled ao.E.inv ao.it hx hn ao.fI ap.base λag s1 hk g o nr=>?_)))));refine EN.two nr (λh0=>?_) λv ag h0 p1 ru ML=>?_
  ·exact bb #[rfl,ab2 (ao.done ap hk g o (hr.trans (Ys (h0▸hn))))]
  ·have L1:=ao.turn ap p1 ML
   refine (Yt (hr.trans (Ys (h0▸hn))) hb).elim λl1 w=>?_;refine aw (bw.of (Hi ML (aw (bw.of (RO ao.E.a.handled L1.E.inv L1.E.fr ru w.1 λs2 (p2:b7 c (bq (env::aL)) (cJ env) ρ s1 ρ O s2) F2=>?_)))));have L2:=L1.own ap p2 F2;refine aw (cB (A9 S body L2.E (jE (w.2▸hb))) (λfl s3 z=>z.elim λa z6 EJ e3 p3 r3=>?_) λe s3 z=>w.2▸fA.bind (fA.trans L2.p (z.weak λb yb=>.inl yb)));have e4:=w.2.trans (iD e3);induction a using LG with
   |mk fl' l3=>
    induction fl' using fz.casesOn with
    |next=>rcases fl<;>first|exact r3.2.elim|exact bb #[rfl,ih (k+1) (L2.own ap p3 r3.1) e4 hb]
    |cont=>rcases fl<;>first|exact r3.2.elim|exact bb #[rfl,ih (k+1) (L2.own ap p3 r3.1) e4 hb]
    |ret v=>rcases fl<;>first|exact r3.2.elim|exact bb #[_,_,_,e4,(L2.own ap p3 r3.1).p.nU hxw,r3]
end
end
end
section
open PyProof.Rows Builtin
section
variable{P:fF}{c:Cx}{n:Nat}{r:Ev}{l:Loc}{O:L}{ρ:bG}{s:aA}{A:bk}{aL:List aU}{env:aU}{Z:AP}
theorem WX.EV{α β γ δ:Type}{re:Res α}{f:α->L->Res γ}{R:bG->aQ->α->β->Prop}{R':bG->aQ->γ->δ->Prop}{m:b6 β}{k:β->b6 δ}(E:cz c n A (env::aL) env ρ O l s)(h:WX u c A (bq (env::aL)) bj ρ re R m s)
  (g:∀a aZ b s' aS,R aS s'.heap a b->cz c n A (env::aL) env aS aZ l s'->b7 c (bq (env::aL)) bj ρ s aS aZ s'->WX env.frame c A (bq (env::aL)) (cJ env) aS (f a aZ) R' (k b) s'):WX env.frame c A (bq (env::aL)) (cJ env) ρ (re.bind f) R' (m>>=k) s:=
 λhb=>by
 refine aw (cB (h (jE hb)) (λb s' q=>?_) λe s' q=>((q.Rv).weak λG x=>x.elim).bind);refine bl λaG=>?_;obtain ⟨a,aZ,aS,e1,p1,r1⟩:=q;refine aG ?_;rw [iD e1]at hb⊢;exact cB (g a aZ b s' aS r1 (E.on p1) p1 hb) (λG G q=>hU.trans (p1.weak λG x=>x.elim) q) λG G q=>fA.trans (p1.weak λG x=>x.elim) q
theorem WX.expr{γ δ:Type}(S:e7 c n r)(E:cz c n A (env::aL) env ρ O l s){f:V->L->Res γ}{k:az->b6 δ}{R':bG->aQ->γ->δ->Prop}
  (g:∀a aZ b s' aS,Rep c.H aS s'.heap a b->cz c n A (env::aL) env aS aZ l s'->b7 c (bq (env::aL)) bj ρ s aS aZ s'->WX env.frame c A (bq (env::aL)) (cJ env) aS (f a aZ) R' (k b) s'):
  WX env.frame c A (bq (env::aL)) (cJ env) ρ ((r.e env.scope l O e).bind f) R' (eval e env>>=k) s:=WX.EV E (S.e E) g
theorem alR(S:e7 c n r)(E:cz c n A (env::aL) env ρ O l s)(t:aH)(a b:LT)(pos:bz):WX env.frame c A (bq (env::aL)) (cJ env) ρ (i9 P r env.scope l O (.If t a b pos)) (eZ c env) (exec (.If t a b pos) env) s:=by
 simp -iota only [arm_exec_If];refine WX.fH (WX.EV E (S.t E) λx aZ q s' aS r1 E1 p1=>?_);obtain rfl:=r1;rcases x with⟨⟩
 ·exact A9 S b E1
 ·exact A9 S a E1
theorem Yu(S:e7 c n r)(E:cz c n A (env::aL) env ρ O l s)(e:aH)(pos:bz):WX env.frame c A (bq (env::aL)) (cJ env) ρ (i9 P r env.scope l O (.Return (U e) pos)) (eZ c env) (exec (.Return (U e) pos) env) s:=by
 simp -iota only [JA];refine WX.fH ?_;exact WX.expr S E λa aZ b s' aS ra E1 p1=>WX.pure E1.inv #[E1.fr,ra]
theorem RP(E:cz c n A (env::aL) env ρ O l s)(pos:bz):WX env.frame c A (bq (env::aL)) (cJ env) ρ (i9 P r env.scope l O (.Continue pos)) (eZ c env) (exec (.Continue pos) env) s:=by
 simp -iota only [arm_exec_Continue];exact WX.fH (WX.pure E.inv #[E.fr,tv])
theorem MN(h:wx it=ai):JB it env x=pure x:=
 Me.get (I not h) (by clear h;rcases it<;>first|exact tv|exact rfl)
theorem TL(E:cz c n A (env::aL) env ρ O l s)(h:fG M A c' (Yq env c (bq (env::aL)) ρ s q) s'):bw M A (Co c' env) (hU c (bq (env::aL)) (cJ env) ρ s q (eZ c env)) (fA env.frame c (bq (env::aL)) (cJ env) ρ s q) s':=
 Yp (jN h λres s' q=>by
  induction res using mT with
  |ok fl=>exact q
  |error e=>exact Yo E (λG G G x=>x) q λeY q'=>q')
theorem aja(S:e7 c n r)(E:cz c n A (env::aL) env ρ O l s)(t it:aH)(body:LT)(pos:bz):WX env.frame c A (bq (env::aL)) (cJ env) ρ (i9 P r env.scope l O (.For t it body [] pos)) (eZ c env) (exec (.For t it body [] pos) env) s:=by
 refine WX.ite λhp=>?_;simp -iota only [arm_exec_For];refine WX.fH (WX.expr S E λx dO xv s1 dP rx E1 p1=>?_);intro hb;induction hx:qm dO x using aK with
 |none=>rw [hx]at hb;exact (hb rfl).elim
 |some MP=>
  rw [hx]at hb;dsimp only at hb⊢;refine aw (zV (MN hp) (bb (aw (ig (aw (cc (bw.of (yL E1.inv rx hx λaf s2 nI hk p2 t2=>?_))))))));exact TL E1 (afs S E1 rfl t body (Apart.of E1 nI) bE 0 #[E1.on p2.any,t2,(λf=>(E1.inv.foot f).elim λo e=>nn nI e.1),p2.any] rfl hb)
noncomputable abbrev afv(r:Ev)(env:aU)(t:aH)(body:LT):Nat->Loc->L->Res (fz×Loc):=whl (λl O=>r.t env.scope l O t) (λl O=>mf (r.x env.scope) body l O)
noncomputable def afw(r:Ev)(env:aU)(t:aH)(body:LT)(f:Nat)(a:fz×Loc)(O:L):Res (fz×Loc):=match a with
 |(.ret v,l)=>.ok (.ret v,l) O
 |(_,l)=>afv r env t body f l O
noncomputable def alS(r:Ev)(env:aU)(t:aH)(body:LT)(f:Nat)(l:Loc)(c:Bool)(O:L):Res (fz×Loc):=if c then(mf (r.x env.scope) body l O).bind (afw r env t body f)else .ok (.next,l) O
theorem ajb(S:e7 c n r)(qr:cz c n A (env::aL) env cu tC MM bN)(t:aH)(body:LT)(f:Nat):
  ∀{l:Loc} {O:L} {ρ:bG} {s:aA},cz c n A (env::aL) env ρ O l s->b7 c (bq (env::aL)) (cJ env) cu bN ρ O s->∀{q:Res (fz×Loc)},q=afv r env t body f l O->q≠ .bad->
  fG (aJ c.prog c.w) A (.whileLoop t body [] env) (Yq env c (bq (env::aL)) cu bN q) s:=by
 induction f with
 |zero=>intro l O ρ s E p q hr hb;exact (hb hr).elim
 |succ f ih=>
  intro l O ρ s E p q hr hb;replace hr:q=(r.t env.scope l O t).bind (alS r env t body f l):=hr;refine eS rfl ?_;show bw _ A ((whileTurn t body [] env).onRaise (λx=>do ou x env;xD x)) _ _ s
  refine jX (cB (E:=fA env.frame c (bq (env::aL)) (cJ env) cu bN q) ?_ (λfin s' q=>q) λe s' q=>Qf qr (λG G G x=>x) q λeY q'=>q');unfold whileTurn;refine aw (cB (S.t E (jE (hr▸hb))) (λb s1 z=>z.elim λb' dO dP e1 p1 r1=>?_) λe s1 z=>hr▸fA.trans p (((z.Rv).weak λG x=>x.elim).bind));have e2:=hr.trans (iD e1);have E1:=E.on p1;have p2:=p.trans (p1.weak λG x=>x.elim);obtain rfl:b'=b:=r1;induction b' using dj with
  |false=>
   refine aw ?_;simp -iota only [Cp];exact bb (bb #[_,_,_,e2,p2,E1.fr,tv])
  |true=>
   replace e2:q=(mf (r.x env.scope) body l dO).bind (afw r env t body f):=e2;refine aw (cB (A9 S body E1 (jE (e2▸hb))) (λfl s2 z=>z.elim λa hZ kX e3 p3 r3=>?_) λe s2 z=>e2▸fA.trans p2 z.bind);induction a using LG with
   |mk fl' l2=>
    induction fl' using fz.casesOn with
    |next=>rcases fl<;>first|exact r3.2.elim|exact bb #[rfl,ih (E1.next p3 (λG G G x=>x) r3.1) (p2.trans p3) (e2.trans (iD e3)) hb]
    |cont=>rcases fl<;>first|exact r3.2.elim|exact bb #[rfl,ih (E1.next p3 (λG G G x=>x) r3.1) (p2.trans p3) (e2.trans (iD e3)) hb]
    |ret v=>rcases fl<;>first|exact r3.2.elim|exact bb #[_,_,_,(e2.trans (iD e3)),p2.trans p3,r3]
theorem ab3(S:e7 c n r)(E:cz c n A (env::aL) env ρ O l s)(t:aH)(body:LT)(pos:bz):WX env.frame c A (bq (env::aL)) (cJ env) ρ (i9 P r env.scope l O (.While t body [] pos)) (eZ c env) (exec (.While t body [] pos) env) s:=by
 simp -iota only [arm_exec_While];exact WX.fH λhb=>TL E (ajb S E t body 8 E (jV.refl E.inv) rfl hb)
end
end
section
open PyProof.Rows Builtin
section
variable{P:fF}{c:Cx}{n:Nat}{r:Ev}{l:Loc}{O:L}{ρ:bG}{s:aA}{A:bk}{aL:List aU}{env:aU}{Z:AP}
theorem uX:∀(names:List (aF×lG)) (acc:List (aF×ay)),(∀x∈names,x.2= .free->∃a,env.cells.lookup x.1=U a)->(∀x a,acc.lookup x=U a->env.cells.lookup x=U a)->
  ∃cl,(forIn names acc (λx (cs:List (aF×ay))=>if x.2== .free then(do let a←cellOf env x.1;pure (mU ((x.1,a)::cs)))else pure (mU cs)):b6 (List (aF×ay)))=pure cl/\
   (∀x a,cl.lookup x=U a->env.cells.lookup x=U a)/\ (∀x,(∃a,acc.lookup x=U a)->∃a,cl.lookup x=U a)/\ ∀x∈names,x.2= .free->∃a,cl.lookup x.1=U a
 | [],acc,h,ha=>#[acc,rfl,ha,λx q=>q,λx hx=>by simp -iota at hx]
 |(nm,k)::names,acc,h,ha=>by
  simp -iota only [Kx];by_cases hk:k= .free
  ·subst hk
   refine bl λaG=>?_;obtain ⟨a,e⟩:=h (nm,.free) cY rfl;have hc:cellOf env nm=pure a:=by unfold cellOf;rw [e]
   obtain ⟨cl,e1,e2,e3,e4⟩:=uX names ((nm,a)::acc) (λx hx=>h x (cZ _ hx)) (λx b q=>by
    simp -iota only [iz]at q;induction hb:x==nm using dj with
    |true=>rw [hb]at q;obtain rfl:=bh q;rw [dX.mp hb];exact e
    |false=>rw [hb]at q;exact ha x b q)
   refine aG ?_;refine #[cl,?_,e2,λx q=>e3 x ?_,λx hx hf=>?_]
   ·simp -iota only [beq_self_eq_true,if_true,hc,pure_bind]
    exact e1
   ·obtain ⟨b,q⟩:=q
    simp -iota only [iz];induction hb:x==nm using dj with
    |true=>exact #[a,rfl]
    |false=>exact #[b,q]
   ·rcases eU.mp hx with rfl|hx
    ·exact e3 nm #[a,by simp -iota [iz]]
    ·exact e4 x hx hf
  ·obtain ⟨cl,e1,e2,e3,e4⟩:=uX names acc (λx hx=>h x (cZ _ hx)) ha
   refine #[cl,?_,e2,e3,λx hx hf=>?_]
   ·simp -iota only [(by simpa -iota using hk:(k==uN)=av),lu,if_false,pure_bind]
    exact e1
   ·rcases eU.mp hx with rfl|hx
    ·exact absurd hf hk
    ·exact e4 x hx hf
theorem EW(h:∀x∈scope.names,x.2= .free->∃a,env.cells.lookup x.1=U a):∃cl,Cq scope env=pure cl/\ (∀x a,cl.lookup x=U a->env.cells.lookup x=U a)/\ ∀x∈scope.names,x.2= .free->∃a,cl.lookup x.1=U a:=by
 refine bl λaG=>?_;refine (uX (env:=env) scope.names [] h (λx a q=>by simp -iota at q)).elim λcl hq=>hq.elim λe1 hq=>?_;refine aG ?_;refine #[cl,?_,hq.1,hq.2.2];unfold Cq
 simp -iota only [show(λ(x:aF×lG) (r:List (aF×ay))=>(do
   let(name,kind):=x
   if kind== .free then
    let a←cellOf env name
    pure (mU ((name,a)::r))
   else pure (mU r):b6 (ForInStep (List (aF×ay)))))=(λx (cs:List (aF×ay))=>if x.2== .free then(do let a←cellOf env x.1;pure (mU ((x.1,a)::cs)))else pure (mU cs))from by
  funext x r
  obtain ⟨a,b⟩:=x
  rfl]
 rw [e1]
 rfl
noncomputable def TM(M:gz)(A:bk)(E:VP)(use:Option (az->b6 Unit))(Q:VP)(acc:az)(C:ay)(r:jt)(s':aA):Prop:=
 match r,use with
 |.ok _,u=>∃m,s'.heap.Ns C m/\ ∀h' m',h'.Ns C m'->iW C s'.heap h'->Q acc {s' with heap:=h'}
 |.ok _,U ag=>bw M A (ag acc) (λG eY=>∃m,eY.heap.Ns C m/\ ∀h' m',h'.Ns C m'->iW C eY.heap h'->Q .none {eY with heap:=h'}) E s'
 |.error x,_=>False
theorem PH{α:Type}{M:gz}{G7:Prop} [Decidable G7]{pos:bz}{k:PUnit->b6 α}{Q:α->aA->Prop}{E:VP}(h:bw M A (k ()) Q E s):
  bw M A (if G7 then(lz pos>>=k)else k ()) Q E s:=by
 split
 ·exact aw (ig h)
 ·exact h
theorem PI{M:gz}{E:VP}{e:aH}{scope:bM}{pos:bz}{TN first:b6 az}{g:xi}{gs:List xi}{cl:List (aF×ay)}{use:Option (az->b6 Unit)}{Q:VP}
  (hcl:clausesOf e=g::gs) (hs:∀x,JB g.iter env x=pure x) (ajc:Cq scope env=pure cl)
  (aat:scope.kind= .function) (afy:∀x∈scope.names,x.2= .local->scope.names.lookup x.1=U .local)
  (h:bw M A first (λx cN=>bw M A (rC x) (λit v9=>bw M A TN (λacc afz=>
   bw M A (JC scope env.globals cl [] env.qual u .none (U env)) (λcenv afA=>
    fG M A (.compStart e 0 it acc {cenv with scope:=iy scope env}) (TM M A E use Q acc cenv.locals) afA) E afz) E v9) E cN) E s):
  bw M A (xE e scope env pos TN av first use) Q E s:=by
 unfold xE;rw [ajc,hcl]
 refine aw (cB h (λx cN fc=>aw (ig (aw (zV (hs x) (bb (aw (cc (cB fc (λit v9 Ge=>
  PH (aw (cB Ge (λacc afz alT=>aw (bb (aw (cB alT (λcenv afA alU=>?_) λG G h'=>h')))) λG G h'=>h')))
   λG G h'=>h')))))))) λG G h'=>h')
 dsimp only
 have hv:∀x∈(scope.names.filter λx=>(x.2== .local||x.2== .cell)&&x.1 !=(".0" :aF)).reverse,x.2= .local->
   LP {cenv with scope:=iy scope env} x.1=U .local:=λx hx hl=>Cr (afy x (Ks.mp (Ky.mp hx)).1 hl)
 have hv':∀x∈(scope.names.filter λx=>(x.2== .local||x.2== .cell)&&x.1 !=(".0" :aF)).reverse.drop 1++(scope.names.filter λx=>(x.2== .local||x.2== .cell)&&x.1 !=(".0" :aF)).reverse.take 1,
   x.2= .local->LP {cenv with scope:=iy scope env} x.1=U .local:=λx hx hl=>by
  rcases Kz.mp hx with h1|h1
  ·exact hv x (KA h1) hl
  ·exact hv x (List.mem_of_mem_take h1) hl
 refine cc (aw (v7 (cc (P4 (jN alU λr s' hr=>?_)))));induction r using mT with
 |ok f=>
  rcases use with _|ag
  ·
   refine bl λaG=>?_;refine hr.elim λm hq=>hq.elim λhn hr=>?_;refine aG ?_;exact aw (cc (bw.of (JD (cenv:={cenv with scope:=iy scope env}) aat _ s' m hv hn λh' m' vK mh=>bb (hr h' m' vK mh))))
  ·
   refine aw (qo (aw (cc (cB hr (λG eY hr'=>?_) λG G h'=>h'))));refine hr'.elim λm hq=>?_;have hr':=hq.2;exact aw (bw.of (JD (cenv:={cenv with scope:=iy scope env}) aat _ eY m hv' hq.1 λh' m' vK mh=>bb (hr' h' m' vK mh)))
 |error x=>rcases use<;>exact hr.elim
end
end
section
open PyProof.Rows Builtin
section
variable{P:fF}{c:Cx}{n:Nat}{r:Ev}{l:Loc}{O:L}{ρ:bG}{s:aA}{A:bk}{aL:List aU}{env:aU}{Z:AP}
theorem yN{sc:bM}:∀{names:List (aF×lG)} {x:aF} {k:lG},
  (names.map λ(n,k)=>if(k==uN&&sc.kind== .function&&sc.names.lookup n==U .cell)then(n,Lk)else(n,k)).lookup x=U k->
  (names.lookup x=U k) \/(k= .cell/\ names.lookup x=U .free/\ sc.names.lookup x=U .cell)
 | [],x,k,h=>by simp at h
 |(n,k')::rest,x,k,h=>by
  rw [iU,iz]at h;simp only [iz];by_cases hc:(k'==uN&&sc.kind== .function&&sc.names.lookup n==U .cell)=ai
  ·simp only [hc,if_true]at h
   induction hx:x==n using dj with
   |true=>
    rw [hx]at h;obtain rfl:=bh h;simp only [iK,beq_iff_eq]at hc;refine .inr #[rfl,?_,?_]
    ·show U k'=_;rw [hc.1.1]
    ·rw [dX.mp hx];exact hc.2
   |false=>rw [hx]at h;exact (@yN sc rest x k) h
  ·simp only [hc,lu,if_false]at h
   induction hx:x==n using dj with
   |true=>rw [hx]at h;obtain rfl:=bh h;exact .inl rfl
   |false=>rw [hx]at h;exact (@yN sc rest x k) h
theorem yO{sc:bM}(hk:sc.kind= .function):∀{names:List (aF×lG)} {x:aF},names.lookup x=U .free->sc.names.lookup x=U .cell->
  (names.map λ(n,k)=>if(k==uN&&sc.kind== .function&&sc.names.lookup n==U .cell)then(n,Lk)else(n,k)).lookup x=U .cell
 | [],x,h,_=>by simp at h
 |(n,k')::rest,x,h,h2=>by
  simp only [iz]at h;rw [iU,iz];induction hx:x==n using dj with
  |true=>
   simp only [hx]at h;have tf:k'= .free:=by obtain rfl:=bh h;rfl
   rw [tf];rw [dX.mp hx]at h2;simp [hk,h2,beq_iff_eq.mp hx]
  |false=>
   rw [hx]at h;have:=yO hk h h2;by_cases hc:(k'==uN&&sc.kind== .function&&sc.names.lookup n==U .cell)=ai
   ·simp only [hc,if_true,hx];exact this
   ·simp only [hc,lu,if_false,hx];exact this
structure MQ(bQ sc:bM)(it:aH):Prop where
 plain:wx it=ai
 kind:bQ.kind= .function
 aau:sc.kind= .function
 cell:∀x∈bQ.names,x.2≠ .cell
 loc:∀x∈bQ.names,x.2= .local->bQ.names.lookup x.1=U .local
 free:∀x∈bQ.names,x.2= .free->sc.names.lookup x.1=U .cell
theorem TO(h:zN bQ sc it=ai):MQ bQ sc it:=by
 unfold zN at h;simp only [iK,beq_iff_eq,jh,IW,bne_iff_ne]at h;obtain ⟨⟨⟨h1,h2⟩,h3⟩,h4⟩:=h;exact #[h1,h2,h3,λx hx=>(h4 x hx).1.1,λx hx hl=>((h4 x hx).1.2).resolve_left λq=>q hl,λx hx hl=>((h4 x hx).2).resolve_left λq=>q hl]
theorem Qg(h:freeOf bQ l x=U v):bQ.names.lookup x=U .free/\ (x==aE "__classdict__")=av/\ l x=U v:=by
 unfold freeOf at h
 split at h
 ·rename_i hf
  unfold isFree at hf
  revert hf
  rcases e:bQ.names.lookup x with _|k
  ·intro q;exact nomatch q
  ·
   by_cases hk:k= .free
   ·rw [hk]
    intro q;refine #[rfl,?_,h]
    simpa using q
   ·intro q;rcases k<;>first|exact absurd rfl hk|cases q
 ·exact nomatch h
theorem ab4(F:gT c.H ρ h env l)(K:MQ bQ env.scope it)(h1:∀x a,cl.lookup x=U a->env.cells.lookup x=U a)(h2:∀x∈bQ.names,x.2= .free->∃a,cl.lookup x.1=U a)
  (N:∃m,h.Ns C m) (fC:¬cy ρ C) (bC:c.H.get? C=u) (nC:∀x a,env.cells.lookup x=U a->a≠C):gT c.H ρ h (xF bQ cl C env) (freeOf bQ l):=by
 obtain ⟨m,N⟩:=N
 have yP:∀x,bQ.names.lookup x=U .free->env.kindOf x=U .cell/\ ∃a,cl.lookup x=U a/\ env.cells.lookup x=U a:=λx e=>by
  have m:=mem_of_lookup e;obtain ⟨a,q⟩:=h2 _ m rfl;exact #[K.free _ m rfl,a,q,h1 x a q]
 refine #[K.kind,F.glob,F.blt,#[m,N,λx v e k=>?_],λx v e=>?_,λx k=>?_,#[fC,bC],λx a e=>?_,λx y a e1 e2=>F.inj x y a (h1 _ _ e1) (h1 _ _ e2)]
 ·obtain ⟨e1,_,_⟩:=Qg e
  have:=yO K.aau e1 (yP x e1).1;have k':(iy bQ env).names.lookup x=U .cell:=this
  change (iy bQ env).names.lookup x=_ at k
  rw [k']at k;exact nomatch k
 ·obtain ⟨e1,e2,e3⟩:=Qg e
  refine bl λaG=>?_;refine (yP x e1).elim λk hq=>hq.elim λa hq=>hq.elim λq1 q2=>?_;refine aG ?_;refine .inr #[.inl (yO K.aau e1 k),?_];rcases F.wA x v e3 with z|⟨_,Qc,w,z1,z2,z3⟩
  ·rw [k]at z;exact nomatch z
  ·rw [q2]at z1;obtain rfl:=bh z1
   exact #[a,w,q1,z2,z3]
 ·rcases yN (k)with z|⟨_,z1,z2⟩
  ·exact absurd rfl (K.cell _ (mem_of_lookup z))
  ·obtain ⟨k,a,q1,q2⟩:=yP x z1
   refine bl λaG=>?_;obtain ⟨a',ov,z3,z4⟩:=F.has x k;refine aG ?_;rw [q2]at z3;obtain rfl:=bh z3;exact #[a,ov,q1,z4]
 ·obtain ⟨a1,a2,a3,o,ov,a4,a5⟩:=F.qG x a (h1 _ _ e)
  exact #[a1,a2,nC x a (h1 _ _ e),o,ov,a4,a5]
theorem BE(K:MQ bQ env.scope it)(e:store bQ x v l=U l'):store (iy bQ env) x v l=U l':=by
 refine (au ?_).trans (jo.mp e).2;have h:=(jo.mp e).1
 ·have:oP (iy bQ env) x=true:=by
   unfold oP at h⊢;induction e1:bQ.names.lookup x using aK with
   |none=>rw [e1]at h;exact nomatch h
   |some k=>
    rw [e1]at h;by_cases h1:k= .local
    ·subst h1
     have:(iy bQ env).names.lookup x=U .local:=Cr e1;rw [this]
    ·by_cases h2:k= .cell
     ·subst h2;exact absurd rfl (K.cell _ (mem_of_lookup e1))
     ·rcases k<;>first|exact absurd rfl h1|exact absurd rfl h2|cases h
  exact this
theorem Gg(K:MQ bQ env.scope it):∀{vs:LV} {l l':Loc},storeAll bQ xs vs l=U l'->storeAll (iy bQ env) xs vs l=U l':=by
 induction xs with
 |nil=>
  intro vs l l' e;induction vs using bS with
  |nil=>exact e
  |cons _ _=>exact dG e
 |cons x xs ih=>
  intro vs l l' e;induction vs using bS with
  |nil=>exact dG e
  |cons v vs=>exact (gm e).elim λl1 z=>IP.mpr #[l1,BE K z.1,ih z.2]
theorem PJ(K:MQ bQ env.scope it)(e:jl bQ t v O l=U l'):jl (iy bQ env) t v O l=U l':=by
 induction t using eV with
 |Name x pos=>exact BE K e
 |Tuple es k pos=>
  have key:∀(o1:Option (LR)) (o2:Option (LV)),(match o1,o2 with
    |some xs,U vs=>if(J xs)<=8 then storeAll bQ xs vs l else .none
    |_,_=>.none:Option Loc)=U l'->(match o1,o2 with
    |some xs,U vs=>if(J xs)<=8 then storeAll (iy bQ env) xs vs l else .none
    |_,_=>.none:Option Loc)=U l':=λo1 o2 h=>by
   rcases o1 with _|xs
   ·exact dG h
   ·rcases o2 with _|vs
    ·exact dG h
    ·
      exact (au (jo.mp h).1).trans (Gg K (jo.mp h).2)
  exact key _ _ e
 |_=>exact dG e
theorem Yv(us:LU)(ag:az):({cls:=.type "list",data:=.seq (us.toArray.push ag) (J us+1)}:fh)=uO (us++ [ag]):=LCg.lst_snoc us ag
end
end
section
open PyProof.Rows Builtin
section
variable{P:fF}{c:Cx}{n:Nat}{r:Ev}{l:Loc}{O:L}{ρ:bG}{s:aA}{A:bk}{aL:List aU}{env:aU}{Z:AP}
theorem PK{bQ:bM}{it t:aH}{v:V}{l l':Loc}(K:MQ bQ env.scope it)(e:jl bQ t v O l=U l'):∀x,TK t x->(iy bQ env).names.lookup x=U .local:=by
 have one:∀{x:aF} {v:V} {l l':Loc},store bQ x v l=U l'->(iy bQ env).names.lookup x=U .local:=λ{x v l l'} e=>
  (EP (env:={env with scope:=bQ}) e).1.elim Cr λh=>absurd rfl (K.cell _ (mem_of_lookup h))
 have all:∀{xs:LR} {vs:LV} {l l':Loc},storeAll bQ xs vs l=U l'->∀x∈xs,(iy bQ env).names.lookup x=U .local:=by
  intro xs;induction xs with
  |nil=>intro vs l l' _ x hx;exact nomatch hx
  |cons y ys ih=>
   intro vs l l' e x hx;induction vs using bS with
   |nil=>exact nomatch e
   |cons v vs=>
    obtain ⟨l1,e1,e⟩:=gm (e);rcases eU.mp hx with rfl|hx
    ·exact one e1
    ·exact ih e x hx
 induction t using eV with
 |Name y pos=>exact λx (hx:x=y)=>hx▸one e
 |Tuple es k pos=>
  rintro x ⟨xs,e1,hx⟩
  unfold jl at e;dsimp only at e;rw [e1]at e;induction e3:jk O v using aK with
  |none=>simp only [e3]at e;exact nomatch e
  |some vs=>rw [e3]at e;exact all (ite_yes e).2 x hx
 |_=>exact nomatch e
theorem EX{α β:Type}{q:Res α}{f:α->L->Res β}(h:mn (q.bind f)≠ .bad):mn q≠ .bad/\ q≠ .bad:=by
 induction q using Res.casesOn with
 |ok a O=>exact #[(λz=>nomatch z),(λz=>nomatch z)]
 |exc y O=>exact absurd rfl h
 |bad=>exact absurd rfl h
theorem Yw(h:mn q≠ .bad):q≠ .bad:=λz=>by rw [z]at h;exact h rfl
theorem Hk{α:Type}{y:V}{O:L}{q:Res α}(h:mn q≠ .bad)(e:q= .exc y O):False:=by rw [e]at h;exact h rfl
theorem cz.later{cu:bG}{tC:L}{bN:aA}{X:AP}(qr:cz c n A aL env cu tC l bN)(p:b7 c (bq aL) X cu bN ρ O s)(hx:∀b,X b->bN.heap.get? b=u):cz c n A aL env ρ O l s:=
 qr.on (p.nU λb o e x=>by rw [hx b x]at e;exact nomatch e)
structure uY(c:Cx)(Z:AP)(x:It)(af C D:ay)(cu:bG)(bN:aA)(k:Nat)(ys:LV)(us:LU)(O:L)(ρ:bG)(s:aA):Prop where
 it:ir c.H ρ s.heap af k x
 fI:¬cy ρ af
 fC:¬cy ρ C
 fD:¬cy ρ D
 hD:s.heap.get? D=U (uO us)
 R:bJ c.H ρ s.heap ys us
 N:∃m,s.heap.Ns C m
 p:b7 c Z (λb=>b=af \/b=C \/b=D) cu bN ρ O s
section
variable{x:It}{af C D:ay}{cu:bG}{bN:aA}{k:Nat}{ys:LV}{us:LU}
theorem uY.step(T:uY c Z x af C D cu bN k ys us O ρ s){X:AP}{aS:bG}{aZ:L}{s':aA}(p:b7 c Z X ρ s aS aZ s')(hx:∀b,X b->b=af \/b=C \/b=D){k':Nat}{ys':LV}{zy:LU}(MP:ir c.H aS s'.heap af k' x)
  (hD':s'.heap.get? D=U (uO zy)) (R':bJ c.H aS s'.heap ys' zy) (N':∃m,s'.heap.Ns C m):uY c Z x af C D cu bN k' ys' zy aZ aS s':=by
 refine bl λaG=>?_;refine T.it.obj.elim λoI hq=>hq.elim λvI hq=>hq.elim λeI hq=>hq.elim λdI zI=>?_;obtain ⟨oC,eC⟩:=yC T.N;refine aG ?_;exact #[MP,p.cq.k7 eI T.fI,p.cq.k7 eC T.fC,p.cq.k7 T.hD T.fD,hD',R',N',T.p.trans (p.weak hx)]
theorem uY.keep(T:uY c Z x af C D cu bN k ys us O ρ s)(Hl:af≠C)(zA:C≠D)(zI:¬Z af)(zD:¬Z D){X:AP}{aS:bG}{aZ:L}{s':aA}(p:b7 c Z X ρ s aS aZ s')(hx:∀b,X b->b=C)(N':∃m,s'.heap.Ns C m):uY c Z x af C D cu bN k ys us aZ aS s':=by
 refine bl λaG=>?_;refine T.it.obj.elim λoI hq=>hq.elim λvI hq=>hq.elim λeI hq=>hq.elim λdI fI=>?_;refine aG ?_;exact T.step p (λb h=>.inr (.inl (hx b h))) (T.it.mono p.cq ((p.cq.keep _ _ eI T.fI (λh=>Hl (hx _ h)) zI).trans eI.symm)) (p.cq.keep _ _ T.hD T.fD (λh=>zA (hx _ h).symm) zD) (T.R.mono p.cq) N'
theorem uY.push(T:uY c Z x af C D cu bN k ys us O ρ s)(TP:af≠D)(zA:C≠D)(bD:c.H.get? D=u){w:V}{y:az}(r:Rep c.H ρ s.heap w y){h4:aQ}{tk:Nat}(i7:iW D s.heap h4)(hD4:h4.get? D=U (uO (us++ [y]))):uY c Z x af C D cu bN k (ys++ [w]) (us++ [y]) O ρ {s with heap:=h4,toks:=tk}:=by
 have k4:∀b o,s.heap.get? b=U o->¬b=D->h4.get? b=U o:=λb o e nb=>(i7.2 b nb).trans e
 have TQ:cG bj (λb=>b=D) ρ s.heap ρ h4:=cG.loose (λb o z=>z.elim) (λb o yb e=>ss (yb▸T.hD) e▸FW (by decide) (by decide)) (λb o e nb G=>k4 b o e nb) (λb o e nb=>#[o.slots,k4 b o e nb]) (λb o e=>by
  by_cases q:b=D
  ·exact #[_,q▸hD4]
  ·exact #[o,k4 b o e q]) λb yb=>by
   rw [yb];refine #[λy=>?_,λy=>?_]
   ·obtain ⟨m,o,es,ep,e,d,_⟩:=y;exact nomatch(I lX (ss T.hD e)).trans d
   ·obtain ⟨m,o,e,d⟩:=y;exact nomatch(I lX (ss T.hD e)).trans d
 refine bl λaG=>?_;refine T.it.obj.elim λoI hq=>hq.elim λvI hq=>hq.elim λeI hq=>hq.elim λdI fI=>?_;refine aG ?_;exact T.step (s':={s with heap:=h4,toks:=tk}) #[TQ.mX λG G G z=>z.elim,(T.p.inv.loose TQ (λb o e nb G=>k4 b o e nb) (λb z=>z.elim) λb yb=>#[yb▸T.fD,yb▸bD]),rfl,rfl] (λb h=>.inr (.inr h)) (T.it.mono TQ ((k4 af _ eI TP).trans eI.symm)) hD4 ((T.R.mono TQ).append (.cons (Rep.mono TQ r) .nil)) (T.N.imp λm N=>N.sameBut i7 zA)
end
noncomputable abbrev vM(r:Ev)(env:aU)(bQ:bM)(l:Loc)(elt t:aH):V->L->Res V:=λv O=>(eD O (jl bQ t v O (freeOf bQ l))).bind λl' O=>r.e (pg bQ env.scope) l' O elt
theorem ab5(S:e7 c n r){cu:bG}{tC:L}{bN:aA}(qr:cz c n A aL env cu tC l bN){bQ:bM}{cl:List (aF×ay)}{elt t iter MP:aH}{pos:bz}(K:MQ bQ env.scope MP)
  (h1:∀x a,cl.lookup x=U a->env.cells.lookup x=U a) (h2:∀x∈bQ.names,x.2= .free->∃a,cl.lookup x.1=U a) {x:It} {nx:L->Nat->Option (Option V)} (hx:It.nx x=nx) {af C D:ay}
  (aI:Apart c env (bq aL) bN af) (aC:Apart c env (bq aL) bN C) (aD:Apart c env (bq aL) bN D) (Hl:af≠C) (TP:af≠D) (zA:C≠D) {R:jt->aA->Prop} (f:Nat):
  ∀(k:Nat) {ys:LV} {us:LU} {O:L} {ρ:bG} {s:aA},uY c (bq aL) x af C D cu bN k ys us O ρ s->J us+f<=2000->mn (turns (vM r env bQ l elt t) nx f k O)≠ .bad->
  (∀aZ aS s' zs zy,turns (vM r env bQ l elt t) nx f k O= .ok zs aZ->b7 c (bq aL) (λb=>b=C \/b=D) cu bN aS aZ s'->
   s'.heap.get? D=U (uO zy)->bJ c.H aS s'.heap (ys++zs) zy->(∃m,s'.heap.Ns C m)->¬cy aS C->¬cy aS D->R (.ok .next) s')->
  fG (aJ c.prog c.w) A (.compLoop (.ListComp elt [#[t,iter,[],0]] bQ pos) 0 (.ref af) (.ref D) (xF bQ cl C env)) R s:=by
 induction f with
 |zero=>intro k ys us O ρ s T hl hb hR;exact (hb rfl).elim
 |succ f ih=>
  intro k ys us O ρ s T hl hb hR;have hxn:∀b,(b=af \/b=C \/b=D)->bN.heap.get? b=none:=λb q=>q.elim (λz=>z▸aI.new) λq=>q.elim (λz=>z▸aC.new) λz=>z▸aD.new;have E:=qr.later T.p hxn
  have un:turns (vM r env bQ l elt t) nx (f+1) k O=(match nx O k with
   |.none=>.bad
   |some .none=>.ok [] O
   |some (U v)=>(vM r env bQ l elt t v O).bind λx O=>(turns (vM r env bQ l elt t) nx f (k+1) O).bind λxs O=>.ok (x::xs) O):=rfl
  rw [un]at hb hR;refine eS rfl ?_;show bw _ A ((compTurn (.ListComp elt [#[t,iter,[],0]] bQ pos) 0 (.ref af) (.ref D) (xF bQ cl C env)).onRaise (λx=>do ou x (xF bQ cl C env);xD x)) _ _ s
  refine jX (cB (E:=λG G=>False) ?_ (λfin s' q=>q) λe s' q=>q.elim);rw [compTurn_list1];refine aw (ig ?_);induction hn:nx O k using aK with
  |none=>rw [hn]at hb;exact (hb rfl).elim
  |some ov=>
   rw [hn]at hb hR;refine aw (bw.of (tB (E.a.handled) E.inv T.it hx hn T.fI aI.base λag s1 hk g o nr=>?_));induction ov using aK with
   |none=>induction ag using aK with
    |some ag=>exact nr.elim
    |none=>
     refine bl λaG=>?_;refine T.it.obj.elim λoI hq=>hq.elim λvI hq=>hq.elim λeI hq=>hq.elim λdI zI=>?_;refine aG ?_;have zI':∀o',s.heap.get? af=U o'->¬fe o':=λo' e=>ss eI e▸zI;have p1:=T.p.afp hk g o aI.new T.fI aI.base zI' (λb q=>q.elim .inr .inl) λb q=>.inr q;refine bb (hR O ρ s1 [] us rfl p1 (hk D _ (bP TP) T.hD) ?_ (T.N.imp λm N=>N.imp λo' z=>z.imp λes z=>z.imp λep z=>#[hk C _ (bP Hl) z.1,z.2]) T.fC T.fD);rw [cL];exact uV (λ{x v} q=>q.lift (λG G e=>e) λb o e f=>hk b o (λz=>zI' o (z▸e) f) e) T.R
   |some v=>induction ag using aK with
    |none=>exact nr.elim
    |some ag=>
     have p1:=nr.1;have ru:=nr.2.1;have ML:=nr.2.2;have T1:uY c (bq aL) x af C D cu bN (k+1) ys us O ρ s1:=T.step (p1.cq.mX (λG G G z=>z.elim)|>λst=>(#[st,p1.inv,p1.gens,p1.os]:b7 c (bq aL) (λb=>b=af) ρ s ρ O s1)) (λb h=>.inl h) ML (p1.cq.keep D _ T.hD T.fD (bP TP) id) (T.R.mono p1.cq) (T.N.imp λm N=>zR p1.cq T.fC (bP Hl) N);dsimp only at hb hR⊢;refine aw (bw.of (Hi ML ?_));induction hbt:jl bQ t v O (freeOf bQ l)using aK with
     |none=>exact (hb (by unfold vM;rw [hbt];rfl)).elim
     |some l1=>
      have hf:vM r env bQ l elt t v O=r.e (pg bQ env.scope) l1 O elt:=by unfold vM;rw [hbt];rfl
      rw [hf]at hb hR;refine aw (bw.of (ET (Z:=bq aL) (X:=λb=>b=C) rfl (λy ty ky=>nomatch((PK K hbt) y ty).symm.trans ky) E.a.handled p1.inv (ab4 (qr.later T1.p hxn).fr K h1 h2 T1.N T.fC aC.base (λx a e=>bP (aC.wA x a e))) ru (PJ K hbt) λs2 p2 F2=>?_));have vG:=EX hb;have T2:=T1.keep Hl zA aI.z aD.z p2 (λb h=>h) ((p2.cq.own C T.fC rfl).1 T1.N);refine aw (aw (cB (S.e (#[p2.inv,F2,(qr.later T2.p hxn).fs,qr.a]) vG.2) (λy s3 q=>?_) λe s3 q=>q.elim λy z6 EJ e3 G G=>(Hk vG.1 e3).elim));refine bl λaG=>?_;obtain ⟨w,z6,EJ,e3,p3,r3⟩:=q;refine aG ?_;have T3:=T2.keep Hl zA aI.z aD.z p3 (λb h=>h.elim) (T2.N.imp λm N=>zR p3.cq T2.fC id N);have e3':r.e (pg bQ env.scope) l1 O elt= .ok w z6:=e3;rw [iD e3']at hb hR;refine aw (bw.of (append_at (hsz:=by simp only [CO,lA];exact (nV hl (aV rfl))) T3.hD λh4 i7 hD4=>?_));refine bb (bb #[rfl,?_]);refine ih (k+1) (T3.push TP zA aD.base r3 i7 (hD4.trans (I U (Yv us y)))) (by simp only [cx,rS];exact (zS hl)) (EX hb).1 λaZ aS s' zs zy e' p' d' rr n' f1 f2=>?_;refine hR aZ aS s' (w::zs) zy (iD e') p' d' (by rw [cM]at rr;exact rr) n' f1 f2
end
end
section
open PyProof.Rows Builtin
section
variable{P:fF}{c:Cx}{n:Nat}{r:Ev}{l:Loc}{O:L}{ρ:bG}{s:aA}{A:bk}{aL:List aU}{env:aU}{Z:AP}
theorem ir.self(t:ir c.H ρ s.heap af k x)(h:Q (.ref af) s):aN (aJ c.prog c.w) A (rC (.ref af)) Q E s:=by
 cases t with
 |tup a b r=>exact wpAny_pyIter_tupleiter a h
 |bytes a=>exact KBw.pyIter_self a h
 |ee a=>exact wpAny_pyIter_rangeiter a h
 |list e a=>exact wpAny_pyIter_listiter a h
 |bu e a=>exact BA.abS a h
theorem PL{iter:aH}(h0:fG (aJ c.prog c.w) A (.compLoop (.ListComp elt [#[target,iter,[],0]] bQ pos) 0 it acc cenv) R s)
  (hi:∀{Q:VP} {E:VP},Q it s->aN (aJ c.prog c.w) A (rC it) Q E s):
  fG (aJ c.prog c.w) A (.compStart (.ListComp elt [#[target,iter,[],0]] bQ pos) 0 it acc cenv) R s:=by
 refine eS rfl ?_;show bw _ A ((compStart (.ListComp elt [#[target,iter,[],0]] bQ pos) 0 it acc cenv).onRaise (λx=>do ou x cenv;lz theWindowsPlace)) _ _ s
 refine jX (cB (E:=λG G=>False) ?_ (λfin s' q=>q) λe s' q=>q.elim);unfold compStart;refine aw (bw.of (wpAny_askSetting ?_));refine F5 (λG=>?_) λG=>?_
 ·exact aw (bb (bb (And.intro rfl h0)))
 ·refine aw (qo ?_)
  exact aw (ig (aw (bw.of (hi (bb (And.intro rfl h0))))))
theorem jV.afE(p:b7 c Z X cu bN ρ O s)(nC:bN.heap.get? C=u)(fC:¬cy ρ C)(bC:c.H.get? C=u)(N:∃m,s.heap.Ns C m)(N':∃m,h'.Ns C m)(hs:iW C s.heap h'):
  b7 c Z X cu bN ρ O {s with heap:=h'}/\ cG bj (λb=>b=C) ρ s.heap ρ h':=by
 have k1:∀b o,s.heap.get? b=U o->¬b=C->h'.get? b=U o:=λb o e nb=>(hs.2 b nb).trans e;obtain ⟨m,N⟩:=N
 have st:cG bj (λb=>b=C) ρ s.heap ρ h':=cG.loose (λb o z=>z.elim) (λb o yb e=>by subst yb;exact RM N o e) (λb o e nb G=>k1 b o e nb) (λb o e nb=>#[o.slots,k1 b o e nb]) (λb o e=>by
  by_cases q:b=C
  ·rw [q];exact yC N'
  ·exact #[o,k1 b o e q]) λb yb=>by
   rw [yb];refine #[λG=>N',λy=>?_];refine bl λaG=>?_;refine y.elim λv hq=>hq.elim λo hq=>hq.elim λe d=>?_;obtain ⟨o',es,ep,e',d',_⟩:=N;refine aG ?_;rw [e]at e';obtain rfl:=bh e';rw [d]at d';exact nomatch d'
 have ae:=p.inv.loose st (λb o e nb G=>k1 b o e nb) (λb z=>z.elim) λb yb=>by rw [yb];exact #[fC,bC]
 refine #[?_,st];have q:b7 c Z (λb=>X b \/b=C) cu bN ρ O {s with heap:=h'}:=(p.weak λb xb=>.inl xb).trans #[(st.mX λG G G z=>z.elim).weak λb yb=>.inr yb,ae,rfl,rfl];exact q.nU λb o e xb=>xb.elim id λyb=>by subst yb;rw [nC]at e;exact nomatch e
theorem jV.count(p:b7 c Z X cu bN ρ O s)(nd:bN.heap.get? d=u)(fd:¬cy ρ d)(bd:c.H.get? d=u)(hd:∃o,s.heap.get? d=U o)
  (r:(∀{x:V} {v:az},Rep c.H ρ s.heap x v->Rep c.H (ρ++ [(d,d)]) s.heap x v)->jD c.prog c.w c.H (ρ++ [(d,d)]) s.heap d d m):
  b7 c Z X cu bN (ρ++ [(d,d)]) (O++ [m]) s/\ (ρ++ [(d,d)])[J O]? =U (d,d):=by
 have pre:∀(i:Nat) (q:ay×ay),ρ[i]? =U q->(ρ++ [(d,d)])[i]? =U q:=λi q e=>by
  rw [eA (jj e).1];exact e
 have oQ:∀(i:Nat) (q:ay×ay),(ρ++ [(d,d)])[i]? =U q->ρ[i]? =U q \/(i=J ρ/\ q=(d,d)):=λi q e=>by
  rcases kc i (J ρ)with z|z
  ·rw [eA z]at e;exact .inl e
  ·rw [ji z]at e
   have:i - J ρ=0:=by
    rcases CC (i - J ρ)with z|z
    ·exact z
    ·rw [lS (by simp;assumption)]at e;exact nomatch e
   rw [this]at e;simp at e;exact .inr #[by grind,e.symm]
 have last:(ρ++ [(d,d)])[J O]? =U (d,d):=by rw [←p.inv.size];simp
 have vE:∀b,cy (ρ++ [(d,d)]) b->cy ρ b \/b=d:=λb f=>by
  refine bl λaG=>?_;obtain ⟨i,x,y,e,q⟩:=f;refine aG ?_;rcases oQ _ _ e with e|⟨_,e⟩
  ·exact .inl #[i,x,y,e,q]
  ·cases e;exact .inr (q.elim id id)
 refine ⟨⟨#[λi q e=>pre i q (p.cq.pre i q e),λb f n=>(vE b f).elim (λq=>p.cq.new b q n) λq=>q▸nd,p.cq.keep,p.cq.slot,p.cq.kL,p.cq.alive,p.cq.own],
  #[p.inv.base,by simp [p.inv.size],λi m' e=>?_,λi j a1 d1 a2 d2 ne e1 e2=>?_,λb f=>(vE b f).elim (p.inv.fresh b) λq=>q▸bd],p.gens,p.os⟩,last⟩
 ·rcases kc i (J O)with q|q
  ·rw [eA q]at e
   refine bl λaG=>?_;refine (p.inv.objs i m' e).elim λa' hq=>hq.elim λd' hq=>hq.elim λe' r'=>?_;refine aG ?_;exact #[a',d',pre _ _ e',r'.lift pre (λb o e f=>e) rfl rfl]
  ·rw [ji q]at e
   have z:i - J O=0:=by
    rcases CC (i - J O)with z|z
    ·exact z
    ·rw [lS (by simp;assumption)]at e;exact nomatch e
   rw [z]at e;simp at e;subst e;have:i=J O:=by grind
   rw [this];exact #[d,d,last,r (λq=>q.lift pre λb o e f=>e)]
 ·have live:∀(i:Nat) (x y:ay),ρ[i]? =U (x,y)->x≠d/\ y≠d:=λi x y e=>#[λz=>fd #[i,x,y,e,.inl z.symm],λz=>fd #[i,x,y,e,.inr z.symm]]
  rcases oQ _ _ e1 with e1|⟨z1,e1⟩<;>rcases oQ _ _ e2 with e2|⟨z2,e2⟩
  ·exact p.inv.apart i j _ _ _ _ ne e1 e2
  ·cases e2
   have l1:=live i a1 d1 e1;exact #[l1.1,l1.1,l1.2,l1.2]
  ·cases e1
   have l2:=live j a2 d2 e2;exact #[bP l2.1,bP l2.2,bP l2.1,bP l2.2]
  ·exact absurd (z1.trans z2.symm) ne
noncomputable def ab6(c:Cx)(A:bk)(env:aU)(aL:List aU)(ρ:bG)(s:aA)(res:Res V)(use:Option (az->b6 Unit))(Q:VP)(Er:VP):Prop:=match use with
 |none=>∀acc s',hU c (bq aL) bj ρ s res (cI c) acc s'->Q acc s'
 |some ag=>∀v acc aZ aS s' C,res= .ok v aZ->b7 c (bq aL) bj ρ s aS aZ s'->Rep c.H aS s'.heap v acc->Apart c env (bq aL) s C->¬cy aS C->(∃m,s'.heap.Ns C m)->
   bw (aJ c.prog c.w) A (ag acc) (λG eY=>∃m,eY.heap.Ns C m/\ ∀h' m',h'.Ns C m'->iW C eY.heap h'->Q .none {eY with heap:=h'}) Er s'
theorem TR(S:e7 c n r)(E:cz c n A aL env ρ O l s)
  (hb:(sD r env.scope l O elt t it bQ).bind (λout O=>new (.list out) O)≠ .bad)
  (hu:ab6 c A env aL ρ s ((sD r env.scope l O elt t it bQ).bind λout O=>new (.list out) O) use Q Er)
  (hE:∀e s',fA u c (bq aL) bj ρ s ((sD r env.scope l O elt t it bQ).bind λout O=>new (.list out) O) e s'->Er e s'):
  bw (aJ c.prog c.w) A (xE (.ListComp elt [#[t,it,[],0]] bQ pos) bQ env it.pos (Ca []) av (eval it env) use) Q Er s:=by
 have EY:=jE hb;by_cases qO:zN bQ env.scope it=ai
 case neg=>exact absurd (show sD r env.scope l O elt t it bQ= .bad from ax qO) EY
 have hV:sD r env.scope l O elt t it bQ=(r.e env.scope l O it).bind λx O=>match qm O x with
  |some i=>mn (turns (λv O=>(eD O (jl bQ t v O (freeOf bQ l))).bind λl' O=>r.e (pg bQ env.scope) l' O elt) i.nx bE 0 O)
  |.none=>.bad:=au qO
 have K:=TO qO;rw [hV]at hb hu hE EY
 obtain ⟨cl,hcl,h1,h2⟩:=EW λx hx hf=>by
  refine bl λaG=>?_;refine (E.fr.has x.1 (K.free x hx hf)).elim λa hq=>hq.elim λov hq=>?_;have q:=hq.1;refine aG ?_;exact #[a,q]
 refine PI rfl (λx=>MN K.plain) hcl K.kind K.loc ?_;refine cB (S.e E (jE EY)) (λxv s1 q=>?_) λe s1 q=>hE e s1 q.bind.bind;obtain ⟨x,dO,dP,e1,p1,rx⟩:=q;have E1:=E.on p1;rw [iD e1]at hb hu EY;induction hx:qm dO x using aK with
 |none=>rw [hx]at EY;exact absurd rfl EY
 |some MP=>
  rw [hx]at hb hu EY;dsimp only at hb hu EY;refine bw.of (yL E1.inv rx hx (λaf s2 nI Hj p2 t2=>?_))
  ·have E2:=E1.on (p2.any)
   refine bw.of (I6 ?_ (by simp only [lA];exact bp _));refine bw.of (wpAny_newFunctionEnv (λx hx=>K.cell x hx) (by intro y hy;simp at hy) (λfc MR EZ=>?_) K.kind);dsimp only at MR EZ⊢;generalize hH2:s2.heap.push {cls:=.type "list",dict:=u,data:=.seq ([]:LU).toArray}=H2 at MR EZ⊢;have TS:H2.objs.size=s2.heap.objs.size+1:=by rw [←hH2,K6]
   have zA:H2.objs.size≠s2.heap.objs.size:=by simp only [TS];exact gD (CD _)
   have k3:∀b o,s2.heap.get? b=U o->fc.get? b=U o:=λb o e=>EZ.extBut b o (by simp only [TS];exact lN (JY (mR e))) (c7 _ (hH2▸c7 _ e))
   have n1:∀a,s2.heap.objs.size<=a->s1.heap.get? a=none:=λa ha=>by
    rcases e:s1.heap.get? a with _|o
    ·rfl
    ·have:=Hj a o e;rw [(λa ha=>qh ha) a ha]at this;exact nomatch this
   have f2:∀a,s2.heap.objs.size<=a->¬cy dP a:=λa ha f=>by obtain ⟨o,e,_⟩:=p2.inv.foot f;rw [(λa ha=>qh ha) a ha]at e;exact nomatch e
   have aD:=Apart.of E1 (n1 s2.heap.objs.size (ez _));have fI:¬cy dP af:=λf=>by obtain ⟨o,e,_⟩:=E1.inv.foot f;rw [nI]at e;exact nomatch e
   have aC:=Apart.of E1 (n1 H2.objs.size (by simp only [TS];exact rL _));refine t2.obj.elim λoI hq=>hq.elim λvI hq=>?_;have eI:=hq.1;have Hl:af≠H2.objs.size:=by simp only [TS];exact lN (JY (mR eI))
   have p3:∀tk,b7 c (bq aL) (λb=>b=af \/b=H2.objs.size \/b=s2.heap.objs.size) dP s1 dP dO {s2 with heap:=fc,toks:=tk}:=λtk=>(p2.any).trans #[(cG.more k3:cG (bq aL) bj dP s2.heap dP fc).weak λG z=>z.elim,(p2.inv.more k3),rfl,rfl];have t3:=t2.mono (cG.more k3:cG (bq aL) bj dP s2.heap dP fc) ((k3 _ _ eI).trans eI.symm);have hA:A.mark u=A:=by obtain ⟨a1,a2,a3,a4,a5⟩:=A;rfl
   refine PL ?_ (λh=>ir.self t3 h);refine ab5 S E1 K h1 h2 rfl (Apart.of E1 nI) aC aD Hl (lN (mR eI)) zA bE 0 #[t3,fI,f2 _ (by simp only [TS];exact rL _),f2 _ (ez _),(EZ.extBut _ _ (bP zA) (c7 _ (hH2▸iX _ rfl))),.nil,#[_,MR],p3 _] (by show 0+bE<=2000;decide) EY λaZ aS s' zs zy e' p' d' rr n' f1' f2'=>?_;simp only [uE]at rr;have e'':mn (turns (λv O=>(eD O (jl bQ t v O (freeOf bQ l))).bind λl' O=>r.e (pg bQ env.scope) l' O elt) MP.nx bE 0 dO)= .ok zs aZ:=by simp only [e'];rfl
   have p'':b7 c (bq aL) bj dP s1 aS aZ s':=p'.nU λb o e q=>by
    rcases q with rfl|rfl
    ·rw [aC.new]at e;exact nomatch e
    ·rw [aD.new]at e;exact nomatch e
   have afH:((mn (turns (λv O=>(eD O (jl bQ t v O (freeOf bQ l))).bind λl' O=>r.e (pg bQ env.scope) l' O elt) MP.nx bE 0 dO)).bind λout O=>new (.list out) O)= .ok (.ref (J aZ)) (aZ++ [.list zs]):=by rw [iD e''];rfl
   obtain ⟨pc,last⟩:=p''.count (m:=.list zs) aD.new f2' aD.base #[_,d'] λup=>#[rfl,zy.toArray,J zy,d',uV up rr]
   have aC0:Apart c env (bq aL) s H2.objs.size:=Apart.of E (by
    rcases e:s.heap.get? H2.objs.size with _|o
    ·rfl
    ·obtain ⟨o',e'⟩:=p1.cq.alive _ _ e;rw [aC.new]at e';exact nomatch e')
   have fC':¬cy (aS++ [(s2.heap.objs.size,s2.heap.objs.size)]) H2.objs.size:=λf=>by
    obtain ⟨i,x,y,e,q⟩:=f;rcases kc i (J aS)with z|z
    ·rw [eA z]at e;exact f1' #[i,x,y,e,q]
    ·rw [ji z]at e
     have:i - J aS=0:=by
      rcases CC (i - J aS)with z|z
      ·exact z
      ·rw [lS (by simp;assumption)]at e;exact nomatch e
     rw [this]at e;simp at e;obtain ⟨rfl,rfl⟩:=e;exact q.elim zA zA
   rcases use with _|ag
   ·
    obtain ⟨m,hm⟩:=n';refine #[m,hm,λh' m' Qb mh=>hu _ _ ?_];refine ((p1.trans pc).afE aC0.new fC' aC0.base #[m,hm] #[m',Qb] mh).elim λpL Ac=>?_;exact #[_,_,_,afH,pL,.ref last]
   ·exact hu _ _ _ _ s' H2.objs.size afH (p1.trans pc) (.ref last) aC0 fC' n'
theorem E0(S:e7 c n r)(E:cz c n A aL env ρ O l s)(elt t it:aH)(bQ:bM)(pos:bz):
  WX u c A (bq aL) bj ρ (jK P r env.scope l O (.ListComp elt [#[t,it,[],0]] bQ pos)) (cI c) (eval (.ListComp elt [#[t,it,[],0]] bQ pos) env) s:=λhb=>by
 simp only [eval_ListComp];exact TR S E hb (λacc s' q=>q) λe s' q=>q
end
end
section
open PyProof.Rows Builtin
section
variable{P:fF}{c:Cx}{n:Nat}{r:Ev}{l:Loc}{O:L}{ρ:bG}{s:aA}{A:bk}{aL:List aU}{env:aU}{Z:AP}
theorem TU:(pure u:b6 (Option (LR)))=pure none:=rfl
theorem TV:(pure av:b6 Bool)=pure false:=rfl
theorem sw3:(pure .next:b6 Flow)=pure .next:=rfl
noncomputable def isNm:aH->Bool
 |.Name _ _=>ai
 |_=>av
theorem wg(h:sI e=av):swapsWith e t line env=pure false:=
 Me.get h (by clear h;rcases e<;>first|exact TV|exact tv)
theorem E5(h:isNm t=av):swapsWith e (U t) line env=pure false:=by
 induction e using eV with
 |ListComp _ _ _ _=>exact Me.get h (by clear h;rcases t<;>first|exact TV|exact tv)
 |SetComp _ _ _ _=>exact Me.get h (by clear h;rcases t<;>first|exact TV|exact tv)
 |DictComp _ _ _ _ _=>exact Me.get h (by clear h;rcases t<;>first|exact TV|exact tv)
 |_=>exact TV
theorem MS(h:¬sI e=ai):sI e=false:=L8 h
theorem TX:dropValue e pos .none=pure .next:=by rcases e<;>exact sw3
theorem ajd(r:Rep H ρ h .none v):v= .none:=by cases r;rfl
theorem WX.aje{α β:Type}{a:V}{r:Res α}{R:bG->aQ->α->β->Prop}{t:b6 β}(h:a= .none->WX F c A Z X ρ r R t s):WX F c A Z X ρ (match a with
  |.none=>r
  |_=>.bad) R t s:=by
 induction a using V.casesOn with
 |none=>exact h rfl
 |_=>exact WX.no
theorem TY(E:cz c n A (env::aL) env ρ O l s):xG env=false:=by unfold xG;rw [E.fr.kind];rfl
theorem WX.pn{α β γ:Type}{r:Res α}{R:bG->aQ->α->β->Prop}{m:b6 γ}{a:γ}{f:γ->b6 β}(h:m=DD a)(k:WX F c A Z X ρ r R (f a) s):WX F c A Z X ρ r R (m>>=f) s:=by rw [h];exact k
theorem afJ(S:e7 c n r)(E:cz c n A (env::aL) env ρ O l s)(e:aH)(pos:bz):WX env.frame c A (bq (env::aL)) (cJ env) ρ (i9 P r env.scope l O (.Expr e pos)) (eZ c env) (exec (.Expr e pos) env) s:=by
 refine WX.Mt λhc=>?_;simp -iota only [JE,TY E];refine WX.fH (WX.pn (wg (MS hc)) (WX.expr S E λa aZ b s' aS ra E1 p1=>WX.aje λq=>?_));obtain rfl:b= .none:=ajd (q▸ra);exact WX.of_eq TX (WX.pure E1.inv #[E1.fr,tv])
theorem WX.eD{α β δ:Type}{F:OA}{X:AP}{o:Option α}{f:α->L->Res β}{R:bG->aQ->β->δ->Prop}{t:b6 δ}(h:∀a,o=U a->WX F c A Z X ρ (f a O) R t s):WX F c A Z X ρ ((eD O o).bind f) R t s:=by
 rcases o with _|a
 ·exact WX.no
 ·exact h a rfl
theorem Qh(E1:cz c n A (env::aL) env ρ O l s)(x:aF)(px:bz){a:V}{b:az}(ra:Rep c.H ρ s.heap a b):
  WX env.frame c A (bq (env::aL)) (cJ env) ρ ((eD O (store env.scope x a l)).bind λl O=>.ok (.next,l) O) (eZ c env) (kD (.Name x px) env b>>=λG=>pure r9) s:=
 WX.eD λl' BC G=>aw (bw.of (xC (sP E1.inv E1.fr ra BC (.inl rfl) (λk a q=>.inr #[x,k,q]) λs2 p2 F2=>bb #[_,_,_,rfl,p2,F2,tv])))
theorem Ad(S:e7 c n r)(E:cz c n A (env::aL) env ρ O l s)(hc:swapsWith e (U t) pos.line env=pure av)(hs:ui [t] e env=pure sw)(hk:(λb=>Cs env b sw ((ow [t] env).map (·.2)))=k)
  (g:∀a aZ b s' aS,Rep c.H aS s'.heap a b->cz c n A (env::aL) env aS aZ l s'->WX env.frame c A (bq (env::aL)) (cJ env) aS (f a aZ) (eZ c env) (k b) s'):
  WX env.frame c A (bq (env::aL)) (cJ env) ρ ((r.e env.scope l O e).bind f) (eZ c env) (exec (.Assign [t] e pos) env) s:=by
 subst hk;simp -iota only [Ct];exact WX.fH (WX.pn hc (WX.expr S E λa aZ b s' aS ra E1 p1=>WX.pn hs (g a aZ b s' aS ra E1)))
theorem pM(S:e7 c n r)(E:cz c n A (env::aL) env ρ O l s)(hc:swapsWith e (U t) pos.line env=pure av)(hs:ui [t] e env=pure u)(BC:ow [t] env= [(av,kD t env)])
  (g:∀a aZ b s' aS,Rep c.H aS s'.heap a b->cz c n A (env::aL) env aS aZ l s'->WX env.frame c A (bq (env::aL)) (cJ env) aS (f a aZ) (eZ c env) (kD t env b>>=λG=>pure r9) s'):
  WX env.frame c A (bq (env::aL)) (cJ env) ρ ((r.e env.scope l O e).bind f) (eZ c env) (exec (.Assign [t] e pos) env) s:=
 Ad S E hc hs (I (λz b=>Cs env b u (z.map (·.2))) BC) g
theorem ab7(S:e7 c n r)(E:cz c n A (env::aL) env ρ O l s)(x:aF)(px:bz)(e:aH)(pos:bz)(hsw:swapsWith e (U (.Name x px)) pos.line env=pure av):
  WX env.frame c A (bq (env::aL)) (cJ env) ρ ((r.e env.scope l O e).bind λv O=>(eD O (store env.scope x v l)).bind λl O=>.ok (.next,l) O) (eZ c env) (exec (.Assign [.Name x px] e pos) env) s:=
 pM S E hsw TU rfl λG G G G G ra E1=>Qh E1 x px ra
theorem E6(h:El gs=U z):gs= [#[z.1,z.2,[],0]]:=by
 rcases gs with _|⟨g,gs⟩
 ·exact nomatch h
 ·
  obtain ⟨t,it,ifs,m⟩:=g;induction ifs using bS with
  |cons _ _=>exact nomatch h
  |nil=>induction m using Int.casesOn with
   |negSucc _=>exact nomatch h
   |ofNat m=>induction m using jw with
    |succ _=>exact nomatch h
    |zero=>induction gs using bS with
     |cons _ _=>exact nomatch h
     |nil=>exact bh h▸rfl
theorem ab8(P:fF)(S:e7 c n r)(E:cz c n A (env::aL) env ρ O l s)(x:aF)(px:bz)(elt t it:aH)(bQ:bM)(yQ pos:bz):
  WX env.frame c A (bq (env::aL)) (cJ env) ρ (((sD r env.scope l O elt t it bQ).bind λout O=>new (.list out) O).bind λv O=>(eD O (store env.scope x v l)).bind λl O=>.ok (.next,l) O) (eZ c env) (exec (.Assign [.Name x px] (.ListComp elt [#[t,it,[],0]] bQ yQ) pos) env) s:=by
 refine bl λaG=>?_;obtain ⟨b,hsw⟩:∃b:Bool,swapsWith (.ListComp elt [⟨t,it,[],0⟩] bQ yQ) (U (.Name x px)) pos.line env=pure b:=#[_,rfl];refine aG ?_;simp -iota only [Ct];refine WX.fH ?_;show WX _ _ _ _ _ _ _ _ (swapsWith (.ListComp elt [#[t,it,[],0]] bQ yQ) (U (.Name x px)) pos.line env>>=_) s
 rw [hsw];induction b using dj with
 |false=>
  show WX _ _ _ _ _ _ _ _ (eval (.ListComp elt [#[t,it,[],0]] bQ yQ) env>>=λv=>kD (.Name x px) env v>>=λG=>pure r9) s
  exact WX.EV E (E0 (P:=P) S E elt t it bQ yQ) λa dO v s1 dP r1 E1 G=>Qh E1 x px r1
 |true=>
  show WX _ _ _ _ _ _ _ _ ((xE (.ListComp elt [#[t,it,[],0]] bQ yQ) bQ env it.pos (Ca []) av (eval it env) (U λv=>kD (.Name x px) env v)>>=λG=>pure ())>>=λG=>pure r9) s
  intro hb;refine aw (aw (TR S E (jE hb) (λv acc aZ aS s' C e1 p1 rv aC fC N=>?_) λe s1 q=>((q.Rv).weak λG z=>z.elim).bind));rw [iD e1]at hb⊢;induction BC:store env.scope x v l using aK with
  |none=>rw [BC]at hb;exact (hb rfl).elim
  |some l'=>
   refine bw.of (xC (sP (Z:=bq (env::aL)) (X:=cJ env) (E.on p1).inv (E.on p1).fr rv BC (.inl rfl) (λk a q=>.inr #[x,k,q]) λs2 p2 F2=>?_));obtain ⟨m,N⟩:=N;refine #[m,(zR p2.cq fC aC.own N),λh' m' Qb mh=>bb (bb ?_)];refine (((p1.weak λG z=>z.elim).trans p2).afE aC.new fC aC.base #[m,(zR p2.cq fC aC.own N)] #[m',Qb] mh).elim λpL Ac=>?_;exact #[_,_,_,rfl,pL,F2.mono Ac (λq=>aC.loc q.symm) (λy a e q=>aC.wA y a e q.symm),tv]
theorem WX.afL{α β γ δ:Type}{o:Option δ}{f:δ->Res γ}{g:γ->L->Res α}{R:bG->aQ->α->β->Prop}{t:b6 β}(h:∀a,o=U a->WX F c A Z X ρ ((f a).bind g) R t s):WX F c A Z X ρ ((dN o f).bind g) R t s:=by
 rcases o with _|a
 ·exact WX.no
 ·exact h a rfl
theorem Yy(h:lcV e=U z):∃p,e= .ListComp z.1 z.2.1 z.2.2 p:=
 Mf.get (p:=λz=>∃p,e= .ListComp z.1 z.2.1 z.2.2 p) h (by clear h;rcases e<;>first|exact tv|exact #[_,rfl])
theorem ab9(S:e7 c n r)(E:cz c n A (env::aL) env ρ O l s)(x:aF)(px:bz)(e:aH)(pos:bz):
  WX env.frame c A (bq (env::aL)) (cJ env) ρ (i9 P r env.scope l O (.Assign [.Name x px] e pos)) (eZ c env) (exec (.Assign [.Name x px] e pos) env) s:=by
 by_cases hc:sI e=ai
 ·refine WX.pK (I (λz:Res V=>z.bind λv O=>(eD O (store env.scope x v l)).bind λl O=>Res.ok (fz.next,l) O) (au hc)) (WX.afL λy hy=>WX.afL λz hz=>?_)
  obtain ⟨p,rfl⟩:=Yy hy;rw [E6 hz];exact ab8 P S E x px y.1 z.1 z.2 y.2.2 p pos
 ·exact WX.pK (I (λz:Res V=>z.bind λv O=>(eD O (store env.scope x v l)).bind λl O=>Res.ok (fz.next,l) O) (ax hc)) (ab7 S E x px e pos (wg (MS hc)))
end
end
set_option backward.match.sparseCases true
section
open PyProof.Rows Builtin
section
variable{P:fF}{c:Cx}{n:Nat}{r:Ev}{l:Loc}{O:L}{ρ:bG}{s:aA}{A:bk}{aL:List aU}{env:aU}{Z:AP}
theorem TZ{Q:aF->Prop}(hf:∀x pos y,f (.Name x pos)=U y->y=x/\ Q x):∀{xs:LR},il es=U xs->J (es.filterMap f)=J es->es.filterMap f=xs/\ ∀x∈xs,Q x:=by
 induction es with
 |nil=>exact λh G=>bh h▸#[rfl,nofun]
 |cons e es ih=>
  intro xs h hl;obtain ⟨x,pos,xs',rfl,h',rfl⟩:=ES h;rw [xZ]at hl⊢;induction e1:f (.Name x pos)using aK with
  |none=>
   rw [e1]at hl;exact absurd (hl▸List.length_filterMap_le f es) (Nat.not_succ_le_self _)
  |some y=>
   rw [e1]at hl;have z:=ih h' (kJ hl);exact #[qF uC (hf _ _ _ e1).1 z.1,gE.mpr #[(hf _ _ _ e1).2,z.2]]
noncomputable def Hm(xs:LR)(ao:Prop)(t:b6 (Option (LR))):Prop:=t=pure u \/(t=pure (U xs)/\ ao)
theorem Hm.ite{xs:LR}{ao:Prop}{t:b6 (Option (LR))}{p:Prop} [Decidable p](h:¬p->Hm xs ao t):Hm xs ao (if p then pure u else t):=by
 by_cases q:p
 ·exact .inl (au q)
 ·rw [ax q];exact h q
theorem RQ(hn:il es=U xs)(ht:En e=ai):Hm xs (∀x∈xs,env.kindOf x=U .local) (ui [.Tuple es k tpos] e env):=by
 induction e using eV with
 |Tuple vs vk vpos=>
  refine Hm.ite λG=>Hm.ite λG=>Hm.ite λh3=>Hm.ite λh4=>?_;rw [IW,bne_iff_ne,not_or,Xv]at h3
  have z:=TZ (λx pos y q=>by
   replace q:=jo.mp q;exact #[(bh q.2).symm,dX.mp (fR.mp q.1).1]) hn h3.1
  have q:vs.all (BV 8)=false:=by
   replace ht:(vs.all (IY 8)||!(vs.all (BV 8)))=true:=ht;rw [L8 h4]at ht;exact (xh.mp ht)
  exact .inr #[(ax (xf.mp q)).trans (I (λx=>pure (U x)) z.1),z.2]
 |_=>exact .inl TU
theorem MT:∀{vs:LV} {l l':Loc},storeAll sc xs vs l=U l'->(∀x∈xs,oP sc x=ai)/\ (J vs)=J xs/\ l'=(xs.zip vs).foldl (λl p=>upd p.1 p.2 l) l:=by
 induction xs with
 |nil=>
  intro vs l l' e;induction vs using bS with
  |nil=>exact bh e▸#[nofun,rfl,rfl]
  |cons _ _=>exact dG e
 |cons x xs ih=>
  intro vs l l' e;induction vs using bS with
  |nil=>exact dG e
  |cons v vs=>exact (gm e).elim λl1 z=>
    have w:=jo.mp z.1
    #[gE.mpr #[w.1,(ih z.2).1],I jv (ih z.2).2.1,(ih z.2).2.2.trans (I (λl=>(xs.zip vs).foldl (λl p=>upd p.1 p.2 l) l) (bh w.2).symm)]
theorem MU:∀{vs:LV} {l:Loc},(∀x∈xs,oP sc x=ai)->J vs=J xs->storeAll sc xs vs l=U ((xs.zip vs).foldl (λl p=>upd p.1 p.2 l) l):=by
 induction xs with
 |nil=>exact λG e=>xY.mp e▸rfl
 |cons x xs ih=>
  intro vs l h e;obtain ⟨v,vs,rfl⟩:=KC e;exact (I (λo=>Option.bind o (storeAll sc xs vs)) (au (h x cY))).trans (ih (λy hy=>h y (cZ _ hy)) (kJ e))
theorem Yz(h:x≠y):upd x v (upd y w l)=upd y w (upd x v l):=by
 funext z
 unfold upd;by_cases h1:z=x
 ·subst h1;simp [h]
 ·simp [h1]
theorem MV:∀{ps:SV} {l:Loc},(∀p∈ps,p.1≠x)->ps.foldl (λl p=>upd p.1 p.2 l) (upd x v l)=upd x v (ps.foldl (λl p=>upd p.1 p.2 l) l)
 | [],l,_=>rfl
 |p::ps,l,h=>by
  simp only [KD,KD,Yz (h p cY)];exact MV λq hq=>h q (cZ _ hq)
theorem YA:∀{vs:LV} {l:Loc},distinct xs=ai->J vs=J xs->(xs.reverse.zip vs.reverse).foldl (λl p=>upd p.1 p.2 l) l=(xs.zip vs).foldl (λl p=>upd p.1 p.2 l) l:=by
 induction xs with
 |nil=>exact λG e=>xY.mp e▸rfl
 |cons x xs ih=>
  intro vs l h e;obtain ⟨v,vs,rfl⟩:=KC e;have h:=fR.mp h;rw [x6,x6,KG (by rw [rT,rT,(kJ e)]),CS,ih h.2 (kJ e)];exact (MV (x:=x) (v:=v) λp hp q=>rg ((xh.mp h.1).symm.trans (KH.mpr (q▸(x7 hp).1)))).symm
theorem aca:∀{us:LU},bJ H ρ h vs us->bJ H ρ h vs.reverse us.reverse:=by
 induction vs with
 |nil=>exact λr=>r.yB▸ .nil
 |cons v vs ih=>
  intro us r;obtain ⟨ag,us,rfl,a,b⟩:=r.ph;rw [x6,x6];exact (ih b).append (.cons a .nil)
theorem Gh(S:e7 c n r)(E:cz c n A (env::aL) env ρ O l s)(es:LX)(k:Nat)(tpos:bz)(e:aH)(pos:bz):
  WX env.frame c A (bq (env::aL)) (cJ env) ρ (i9 P r env.scope l O (.Assign [.Tuple es k tpos] e pos)) (eZ c env) (exec (.Assign [.Tuple es k tpos] e pos) env) s:=by
 refine WX.opt λxs hn=>WX.Mt λhg=>?_;replace hg:=IU.mp (L8 hg);refine (RQ (env:=env) (k:=k) (tpos:=tpos) hn (xh.mp hg.1)).elim (λhs=>?_) λhs=>?_
 ·refine pM S E (E5 rfl) hs rfl λa aZ b s' aS ra E1=>WX.opt λvs e1=>WX.eD λl' e2 G=>?_
  simp only [Jz];exact aw (bw.of (aB (kE (MJ (.inl rfl) E1.a.handled E1.inv E1.fr ra hn e1 e2 (λx G k a q=>.inr #[x,k,q]) λs2 p2 F2=>bb #[_,_,_,rfl,p2,F2,tv]))))
 ·refine Ad S E (E5 rfl) hs.1 rfl λa aZ b s' aS ra E1=>WX.opt λvs e1=>WX.eD λl' e2 G=>aw (qo (aw (bw.of ?_)))
  have g:=MT e2;rw [←g.2.1];refine vL E1.a.handled E1.inv ra e1 λus s2 p2 r2=>aw (bw.of (z9 (Z:=bq (env::aL)) (X:=cJ env) (.inl rfl) p2.inv (E1.fr.on p2.cq) (aca r2) (l':=l') ?_ (λx G k a q=>.inr #[x,k,q]) (by rw [cQ]) (λj x q=>?_) λs3 p3 F3=>?_))
  ·rw [MU (λx hx=>g.1 x (Ky.mp hx)) (by rw [rT,rT,g.2.1]),YA (xh.mp hg.2) g.2.1,←g.2.2]
  ·exact #[λag=>bindName env x ag,rU.trans (I _ q),λag s Q E hq=>JF hq]
  ·exact bb #[_,_,_,rfl,(p2.any).trans p3,F3,tv]
end
end
set_option backward.match.sparseCases false
section
open PyProof.Rows Builtin
section
variable{P:fF}{c:Cx}{n:Nat}{r:Ev}{l:Loc}{O:L}{ρ:bG}{s:aA}{A:bk}{aL:List aU}{env:aU}{Z:AP}
theorem Ae(E:cz c n A (env::aL) env ρ O l s)(h:WX u c A (bq (env::aL)) bj ρ m (λG G G G=>True) t s):
  WX env.frame c A (bq (env::aL)) (cJ env) ρ (m.bind λG O=>.ok (.next,l) O) (eZ c env) (t>>=λG=>pure r9) s:=
 WX.EV E h λG G G G G G E' G=>WX.pure E'.inv #[E'.fr,tv]
theorem Ii(B:fX c P)(S:e7 c n r)(E:cz c n A (env::aL) env ρ O l s)(o:aH)(a:aF)(tpos:bz)(e:aH)(pos:bz):
  WX env.frame c A (bq (env::aL)) (cJ env) ρ (i9 P r env.scope l O (.Assign [.Attribute o a tpos] e pos)) (eZ c env) (exec (.Assign [.Attribute o a tpos] e pos) env) s:=by
 refine pM S E (E5 rfl) TU rfl λv dO vv s1 dP rv E1=>?_;simp -iota only [JG];refine WX.pK pJ (Ae E1 (WX.bind (WX.holding (S.e E1)) λx hZ ov s2 kX e2 p2 r2=>WX.fH (WX.rel (R:=λG G G G=>True) (WX.holding ?_))));exact (aeS B.cls (E1.on p2).inv r2 (Rep.mono p2.cq rv)).x
theorem WX.Af{β δ:Type}{F:OA}{X:AP}{o:Option δ}{f:δ->Option L}{R:bG->aQ->Unit->β->Prop}{t:b6 β}(h:∀a,o=U a->WX F c A Z X ρ (qX (f a)) R t s):WX F c A Z X ρ (qX (o.bind f)) R t s:=by
 rcases o with _|a
 ·exact WX.no
 ·exact h a rfl
theorem WX.afM{β:Type}{F:OA}{X:AP}{p:Prop} [Decidable p]{aZ:L}{R:bG->aQ->Unit->β->Prop}{t:b6 β}(h:p->WX F c A Z X ρ (.ok () aZ) R t s):WX F c A Z X ρ (qX (if p then U aZ else u)) R t s:=by
 by_cases q:p
 ·rw [au q];exact h q
 ·rw [ax q];exact WX.no
theorem T5(E:cz c n A aL env ρ O l s){x y v:V}{ov iv vv:az}(rx:Rep c.H ρ s.heap x ov)(ry:Rep c.H ρ s.heap y iv)(rv:Rep c.H ρ s.heap v vv):
  WX u c A (bq aL) bj ρ (qX (setItem x y v O)) (λG G G G=>True) (rm ov iv vv) s:=by
 refine WX.Af λj hj=>WX.Af λkvs e4=>WX.Af λk hk=>WX.afM λhz=>(dF hj▸rx).jC.elim λa q=>q.elim λd q=>(lb hk▸ry).zP.elim λt w=>?_;rw [q.1,w];exact W.x λG=>S9 E.inv q.2 (ie e4) rv hz λh=>nomatch h
theorem Ij(S:e7 c n r)(E:cz c n A (env::aL) env ρ O l s)(o i:aH)(tpos:bz)(e:aH)(pos:bz)(wC:isSlice i=av):
  WX env.frame c A (bq (env::aL)) (cJ env) ρ ((r.e env.scope l O e).bind λv O=>(r.e env.scope l O o).bind λx O=>(r.e env.scope l O i).bind λy O=>(qX (setItem x y v O)).bind λG O=>.ok (.next,l) O) (eZ c env) (exec (.Assign [.Subscript o i tpos] e pos) env) s:=by
 refine pM S E (E5 rfl) TU rfl λv dO vv s1 dP rv E1=>?_;simp -iota only [JH];refine WX.pK ((I (Res.bind _) (funext λx=>funext λO=>pJ)).trans pJ) (Ae E1 (WX.bind (WX.holding (S.e E1)) λx hZ ov s2 kX e2 p2 r2=>?_));refine WX.bind (WX.holding (S.e (E1.on p2))) λy z6 iv s3 EJ e3 p3 r3=>WX.fH (WX.rel (R:=λG G G G=>True) (WX.holding ?_));exact T5 ((E1.on p2).on p3) (Rep.mono p3.cq r2) r3 ((rv.mono p2.cq).mono p3.cq)
theorem Hn{b:U8}:(b.toArray.extract 0 i++nb.toArray++b.toArray.extract j b.toArray.size)=(b.take i++nb++b.drop j).toArray:=by
 simp -iota;exact xV (by simp -iota)
theorem RR(E:cz c n A aL env ρ O l s){lo:Int}(hs:s.heap.IsSliceOf sl (.int lo u1) (.int hi u2) .none)(z:ρ[j]? =U (a,d))(e1:O[j]? =U (.bu b))(q:0<=lo/\ lo<=hi/\ hi<=J b/\ (J b)<=1000/\ hi - lo=J nb):
  bw (aJ c.prog c.w) A (rm (.ref a) (.ref sl) (Lc nb.toArray t)) (λG s'=>b7 c (bq aL) bj ρ s ρ (O.set j (.bu (b.take lo.toNat++nb++b.drop hi.toNat))) s') (λG G=>False) s:=
 BA.afb E.a.guards (nO E.inv z e1).2.2 hs q.1 q.2.1 q.2.2.1 q.2.2.2.2.symm q.2.2.2.1 λh' k th hk=>
  #[((E.inv.Io (m':=.bu (b.take lo.toNat++nb++b.drop hi.toNat)) z (.inl rfl) (λc' o' ne q=>hk c' o' ne q) #[_,th] λst=>#[(nO E.inv z e1).1,Hn▸th]).2.weak λG x=>x.elim).mX λG G G x=>x.elim,(E.inv.Io (m':=.bu (b.take lo.toNat++nb++b.drop hi.toNat)) z (.inl rfl) (λc' o' ne q=>hk c' o' ne q) #[_,th] λst=>#[(nO E.inv z e1).1,Hn▸th]).1,rfl,rfl]
theorem PM(E:cz c n A aL env ρ O l s){lo:V}{lov hiv:az}{sl:ay}(hs:s.heap.IsSliceOf sl lov hiv .none)(rx:Rep c.H ρ s.heap x ov)(rl:Rep c.H ρ s.heap lo lov)(rh:Rep c.H ρ s.heap hi hiv)(rv:Rep c.H ρ s.heap v vv):
  WX u c A (bq aL) bj ρ (qX (jB x lo hi v O)) (λG G G G=>True) (rm ov (.ref sl) vv) s:=
 WX.Af λj hj=>WX.Af λlo h6=>WX.Af λhi h7=>WX.Af λnb h8=>WX.Af λb e1=>WX.afM λhh G=>by
  obtain ⟨a,d,rfl,z⟩:=(dF hj▸rx).jC;obtain ⟨u1,rfl⟩:=(cD h6▸rl).kY;obtain ⟨u2,rfl⟩:=(cD h7▸rh).kY;obtain ⟨t,rfl⟩:=(gL h8▸rv).sg;exact cB (RR E hs z (gH e1) hh) (λG G p=>#[(),_,ρ,rfl,p,tv]) λG G p=>p.elim
theorem Gi(S:e7 c n r)(E:cz c n A (env::aL) env ρ O l s)(o lo hi:aH)(sp tpos:bz)(e:aH)(pos:bz):
  WX env.frame c A (bq (env::aL)) (cJ env) ρ (i9 P r env.scope l O (.Assign [.Subscript o (.Slice (U lo) (U hi) u sp) tpos] e pos)) (eZ c env) (exec (.Assign [.Subscript o (.Slice (U lo) (U hi) u sp) tpos] e pos) env) s:=by
 refine pM S E (E5 rfl) TU rfl λv dO vv s1 dP rv E1=>?_;simp -iota only [JH];refine WX.pK ((I (Res.bind _) (funext λx=>funext λO=>(zZ _ (λO=>r.e env.scope l O hi) λa b O=>(qX (jB x a b v O)).bind λG O=>Res.ok (fz.next,l) O).trans pJ)).trans pJ) (Ae E1 (WX.bind (WX.holding (S.e E1)) λx hZ ov s2 kX e2 p2 r2=>?_));simp -iota only [arm_eval_Slice];refine WX.bind (WX.holding (EI S (E1.on p2) (U lo) (U hi))) λq z6 iv s3 EJ e3 p3 r3=>WX.fH (WX.rel (R:=λG G G G=>True) (WX.holding ?_));obtain ⟨sl,vl,vu,rfl,hs,q1,q2⟩:=r3;exact PM ((E1.on p2).on p3) hs (Rep.mono p3.cq r2) q1 q2 ((rv.mono p2.cq).mono p3.cq)
theorem YB(E:cz c n A (env::aL) env ρ O l s)(hl:l x=U (.int a))(hQ:∀t,Q (.int a t) s):aN (aJ c.prog c.w) A (B7 env x) Q E' s:=by
 rcases E.fr.wA x _ hl with k|⟨k,cl,ag,h1,h2,h3⟩
 ·obtain ⟨m,N,hm⟩:=E.fr.ns
  obtain ⟨ag,h1,h2⟩:=hm x _ hl k;obtain ⟨t,rfl⟩:=h2.kY;exact B8 E.fr.kind k N h1 (hQ _)
 ·obtain ⟨t,rfl⟩:=h3.kY
  rcases k with k|⟨k,hk⟩
  ·exact I4 E.fr.kind k h1 h2 (hQ _)
  ·exact I5 E.fr.kind k h1 h2 (hQ _) hk
theorem ajf(S:e7 c n r)(E:cz c n A (env::aL) env ρ O l s)(x:aF)(afN:bz)(e:aH)(pos:bz):
  WX env.frame c A (bq (env::aL)) (cJ env) ρ (i9 P r env.scope l O (.AugAssign (.Name x afN) .Add e pos)) (eZ c env) (exec (.AugAssign (.Name x afN) .Add e pos) env) s:=by
 simp -iota only [arm_exec_AugAssign];refine WX.fH (WX.opt λa ha=>λhb=>aw (bw.of (YB E (a:=a) ?_ λt=>?_)))
 rotate_left
 ·refine (WX.EV (E:=E) (WX.holding (S.e E)) λy hZ v s2 kX r2 E2 p2=>WX.opt λb hb=>WX.eD λl' BC=>λG=>?_:WX env.frame c A (bq (env::aL)) (cJ env) ρ _ (eZ c env) _ s) hb
  obtain ⟨ag,rfl⟩:=(cD hb▸r2).kY;have p3:b7 c (bq (env::aL)) (cJ env) kX s2 kX hZ {s2 with toks:=s2.toks+1}:=#[cG.refl ..,E2.inv,rfl,rfl];refine aw (ig (aw (Bz (bw.of (Xw ?_)))));refine aw (ig (aw (bw.of (JF (sP (Z:=bq (env::aL)) (X:=cJ env) E2.inv E2.fr (.int _ _) BC (.inl rfl) (λk a q=>.inr #[x,k,q]) λs4 p4 F4=>?_)))));exact bb #[_,_,_,rfl,p3.trans p4,F4,tv]
 ·rcases hl:l x with _|v
  ·rw [hl]at ha;exact nomatch ha
  ·rw [hl]at ha;exact I U (cD ha)
end
end
section
open PyProof.Rows Builtin
structure sF(c:Cx)(P:fF):Prop where
 raise:∀{n:Nat} {env:aU} {l:Loc} {O:L} {ρ:bG} {s:aA} {A:bk} {aL:List aU} {k:pX} {kk:Nat} {v:V} {np kp yQ pos:bz},6<=n->cz c n A (env::aL) env ρ O l s->l P.exc=u->mu env.scope P.exc=ai->oO k=U v->
  WX env.frame c A (bq (env::aL)) (cJ env) ρ (.exc v O) (eZ c env) (exec (.Raise (U (.Call (.Name P.exc np) [.Constant k kk kp] [] yQ)) u pos) env) s
 afO:∀{n:Nat} {env:aU} {MM:Loc} {tC O:L} {ρ cu:bG} {s bN:aA} {A:bk} {aL:List aU} {nm:aF} {y:V} {e:az} {tp np ap rp hp:bz} {Q:Flow->aA->Prop} {E:VP},6<=n->cz c n A (env::aL) env cu tC MM bN->mu env.scope P.exc=ai->
  env.kindOf nm=U .local->(nm==aE "__debug__")=av->(∀v,y≠ .con v)->b7 c (bq (env::aL)) (cJ env) cu bN ρ O s->gZ (λk=>k=U .none) c.C c.H ρ bN.heap s.heap y e->
  (∀ag s',b7 c (bq (env::aL)) (cJ env) cu bN ρ O s'->Rep c.H ρ s'.heap y ag->Q (.ret ag) s')->
  aN (aJ c.prog c.w) A (handleBy e env [.ExceptHandler (U (.Name P.exc tp)) (U nm) [.Return (U (.Attribute (.Name nm np) "why" ap)) rp] hp]) Q E s
section
variable{P:fF}{c:Cx}{n:Nat}{r:Ev}{l:Loc}{O:L}{ρ:bG}{s:aA}{A:bk}{aL:List aU}{env:aU}{Z:AP}
theorem ajg(B:fX c P)(X:sF c P)(h6:6<=n)(S:e7 c n r)(E:cz c n A (env::aL) env ρ O l s)(body:LT)(x nm n' w:aF)(tp np ap rp hp pos:bz):
  WX env.frame c A (bq (env::aL)) (cJ env) ρ (i9 P r env.scope l O (.Try body [.ExceptHandler (U (.Name x tp)) (U nm) [.Return (U (.Attribute (.Name n' np) w ap)) rp] hp] [] [] pos)) (eZ c env)
   (exec (.Try body [.ExceptHandler (U (.Name x tp)) (U nm) [.Return (U (.Attribute (.Name n' np) w ap)) rp] hp] [] [] pos) env) s:=by
 by_cases hg:x=P.exc/\ (l x).isNone/\ mu env.scope x/\ n'=nm/\ w= "why" /\ env.scope.names.lookup nm=U .local/\ (nm==aE "__debug__")=av
 case neg=>exact WX.bad (ax hg)
 refine WX.pK (au hg) ?_;obtain ⟨rfl,g2,g3,rfl,rfl,g6,g7⟩:=hg;simp -iota only [arm_exec_Try];refine WX.fH ?_;intro hb;have hnb:mf (r.x env.scope) body l O≠ .bad:=λz=>by rw [z]at hb;exact hb rfl
 unfold tryStmt;simp -iota only [List.isEmpty_nil,if_true,List.isEmpty_cons,IV,lu,if_false];refine aw (v7 (cB ((A9 S body E) hnb) (λf s1 q=>?_) λe s1 q=>?_))
 ·obtain ⟨a,dO,dP,e1,p1,F1,r1⟩:=q
  simp -iota only [e1];obtain ⟨fl,l1⟩:=a;induction fl using fz.casesOn with
  |next=>
   rcases f<;>first|exact r1.elim|skip
   simp -iota only [Cp];exact bb #[_,_,_,rfl,p1,F1,tv]
  |cont=>rcases f<;>first|exact r1.elim|exact bb #[_,_,_,rfl,p1,F1,tv]
  |ret v=>rcases f<;>first|exact r1.elim|exact bb #[_,_,_,rfl,p1,F1,r1]
 ·refine aw (bw.of (Aa E (λG G G x=>x) q λs2 q2=>aw (bw.of ?_)))
  refine bl λaG=>?_;obtain ⟨y,hZ,kX,e2,p2,f2⟩:=q2;refine aG ?_;refine pW (K':=λk=>k=U .none) (MH (E.DR p2 (λG G G x=>x)).fs) p2 f2 (λ#[_,_,z]=>nomatch z) rfl λs3 p3 q3 f3=>?_
  have hn:l P.exc=none:=by
   rcases z:l P.exc with _|v
   ·rfl
   ·rw [z]at g2;exact nomatch g2
  rw [e2]at hb⊢;by_cases hy:yA y=ai
  ·exact (hb (au hy)).elim
  show bw _ _ _ (hU c _ _ ρ s (if yA y=ai then(.bad:Res (fz×Loc))else .ok (.ret y,λG=>.none) hZ) _) (fA _ c _ _ ρ s (if yA y=ai then(.bad:Res (fz×Loc))else .ok (.ret y,λG=>.none) hZ)) _
  rw [(ax hy)];refine bw.of (X.afO h6 E g3 g6 g7 (λv z=>hy (by rw [z];rfl)) q3 f3 λag s4 p4 r4=>?_);exact #[_,_,_,rfl,p4,E.fr.raw p4.cq,r4]
end
end
section
open PyProof.Rows Builtin
section
variable{P:fF}{c:Cx}{n:Nat}{r:Ev}{l:Loc}{O:L}{ρ:bG}{s:aA}{A:bk}{aL:List aU}{env:aU}{Z:AP}
theorem E7(h:Em e=U z):e= .Attribute z.1 z.2.1 z.2.2:=by
 induction e using eV with
 |Attribute=>exact bh h▸rfl
 |_=>exact dG h
theorem PN(h:Ek e=U z):∃p,e= .Slice (U z.1) (U z.2) u p:=by
 induction e using eV with
 |Slice lo hi st p=>induction lo using aK with
  |none=>exact dG h
  |some lo=>induction hi using aK with
   |none=>exact dG h
   |some hi=>induction st using aK with
    |none=>exact #[p,bh h▸rfl]
    |some _=>exact dG h
 |_=>exact dG h
theorem yR(h:Im e=U x):e= .Name x e.pos:=by
 induction e using eV with
 |Name y p=>exact I (λx=>Expr.Name x p) (bh h)
 |_=>exact dG h
theorem Ua(h:aet e=U k):∃kk p,e= .Constant k kk p:=by
 induction e using eV with
 |Constant k' kk p=>exact #[kk,p,I (λx=>Expr.Constant x kk p) (bh h)]
 |_=>exact dG h
theorem RS(h:aac e=U z):e= .Call z.1 z.2 [] e.pos:=by
 induction e using eV with
 |Call f a ks p=>induction ks using bS with
  |nil=>exact I (λx:aH×LX=>Expr.Call x.1 x.2 [] p) (bh h)
  |cons _ _=>exact dG h
 |_=>exact dG h
theorem Ub{s:dW}(h:aeu s=U e):∃p,s= .Return (U e) p:=by
 induction s using DF with
 |Return v p=>induction v using aK with
  |none=>exact dG h
  |some v=>exact #[p,I (λx=>Stmt.Return (U x) p) (bh h)]
 |_=>exact dG h
theorem Uc{s:BW}(h:aev s=U z):∃p,s= .ExceptHandler (U z.1) (U z.2.1) z.2.2 p:=by
 obtain ⟨e,n,b,p⟩:=s;induction e using aK with
 |none=>exact dG h
 |some e=>induction n using aK with
  |none=>exact dG h
  |some n=>exact #[p,I (λz:aH×aF×LT=>Xx (U z.1) (U z.2.1) z.2.2 p) (bh h)]
theorem PO(h:zO e cause=U z):∃np kk kp cp,e=U (.Call (.Name z.1 np) [.Constant z.2 kk kp] [] cp)/\ cause=none:=by
 induction cause using aK with
 |some _=>exact dG h
 |none=>
  obtain ⟨e,rfl,h⟩:=gm h;refine bl λaG=>?_;obtain ⟨⟨f,as⟩,e1,h⟩:=gm h;obtain ⟨x,e2,h⟩:=gm h;obtain ⟨a,e3,h⟩:=gm h;obtain ⟨k,e4,h⟩:=gm h;refine aG ?_;rw [←(bh h)];obtain ⟨kk,kp,rfl⟩:=Ua e4;have e3:=qp e3;exact #[_,kk,kp,_,I U ((RS e1).trans (by rw [e3,←yR e2])),rfl]
noncomputable def hdl(z:aF×aF×aF×aF)(tp np ap rp hp:bz):ExceptHandler:=.ExceptHandler (U (.Name z.1 tp)) (U z.2.1) [.Return (U (.Attribute (.Name z.2.2.1 np) z.2.2.2 ap)) rp] hp
theorem Ud(h:XI hs orelse fin=U z):orelse= []/\ fin= []/\ ∃tp np ap rp hp,hs= [hdl z tp np ap rp hp]:=by
 induction orelse using bS with
 |cons _ _=>exact dG h
 |nil=>induction fin using bS with
  |cons _ _=>exact dG h
  |nil=>
   refine bl λaG=>?_;obtain ⟨h0,e0,h⟩:=gm h;obtain ⟨⟨ty,nm,b⟩,e1,h⟩:=gm h;obtain ⟨x,e2,h⟩:=gm h;obtain ⟨st,e3,h⟩:=gm h;obtain ⟨v,e4,h⟩:=gm h;obtain ⟨⟨o,w,ap⟩,e5,h⟩:=gm h;obtain ⟨n',e6,h⟩:=gm h;refine aG ?_;rw [←(bh h)];obtain ⟨hp,rfl⟩:=Uc e1;obtain ⟨rp,rfl⟩:=Ub e4;have e3:=qp e3;have e5:=E7 e5;have q2:=yR e2;have q6:=yR e6;dsimp only at e3 e5 q2 q6;subst e3 e5;exact #[rfl,rfl,_,_,ap,rp,hp,(qp e0).trans (by unfold hdl;rw [←q2,←q6])]
theorem acb(B:fX c P)(S:e7 c n r)(E:cz c n A aL env ρ O l s)(e:aH):WX u c A (bq aL) bj ρ (jK P r env.scope l O e) (cI c) (eval e env) s:=by
 induction e using eV with
 |Constant k kk pos=>simp only [JI];exact abJ E.inv k
 |Name x pos=>exact ae0 B E x pos
 |BoolOp op vs pos=>exact X0 S op pos vs E
 |BinOp a op b pos=>exact abL S E a b op pos
 |UnaryOp op a pos=>exact abM S E a op pos
 |IfExp t a b pos=>exact abN S E t a b pos
 |Dict ks vs pos=>exact afd S E ks vs pos
 |List es pos=>exact ae1 S E es pos
 |Tuple es k pos=>exact abO S E es k pos
 |Compare a ops bs pos=>
  rcases ho:one ops with _|op
  ·exact WX.bad (by unfold jK;dsimp only;rw [ho])
  ·rcases hb:one bs with _|b
   ·exact WX.bad (by unfold jK;dsimp only;rw [hb];cases one ops<;>rfl)
   ·
     cases qp ho;cases qp hb
     exact Rz B S E a b op pos
 |Attribute o a pos=>exact ae5 B S E o a pos
 |Subscript o i pos=>
  induction hs:wz i using aK with
  |some z=>obtain ⟨p,rfl⟩:=PC hs;exact alL B S E o z.1 z.2 p pos
  |none=>exact WX.pK (by unfold jK;dsimp only;rw [hs]) (PE B S E o i pos hs)
 |Call f args ks pos=>
  induction ks using bS with
  |cons k ks=>exact WX.no
  |nil=>
   induction hs:Em f using aK with
   |some z=>rw [E7 hs];exact X6 B S E z.1 z.2.1 z.2.2 pos args
   |none=>exact WX.pK (by unfold jK;dsimp only;rw [hs]) (ae4 B S E f args pos λo m p q=>dG (by rw [q]at hs;exact hs.symm))
 |ListComp elt gens bQ pos=>
  refine WX.opt λz hg=>?_;obtain rfl:=E6 hg;exact E0 (P:=P) S E elt z.1 z.2 bQ pos
 |_=>exact WX.no
theorem YC(B:fX c P)(S:e7 c n r)(E:cz c n A (env::aL) env ρ O l s)(t e:aH)(pos:bz):WX env.frame c A (bq (env::aL)) (cJ env) ρ (i9 P r env.scope l O (.Assign [t] e pos)) (eZ c env) (exec (.Assign [t] e pos) env) s:=by
 induction t using eV with
 |Name x px=>exact ab9 S E x px e pos
 |Tuple es k tp=>exact Gh S E es k tp e pos
 |Attribute o a tp=>exact Ii B S E o a tp e pos
 |Subscript o i tp=>
  induction hs:Ek i using aK with
  |some z=>obtain ⟨p,rfl⟩:=PN hs;exact Gi S E o z.1 z.2 p tp e pos
  |none=>
   refine WX.pK (by unfold i9;dsimp only;rw [hs]) (WX.Mt λhn=>?_:WX env.frame c A (bq (env::aL)) (cJ env) ρ (if isSlice i then Res.bad else(r.e env.scope l O e).bind λv O=>(r.e env.scope l O o).bind λx O=>(r.e env.scope l O i).bind λy O=>(qX (setItem x y v O)).bind λG O=>.ok (.next,l) O) _ _ s);exact Ij S E o i tp e pos (L8 hn)
 |_=>exact WX.no
theorem acd(X:sF c P)(h6:6<=n)(E:cz c n A (env::aL) env ρ O l s)(e cause:Option aH)(pos:bz):WX env.frame c A (bq (env::aL)) (cJ env) ρ (i9 P r env.scope l O (.Raise e cause pos)) (eZ c env) (exec (.Raise e cause pos) env) s:=by
 rcases hs:zO e cause with _|z
 ·exact WX.bad (by unfold i9;dsimp only;rw [hs])
 ·
  obtain ⟨x,k⟩:=z;obtain ⟨np,kk,kp,cp,rfl,rfl⟩:=PO hs;refine WX.ite λhg=>?_;obtain ⟨rfl,g2,g3⟩:=hg;induction hk:oO k using aK with
  |none=>exact WX.no
  |some v=>exact X.raise h6 E (tT.mp g2) g3 hk
theorem ace(B:fX c P)(X:sF c P)(h6:6<=n)(S:e7 c n r)(E:cz c n A (env::aL) env ρ O l s)(st:dW):WX env.frame c A (bq (env::aL)) (cJ env) ρ (i9 P r env.scope l O st) (eZ c env) (exec st env) s:=by
 induction st using DF with
 |Expr e pos=>exact afJ S E e pos
 |Return e pos=>induction e using aK with
  |none=>exact WX.no
  |some e=>exact Yu S E e pos
 |Continue pos=>exact RP E pos
 |Assign ts e pos=>induction ts using bS with
  |nil=>exact WX.no
  |cons t ts=>induction ts using bS with
   |cons _ _=>exact WX.no
   |nil=>exact YC B S E t e pos
 |AugAssign t op e pos=>induction t using eV with
  |Name x np=>induction op using r6 with
   |Add=>exact ajf S E x np e pos
   |_=>exact WX.no
  |_=>exact WX.no
 |If t a b pos=>exact alR S E t a b pos
 |For t it body orelse pos=>induction orelse using bS with
  |nil=>exact aja S E t it body pos
  |cons _ _=>exact WX.no
 |While t body orelse pos=>induction orelse using bS with
  |nil=>exact ab3 S E t body pos
  |cons _ _=>exact WX.no
 |Raise e cause pos=>exact acd X h6 E e cause pos
 |Try body hs orelse fin pos=>
  rcases ht:XI hs orelse fin with _|z
  ·exact WX.bad (by unfold i9;dsimp only;rw [ht])
  ·
   obtain ⟨rfl,rfl,tp,np,ap,rp,hp,rfl⟩:=Ud ht;exact ajg B X h6 S E body z.1 z.2.1 z.2.2.1 z.2.2.2 tp np ap rp hp pos
 |_=>exact WX.no
theorem yS(B:fX c P)(X:sF c P)(h6:6<=n)(hc:SC c n cl):∀d,e7 c n (gn P cl d)
 |0=>#[λG=>WX.bad rfl,λG=>WX.bad rfl,λG=>WX.bad rfl,hc]
 |d+1=>by
  exact #[λE=>acb B (yS B X h6 hc d) E _,λE=>ae3 B (yS B X h6 hc d) E _,λE=>ace B X h6 (yS B X h6 hc d) E _,hc]
end
end
section
open PyProof.Rows Builtin
section
variable{prog:gW}{w:cP}{A:bk}{C:ay}{R:jt->aA->Prop}{h:aQ}{g:Array rE}{d:uj}{t:Nat}{os:lI}
theorem so(args:rq):sE (.builtin "type.__call__" args)=false:=by
 show r8.contains "type.__call__" =av
 decide+kernel
theorem afP(Y:Makes (aJ prog w) h C)(hi:dM (aJ prog w) h (d9 (.ref C) "__init__") (U init))
  (hb:∀self,dM (aJ prog w) h (t4 init self) (init,[self])) (vG:(U init !=U (yh "object.__init__"))=ai)
  (hq:fG (aJ prog w) (A.under (.builtin "type.__call__" #[.ref C::rest,[]])) (.call init #[.ref (h.objs.size+1)::rest,[]]) (InitBack (h.objs.size+1) R) #[(h.push uH).push (jz C h.objs.size),g,d,t,os]):
  fG (aJ prog w) A (.call (.ref C) #[rest,[]]) R #[h,g,d,t,os]:=by
 have t1:dM (aJ prog w) ((h.push uH).push (jz C h.objs.size)) (lC (.ref (h.objs.size+1))) (.ref C):=(lY (by heap_get)).andThen .now;have Y':=Y;refine bl λaG=>?_;obtain ⟨⟨oc,od,cd,sl,hC,e1,e2,e4⟩,made,base,self,top,call,typ⟩:=Y;refine aG ?_;refine eS rfl ?_;refine bw.of ?_;refine nd_load hC ?_;show aN _ _ (yx (.ref C) _) _ _ _
 unfold yx;refine aB (call.at ?_);dsimp only;simp -iota only [tc_bind];refine aB (aX (aB (aX ?_)));refine aX (a:=LQ (.call (.builtin "type.__call__") #[.ref C::rest,[]])) (And.intro rfl ?_);refine eS rfl ?_;refine aw (bw.of (C8 tc_kind tc_split typ (tc_args _ _ _) (bb (And.intro (yw _ (by decide+kernel)) ?_))));refine BA.sZ (so _) JJ ?_;unfold eT.«type.__call__»;refine aw (bw.of ((((lY hC).andThen .now).andThen .now:dM (aJ prog w) h (xx (.ref C)) cd.mro).at ?_));simp -iota only [e4,lu,if_false];refine aw (bw.of (made.at ?_));refine aw (bb ?_);refine aw (cc ?_);refine bw.of (ot (new_K Y' hi (.inl vG) ?_));have k:∀b o,h.get? b=U o->((h.push uH).push (jz C h.objs.size)).get? b=U o:=λb o e=>c7 _ (c7 _ e);refine aw (bw.of ?_);unfold xH;refine aB (t1.at ((self.keeps k).at ?_));simp -iota only [IX,lu,if_false];refine aw (cc ?_);unfold ug uh;refine aw (bw.of (aB (t1.at ((hi.keeps k).at ?_))));refine cc (aw (bw.of (((hb (.ref (h.objs.size+1))).keeps k).at ?_)));refine aw (sk (jN hq λr s' z=>?_));rcases r with e|(v|_|_|_)<;>first|exact z|exact z.elim|skip
 obtain ⟨rfl,z⟩:=z;exact bb (bb z)
end
end
section
open PyProof.Rows Builtin
theorem MW{names:LR}:∀{vals:LU} {n:aF},(names.zip vals).lookup n=u↔n∉names.take (J vals):=by
 induction names with
 |nil=>intro vals n;exact #[λG=>by simp,λG=>rfl]
 |cons x xs ih=>intro vals n;induction vals using bS with
  |nil=>exact #[λG=>by simp,λG=>rfl]
  |cons v vs=>
   simp only [x8,iz,oA,List.take_succ_cons,eU,not_or];by_cases h:n=x
   ·subst h;simp
   ·rw [ql.mpr h]
    exact ih.trans #[λq=>#[h,q],λq=>q.2]
theorem yT{l:LR}:distinct l=ai->l.Nodup:=by
 induction l with
 |nil=>exact λG=>jy
 |cons x xs ih=>
  intro h;have h:=(iK _ _▸h:_/\ _);have h1:(!xs.contains x)=true:=h.1;refine gf.mpr #[λq=>?_,ih h.2];rw [Kw,dC q]at h1;exact nomatch h1
theorem YD{α β:Type}{f g:α->Option β}{l:List α}:(∀x∈l,f x=g x)->l.filterMap f=l.filterMap g:=by
 induction l with
 |nil=>exact λG=>rfl
 |cons x xs ih=>intro h;simp only [xZ,xZ,h x cY,ih λy hy=>h y (cZ _ hy)]
theorem zip_map{names:LR}:∀{vals:LU},names.Nodup->J vals=J names->(names.filterMap λn=>((names.zip vals).lookup n).map (n,·))=names.zip vals:=by
 induction names with
 |nil=>exact λG G=>rfl
 |cons x xs ih=>intro vals nd h;induction vals using bS with
  |nil=>exact nomatch h
  |cons v vs=>
   obtain ⟨n1,n2⟩:=gf.mp nd;simp only [x8,xZ,iz,beq_self_eq_true]
   have:∀y∈xs,(KI y ((x,v)::xs.zip vs)).map (y,·)=(KI y (xs.zip vs)).map (y,·):=λy hy=>by
    simp only [iz,beq_eq_false_iff_ne.mpr λq:y=x=>n1 (q▸hy)]
   refine I ((x,v)::·) (Eq.trans ?_ (ih n2 (kJ h)));exact YD this
section
variable{M:gz}{A:bk}{E:VP}{s:aA}
noncomputable abbrev DS(x:aF×az)(r:List (aF×az)):b6 (ForInStep (List (aF×az))):=(do if(r.lookup x.1).isNone=ai then pure (mU (r++ [(x.1,x.2)]))else pure (mU r):b6 (ForInStep (List (aF×az))))
theorem YE(l:List (aF×az)):∀(slots:List (aF×az)) {Q:List (aF×az)->aA->Prop},(∀p∈l,slots.lookup p.1=u)->(l.map (·.1)).Nodup->Q (slots++l) s->aN M A (forIn l slots DS) Q E s:=by
 induction l with
 |nil=>intro slots Q _ _ h;simp only [List.forIn_nil];exact aX (cL slots▸h)
 |cons p l ih=>
  intro slots Q h1 h2 h;obtain ⟨n1,n2⟩:=gf.mp h2;rw [Kx];unfold DS;rw [h1 p cY];refine aB (aX (ih (slots++ [(p.1,p.2)]) (λq hq=>?_) n2 (by rw [cM];exact h)));simp only [List.lookup_append,h1 q (cZ _ hq),iz,beq_eq_false_iff_ne.mpr λz:q.1=p.1=>n1 (iR.mpr #[q,hq,z])]
  rfl
theorem RT{names:LR}{vals mi d:LU}{k:Nat}(hk:k=J vals)(hd:d=mi)(nd:names.Nodup)(hl:J vals+J mi=J names){Q:List (aF×az)->aA->Prop}
  (hQ:Q (names.zip (vals++mi)) s):aN M A (forIn ((names.drop k).zip d) (names.zip vals) DS) Q E s:=by
 subst hk hd;have Qa:=KJ.mp ((iS (J vals) names).symm▸nd);refine YE _ _ (λp hp=>MW.mpr λh2=>Qa.2.2 _ h2 _ (x7 hp).1 rfl) ?_ ?_
 ·simp only [KL (bf (lT.trans (CE (hl.symm.trans (rM ..)))))]
  exact Qa.2.1
 ·have e4:names.zip vals=(names.take (J vals)).zip vals:=(List.zip_eq_zip_take_min ..).trans (by rw [CA (hl▸cg ..),KN])
  rw [e4,←KG (uF.trans (kH (hl▸cg ..))),iS];exact hQ
theorem RU{α:Type}{p:Prop} [Decidable p]{t e:b6 α}{Q:α->aA->Prop}(h:¬p)(k:aN M A e Q E s):aN M A (if p then t else e) Q E s:=ax h▸k
noncomputable def bindB(qn:aF)(df kd:az)(po ar:List Arg)(va:Option Arg)(ko:List Arg)(kw:Option Arg)(vals:LU):b6 (List (aF×az)):=
 uk {(default:oi)with qualname:=qn,defaults:=df,kwdefaults:=kd,params:=#[po,ar,va,ko,[],kw,[]]} #[vals,[]]
theorem Gj{names:LR}{vals mi:LU}(hlen:J vals+J mi=J names):mi.drop (J mi - J names)=mi/\ (J names) - J (mi.drop (J mi - J names))=J vals/\
  (KP (λn=>((names.zip vals).lookup n).isNone) (names.take (J names - J (mi.drop (J mi - J names))))).isEmpty=true:=
 have e2:mi.drop (J mi - J names)=mi:=I (CT · mi) (Nat.sub_eq_zero_of_le (hlen▸fx ..));have e1:=(I (J names - uD ·) e2).trans (CE hlen.symm)
 #[e2,e1,x9.mpr (List.filter_eq_nil_iff.mpr λG Ue h0=>MW.mp (tT.mp h0) (e1▸Ue))]
theorem YF{fd:oi}{vals mi:LU}{names:LR}{Q:List (aF×az)->aA->Prop}(h1:fd.params.posonlyargs= [])(h2:fd.params.vararg=u)(h3:fd.params.kwonlyargs= [])(h4:fd.params.kwarg=u)
  (hn:fd.params.args.map (·.arg)=names) (hd:distinct names=ai) (YG:∀{Q:Option (Array az)->aA->Prop},(∀o,(o.getD #[]).toList=mi->Q o s)->aN M A (seqItems? fd.defaults) Q E s)
  (hlen:J vals+J mi=J names)
  (hQ:Q (names.zip (vals++mi)) s):aN M A (uk fd #[vals,[]]) Q E s:=by
 have e:uk fd #[vals,[]]=bindB fd.qualname fd.defaults fd.kwdefaults [] fd.params.args u [] u vals:=by
  show bindB _ _ _ fd.params.posonlyargs fd.params.args fd.params.vararg fd.params.kwonlyargs fd.params.kwarg vals=_
  simp only [h1,h2,h3,h4]
 rw [e];subst hn;refine aB (aX (aB (YG λo ho=>?_)));have hlen:=ho.symm▸hlen;refine RU (λz=>dK (hlen▸cg ..) (fj (fR.mp z).1)) (RU (λz=>nomatch(Gj hlen).2.2.symm.trans ((og _).mp z)) ?_);exact aB (RT (Gj hlen).2.1 (Gj hlen).1 (yT hd) hlen (aB (aX (RU nofun (aX ((cL _).symm▸(zip_map (yT hd) (cx.trans hlen)).symm▸ho.symm▸hQ))))))
end
end
set_option backward.match.sparseCases true
section
open PyProof.Rows Builtin
section
variable{P:fF}{c:Cx}{n:Nat}{r:Ev}{l:Loc}{O:L}{ρ:bG}{s:aA}{A:bk}{aL:List aU}{env:aU}{Z:AP}
theorem afQ
  (h:bw (aJ c.prog c.w) (A.deeper env) (execs body env) (λf s'=>R (.ok (.ret (match f with|.ret v=>v|_=>.none))) s')
   (λe s'=>bw (aJ c.prog c.w) (A.deeper env) (leaving env e) (λG eY=>R (.error e) eY) (λe' eY=>R (.error e') eY) s') s):
  fG (aJ c.prog c.w) A (.func body env) R s:=by
 refine eS rfl ?_;refine aw (zX (aw (jX (cB h (λf s' h'=>?_) λG G h'=>h'))));rcases f<;>exact bb h'
theorem PQ(RW:A.depth<BY)(ho:s.heap.get? a=U o)
  (sJ:o.data= .func fd) (hco:fd.scope.isCoroutine=av) (alV:fd.scope.isGenerator=av) (ajh:fd.body= .stmts body) (hcd:s.heap.CodeRec fd.code fd.qualname)
  (h:aN (aJ c.prog c.w) A.in1 (uk fd args) (λbinds cN=>
   aN (aJ c.prog c.w) A.in1 (JC fd.scope fd.globals fd.closure binds (fd.qualname++ ".<locals>.") (U a) fd.code u fd.builtins)
    (λenv v9=>v9.heap.NoLimit/\ fG (aJ c.prog c.w) A (.func body env) R v9) (λe s'=>R (.error e) s') cN) (λe s'=>R (.error e) s') s):
  fG (aJ c.prog c.w) A (.call (.ref a) args) R s:=by
 refine eS rfl ?_;show bw _ A.in1 (callAny (.ref a) args) _ _ s
 refine bw.of ?_;rw [callAny];refine aB (lB ho ?_);refine bl λaG=>?_;refine hcd.elim λc hq=>hq.elim λoc hq=>hq.elim λvs hq=>hq.elim λtq hq=>?_;have hc:=hq.1;have hoc:=hq.2.1;have Ug:=hq.2.2.1;refine aG ?_;simp only [sJ,callFunction,hco,alV,ajh,hc];rw [hc]at h;refine aB (gC hoc Ug hq.2.2.2 (aB (aX ?_)))
 exact aB (wpAny_mono h (λbinds cN fc=>aB (wpAny_mono fc (λenv v9 Ge=>aB (wpAny_enterFrame Ge.1 RW
  (aX (And.intro rfl Ge.2)))) λG G h'=>h')) λG G h'=>h')
theorem yU:∀{names:List (aF×lG)} {x:aF} (k:Nat) (acc:List (aF×ay)),names.lookup x=U .cell->∃a,(rF k names acc).lookup x=U a:=by
 have keep:∀{names:List (aF×lG)} {x:aF} (k:Nat) (acc:List (aF×ay)),(∃a,acc.lookup x=U a)->∃a,(rF k names acc).lookup x=U a:=by
  intro names;induction names with
  |nil=>intro x k acc h;exact h
  |cons p names ih=>
   intro x k acc h;obtain ⟨nm,kd⟩:=p;unfold rF
   split
   ·refine ih _ _ ?_
    refine bl λaG=>?_;refine h.elim λa e=>?_;refine aG ?_;simp -iota only [iz];induction hb:x==nm using dj with
    |true=>exact #[_,rfl]
    |false=>exact #[a,e]
   ·exact ih _ _ h
 intro names;induction names with
 |nil=>intro x k acc h;simp -iota at h
 |cons p names ih=>
  intro x k acc h;obtain ⟨nm,kd⟩:=p;simp -iota only [iz]at h;unfold rF;induction hb:x==nm using dj with
  |true=>
   rw [hb]at h;obtain rfl:=bh h;rw [au (by rfl)];exact keep _ _ #[k,by simp only [iz,hb]]
  |false=>
   rw [hb]at h
   split
   ·exact ih _ _ h
   ·exact ih _ _ h
theorem DT{kindOf:aF->Option lG}:∀{binds:List (aF×az)} {m:aF->OV} {x:aF} {v:az},(binds.map (·.1)).Nodup->(x,v)∈binds->kindOf x=U .local->rG kindOf binds m x=U v:=by
 have out:∀{binds:List (aF×az)} {m:aF->OV} {x:aF},x∉binds.map (·.1)->rG kindOf binds m x=m x:=by
  intro binds;induction binds with
  |nil=>intro m x _;rfl
  |cons p binds ih=>
   intro m x h;obtain ⟨nm,v⟩:=p;rw [iU,eU,not_or]at h;unfold rG;rw [ih h.2]
   split
   ·simp -iota [h.1]
   ·rfl
 intro binds;induction binds with
 |nil=>intro m x v _ h;simp -iota at h
 |cons p binds ih=>
  intro m x v nd h hk;obtain ⟨n1,n2⟩:=gf.mp nd;have nm:=p.1;have w:=p.2;unfold rG;rcases eU.mp h with e|h
  ·obtain rfl:=e
   rw [out n1,au hk];simp -iota
  ·exact ih n2 h hk
theorem YH{kindOf:aF->Option lG}:∀{binds:List (aF×az)} {m:aF->OV} {x:aF} {v:az},(binds.map (·.1)).Nodup->(x,v)∈binds->kindOf x≠U .local->um kindOf binds m x=U v:=by
 have out:∀{binds:List (aF×az)} {m:aF->OV} {x:aF},x∉binds.map (·.1)->um kindOf binds m x=m x:=by
  intro binds;induction binds with
  |nil=>intro m x _;rfl
  |cons p binds ih=>
   intro m x h;obtain ⟨nm,v⟩:=p;rw [iU,eU,not_or]at h;unfold um;rw [ih h.2]
   split
   ·rfl
   ·simp -iota [h.1]
 intro binds;induction binds with
 |nil=>intro m x v _ h;simp -iota at h
 |cons p binds ih=>
  intro m x v nd h hk;obtain ⟨n1,n2⟩:=gf.mp nd;have nm:=p.1;have w:=p.2;unfold um;rcases eU.mp h with e|h
  ·obtain rfl:=e
   rw [out n1,ax hk];simp -iota
  ·exact ih n2 h hk
theorem Qi:∀{ps:LR} {vs:LV} {us:LU} {x:aF} {v:V},bJ H ρ h vs us->((ps.zip vs).find? λp=>p.1=x).map (·.2)=U v->∃ag,(x,ag)∈ps.zip us/\ Rep H ρ h v ag
 | [],_,_,_,_,_,e=>by simp -iota at e
 |_::_,[],_,_,_,_,e=>by simp -iota at e
 |p::ps,v::vs,_,x,w,.cons (v:=ag) rv rs,e=>by
  simp -iota only [x8,xU]at e;by_cases hx:p=x
  ·subst hx
   simp at e;subst e;exact #[ag,by simp,rv]
  ·simp -iota [hx]at e
   refine (Qi rs (by simpa -iota using e)).elim λu' hq=>hq.elim λh1 h2=>?_;exact #[u',by simp -iota only [x8];exact cZ _ h1,h2]
end
end
set_option backward.match.sparseCases false
section
open PyProof.Rows Builtin
section
variable{P:fF}{c:Cx}{n:Nat}{r:Ev}{l:Loc}{O:L}{ρ:bG}{s:aA}{A:bk}{aL:List aU}{env:aU}{Z:AP}
theorem MX(af:b9 c ρ O s.heap)(h:c.H.CodeRec cd q):s.heap.CodeRec cd q:=
 h.imp λG h=>h.imp λG h=>h.imp λG h=>h.imp λG h=>#[h.1,af.base _ _ h.2.1,h.2.2]
theorem Uh(a:td (n+3) A aL):td n (A.deeper env) (env::aL):=by
 refine #[I (mI (env::·)) a.frames,a.handled,?_,?_,a.guards]
 ·exact gd (by exact (zS (kG (kG (aV rfl) _) _)):A.depth+1+n<=A.depth+(n+3)) a.depth
 ·exact gd (by lia:A.units+3+40*n+100<=A.units+40*(n+3)+100) a.units
theorem begun(ae:b9 c ρ O s.heap)(fs:∀e∈aL,eB c.H ρ s.heap e){fd:oi}{d:la}(nD:fd.scope=d.scope)(hk:fd.scope.kind= .function)(hg:fd.globals=ew)(hbn:fd.builtins=jr)
  (kinds:∀x∈d.params,d.scope.names.lookup x=U .local \/d.scope.names.lookup x=U .cell) (hd:distinct d.params=ai) (hlen:J us=J d.params) (R:bJ c.H ρ s.heap vs us)
 (he:env=newEnv fd.scope s.heap.objs.size fd.globals (rF (s.heap.objs.size+1) fd.scope.names []) (fd.qualname++ ".<locals>.") (U a) fd.code u fd.builtins)
  (x:InCallC s env.locals (rG env.kindOf (d.params.zip us) λG=>u) env.cells (um env.kindOf (d.params.zip us) λG=>u) s') (hA:td (n+3) A aL):
  cz c n (A.deeper env) (env::aL) env ρ O (λy=>((d.params.zip vs).find? λp=>p.1=y).map (·.2)) s'/\ b7 c (bq (env::aL)) (cJ env) ρ s ρ O s'/\ s.heap.get? env.locals=u/\ env.frame=U env.locals/\ ∀y q,env.cells.lookup y=U q->s.heap.get? q=none:=by
 obtain ⟨h',tk,rfl⟩:=x.toInCall.same;have tf:∀b o,s.heap.get? b=U o->h'.get? b=U o:=x.toInCall.keep;have hL:env.locals=s.heap.objs.size:=by rw [he];rfl
 have hE:env.kindOf=λy=>d.scope.names.lookup y:=by simp only [he,←nD];rfl
 have Hf:env.frame=U env.locals:=by rw [he];rfl
 have new:∀b,s.heap.objs.size<=b->s.heap.get? b=u/\ ¬cy ρ b/\ c.H.get? b=none:=λb hb=>by
  have e:=qh hb;refine #[e,λf=>?_,?_]
  ·exact (ae.foot f).elim λo q=>nn e q.1
  ·rcases z:c.H.get? b with _|o
   ·rfl
   ·exact nn e (ae.base _ _ z)
 have nd:((d.params.zip us).map (·.1)).Nodup:=by simp only [KL (bf (Eq.symm hlen))];exact yT hd
 have nL:=new env.locals (by simp only [hL];exact ez _)
 have nC:∀y q,env.cells.lookup y=U q->env.locals<q/\ s.heap.get? q=u/\ ¬cy ρ q/\ c.H.get? q=none:=λy q e=>by
  have ab:=x.above y q (mem_of_lookup e);exact #[ab,new q (by rw [hL]at ab;exact iP ab)]
 have Ui:env.cells=rF (s.heap.objs.size+1) d.scope.names []:=by simp only [he,←nD];rfl
 have mem:∀{y v},((d.params.zip vs).find? λp=>p.1=y).map (·.2)=U v->y∈d.params/\ ∃ag,(y,ag)∈d.params.zip us/\ Rep c.H ρ h' v ag:=λ{y v} e=>by
  refine bl λaG=>?_;refine (Qi (R.mono (cG.more tf:cG (bq (env::aL)) (cJ env) ρ s.heap ρ h')) e).elim λag hq=>hq.elim λh1 h2=>?_;refine aG ?_;exact #[(x7 h1).1,ag,h1,h2]
 have F:gT c.H ρ h' env (λy=>((d.params.zip vs).find? λp=>p.1=y).map (·.2)):=by
  refine #[by rw [he];exact hk,by rw [he];exact hg,by rw [he];exact hbn,#[_,x.toInCall.ns,λy v e k=>?_],λy v e=>?_,λy k=>?_,#[nL.2.1,nL.2.2],λy q e=>?_,λy z q e1 e2=>?_]
  ·obtain ⟨_,ag,h1,h2⟩:=mem e
   exact #[ag,DT nd h1 k,h2]
  ·obtain ⟨hy,ag,h1,h2⟩:=mem e
   rcases kinds y hy with k|k
   ·exact .inl (by rw [hE];exact k)
   ·have k':env.kindOf y=U .cell:=by rw [hE];exact k
    obtain ⟨q,hq⟩:=yU (s.heap.objs.size+1) [] k;rw [←Ui]at hq;have:=x.cell y q hq;rw [YH nd h1 (by rw [k'];decide)]at this;exact .inr #[.inl k',q,ag,hq,this,h2]
  ·rw [hE]at k
   refine (yU (s.heap.objs.size+1) [] k).elim λq hq=>?_;rw [←Ui]at hq;exact #[q,_,hq,x.cell y q hq]
  ·obtain ⟨c1,c2,c3,c4⟩:=nC y q e
   refine bl λaG=>?_;refine (x.cell y q e).elim λo hq=>hq.elim λe' d'=>?_;refine aG ?_;exact #[c3,c4,gD c1,o,_,e',d']
  ·exact name_of_addr x.apart (mem_of_lookup e1) (mem_of_lookup e2)
 refine #[#[(ae.more tf:b9 c ρ O h'),F,λe Uj=>?_,Uh hA],#[(cG.more tf:cG (bq (env::aL)) (cJ env) ρ s.heap ρ h'),(ae.more tf:b9 c ρ O h'),rfl,rfl],nL.1,Hf,λy q e=>(nC y q e).2.1];rcases eU.mp Uj with rfl|Uj
 ·obtain ⟨o,es,ep,e',d',_⟩:=x.toInCall.ns
  exact #[by rw [F.kind];decide,_,o,es,ep,Hf,nL.2.2,nL.2.1,e',d']
 ·obtain ⟨k,ao,o,es,m,e1,e2,e3,e4,e5⟩:=fs e Uj
  exact #[k,ao,o,es,m,e1,e2,e3,tf _ _ e4,e5]
noncomputable def RX(c:Cx)(Z:AP)(ρ:bG)(s:aA)(r:Res V)(q:jt)(s':aA):Prop:=match q with
 |.ok (.ret v)=>hU c Z bj ρ s r (cI c) v s'
 |.ok _=>False
 |.error e=>fA u c Z bj ρ s r e s'
noncomputable def Ba(r:Ev)(d:la)(l:Loc)(O:L):Res V:=(mf (r.x d.scope) d.body l O).bind λo O=>match o with
 |(.ret v,_)=>.ok v O
 |_=>.ok .none O
noncomputable def E8(r:Ev)(d:la)(vs:LV)(O:L):Res V:=match bindArgs d.params d.dflt vs with
 |some l=>Ba r d l O
 |.none=>.bad
theorem afS(ae:b9 c ρ O s.heap)(q:FnAt c a d o fd):∃mi,bJ c.H ρ s.heap d.dflt mi/\ ∀{A':bk} {Q:Option (Array az)->aA->Prop} {E:VP},(∀o,(o.getD #[]).toList=mi->Q o s)->aN (aJ c.prog c.w) A' (seqItems? fd.defaults) Q E s:=by
 rcases q.dflt with⟨g1,g2⟩|⟨T,mi,m,oT,g1,g2,g3,g4⟩
 ·refine #[[],g1▸ .nil,λ{A' Q E} h=>?_]
  rw [g2];exact aX (h u rfl)
 ·refine #[mi,uV (λr=>r.lift (λi p e=>dG (List.getElem?_nil.symm.trans e)) (λb o e f=>ae.base b o e)) g4,λ{A' Q E} h=>?_]
  rw [g1];exact wpAny_seqItems (ae.base _ _ g2) g3 (h _ rfl)
theorem afT(S:e7 c n r){vs:LV}(E:cz c n (A.deeper env) (env::aL) env ρ O l s)(p0:b7 c (bq (env::aL)) (cJ env) ρ bN ρ O s)(n1:bN.heap.get? env.locals=u)(n2:env.frame=U env.locals)(n3:∀y q,env.cells.lookup y=U q->bN.heap.get? q=u)
  (hs:env.scope=d.scope) (hb:Ba r d l O≠ .bad):fG (aJ c.prog c.w) A (.func d.body env) (RX c (bq aL) ρ bN (Ba r d l O)) s:=by
 refine afQ ?_;have hB:=A9 S d.body E;rw [hs]at hB
 have back:∀{aS aZ eY},b7 c (bq (env::aL)) (cJ env) ρ s aS aZ eY->b7 c (bq aL) bj ρ bN aS aZ eY:=λ{aS aZ eY} p=>by
  have q1:=(p0.trans p).nU (Y:=bj) λb o e xb=>xb.elim (λz=>nn n1 (z▸e)) λ#[y,z,xb]=>nn (n3 y b xb) e;exact #[q1.cq.mX λb o e zb=>zb.elim λe' q=>(eU.mp q.1).elim (λz=>nn n1 (bh ((z▸q.2:env.frame=U b).symm.trans n2)▸e)) λUj=>#[e',Uj,q.2],q1.inv,q1.gens,q1.os]
 refine cB (hB (jE hb)) (λf eY q=>?_) λe eY q=>?_
 ·obtain ⟨⟨fl,l'⟩,aZ,aS,e1,p1,F1,r1⟩:=q
  unfold Ba;rw [iD e1];induction fl using fz.casesOn with
  |next=>rcases f<;>first|exact r1.elim|exact #[_,_,_,rfl,back p1,.none]
  |cont=>rcases f<;>first|exact r1.elim|exact #[_,_,_,rfl,back p1,.none]
  |ret v=>rcases f<;>first|exact r1.elim|exact #[_,_,_,rfl,back p1,r1]
 ·unfold leaving
  refine aw (bw.of (Aa E (λG G G x=>x) q λs2 q2=>?_));refine bl λaG=>?_;obtain ⟨y,hZ,kX,e2,p2,f2'⟩:=q2;refine aG ?_;refine bw.of (pW (K':=K0) (MH (E.DR p2 (λG G G x=>x)).fs) p2 f2' (λ#[_,_,z]=>dG z) (.inr rfl) λs3 p3 q3 f3=>?_);refine #[y,hZ,kX,?_,back q3,(f3.back p0.cq.alive).weak λk h=>.inl h];unfold Ba;rw [e2];rfl
theorem Uk(B:fX c P)(S:e7 c n r)(ae:b9 c ρ O s.heap)(fs:∀e∈aL,eB c.H ρ s.heap e)(hA:td (n+3) A aL)(hP:P.fn a=U d)(R:bJ c.H ρ s.heap vs us)
  (hb:E8 r d vs O≠Res.bad):fG (aJ c.prog c.w) A (.call (.ref a) #[us,[]]) (RX c (bq aL) ρ s (E8 r d vs O)) s:=by
 refine bl λaG=>?_;refine (B.fn a d hP).ex.elim λo hq=>hq.elim λfd q=>?_;refine aG ?_;by_cases hc:J vs+J d.dflt=J d.params
 case neg=>exact (hb (by unfold E8 bindArgs;rw [ax hc])).elim
 have hcr:E8 r d vs O=Ba r d (λy=>((d.params.zip (vs++d.dflt)).find? λp=>p.1=y).map (·.2)) O:=by unfold E8 bindArgs;rw [au hc]
 rw [hcr]at hb⊢;refine bl λaG=>?_;refine (afS ae q).elim λmi hq=>hq.elim λrd YG=>?_;refine aG ?_;have hlen:J us+J mi=J d.params:=by simp only [R.length,rd.length];exact hc
 have R2:=R.append rd;refine PQ (gd (cg _ _) hA.depth) (ae.base _ _ q.at_) q.data q.cor q.gen q.body (MX ae q.code) ?_;refine YF q.pos q.var q.kwo q.kwa q.args q.dist (λh=>YG h) hlen ?_;have hlen:=cx.trans hlen;rw [q.Tc];generalize us++mi=zy at R2 hlen⊢;generalize vs++d.dflt=vs' at R2 hb⊢;refine wpAny_newFunctionEnv_cells q.kind (λx hx=>?_) λenv he s' x=>?_
 ·have hx':=(x7 hx).1
  rw [q.Td];exact ((B.fn a d hP).kinds x.1 hx').imp id λk=>#[k,(yU (s.heap.objs.size+1) [] k).elim λq hq=>by rw [hq];rfl]
 ·obtain ⟨E,p0,n1,n2,n3⟩:=begun ae fs q.Td q.kind q.glo q.blt (B.fn a d hP).kinds q.dist hlen R2 he x hA
  exact #[B.Rw.keeps λb o e=>x.toInCall.keep _ _ (ae.base _ _ e),afT (vs:=vs') S E p0 n1 n2 n3 (by rw [he];exact q.Td) hb]
end
end
section
open PyProof.Rows Builtin
section
variable{P:fF}{c:Cx}{n:Nat}{r:Ev}{l:Loc}{O:L}{ρ:bG}{s:aA}{A:bk}{aL:List aU}{env:aU}{Z:AP}
theorem YI(h:S3 f=U b):f=b.val:=by
 induction f using rZ with
 |builtin n=>
  replace h:(if n= "len" then U Bf.len else if n= "max" then U .max else u)=U b:=h;by_cases q:n= "len"
  ·rw [au q]at h;obtain rfl:=bh h;exact I yh q
  ·rw [ax q]at h
   refine (ite_yes h).elim λq h=>?_;obtain rfl:=bh h;exact I yh q
 |type n=>
  replace h:(if n= "range" then U Bf.range else if n= "tuple" then U .tuple else if n= "bytes" then U .bytes else if n= "bytearray" then U .bu else u)=U b:=h;by_cases q:n= "range"
  ·rw [au q]at h;obtain rfl:=bh h;exact I oG q
  ·rw [ax q]at h
   by_cases q:n= "tuple"
   ·rw [au q]at h;obtain rfl:=bh h;exact I oG q
   ·rw [ax q]at h
    by_cases q:n= "bytes"
    ·rw [au q]at h;obtain rfl:=bh h;exact I oG q
    ·rw [ax q]at h
     refine (ite_yes h).elim λq h=>?_;obtain rfl:=bh h;exact I oG q
 |_=>exact dG h
section
variable(hA:td n A aL)(ae:b9 c ρ O s.heap)(fs:∀e∈aL,eB c.H ρ s.heap e){b:Bf}{x:V}{ag:az}(rx:Rep c.H ρ s.heap x ag)
include hA ae fs rx
theorem aji:WX u c A (bq aL) bj ρ (Bx b x O) (cI c) (call b.val [ag]) s:=by
 induction b using Bf.casesOn with
 |len=>
  refine (ai0 ae rx λa b m e1 e2 e3 {Q E} hq=>?_).x;subst e1;exact BA.ae6 e2 (qg (lW.mpr e3) (by decide)) (hq _ _)
 |max=>exact WX.no
 |range=>induction x using V.casesOn with
  |int b=>exact WX.ite λG=>(XR ae rx).x
  |_=>exact WX.no
 |tuple=>induction x using V.casesOn with
  |ref i=>
   unfold Bx;dsimp only;induction e1:listAt O i using aK with
   |none=>exact WX.no
   |some xs=>exact WX.ite λhc=>(abI ae rx (eH e1) hc).x
  |_=>exact WX.no
 |bytes=>induction x using V.casesOn with
  |bytes b=>
   obtain ⟨t,rfl⟩:=rx.sg;exact λG=>bw.of (BA.abV (lZ ae (.bytes _ _)))
  |ref i=>
   unfold Bx;dsimp only;induction e1:listAt O i using aK with
   |some xs=>
    dsimp only;induction e2:bytesOf xs using aK with
    |none=>exact WX.no
    |some b=>exact WX.ite λhc=>(XT hA.handled ae rx (eH e1) e2 hc).x
   |none=>
    dsimp only;induction e1:fY O i using aK with
    |none=>exact WX.no
    |some b=>
     obtain ⟨a,d,rfl,z⟩:=rx.jC;have h':BA.iq s.heap a b.toArray:=(nO ae z (gH e1)).2.2;exact WX.ite λhc G=>bw.of (BA.Ye h' (bt hc (by decide)) λt=>iZ ae (.bytes _ _))
  |_=>exact WX.no
 |bu=>induction x using V.casesOn with
  |bytes b=>
   obtain ⟨t,rfl⟩:=rx.sg;exact WX.ite λhc G=>BA.Gb hA.guards (λhg h q=>BA.EG hg (bt hc (by decide)) h q) λh' th hk=>qx ae hk (dU _) (dU _) λst=>#[rfl,th]
  |int n=>
   obtain ⟨t,rfl⟩:=rx.kY;exact WX.ite λhc G=>BA.Gb hA.guards (λhg h q=>BA.Yh hg hc.1 hc.2 h q) λh' th hk=>qx ae hk (dU _) (dU _) λst=>#[rfl,(by simp:yo n.toNat (0:UInt8)=(kj n.toNat (0:UInt8)).toArray)▸th]
  |_=>exact WX.no
end
theorem Ul(hA:td n A aL)(ae:b9 c ρ O s.heap)(fs:∀e∈aL,eB c.H ρ s.heap e)(R:bJ c.H ρ s.heap args us):
  WX u c A (bq aL) bj ρ (jU f args O) (cI c) (call f us) s:=by
 unfold jU;induction hf:S3 f using aK with
 |none=>exact WX.no
 |some b=>
  cases YI hf
  rcases args with _|⟨x,r⟩
  ·exact WX.no
  ·rcases r with _|⟨y,r⟩
   ·obtain ⟨ag,rfl,rx⟩:=R.one;exact aji hA ae fs rx
   ·induction r using bS with
     |cons _ _=>exact WX.no
     |nil=>
      obtain ⟨ag,v,rfl,rx,ry⟩:=R.two;show WX u c A (bq aL) bj ρ (bf2 b x y O) _ _ s
      induction x using V.casesOn with
      |int i=>induction y using V.casesOn with
       |int j=>induction b using Bf.casesOn with
        |max=>exact (ai2 hA.handled ae rx ry).x
        |range=>exact WX.ite λG=>(XS ae rx ry).x
        |_=>exact WX.no
       |_=>exact WX.no
      |_=>exact WX.no
end
end
section
open PyProof.Rows Builtin
noncomputable def vN(c:Cx)(n:Nat)(qJ:V->LV->L->Res V):Prop:=∀{a:ay} {args:LV} {us:LU} {O:L} {ρ:bG} {s:aA} {A:bk} {aL:List aU},
 b9 c ρ O s.heap->(∀e∈aL,eB c.H ρ s.heap e)->td n A aL->bJ c.H ρ s.heap args us->qJ (.con (.ref a)) args O≠ .bad->
 fG (aJ c.prog c.w) A (.call (.ref a) #[us,[]]) (RX c (bq aL) ρ s (qJ (.con (.ref a)) args O)) s
section
variable{P:fF}{c:Cx}{n:Nat}{r:Ev}{l:Loc}{O:L}{ρ:bG}{s:aA}{A:bk}{aL:List aU}{env:aU}{Z:AP}
theorem YJ(a:td (n+3) A aL)(C:ay)(us:LU):td n (A.under (.builtin "type.__call__" #[.ref C::us,[]])) aL:=by
 have e1:(A.under (.builtin "type.__call__" #[.ref C::us,[]])).depth=A.depth+1:=rfl;have e2:(A.under (.builtin "type.__call__" #[.ref C::us,[]])).units=A.units+1:=rfl;refine #[?_,a.handled,?_,?_,?_]
 ·have h:=a.frames
  obtain ⟨hd,d,f,gs,ag⟩:=A;dsimp only at h;rw [←h]
  rfl
 ·rw [e1];have:=a.depth;lia
 ·rw [e2];have:=a.units;lia
 ·have h:=a.guards
  obtain ⟨hd,d,f,gs,ag⟩:=A;dsimp only at h;rw [←h]
  rfl
theorem RY(B:fX c P)(hC:vN c n qJ)(ae:b9 c ρ O s.heap)(fs:∀e∈aL,eB c.H ρ s.heap e)(hA:td (n+3) A aL)(hP:P.cls a=U d)(R:bJ c.H ρ s.heap vs us)
  (hb:((mn (qJ (.con (.ref d.init)) (.ref (J O)::vs) (O++ [.inst a []]))).bind λv aZ=>match v with
    |.none=>Res.ok (V.ref (J O)) aZ
    |_=>.bad)≠Res.bad):
  fG (aJ c.prog c.w) A (.call (.ref a) #[us,[]]) (RX c (bq aL) ρ s ((mn (qJ (.con (.ref d.init)) (.ref (J O)::vs) (O++ [.inst a []]))).bind λv aZ=>match v with
    |.none=>Res.ok (V.ref (J O)) aZ
    |_=>.bad)) s:=by
 obtain ⟨hh,g,dr,t,os⟩:=s;refine bl λaG=>?_;have kp:∀b o,c.H.get? b=U o->hh.get? b=U o:=ae.base
 have Y:Makes (aJ c.prog c.w) hh a:=by
  obtain ⟨⟨oc,od,cd,sl,hC,e1,e2,e4⟩,made,base,self,top,call,typ⟩:=(B.cls a d hP).makes;exact #[#[oc,od,cd,sl,kp _ _ hC,e1,e2,e4],made.keeps kp,base.keeps kp,self.keeps kp,top.keeps kp,call.keeps kp,typ.keeps kp]
 refine (ae.alloc (m:=.inst a []) (λb o e=>c7 _ (c7 _ e):∀b o,hh.get? b=U o->((hh.push uH).push (jz a hh.objs.size)).get? b=U o) (qh (rL _):hh.get? (hh.objs.size+1)=u) (qh (ez _):hh.get? hh.objs.size=u) λst=>#[Nat.succ_ne_self _,(by heap_get),λG=>u,LS ((LW hh (.type "dict")).keeps λb o e=>c7 _ e),λx=>trivial]).elim λJ1 hq=>hq.elim λst1 last=>?_;refine aG ?_
 have p1:b7 c (bq aL) bj ρ #[hh,g,dr,t,os] (ρ++ [(hh.objs.size+1,hh.objs.size)]) (O++ [.inst a []]) #[(hh.push uH).push (jz a hh.objs.size),g,dr,t,os]:=
  #[(st1.mX λG G G z=>z.elim).weak λG z=>z.elim,J1,rfl,rfl]
 refine afP Y ((B.cls a d hP).init.keeps kp) (λself=>((B.cls a d hP).bind self).keeps kp) rfl ?_;refine jN (hC J1 (λe he=>(fs e he).on p1.cq) (YJ hA a us) (.cons (.ref last) (R.mono p1.cq)) (Yw (jE hb))) λq s' z=>?_;induction q using mT with
 |error e=>
  refine bl λaG=>?_;obtain ⟨y,aZ,aS,e1,_⟩:=z;refine aG ?_;exact (Hk (jE hb) e1).elim
 |ok f=>
  induction f using uK with
  |ret v=>
   refine bl λaG=>?_;obtain ⟨w,aZ,aS,e1,p2,r2⟩:=z;have e2:mn (qJ (.con (.ref d.init)) (.ref (J O)::vs) (O++ [.inst a []]))= .ok w aZ:=by simp only [e1];rfl
   refine aG ?_;rw [iD e2]at hb⊢;rcases w<;>first|exact (hb rfl).elim|skip
   cases r2
   exact #[rfl,_,_,_,rfl,p1.trans p2,.ref (p2.cq.pre _ _ last)]
  |_=>exact z.elim
theorem Ho(B:fX c P)(X:sF c P)(h6:6<=n)(hS:SC c n qJ)(hF:vN c n qJ):vN c (n+3) (fk P (gn P qJ deep)):=by
 intro a args us O ρ s A aL ae fs hA R hb;unfold fk at hb⊢;dsimp only at hb⊢;induction hf:P.fn a using aK with
 |some d=>
  rw [hf]at hb;exact Uk B (yS B X h6 hS deep) ae fs hA hf R hb
 |none=>
  rw [hf]at hb;dsimp only at hb⊢;induction hc:P.cls a using aK with
  |some d=>
   rw [hc]at hb;exact RY B hF ae fs hA hc R hb
  |none=>rw [hc]at hb;exact (hb rfl).elim
end
end
noncomputable abbrev LK:=SV
noncomputable abbrev RV:=Res V
noncomputable abbrev QT:=V->L->RV
noncomputable abbrev KT:=LK->L->RV
noncomputable def l5(x:aF)(v:V):LK->LK
 | []=> [(x,v)]
 |(y,w)::r=>if y=x then(y,v)::r else(y,w)::l5 x v r
noncomputable def bA(l:LK):Loc:=λx=>look x l
noncomputable def bc{α:Type}(o:Option α)(k:α->RV):RV:=match o with
 |some a=>k a
 |.none=>.bad
noncomputable def gM(op:lx)(a b:Int)(k:Int->RV):RV:=match op with
 |.Add=>k (a+b)
 |.Sub=>k (a - b)
 |.Mult=>if a.natAbs<2^64 \/b.natAbs<2^64 then k (a*b)else .bad
 |.FloorDiv=>if 0<b/\ b.natAbs<2^1000 then k (a/b)else .bad
 |.Mod=>if 0<b then k (a % b)else .bad
 |.Pow=>if a.natAbs<2^64/\ 0<=b/\ b<=1000000 then k (a^b.toNat)else .bad
 |.LShift=>if a.natAbs<2^1000/\ 0<=b/\ b<=1000000 then k (a*2^b.toNat)else .bad
 |.RShift=>if 0<=b then k (a/2^b.toNat)else .bad
 |.BitAnd=>if 0<=a/\ 0<=b then k ((a.toNat&&&b.toNat:Nat):Int)else .bad
 |.BitOr=>if 0<=a/\ 0<=b then k ((a.toNat|||b.toNat:Nat):Int)else .bad
 |.BitXor=>if 0<=a/\ 0<=b then k ((a.toNat^^^b.toNat:Nat):Int)else .bad
 |_=>.bad
noncomputable def pC(op:lx)(a b:V)(O:L)(k:QT):RV:=match dE b with
 |some n=>match dE a with
  |some i=>gM op i n λc=>k (.int c) O
  |.none=>(Rc op a n O).bind k
 |.none=>match op with
  |.Add=>match nS a with
   |some _=>(Mb .Add a b O).bind k
   |.none=>match jJ a with
    |some a=>bc (jJ b) λb=>if(J a)+J b<=aR then k (.bytes (a++b)) O else .bad
    |.none=>bc (dw a) λi=>bc (dw b) λj=>bc (listAt O i) λxs=>bc (listAt O j) λys=>
     if(J xs)+J ys<=aR then k (.ref (J O)) (O++ [.list (xs++ys)])else .bad
  |_=>.bad
noncomputable def ng(xs:LV)(i:Int)(k:V->RV):RV:=if 0<=i/\ i<1099511627776 then bc xs[i.toNat]? k else .bad
noncomputable def qP(O:L)(o i:V)(k:V->RV):RV:=match dw o with
 |some j=>match listAt O j with
  |some xs=>bc (dE i) λi=>ng xs i k
  |.none=>match dictAt O j with
   |some kvs=>bc (nS i) λs=>bc (look s kvs) k
   |.none=>bc (AZ O j) λkvs=>bc (dE i) λs=>bc (Eh s kvs) k
 |.none=>bc (dE i) λn=>match pe o with
  |some xs=>ng xs n k
  |.none=>match yy o with
   |some xs=>ng xs n k
   |.none=>bc (index O o (.int n)) k
noncomputable def sQ(o lo hi:V)(O:L)(k:QT):RV:=bc (dw o) λi=>bc (Ej 0 lo) λlo=>bc (Ej aR hi) λhi=>match listAt O i with
 |some xs=>if(J xs)<=aR then k (.ref (J O)) (O++ [.list (cut lo hi xs)])else .bad
 |.none=>bc (fY O i) λb=>if(J b)<=aR then k (.ref (J O)) (O++ [.bu (cut lo hi b)])else .bad
noncomputable def Gl(f:Bf)(x:V)(O:L)(k:QT):RV:=match f with
 |.len=>match x with
  |.lst xs=>if(J xs)<=aR then k (.int (J xs)) O else .bad
  |.bytes xs=>if(J xs)<=aR then k (.int (J xs)) O else .bad
  |.ref i=>match listAt O i with
   |some xs=>if(J xs)<=aR then k (.int (J xs)) O else .bad
   |.none=>match fY O i with
    |some xs=>if(J xs)<=aR then k (.int (J xs)) O else .bad
    |.none=>.bad
  |x=>(Bx .len x O).bind k
 |.max=>.bad
 |.range=>match x with
  |.int b=>if -(2^40)<b/\ b<2^40 then k (.ee 0 b) O else .bad
  |_=>.bad
 |.tuple=>match x with
  |.ref i=>match listAt O i with
   |some xs=>if(J xs)<=aR then k (.tup xs) O else .bad
   |.none=>.bad
  |_=>.bad
 |.bytes=>match x with
  |.bytes b=>k (.bytes b) O
  |.ref i=>match listAt O i with
   |some xs=>bc (bytesOf xs) λb=>if(J b)<=aR then k (.bytes b) O else .bad
   |.none=>match fY O i with
    |some b=>if(J b)<=aR then k (.bytes b) O else .bad
    |.none=>.bad
  |_=>.bad
 |.bu=>match x with
  |.bytes b=>if(J b)<=aR then k (.ref (J O)) (O++ [.bu b])else .bad
  |.int n=>if 0<n/\ n<=1000 then k (.ref (J O)) (O++ [.bu (kj n.toNat 0)])else .bad
  |_=>.bad
noncomputable def afU(f:Bf)(x y:V)(O:L)(k:QT):RV:=match x with
 |.int a=>match y with
  |.int b=>match f with
   |.max=>k (.int (max a b)) O
   |.range=>if -(2^40)<a/\ a<2^40/\ -(2^40)<b/\ b<2^40 then k (.ee a b) O else .bad
   |_=>.bad
  |_=>.bad
 |_=>.bad
noncomputable def ei(f:az)(args:LV)(O:L)(k:QT):RV:=match S3 f with
 |.none=>.bad
 |some b=>match args with
  | [x]=>Gl b x O k
  | [x,y]=>afU b x y O k
  |_=>.bad
noncomputable def Bb(m:Mc)(i:Nat)(args:LV)(O:L)(k:QT):RV:=match m with
 |.append=>match args with
  | [v]=>bc (listAt O i) λxs=>if(J xs)<=aR then k .none (O.set i (.list (xs++ [v])))else .bad
  |_=>.bad
 |m=>(methodCall m i args O).bind k
noncomputable def uZ(sc:bM)(x:aF)(v:V)(l:LK)(k:LK->RV):RV:=if oP sc x then k (l5 x v l)else .bad
noncomputable def sq(sc:bM):LR->LV->LK->(LK->RV)->RV
 | [],[],l,k=>k l
 |x::xs,v::vs,l,k=>uZ sc x v l λl=>sq sc xs vs l k
 |_,_,_,_=>.bad
noncomputable def gr(sc:bM)(t:aH)(v:V)(O:L)(l:LK)(k:LK->RV):RV:=match t with
 |.Name x _=>uZ sc x v l k
 |.Tuple es _ _=>(match il es,jk O v with
  |some xs,U vs=>if(J xs)<=8 then sq sc xs vs l k else .bad
  |_,_=>.bad)
 |_=>.bad
structure vO where
 e:bM->LK->L->aH->(QT)->RV
 t:bM->LK->L->aH->(Bool->L->RV)->RV
 x:bM->LK->L->dW->(KT)->(KT)->(QT)->RV
 c:V->LV->L->(QT)->RV
noncomputable def sr(f:L->aH->(QT)->RV):LX->L->(LV->L->RV)->RV
 | [],O,k=>k [] O
 |e::r,O,k=>if isStar e then .bad else f O e λv O=>sr f r O λvs O=>k (v::vs) O
noncomputable def MY(f:L->aH->(QT)->RV):List (Option aH)->LX->L->(List (V×V)->L->RV)->RV
 | [],[],O,k=>k [] O
 |some a::ks,v::vs,O,k=>f O a λkv O=>f O v λvv O=>MY f ks vs O λr O=>k ((kv,vv)::r) O
 |_,_,_,_=>.bad
noncomputable def fm(f:LK->L->dW->(KT)->(KT)->(QT)->RV):LT->LK->L->(KT)->(KT)->(QT)->RV
 | [],l,O,n,_,_=>n l O
 |s::r,l,O,n,c,q=>f l O s (λl O=>fm f r l O n c q) c q
noncomputable def Iz(f:L->aH->(Bool->L->RV)->RV)(op:BoolOp):LX->L->(Bool->L->RV)->RV
 | [],O,k=>k (op== .And) O
 |e::r,O,k=>f O e λb O=>match op with
  |.And=>if b then Iz f op r O k else k av O
  |.Or=>if b then k ai O else Iz f op r O k
noncomputable def E9(f:L->aH->(QT)->RV)(op:BoolOp):LX->L->(QT)->RV
 | [],_,_=>.bad
 | [e],O,k=>f O e k
 |e::r,O,k=>f O e λv O=>match v with
  |.bool b=>(match op with
   |.And=>if b then E9 f op r O k else k (.bool av) O
   |.Or=>if b then k (.bool ai) O else E9 f op r O k)
  |_=>.bad
noncomputable def cR(body:V->LK->L->(KT)->(QT)->RV)(nx:L->Nat->Option (Option V)):Nat->Nat->LK->L->(KT)->(QT)->RV
 |0,_,_,_,_,_=>.bad
 |f+1,i,l,O,n,q=>match nx O i with
  |.none=>.bad
  |some .none=>n l O
  |some (U v)=>body v l O (λl O=>cR body nx f (i+1) l O n q) q
theorem k9:cR body nx (f+1) i l O n q=(match nx O i with
  |.none=>.bad
  |some .none=>n l O
  |some (U v)=>body v l O (λl O=>cR body nx f (i+1) l O n q) q):=rfl
noncomputable def gp(body:V->L->(QT)->RV)(nx:L->Nat->Option (Option V)):Nat->Nat->L->(LV->L->RV)->RV
 |0,_,_,_=>.bad
 |f+1,i,O,k=>match nx O i with
  |.none=>.bad
  |some .none=>k [] O
  |some (U v)=>match body v O .ok with
   |.ok x O=>gp body nx f (i+1) O λxs O=>k (x::xs) O
   |_=>.bad
theorem oS:gp body nx (f+1) i O k=(match nx O i with
  |.none=>.bad
  |some .none=>k [] O
  |some (U v)=>match body v O .ok with
   |.ok x O=>gp body nx f (i+1) O λxs O=>k (x::xs) O
   |_=>.bad):=rfl
noncomputable def YK(test:LK->L->(Bool->L->RV)->RV)(body:LK->L->(KT)->(QT)->RV):Nat->LK->L->(KT)->(QT)->RV
 |0,_,_,_,_=>.bad
 |f+1,l,O,n,q=>test l O λc O=>if c then body l O (λl O=>YK test body f l O n q) q else n l O
noncomputable def Hp(O:L)(x:V)(k:It->RV):RV:=match x with
 |.bytes b=>if(J b)<=aR then k (.bytes b)else .bad
 |.ee a b=>if b - a<=1000/\ -(2^40)<a/\ a<2^40/\ -(2^40)<b/\ b<2^40 then k (.ee a b)else .bad
 |x=>bc (qm O x) k
noncomputable def vP(sc:bM)(l:LK):LK:=l.filter λp=>isFree sc p.1
noncomputable def IA(r:vO)(sc:bM)(l:LK)(O:L)(elt t it:aH)(bQ:bM)(k:LV->L->RV):RV:=
 if zN bQ sc it then r.e sc l O it λx O=>Hp O x λi=>
  gp (λv O k=>gr bQ t v O (vP bQ l) λl'=>r.e (pg bQ sc) l' O elt k) i.nx bE 0 O k
 else .bad
noncomputable def eK(P:fF)(r:vO)(sc:bM)(l:LK)(O:L)(e:aH)(k:QT):RV:=match e with
 |.Constant c _ _=>bc (oO c) λv=>k v O
 |.Name x _=>if x==aE "__debug__" then .bad else match look x l with
  |some v=>k v O
  |.none=>if mu sc x then bc (P.glob x) λv=>k v O else .bad
 |.BoolOp op vs _=>E9 (r.e sc l) op vs O k
 |.BinOp a op b _=>r.e sc l O a λx O=>r.e sc l O b λy O=>pC op x y O k
 |.UnaryOp op a _=>r.e sc l O a λx O=>match op,x with
  |.Not,.bool b=>k (.bool !b) O
  |.USub,.int i=>k (.int (-i)) O
  |_,_=>.bad
 |.IfExp t a b _=>r.t sc l O t λc O=>if c then r.e sc l O a k else r.e sc l O b k
 |.Dict ks vs _=>if(J ks)<=15/\ (J ks)=J vs/\ ks.all (·.isSome)then MY (r.e sc l) ks vs O λkvs O=>(Md kvs O).bind k else .bad
 |.List es _=>if(J es)<=100 then sr (r.e sc l) es O λvs O=>k (.ref (J O)) (O++ [.list vs])else .bad
 |.Tuple es _ _=>if(J es)<=100 then sr (r.e sc l) es O λvs O=>k (.tup vs) O else .bad
 |.Compare a ops bs _=>match one ops,one bs with
  |some op,U b=>if mW b then r.e sc l O a λx O=>r.e sc l O b λy O=>bc (cmp O op x y) λc=>k (.bool c) O else .bad
  |_,_=>.bad
 |.Attribute o a _=>if mD o then r.e sc l O o λx O=>bc (Rd P x a O) λv=>k v O else .bad
 |.Subscript o i _=>match wz i with
  |some (lo,hi)=>r.e sc l O o λx O=>
   (match lo with|some e=>r.e sc l O e|.none=>λk=>k .none O) λa O=>
   (match hi with|some e=>r.e sc l O e|.none=>λk=>k .none O) λb O=>sQ x a b O k
  |.none=>r.e sc l O o λx O=>r.e sc l O i λy O=>qP O x y λv=>k v O
 |.Call f args ks pos=>match ks with
  | []=>match Em f with
   |some (o,m,apos)=>if mD o/\ (J args)<=8/\ apos.endLine=pos.line/\ args.all (λe=>!isStar e)then r.e sc l O o λx O=>bc (dw x) λi=>match nB O i with
    |some (C,kvs)=>bc ((P.cls C).bind λd=>if(look m kvs).isNone then(d.meths.lookup m)else .none) λf=>
     sr (r.e sc l) args O λvs O=>if iC P (.con (.ref f))then r.c (.con (.ref f)) (x::vs) O k else .bad
    |.none=>bc O[i]? λmo=>bc (yz mo m) λq=>sr (r.e sc l) args O λvs O=>Bb q i vs O k
    else .bad
   |.none=>if(J args)<=8 then r.e sc l O f λg O=>sr (r.e sc l) args O λvs O=>if iC P g then r.c g vs O k else .bad else .bad
  |_=>.bad
 |.ListComp elt gs bQ _=>bc (El gs) λz=>IA r sc l O elt z.1 z.2 bQ λout O=>k (.ref (J O)) (O++ [.list out])
 |_=>.bad
noncomputable def RZ(r:vO)(sc:bM)(l:LK)(O:L)(e:aH)(k:Bool->L->RV):RV:=r.e sc l O e λv O=>match v with
  |.bool b=>k b O
  |_=>.bad
noncomputable def tK(r:vO)(sc:bM)(l:LK)(O:L)(e:aH)(k:Bool->L->RV):RV:=match e with
 |.UnaryOp op a _=>match op with
  |.Not=>r.t sc l O a λb O=>k (!b) O
  |_=>RZ r sc l O e k
 |.BoolOp op vs _=>Iz (r.t sc l) op vs O k
 |.Compare a ops bs _=>match one ops,one bs with
  |some op,U b=>if mW b then r.e sc l O a λx O=>r.e sc l O b λy O=>bc (cmp O op x y) λc=>k c O else .bad
  |_,_=>.bad
 |.IfExp _ _ _ _=>.bad
 |.NamedExpr _ _ _=>.bad
 |e=>RZ r sc l O e k
noncomputable def YL(r:vO)(sc:bM)(l:LK)(O:L)(e:aH)(k:QT):RV:=
 if sI e then bc (lcV e) λy=>bc (El y.2.1) λz=>IA r sc l O y.1 z.1 z.2 y.2.2 λout O=>k (.ref (J O)) (O++ [.list out])else r.e sc l O e k
noncomputable def xK(P:fF)(r:vO)(sc:bM)(l:LK)(O:L)(s:dW)(n c:KT)(q:QT):RV:=match s with
 |.Expr e _=>if sI e then .bad else r.e sc l O e λv O=>match v with
  |.none=>n l O
  |_=>.bad
 |.Return (U e) _=>r.e sc l O e q
 |.Continue _=>c l O
 |.Assign [t] e _=>(match t with
  |.Name x _=>YL r sc l O e λv O=>uZ sc x v l λl=>n l O
  |.Tuple es _ _=>bc (il es) λxs=>if(!En e||!distinct xs)then .bad else r.e sc l O e λv O=>bc (jk O v) λvs=>sq sc xs vs l λl=>n l O
  |.Attribute o a _=>r.e sc l O e λv O=>r.e sc l O o λx O=>bc (XG P x a v O) λO=>n l O
  |.Subscript o i _=>(match Ek i with
   |some (lo,hi)=>r.e sc l O e λv O=>r.e sc l O o λx O=>r.e sc l O lo λa O=>r.e sc l O hi λb O=>bc (jB x a b v O) λO=>n l O
   |.none=>if isSlice i then .bad else r.e sc l O e λv O=>r.e sc l O o λx O=>r.e sc l O i λy O=>bc (setItem x y v O) λO=>n l O)
  |_=>.bad)
 |.AugAssign (.Name x _) .Add e _=>bc ((look x l).bind dE) λa=>r.e sc l O e λv O=>bc (dE v) λb=>uZ sc x (.int (a+b)) l λl=>n l O
 |.If t a b _=>r.t sc l O t λd O=>if d then fm (r.x sc) a l O n c q else fm (r.x sc) b l O n c q
 |.For t it body [] _=>if wx it then r.e sc l O it λx O=>Hp O x λi=>
   cR (λv l O n q=>gr sc t v O l λl=>fm (r.x sc) body l O n n q) i.nx bE 0 l O n q
  else .bad
 |.While t body [] _=>YK (λl O=>r.t sc l O t) (λl O n q=>fm (r.x sc) body l O n n q) 8 l O n q
 |.Raise e cause _=>(match zO e cause with
  |some (x,k)=>if x=P.exc/\ (look x l).isNone/\ mu sc x then(match oO k with
   |some v=>.exc v O
   |.none=>.bad)
   else .bad
  |.none=>.bad)
 |_=>.bad
noncomputable def yV(params:LR)(dflt args:LV):Option LK:=
 if(J args)+J dflt=(J params)then U (params.zip (args++dflt))else .none
noncomputable def cK(P:fF)(r:vO)(f:V)(args:LV)(O:L)(k:QT):RV:=match f with
 |.con (.ref a)=>(match P.fn a with
  |some d=>bc (yV d.params d.dflt args) λl=>fm (r.x d.scope) d.body l O (λG O=>k .none O) (λG O=>k .none O) k
  |.none=>match P.cls a with
   |some d=>(match r.c (.con (.ref d.init)) (.ref (J O)::args) (O++ [.inst a []]) .ok with
    |.ok .none aZ=>k (.ref (J O)) aZ
    |_=>.bad)
   |.none=>.bad)
 |.con v=>ei v args O k
 |_=>.bad
noncomputable def DU(P:fF)(c:V->LV->L->(QT)->RV):Nat->vO
 |0=>#[λG G G G G=>.bad,λG G G G G=>.bad,λG G G G G G G=>.bad,c]
 |d+1=>#[eK P (DU P c d),tK (DU P c d),xK P (DU P c d),c]
noncomputable def le(a b:RV):Prop:=a≠ .bad->b=a
theorem le.bad{b:RV}:le .bad b:=λh=>absurd rfl h
theorem le.refl(a:RV):le a a:=λG=>rfl
theorem le.to{a b c:RV}(h:le a b)(e:b=c):le a c:=e▸h
theorem le.on(h:le a b)(e:c=a):le c b:=e▸h
theorem bind_assoc{α β:Type}{m:Res α}{f:α->L->Res β}{g:β->L->RV}:(m.bind f).bind g=m.bind λa O=>(f a O).bind g:=by rcases m<;>rfl
theorem le.bind{α:Type}{m:Res α}{k k':α->L->RV}(h:∀v O,le (k v O) (k' v O)):le (m.bind k) (m.bind k'):=by
 induction m using Res.casesOn with
 |ok a O=>exact h a O
 |exc y O=>exact le.refl _
 |bad=>exact le.bad
theorem le.some{α:Type}{o:Option α}{k:α->RV}{O:L}{k':α->L->RV}(h:∀a,le (k a) (k' a O)):le (bc o k) ((eD O o).bind k'):=by
 rcases o with _|a
 ·exact le.bad
 ·exact h a
theorem le.ask{p:Prop} [Decidable p](h:p->le a b):le (if p then a else .bad) b:=by
 by_cases q:p
 ·rw [au q];exact h q
 ·rw [ax q];exact le.bad
theorem le.eL{p:Prop} [Decidable p]{α:Type}{a' b':Res α}{k':α->L->RV}(h:p->le a (a'.bind k'))(h':¬p->le b (b'.bind k')):le (if p then a else b) ((if p then a' else b').bind k'):=by
 by_cases q:p
 ·rw [au q,au q];exact h q
 ·rw [ax q,ax q];exact h' q
noncomputable abbrev ic{α:Type}(k k':α->L->RV):Prop:=∀v O,le (k v O) (k' v O)
theorem afV:l5 x v ((z,w)::r)=if z=x then(z,v)::r else(z,w)::l5 x v r:=rfl
theorem wF:bA ((z,w)::r) y=if z=y then U w else bA r y:=rfl
theorem Hq:bA (l5 x v l)=upd x v (bA l):=by
 induction l with
 |nil=>
  funext y
  show(if x=y then U v else .none)=if y=x then U v else .none
  by_cases h:x=y
  ·rw [au h,au h.symm]
  ·rw [ax h,ax (bP h)]
 |cons p r ih=>
  obtain ⟨z,w⟩:=p
  funext y
  show _=if y=x then U v else bA ((z,w)::r) y
  rw [afV,wF];by_cases hz:z=x
  ·rw [au hz,wF,←hz]
   by_cases h:z=y
   ·rw [au h,au h.symm]
   ·rw [ax h,ax (bP h),ax h]
  ·rw [ax hz,wF]
   by_cases h:z=y
   ·rw [au h,au h,ax (h▸hz)]
   ·rw [ax h,ax h];exact congrFun ih y
theorem R0:bA (vP sc l)=freeOf sc (bA l):=by
 induction l with
 |nil=>funext y;exact (ite_self _).symm
 |cons p r ih=>
  obtain ⟨z,w⟩:=p
  funext y
  have ih:bA (vP sc r) y=if isFree sc y then bA r y else .none:=congrFun ih y
  show bA (KP _ ((z,w)::r)) y=if isFree sc y then bA ((z,w)::r) y else .none
  rw [List.filter_cons,wF];by_cases hz:isFree sc z=ai
  ·rw [au hz,wF]
   by_cases h:z=y
   ·rw [au h,au h,au (h▸hz)]
   ·rw [ax h,ax h];exact ih
  ·rw [ax hz]
   refine ih.trans ?_;by_cases h:z=y
   ·rw [ax (h▸hz),ax (h▸hz)]
   ·rw [ax h]
theorem Um(x:aF)(ps:LK):(ps.find? λp=>p.1=x).map (·.2)=look x ps:=by
 induction ps with
 |nil=>rfl
 |cons p ps ih=>
  simp -iota only [xU];unfold look;by_cases h:p.1=x
  ·rw [dC h,au h];rfl
  ·rw [fy h,ax h];exact ih
theorem Fb(h:yV params dflt args=U l):bindArgs params dflt args=U (bA l):=by
 unfold yV at h;unfold bindArgs;by_cases hc:J args+J dflt=J params
 ·rw [au hc]at h⊢
  exact I U (funext λx=>(Um x _).trans (congrFun (I bA (bh h)) x))
 ·rw [ax hc]at h;exact nomatch h
theorem YM{p:Prop} [Decidable p](h:ic k k'):le (if p then k (.int c) O else .bad) ((dN (if p then U c else .none) λc=>Res.ok (V.int c) O).bind k'):=by
 by_cases q:p
 ·rw [au q,au q];exact h _ _
 ·rw [ax q];exact le.bad
set_option exponentiation.threshold 2000 in
theorem acf(h:ic k k'):le (gM op a b λc=>k (.int c) O) ((dN (binI op a b) λc=>Res.ok (V.int c) O).bind k'):=by
 rcases op<;>first|with_reducible exact le.bad|exact YM h|exact h _ _|exact le.bad
theorem le.ti{p:Prop} [Decidable p](h:ic k k'):le (if p then k v O else .bad) ((if p then Res.ok v O else .bad).bind k'):=by
 by_cases q:p
 ·rw [au q,au q];exact h _ _
 ·rw [ax q];exact le.bad
theorem le.opt{α β:Type}{o:Option α}{f:α->RV}{g:α->Res β}{k':β->L->RV}(h:∀a,le (f a) ((g a).bind k')):le (bc o f) ((dN o g).bind k'):=by
 rcases o with _|a
 ·exact le.bad
 ·exact h a
theorem afW(h:ic k k'):le (pC op a b O k) ((bin op a b O).bind k'):=by
 unfold pC bin;induction dE b using aK with
 |some n=>induction dE a using aK with
  |some i=>exact acf h
  |none=>exact le.bind h
 |none=>induction op using r6 with
  |Add=>
   unfold Mb;induction nS a using aK with
   |some _=>exact le.bind h
   |none=>induction jJ a using aK with
    |some a=>exact le.opt λb=>le.ti h
    |none=>exact le.opt λi=>le.opt λj=>le.opt λxs=>le.opt λys=>le.ti h
  |_=>exact le.bad
theorem le.MZ{α:Type}{o:Option α}{f:α->RV}{g:α->Option V}{O:L}{k':QT}(h:∀a,le (f a) ((eD O (g a)).bind k')):le (bc o f) ((eD O (o.bind g)).bind k'):=by
 rcases o with _|a
 ·exact le.bad
 ·exact h a
theorem Gm{xs:LV}{i:Int}{k:V->RV}{k':QT}{O:L}(h:∀v,le (k v) (k' v O)):le (ng xs i k) ((eD O (G5 xs i)).bind k'):=by
 unfold ng G5;by_cases q:0<=i/\ i<1099511627776
 ·rw [au q,au q];exact le.some h
 ·rw [ax q];exact le.bad
theorem YN{o i:V}{k:V->RV}{k':QT}{O:L}(h:∀v,le (k v) (k' v O)):le (qP O o i k) ((eD O (index O o i)).bind k'):=by
 unfold qP index;induction dw o using aK with
 |some j=>
  dsimp only;induction listAt O j using aK with
  |some xs=>exact le.MZ λi=>Gm h
  |none=>induction dictAt O j using aK with
   |some xs=>exact le.MZ λi=>le.some h
   |none=>exact le.MZ λxs=>le.MZ λi=>le.some h
 |none=>
  refine le.MZ λn=>?_;induction pe o using aK with
  |some xs=>exact Gm h
  |none=>induction yy o using aK with
   |some xs=>exact Gm h
   |none=>exact le.some h
theorem Hr{p:Prop} [Decidable p]{α:Type}{a:α}{k:α->RV}:(if p then k a else .bad)=bc (if p then U a else .none) k:=by
 by_cases q:p
 ·rw [au q,au q];rfl
 ·rw [ax q,ax q];rfl
theorem Un{O:L}{x:V}{k:It->RV}:Hp O x k=bc (qm O x) k:=by
 induction x using V.casesOn with
 |bytes b=>exact Hr
 |ee a b=>exact Hr
 |_=>rfl
theorem slice_le(h:ic k k'):le (sQ o lo hi O k) ((slice o lo hi O).bind k'):=
 le.opt λi=>le.opt λlo=>le.opt λhi=>by
  induction listAt O i using aK with
  |some xs=>exact le.ti h
  |none=>exact le.opt λb=>le.ti h
theorem afX(h:ic k k'):le (Gl .len x O k) ((Bx .len x O).bind k'):=by
 induction x using V.casesOn with
 |lst xs=>exact le.ti h
 |bytes xs=>exact le.ti h
 |ref i=>
  unfold Gl Bx len;dsimp only;induction listAt O i using aK with
  |some xs=>exact le.ti h
  |none=>induction fY O i using aK with
   |some xs=>exact le.ti h
   |none=>exact le.bad
 |_=>exact (le.bind h).on rfl
theorem afY(h:ic k k'):le (Gl b x O k) ((Bx b x O).bind k'):=by
 induction b using Bf.casesOn with
 |len=>exact afX h
 |max=>exact le.bad
 |range=>induction x using V.casesOn with
  |int b=>exact le.ti h
  |_=>exact le.bad
 |tuple=>induction x using V.casesOn with
  |ref i=>
   unfold Gl Bx;dsimp only;induction listAt O i using aK with
   |some xs=>exact le.ti h
   |none=>exact le.bad
  |_=>exact le.bad
 |bytes=>induction x using V.casesOn with
  |bytes b=>exact h _ _
  |ref i=>
   unfold Gl Bx;dsimp only;induction listAt O i using aK with
   |some xs=>
    dsimp only;induction bytesOf xs using aK with
    |some b=>exact le.ti h
    |none=>exact le.bad
   |none=>
    induction fY O i using aK with
    |some b=>exact le.ti h
    |none=>exact le.bad
  |_=>exact le.bad
 |bu=>induction x using V.casesOn with
  |bytes b=>exact le.ti h
  |int n=>exact le.ti h
  |_=>exact le.bad
theorem afZ(h:ic k k'):le (afU b x y O k) ((bf2 b x y O).bind k'):=by
 induction x using V.casesOn with
 |int a=>induction y using V.casesOn with
  |int c=>induction b using Bf.casesOn with
   |max=>exact h _ _
   |range=>exact le.ti h
   |_=>exact le.bad
  |_=>exact le.bad
 |_=>exact le.bad
theorem yW(h:ic k k'):le (ei f args O k) ((jU f args O).bind k'):=by
 unfold ei jU;induction S3 f using aK with
 |none=>exact le.bad
 |some b=>induction args using bS with
  |nil=>exact le.bad
  |cons x r=>induction r using bS with
   |nil=>exact afY h
   |cons y r=>induction r using bS with
    |nil=>exact afZ h
    |cons _ _=>exact le.bad
theorem acg(h:ic k k'):le (Bb m i args O k) ((methodCall m i args O).bind k'):=by
 induction m using Mc.casesOn with
 |append=>induction args using bS with
  |nil=>exact le.bad
  |cons v r=>induction r using bS with
   |nil=>exact le.opt λxs=>le.ti h
   |cons _ _=>exact le.bad
 |get=>exact (le.bind h).on rfl
 |update=>exact (le.bind h).on rfl
theorem yX{sc:bM}{x:aF}{v:V}{l:LK}{k:LK->RV}{k':Loc->L->RV}{O:L}(h:∀l,le (k l) (k' (bA l) O)):le (uZ sc x v l k) ((eD O (store sc x v (bA l))).bind k'):=by
 unfold uZ store;by_cases q:oP sc x=ai
 ·rw [au q,au q,←Hq];exact h _
 ·rw [ax q];exact le.bad
theorem YO{α β:Type}{o:Option α}{f:α->Option β}{O:L}{k':β->L->RV}:((eD O o).bind λa G=>(eD O (f a)).bind k')=(eD O (o.bind f)).bind k':=by rcases o<;>rfl
theorem Hs{sc:bM}{k:LK->RV}{k':Loc->L->RV}{O:L}(h:∀l,le (k l) (k' (bA l) O))(xs:LR):∀(vs:LV) (l:LK),le (sq sc xs vs l k) ((eD O (storeAll sc xs vs (bA l))).bind k'):=by
 induction xs with
 |nil=>intro vs l;induction vs using bS with
  |nil=>exact h _
  |cons _ _=>exact le.bad
 |cons x xs ih=>intro vs l;induction vs using bS with
  |nil=>exact le.bad
  |cons v vs=>exact (yX λl=>ih vs l).to YO
theorem Qj(h:∀l,le (k l) (k' (bA l) O)):le (gr sc t v O l k) ((eD O (jl sc t v O (bA l))).bind k'):=by
 induction t using eV with
 |Name x p=>exact yX h
 |Tuple es k p=>
  unfold gr jl;dsimp only;induction il es using aK with
  |none=>exact le.bad
  |some xs=>induction jk O v using aK with
   |none=>exact le.bad
   |some vs=>
    refine le.ask λq=>?_;dsimp only;rw [au q];exact Hs h _ _ _
 |_=>exact le.bad
structure jc(rK:vO)(r:Ev):Prop where
 e:∀{sc l O e k k'},ic k k'->le (rK.e sc l O e k) ((r.e sc (bA l) O e).bind k')
 t:∀{sc l O e k k'},ic k k'->le (rK.t sc l O e k) ((r.t sc (bA l) O e).bind k')
 x:∀{sc l O s n c q} {F:fz×Loc->L->RV},(∀l O,le (n l O) (F (.next,bA l) O))->(∀l O,le (c l O) (F (.cont,bA l) O))->(∀v l O,le (q v O) (F (.ret v,l) O))->le (rK.x sc l O s n c q) ((r.x sc (bA l) O s).bind F)
 c:∀{f args O k k'},ic k k'->le (rK.c f args O k) ((r.c f args O).bind k')
noncomputable def HE{α:Type}(f:L->aH->(α->L->RV)->RV)(g:L->aH->Res α):Prop:=∀O e k k',ic k k'->le (f O e k) ((g O e).bind k')
noncomputable def HX(f:LK->L->dW->(KT)->(KT)->(QT)->RV)(g:Loc->L->dW->Res (fz×Loc)):Prop:=
 ∀l O s n c q (F:fz×Loc->L->RV),(∀l O,le (n l O) (F (.next,bA l) O))->(∀l O,le (c l O) (F (.cont,bA l) O))->(∀v l O,le (q v O) (F (.ret v,l) O))->le (f l O s n c q) ((g (bA l) O s).bind F)
noncomputable def HB(bK:LK->L->(KT)->(QT)->RV)(b:Loc->L->Res (fz×Loc)):Prop:=
 ∀l O n q (F:fz×Loc->L->RV),(∀l O,le (n l O) (F (.next,bA l) O))->(∀l O,le (n l O) (F (.cont,bA l) O))->(∀v l O,le (q v O) (F (.ret v,l) O))->le (bK l O n q) ((b (bA l) O).bind F)
theorem jc.he{rK:vO}{r:Ev}(S:jc rK r){sc:bM}{l:LK}:HE (rK.e sc l) (r.e sc (bA l)):=λG G G G h=>S.e h
theorem jc.ht{rK:vO}{r:Ev}(S:jc rK r){sc:bM}{l:LK}:HE (rK.t sc l) (r.t sc (bA l)):=λG G G G h=>S.t h
theorem jc.hx{rK:vO}{r:Ev}(S:jc rK r){sc:bM}:HX (rK.x sc) (r.x sc):=λG G G G G G G h1 h2 h3=>S.x h1 h2 h3
section
variable{P:fF}{rK:vO}{r:Ev}{sc:bM}{l:LK}
theorem RB{α β:Type}{m:Res α}{f:α->L->Res β}{g:β->L->RV}{a:RV}(h:le a (m.bind λv O=>(f v O).bind g)):le a ((m.bind f).bind g):=h.to bind_assoc.symm
theorem Ag{f:L->aH->(QT)->RV}{g:L->aH->Res V}(hf:HE f g)(es:LX):∀{O:L} {k k':LV->L->RV},ic k k'->le (sr f es O k) ((l9 g es O).bind k'):=by
 induction es with
 |nil=>intro O k k' h;exact h _ _
 |cons e es ih=>
  intro O k k' h;exact le.eL (λG=>le.bad) λG=>RB (hf _ _ _ _ λv O=>RB (ih λvs O=>h _ _))
theorem YP{f:L->aH->(QT)->RV}{g:L->aH->Res V}(hf:HE f g)(ks:List (Option aH)):∀{vs:LX} {O:L} {k k':List (V×V)->L->RV},ic k k'->le (MY f ks vs O k) ((wu g ks vs O).bind k'):=by
 induction ks with
 |nil=>intro vs O k k' h;induction vs using bS with
  |nil=>exact h _ _
  |cons _ _=>exact le.bad
 |cons a ks ih=>intro vs O k k' h;induction a using aK with
  |none=>exact le.bad
  |some a=>induction vs using bS with
   |nil=>exact le.bad
   |cons v vs=>exact RB (hf _ _ _ _ λx O=>RB (hf _ _ _ _ λy O=>RB (ih λvs O=>h _ _)))
theorem ach{f:L->aH->(Bool->L->RV)->RV}{g:L->aH->Res Bool}(hf:HE f g)(op:BoolOp)(es:LX):∀{O:L} {k k':Bool->L->RV},ic k k'->le (Iz f op es O k) ((Rf g op es O).bind k'):=by
 induction es with
 |nil=>intro O k k' h;exact h _ _
 |cons e es ih=>
  intro O k k' h;refine RB (hf _ _ _ _ λb O=>?_);rcases op<;>rcases b<;>first|exact h _ _|exact ih h
theorem YQ{f:L->aH->(QT)->RV}{g:L->aH->Res V}(hf:HE f g)(op:BoolOp)(es:LX):∀{O:L} {k k':QT},ic k k'->le (E9 f op es O k) ((uQ g op es O).bind k'):=by
 induction es with
 |nil=>intro O k k' h;exact le.bad
 |cons e es ih=>
  intro O k k' h;induction es using bS with
  |nil=>exact hf _ _ _ _ h
  |cons e2 es=>
   refine RB (hf _ _ _ _ λv O=>?_);induction v using V.casesOn with
   |bool b=>rcases op<;>rcases b<;>first|exact h _ _|exact ih h
   |_=>exact le.bad
theorem wG{f:LK->L->dW->(KT)->(KT)->(QT)->RV}{g:Loc->L->dW->Res (fz×Loc)}
  (hf:HX f g) {n c:KT} {q:QT} {F:fz×Loc->L->RV} (h1:∀l O,le (n l O) (F (.next,bA l) O)) (h2:∀l O,le (c l O) (F (.cont,bA l) O)) (h3:∀v l O,le (q v O) (F (.ret v,l) O)) (ss:LT):
  ∀{l:LK} {O:L},le (fm f ss l O n c q) ((mf g ss (bA l) O).bind F):=by
 induction ss with
 |nil=>intro l O;exact h1 _ _
 |cons s ss ih=>intro l O;exact RB (hf _ _ _ _ _ _ _ (λl O=>ih) (λl O=>h2 _ _) λv l O=>h3 _ _ _)
theorem aci{bK:V->LK->L->(KT)->(QT)->RV}{b:V->Loc->L->Res (fz×Loc)}{nx:L->Nat->Option (Option V)}
  (hb:∀v,HB (bK v) (b v)) {n:KT} {q:QT} {F:fz×Loc->L->RV}
  (h1:∀l O,le (n l O) (F (.next,bA l) O)) (h3:∀v l O,le (q v O) (F (.ret v,l) O)) (f:Nat):∀{i:Nat} {l:LK} {O:L},le (cR bK nx f i l O n q) ((loop b nx f i (bA l) O).bind F):=by
 induction f with
 |zero=>intro i l O;exact le.bad
 |succ f ih=>
  intro i l O;rw [k9,aer];induction nx O i using aK with
  |none=>exact le.bad
  |some o=>induction o using aK with
   |none=>exact h1 _ _
   |some v=>exact RB (hb v _ _ _ _ _ (λl O=>ih) (λl O=>ih) λv l O=>h3 _ _ _)
theorem af0{tK:LK->L->(Bool->L->RV)->RV}{t:Loc->L->Res Bool}{bK:LK->L->(KT)->(QT)->RV}{b:Loc->L->Res (fz×Loc)}
  (ht:∀l O k k',ic k k'->le (tK l O k) ((t (bA l) O).bind k'))
  (hb:HB bK b) {n:KT} {q:QT} {F:fz×Loc->L->RV}
  (h1:∀l O,le (n l O) (F (.next,bA l) O)) (h3:∀v l O,le (q v O) (F (.ret v,l) O)) (f:Nat):∀{l:LK} {O:L},le (YK tK bK f l O n q) ((whl t b f (bA l) O).bind F):=by
 induction f with
 |zero=>intro l O;exact le.bad
 |succ f ih=>
  intro l O;refine RB (ht _ _ _ _ λd O=>?_);induction d using dj with
  |false=>exact h1 _ _
  |true=>exact RB (hb _ _ _ _ _ (λl O=>ih) (λl O=>ih) λv l O=>h3 _ _ _)
theorem YR{α:Type}{m:Res α}{k':List α->L->RV}{x:α}{m':Res (List α)}:(mn m').bind (λxs O=>k' (x::xs) O)=(mn (m'.bind λxs O=>.ok (x::xs) O)).bind k':=by rcases m'<;>rfl
theorem YS(hb:∀v O k k',ic k k'->le (bK v O k) ((b v O).bind k'))(f:Nat):∀{i:Nat} {O:L} {k k':LV->L->RV},ic k k'->le (gp bK nx f i O k) ((mn (turns b nx f i O)).bind k'):=by
 induction f with
 |zero=>intro i O k k' h;exact le.bad
 |succ f ih=>
  intro i O k k' h;rw [oS,abt];induction nx O i using aK with
  |none=>exact le.bad
  |some o=>induction o using aK with
   |none=>exact h _ _
   |some v=>
    have z:=hb v O .ok .ok λG G=>le.refl _;simp only [show(b v O).bind Res.ok=b v O by cases b v O<;>rfl]at z;dsimp only;generalize bK v O .ok=y at z⊢;generalize b v O=w at z⊢;induction y using Res.casesOn with
    |ok x aZ=>
     rw [z (λe=>Res.noConfusion rfl (heq_of_eq e))];exact (ih λG G=>h _ _).to (YR (m:=w))
    |_=>exact le.bad
theorem acj(S:jc rK r)(h:ic k k'):le (IA rK sc l O elt t it bQ k) ((sD r sc (bA l) O elt t it bQ).bind k'):=by
 refine le.eL (λG=>RB (S.e λx O=>?_)) λG=>le.bad;rw [Un];induction qm O x using aK with
 |none=>exact le.bad
 |some i=>exact YS (λv O k k' h=>RB (R0▸Qj λl=>S.e h)) _ h
theorem ack{x:aF}{pos:bz}{O:L}{k k':QT}(h:ic k k'):le (eK P rK sc l O (.Name x pos) k) ((jK P r sc (bA l) O (.Name x pos)).bind k'):=by
 refine le.eL (λG=>le.bad) λG=>?_;rw [show bA l x=look x l from rfl];induction look x l using aK with
 |some v=>exact h _ _
 |none=>exact le.eL (λG=>le.some λv=>h _ _) λG=>le.bad
theorem YT{op:UnaryOp}{x:V}{O:L}{k k':QT}(h:ic k k'):le (match op,x with
  |.Not,.bool b=>k (V.bool !b) O
  |.USub,.int i=>k (V.int (-i)) O
  |_,_=>.bad) ((match op,x with
  |.Not,.bool b=>Res.ok (V.bool !b) O
  |.USub,.int i=>.ok (V.int (-i)) O
  |_,_=>.bad).bind k'):=by
 induction op using yr with
 |Not=>induction x using V.casesOn with
  |bool b=>exact h _ _
  |_=>exact le.bad
 |USub=>induction x using V.casesOn with
  |int b=>exact h _ _
  |_=>exact le.bad
 |_=>exact le.bad
theorem acm(S:jc rK r)(h:ic k k'):le (rK.e sc l O o λx O=>rK.e sc l O i λy O=>qP O x y λv=>k v O) (((r.e sc (bA l) O o).bind λx O=>(r.e sc (bA l) O i).bind λy O=>eD O (index O x y)).bind k'):=
 RB (S.e λx O=>RB (S.e λy O=>YN λv=>h _ _))
theorem Uo(S:jc rK r):∀(eo:Option aH) {O:L} {k k':QT},ic k k'->le ((match eo with|some e=>rK.e sc l O e|none=>λk=>k .none O) k) ((match eo with|some e=>r.e sc (bA l) O e|none=>.ok .none O).bind k'):=λeo O k k' h=>by
 rcases eo with _|e
 ·exact h _ _
 ·exact S.e h
theorem YU(S:jc rK r)(h:ic k k'):
  le (if(J args)<=8 then rK.e sc l O f λg O=>sr (rK.e sc l) args O λvs O=>if iC P g then rK.c g vs O k else .bad else .bad) ((if(J args)<=8 then(r.e sc (bA l) O f).bind λg O=>(l9 (r.e sc (bA l)) args O).bind λvs O=>if iC P g then r.c g vs O else .bad else .bad).bind k'):=
 le.eL (λG=>RB (S.e λg O=>RB (Ag S.he _ λvs O=>le.eL (λG=>S.c h) λG=>le.bad))) λG=>le.bad
theorem YV(S:jc rK r)(h:ic k k'):
  le (bc (dw x) λi=>match nB O i with
    |some (C,kvs)=>bc ((P.cls C).bind λd=>if(look m kvs).isNone then(d.meths.lookup m)else .none) λf=>
     sr (rK.e sc l) args O λvs O=>if iC P (.con (.ref f))then rK.c (.con (.ref f)) (x::vs) O k else .bad
    |.none=>bc O[i]? λmo=>bc (yz mo m) λq=>sr (rK.e sc l) args O λvs O=>Bb q i vs O k) ((dN (dw x) λi=>match nB O i with
    |some (C,kvs)=>dN ((P.cls C).bind λd=>if(look m kvs).isNone then(d.meths.lookup m)else .none) λf=>
     (l9 (r.e sc (bA l)) args O).bind λvs O=>if iC P (.con (.ref f))then r.c (.con (.ref f)) (x::vs) O else .bad
    |.none=>dN O[i]? λmo=>dN (yz mo m) λk=>(l9 (r.e sc (bA l)) args O).bind λvs O=>methodCall k i vs O).bind k'):=by
 refine le.opt λi=>?_;induction nB O i using aK with
 |some z=>exact le.opt λf=>RB (Ag S.he _ λvs O=>le.eL (λG=>S.c h) λG=>le.bad)
 |none=>exact le.opt λmo=>le.opt λq=>RB (Ag S.he _ λvs O=>acg h)
theorem BF(S:jc rK r){elt:aH}{gs:Option (aH×aH)}{bQ:bM}{O:L}{k k':QT}(h:ic k k'):
  le (bc gs λz=>IA rK sc l O elt z.1 z.2 bQ λout O=>k (.ref (J O)) (O++ [.list out]))
   ((dN gs λz=>(sD r sc (bA l) O elt z.1 z.2 bQ).bind λout O=>new (.list out) O).bind k'):=
 le.opt λz=>RB (acj S λout O=>h _ _)
theorem af1(S:jc rK r){a:aH}{o:Option tW}{ob:Option aH}{O:L}{k k':QT}(h:ic k k'):
  le (match o,ob with
   |some op,U b=>if mW b then rK.e sc l O a λx O=>rK.e sc l O b λy O=>bc (cmp O op x y) λc=>k (.bool c) O else .bad
   |_,_=>.bad) ((match o,ob with
   |some op,U b=>if mW b then(r.e sc (bA l) O a).bind λx O=>(r.e sc (bA l) O b).bind λy O=>(eD O (cmp O op x y)).bind λc O=>Res.ok (V.bool c) O else .bad
   |_,_=>.bad).bind k'):=by
 rcases o with _|op
 ·exact le.bad
 ·rcases ob with _|b
  ·exact le.bad
  ·exact le.eL (λG=>RB (S.e λx O=>RB (S.e λy O=>RB (le.some λc=>h _ _)))) λG=>le.bad
theorem acn(S:jc rK r){a:aH}{o:Option tW}{ob:Option aH}{O:L}{k k':Bool->L->RV}(h:ic k k'):
  le (match o,ob with
   |some op,U b=>if mW b then rK.e sc l O a λx O=>rK.e sc l O b λy O=>bc (cmp O op x y) λc=>k c O else .bad
   |_,_=>.bad) ((match o,ob with
   |some op,U b=>if mW b then(r.e sc (bA l) O a).bind λx O=>(r.e sc (bA l) O b).bind λy O=>eD O (cmp O op x y)else .bad
   |_,_=>.bad).bind k'):=by
 rcases o with _|op
 ·exact le.bad
 ·rcases ob with _|b
  ·exact le.bad
  ·exact le.eL (λG=>RB (S.e λx O=>RB (S.e λy O=>le.some λc=>h _ _))) λG=>le.bad
theorem sub_le(S:jc rK r){o i:aH}{z:Option (Option aH×Option aH)}{O:L}{k k':QT}(h:ic k k'):
  le (match z with
   |some (lo,hi)=>rK.e sc l O o λx O=>
    (match lo with|some e=>rK.e sc l O e|.none=>λk=>k .none O) λa O=>
    (match hi with|some e=>rK.e sc l O e|.none=>λk=>k .none O) λb O=>sQ x a b O k
   |.none=>rK.e sc l O o λx O=>rK.e sc l O i λy O=>qP O x y λv=>k v O) ((match z with
   |some (lo,hi)=>(r.e sc (bA l) O o).bind λx O=>
    (match lo with|some e=>r.e sc (bA l) O e|.none=>.ok .none O).bind λa O=>
    (match hi with|some e=>r.e sc (bA l) O e|.none=>.ok .none O).bind λb O=>slice x a b O
   |.none=>(r.e sc (bA l) O o).bind λx O=>(r.e sc (bA l) O i).bind λy O=>eD O (index O x y)).bind k'):=by
 rcases z with _|z
 ·exact acm S h
 ·exact RB (S.e λx O=>RB (Uo S z.1 λa O=>RB (Uo S z.2 λb O=>slice_le h)))
theorem aco(S:jc rK r){f:aH}{z:Option (aH×aF×bz)}{args:LX}{pos:bz}{O:L}{k k':QT}(h:ic k k'):
  le (match z with
   |some (o,m,apos)=>if mD o/\ (J args)<=8/\ apos.endLine=pos.line/\ args.all (λe=>!isStar e)then rK.e sc l O o λx O=>bc (dw x) λi=>match nB O i with
    |some (C,kvs)=>bc ((P.cls C).bind λd=>if(look m kvs).isNone then(d.meths.lookup m)else .none) λf=>
     sr (rK.e sc l) args O λvs O=>if iC P (.con (.ref f))then rK.c (.con (.ref f)) (x::vs) O k else .bad
    |.none=>bc O[i]? λmo=>bc (yz mo m) λq=>sr (rK.e sc l) args O λvs O=>Bb q i vs O k
    else .bad
   |.none=>if(J args)<=8 then rK.e sc l O f λg O=>sr (rK.e sc l) args O λvs O=>if iC P g then rK.c g vs O k else .bad else .bad) ((match z with
   |some (o,m,apos)=>if mD o/\ (J args)<=8/\ apos.endLine=pos.line/\ args.all (λe=>!isStar e)then(r.e sc (bA l) O o).bind λx O=>dN (dw x) λi=>match nB O i with
    |some (C,kvs)=>dN ((P.cls C).bind λd=>if(look m kvs).isNone then(d.meths.lookup m)else .none) λf=>
     (l9 (r.e sc (bA l)) args O).bind λvs O=>if iC P (.con (.ref f))then r.c (.con (.ref f)) (x::vs) O else .bad
    |.none=>dN O[i]? λmo=>dN (yz mo m) λk=>(l9 (r.e sc (bA l)) args O).bind λvs O=>methodCall k i vs O
    else .bad
   |.none=>if(J args)<=8 then(r.e sc (bA l) O f).bind λg O=>(l9 (r.e sc (bA l)) args O).bind λvs O=>if iC P g then r.c g vs O else .bad else .bad).bind k'):=by
 rcases z with _|z
 ·exact YU S h
 ·exact le.eL (λG=>RB (S.e λx O=>YV S h)) λG=>le.bad
theorem ajj(S:jc rK r){O:L}{e:aH}{k k':QT}(h:ic k k'):le (eK P rK sc l O e k) ((jK P r sc (bA l) O e).bind k'):=by
 induction e using eV with
 |Constant c kk p=>exact le.some λv=>h _ _
 |Name x p=>exact ack h
 |BoolOp op vs p=>exact YQ S.he _ _ h
 |BinOp a op b p=>exact RB (S.e λx O=>RB (S.e λy O=>afW h))
 |UnaryOp op a p=>exact RB (S.e λx O=>YT h)
 |IfExp t a b p=>exact RB (S.t λc O=>by rcases c<;>exact S.e h)
 |Dict ks vs p=>exact le.eL (λG=>RB (YP S.he _ λkvs O=>le.bind h)) λG=>le.bad
 |List es p=>exact le.eL (λG=>RB (Ag S.he _ λkvs O=>h _ _)) λG=>le.bad
 |Tuple es kk p=>exact le.eL (λG=>RB (Ag S.he _ λkvs O=>h _ _)) λG=>le.bad
 |Compare a ops bs p=>exact af1 S h
 |Attribute o a p=>exact le.eL (λG=>RB (S.e λx O=>le.some λc=>h _ _)) λG=>le.bad
 |Subscript o i p=>exact sub_le S h
 |Call f args ks p=>induction ks using bS with
  |cons _ _=>exact le.bad
  |nil=>exact aco S h
 |ListComp elt gs bQ p=>exact BF S h
 |_=>exact le.bad
theorem M0(S:jc rK r){O:L}{e:aH}{k k':Bool->L->RV}(h:ic k k'):le (RZ rK sc l O e k) ((Il r sc (bA l) O e).bind k'):=
 RB (S.e λv O=>by induction v using V.casesOn with
   |bool b=>exact h _ _
   |_=>exact le.bad)
theorem ajk(S:jc rK r){O:L}{e:aH}{k k':Bool->L->RV}(h:ic k k'):le (tK rK sc l O e k) ((stepT r sc (bA l) O e).bind k'):=by
 induction e using eV with
 |UnaryOp op a pos=>induction op using yr with
  |Not=>exact RB (S.t λb O=>h _ _)
  |_=>exact M0 S h
 |BoolOp op vs pos=>exact ach S.ht _ _ h
 |Compare a ops bs p=>exact acn S h
 |IfExp=>exact le.bad
 |NamedExpr=>exact le.bad
 |_=>exact M0 S h
theorem acp(S:jc rK r)(h:ic k k'):le (YL rK sc l O e k) ((XH r sc (bA l) O e).bind k'):=le.eL (λG=>le.opt λy=>BF S h) λG=>S.e h
theorem M1{o:Option L}{k:L->RV}{k':Unit->L->RV}(h:∀O,le (k O) (k' () O)):le (bc o k) ((qX o).bind k'):=by
 rcases o with _|O
 ·exact le.bad
 ·exact h O
section
variable{n:KT}{F:fz×Loc->L->RV}(h1:∀l O,le (n l O) (F (.next,bA l) O))
include h1
theorem acq(S:jc rK r){O:L}{e:aH}{x:aF}:le (YL rK sc l O e λv O=>uZ sc x v l λl=>n l O) (((XH r sc (bA l) O e).bind λv O=>(eD O (store sc x v (bA l))).bind λl O=>.ok (.next,l) O).bind F):=
 RB (acp S λv O=>RB (yX λl=>h1 _ _))
theorem acr(S:jc rK r){O:L}{e:aH}{es:LX}:le (bc (il es) λxs=>if(!En e||!distinct xs)then Res.bad else rK.e sc l O e λv O=>bc (jk O v) λvs=>sq sc xs vs l λl=>n l O)
  ((dN (il es) λxs=>if(!En e||!distinct xs)then Res.bad else(r.e sc (bA l) O e).bind λv O=>dN (jk O v) λvs=>(eD O (storeAll sc xs vs (bA l))).bind λl O=>Res.ok (fz.next,l) O).bind F):=
 le.opt λxs=>le.eL (λG=>le.bad) λG=>RB (S.e λv O=>le.opt λvs=>RB (Hs (λl=>h1 _ _) _ _ _))
theorem acs(S:jc rK r){O:L}{e o i:aH}{z:Option (aH×aH)}:le (match z with
   |some (lo,hi)=>rK.e sc l O e λv O=>rK.e sc l O o λx O=>rK.e sc l O lo λa O=>rK.e sc l O hi λb O=>bc (jB x a b v O) λO=>n l O
   |.none=>if isSlice i then .bad else rK.e sc l O e λv O=>rK.e sc l O o λx O=>rK.e sc l O i λy O=>bc (setItem x y v O) λO=>n l O)
  ((match z with
   |some (lo,hi)=>(r.e sc (bA l) O e).bind λv O=>(r.e sc (bA l) O o).bind λx O=>
    (r.e sc (bA l) O lo).bind λa O=>(r.e sc (bA l) O hi).bind λb O=>(qX (jB x a b v O)).bind λG O=>Res.ok (fz.next,bA l) O
   |.none=>if isSlice i then .bad else(r.e sc (bA l) O e).bind λv O=>(r.e sc (bA l) O o).bind λx O=>(r.e sc (bA l) O i).bind λy O=>(qX (setItem x y v O)).bind λG O=>Res.ok (fz.next,bA l) O).bind F):=by
 induction z using aK with
 |some z=>exact RB (S.e λv O=>RB (S.e λx O=>RB (S.e λa O=>RB (S.e λb O=>RB (M1 λO=>h1 _ _)))))
 |none=>exact le.eL (λG=>le.bad) λG=>RB (S.e λv O=>RB (S.e λx O=>RB (S.e λy O=>RB (M1 λO=>h1 _ _))))
end
theorem ajl(S:jc rK r){O:L}{s:dW}{n c:KT}{q:QT}{F:fz×Loc->L->RV}(h1:∀l O,le (n l O) (F (.next,bA l) O))(h2:∀l O,le (c l O) (F (.cont,bA l) O))(h3:∀v l O,le (q v O) (F (.ret v,l) O)):
  le (xK P rK sc l O s n c q) ((i9 P r sc (bA l) O s).bind F):=by
 induction s using DF with
 |Expr e p=>exact le.eL (λG=>le.bad) λG=>RB (S.e λv O=>by induction v using V.casesOn with
   |none=>exact h1 _ _
   |_=>exact le.bad)
 |Return e p=>induction e using aK with
  |none=>exact le.bad
  |some e=>exact RB (S.e λv O=>h3 _ _ _)
 |Continue p=>exact h2 _ _
 |Assign ts e p=>induction ts using bS with
  |nil=>exact le.bad
  |cons t ts=>induction ts using bS with
   |cons _ _=>rcases t<;>exact le.bad
   |nil=>induction t using eV with
    |Name x p=>exact acq h1 S
    |Tuple es k p=>exact acr h1 S
    |Attribute o a p=>exact RB (S.e λv O=>RB (S.e λx O=>RB (M1 λO=>h1 _ _)))
    |Subscript o i p=>exact acs h1 S
    |_=>exact le.bad
 |AugAssign t op e p=>induction t using eV with
  |Name x q=>induction op using r6 with
   |Add=>exact le.opt λa=>RB (S.e λv O=>le.opt λb=>RB (yX λl=>h1 _ _))
   |_=>exact le.bad
  |_=>exact le.bad
 |If t a b p=>exact RB (S.t λd O=>by rcases d<;>exact wG S.hx h1 h2 h3 _)
 |For t it body el p=>induction el using bS with
  |cons _ _=>exact le.bad
  |nil=>
   refine le.eL (λG=>RB (S.e λx O=>?_)) λG=>le.bad;rw [Un];induction qm O x using aK with
   |none=>exact le.bad
   |some i=>exact aci (λv l O n q F h1 h2 h3=>RB (Qj λl=>wG S.hx h1 h2 h3 _)) h1 h3 _
 |While t body el p=>induction el using bS with
  |cons _ _=>exact le.bad
  |nil=>exact af0 (t:=λl O=>r.t sc l O t) (λG G G G h=>S.t h) (λl O n q F h1 h2 h3=>wG S.hx h1 h2 h3 _) h1 h3 _
 |Raise e ca p=>
  unfold xK i9;dsimp only;induction zO e ca using aK with
  |none=>exact le.bad
  |some z=>
   refine le.eL (λG=>?_) λG=>le.bad;induction oO z.2 using aK with
   |none=>exact le.bad
   |some v=>exact le.refl _
 |_=>exact le.bad
end
noncomputable abbrev Ht:=V->LV->L->Res V
noncomputable abbrev yY:=V->LV->L->(QT)->RV
noncomputable def Below(ck:yY)(c:Ht):Prop:=∀f args O k k',ic k k'->le (ck f args O k) ((c f args O).bind k')
section
variable{P:fF}{ck:yY}{c:Ht}
theorem Ah(h:Below ck c):∀d,jc (DU P ck d) (gn P c d)
 |0=>#[λG=>le.bad,λG=>le.bad,λG G G=>le.bad,λq=>h _ _ _ _ _ q]
 |d+1=>#[λq=>ajj (Ah h d) q,λq=>ajk (Ah h d) q,λa b c=>ajl (Ah h d) a b c,λq=>h _ _ _ _ _ q]
theorem DV{r:RV}:r.bind Res.ok=r:=by rcases r<;>rfl
set_option tactic.hygienic true in
theorem ajm(S:jc rK r)(h:ic k k'):le (cK P rK f args O k) ((fk P r f args O).bind k'):=by
 unfold cK fk;induction f using V.casesOn with
 |con v=>
  induction v using rZ with
  |ref a=>
   dsimp only;induction e:P.fn a using aK with
   |some d=>
    dsimp only;induction e2:yV d.params d.dflt args using aK with
    |none=>exact le.bad
    |some l=>
     rw [Fb e2];simp only [bind_assoc];exact wG S.hx (λl O=>h _ _) (λl O=>h _ _) (λv l O=>h _ _) _
   |none=>
    dsimp only;induction e2:P.cls a using aK with
    |none=>exact le.bad
    |some d=>
     dsimp only;have z:=S.c (f:=.con (.ref d.init)) (args:=.ref (J O)::args) (O:=O++ [.inst a []]) (k:=.ok) λG G=>le.refl _;simp only [DV]at z
     split
     ·rename_i aZ e3
      rw [e3]at z;rw [z (by intro y;rcases y with⟨⟩)];exact h _ _
     ·exact le.bad
  |_=>exact yW h
 |_=>exact le.bad
noncomputable def runK(P:fF)(ck:yY):yY:=cK P (DU P ck deep)
theorem M3(h:Below ck c):Below (runK P ck) (fk P (gn P c deep)):=λG G G G G q=>ajm (Ah h deep) q
theorem acu(h:Below ck c)(e:runK P ck f args O .ok= .ok v aZ):fk P (gn P c deep) f args O= .ok v aZ:=by
 have z:=M3 (P:=P) h f args O .ok .ok λG G=>le.refl _;simp only [e,DV]at z;exact z (by intro y;rcases y with⟨⟩)
end
section
open PyProof.Rows
mutual
noncomputable def eh(m:Nat):V->Prop
 |.tup xs=>bH m xs
 |.lst xs=>bH m xs
 |.ref i=>i<m
 |_=>True
noncomputable def bH(m:Nat):LV->Prop
 | []=>True
 |x::r=>eh m x/\ bH m r
end
mutual
noncomputable def en(g:Nat->Nat):V->V
 |.tup xs=>.tup (fP g xs)
 |.lst xs=>.lst (fP g xs)
 |.ref i=>.ref (g i)
 |v=>v
noncomputable def fP(g:Nat->Nat):LV->LV
 | []=> []
 |x::r=>en g x::fP g r
end
noncomputable def i0{K:Type}(g:Nat->Nat):List (K×V)->List (K×V)
 | []=> []
 |(k,v)::r=>(k,en g v)::i0 g r
noncomputable def fE(g:Nat->Nat):MO->MO
 |.list xs=>.list (fP g xs)
 |.dict kvs=>.dict (i0 g kvs)
 |.fW kvs=>.fW (i0 g kvs)
 |.inst C kvs=>.inst C (i0 g kvs)
 |.bu b=>.bu b
noncomputable def zB(m:Nat):MO->Prop
 |.list xs=>bH m xs
 |.dict kvs=>bH m (kvs.map (·.2))
 |.fW kvs=>bH m (kvs.map (·.2))
 |.inst _ kvs=>∀x v,look x kvs=U v->eh m v
 |.bu _=>True
noncomputable def IB:V->Bool
 |.tup _=>av
 |.lst _=>av
 |.ref _=>av
 |_=>ai
theorem V.wi{P:V->Prop}{Q:LV->Prop}(leaf:∀v,IB v=ai->P v)(tup:∀xs,Q xs->P (.tup xs))(lst:∀xs,Q xs->P (.lst xs))(ref:∀i,P (.ref i))(nil:Q [])(cons:∀x r,P x->Q r->Q (x::r)):(∀v,P v)/\ ∀xs,Q xs:=
 ⟨λv=> @V.rec P Q (leaf _ rfl) (λG=>leaf _ rfl) (λG=>leaf _ rfl) (λG=>leaf _ rfl) (λG=>leaf _ rfl) tup lst (λG G=>leaf _ rfl) ref (λG=>leaf _ rfl) nil cons v,
  λxs=> @V.rec_1 P Q (leaf _ rfl) (λG=>leaf _ rfl) (λG=>leaf _ rfl) (λG=>leaf _ rfl) (λG=>leaf _ rfl) tup lst (λG G=>leaf _ rfl) ref (λG=>leaf _ rfl) nil cons xs⟩
theorem qs(h:IB v=ai):en g v=v:=by
 rcases v<;>first|rfl|exact nomatch h
theorem YW(h:IB v=ai):eh m v:=by
 rcases v<;>first|trivial|exact nomatch h
theorem Qk(hg:∀i,i<n->g i=i):(∀v:V,eh n v->en g v=v)/\ ∀xs:LV,bH n xs->fP g xs=xs:=
 V.wi (λv h G=>qs h) (λxs ih h=>I V.tup (ih h)) (λxs ih h=>I V.lst (ih h)) (λi h=>I V.ref (hg i h)) (λG=>rfl)
  λx r a b h=>(I (·::fP g r) (a h.1)).trans (I (x::·) (b h.2))
theorem M4(hg:∀i,i<n->g i=i)(v:V):eh n v->en g v=v:=(Qk hg).1 v
theorem Gn(hg:∀i,i<n->g i=i)(xs:LV):bH n xs->fP g xs=xs:=(Qk hg).2 xs
theorem Bc{K:Type}(hg:∀i,i<n->g i=i)(kvs:List (K×V)):bH n (kvs.map (·.2))->i0 g kvs=kvs:=by
 induction kvs with
 |nil=>exact λG=>rfl
 |cons p r ih=>exact λh=>(I (λx=>(p.1,x)::i0 g r) (M4 hg p.2 h.1)).trans (I (p::·) (ih h.2))
theorem Gp:(∀v:V,en id v=v)/\ ∀xs:LV,fP id xs=xs:=
 V.wi (λv h=>qs h) (λxs ih=>I V.tup ih) (λxs ih=>I V.lst ih) (λi=>rfl) rfl λx r a b=>(I (·::fP id r) a).trans (I (x::·) b)
theorem M5(v:V):en id v=v:=Gp.1 v
theorem Gq(xs:LV):fP id xs=xs:=Gp.2 xs
theorem Gr{K:Type}(kvs:List (K×V)):i0 id kvs=kvs:=by
 induction kvs with
 |nil=>rfl
 |cons p r ih=>exact (I (λx=>(p.1,x)::i0 id r) (M5 p.2)).trans (I (p::·) ih)
theorem Ql(m:MO):fE id m=m:=by
 induction m using MO.casesOn with
 |list xs=>exact I MO.list (Gp.2 xs)
 |dict kvs=>exact I MO.dict (Gr kvs)
 |fW kvs=>exact I MO.fW (Gr kvs)
 |inst C kvs=>exact I (MO.inst C) (Gr kvs)
 |bu b=>rfl
noncomputable def pD:MO->MO->Prop
 |.inst C a,.inst D b=>C=D/\ ∀x,look x a=look x b
 |a,b=>a=b
theorem fZ(m:MO):pD m m:=by
 induction m using MO.casesOn with
 |inst=>exact #[rfl,λG=>rfl]
 |_=>rfl
theorem M6(g:Nat->Nat)(x:aF)(kvs:SV):look x (i0 g kvs)=(look x kvs).map (en g):=by
 induction kvs with
 |nil=>rfl
 |cons p r ih=>
  show(if p.1=x then U (en g p.2)else look x (i0 g r))=(if p.1=x then U p.2 else look x r).map (en g)
  by_cases e:p.1=x
  ·rw [au e,au e];rfl
  ·rw [ax e,ax e];exact ih
theorem M7(h:n<=m):(∀v:V,eh n v->eh m v)/\ ∀xs:LV,bH n xs->bH m xs:=
 V.wi (λv h G=>YW h) (λxs ih h=>ih h) (λxs ih h=>ih h) (λi q=>gG q h) (λG=>trivial) λx r a b h=>#[a h.1,b h.2]
theorem cT(h:n<=m)(v:V):eh n v->eh m v:=(M7 h).1 v
theorem fp(h:n<=m)(xs:LV):bH n xs->bH m xs:=(M7 h).2 xs
noncomputable def Qm(O:L):Prop:=∀(i:Nat) (m:MO),O[i]? =U m->zB (J O) m
section
variable{H:aQ}{ρ aS:bG}{h:aQ}
theorem af2(r:Rep H ρ h v ag):eh (J ρ) v:=
 @Rep.rec H ρ h (λv G G=>eh (J ρ) v) (λxs G G=>bH (J ρ) xs) trivial (λG=>trivial) (λG G=>trivial) (λG G=>trivial) (λG G=>trivial) (λG G a=>a) (λG G a=>a) (λG=>trivial) (λe=>(jj e).1) (λG=>trivial) trivial (λG G a b=>#[a,b]) v ag r
theorem Bd(r:bJ H ρ h xs us):bH (J ρ) xs:=
 @bJ.rec H ρ h (λv G G=>eh (J ρ) v) (λxs G G=>bH (J ρ) xs) trivial (λG=>trivial) (λG G=>trivial) (λG G=>trivial) (λG G=>trivial) (λG G a=>a) (λG G a=>a) (λG=>trivial) (λe=>(jj e).1) (λG=>trivial) trivial (λG G a b=>#[a,b]) xs us r
theorem YX(hv:IB v=ai)(r:Rep H ρ h v ag):Rep H aS h v ag:=by
 cases r with
 |none=>exact .none
 |bool=>exact .bool _
 |int=>exact .int _ _
 |str=>exact .str _ _
 |bytes=>exact .bytes _ _
 |ee q=>exact .ee q
 |con=>exact .con _
 |_=>exact nomatch hv
theorem M8(hr:∀i,i<m->aS[i]? =ρ[g i]?):(∀v:V,∀ag,eh m v->Rep H ρ h (en g v) ag->Rep H aS h v ag)/\ ∀xs:LV,∀us,bH m xs->bJ H ρ h (fP g xs) us->bJ H aS h xs us:=by
 refine V.wi (λv hv ag G r=>YX hv (qs hv▸r)) (λxs ih ag s r=>?_) (λxs ih ag s r=>?_) (λi ag s r=>?_) (λus G r=>?_) λx xs a b us s r=>?_
 ·obtain ⟨p,vs,rfl,q,r⟩:=Rep.tupI r;exact .tup q (ih _ s r)
 ·obtain ⟨p,vs,rfl,q,r⟩:=Rep.Ru r;exact .lst q (ih _ s r)
 ·obtain ⟨p,d,rfl,e⟩:=Rep.jC r;exact .ref ((hr i s).trans e)
 ·exact bJ.yB r▸ .nil
 ·obtain ⟨v,ws,rfl,r1,r2⟩:=bJ.ph r;exact .cons (a _ s.1 r1) (b _ s.2 r2)
theorem acv(hr:∀i,i<m->aS[i]? =ρ[g i]?)(s:eh m v)(r:Rep H ρ h (en g v) ag):Rep H aS h v ag:=(M8 hr).1 v ag s r
theorem yZ(hr:∀i,i<m->aS[i]? =ρ[g i]?)(s:bH m xs)(r:bJ H ρ h (fP g xs) us):bJ H aS h xs us:=(M8 hr).2 xs us s r
theorem M9{K:Type}(g:Nat->Nat)(kvs:List (K×V)):(i0 g kvs).map (·.1)=kvs.map (·.1):=by
 induction kvs with
 |nil=>rfl
 |cons p r ih=>exact I (p.1::·) ih
theorem Na{K:Type}(g:Nat->Nat)(kvs:List (K×V)):(i0 g kvs).map (·.2)=fP g (kvs.map (·.2)):=by
 induction kvs with
 |nil=>rfl
 |cons p r ih=>exact I (en g p.2::·) ih
theorem Nb{K:Type}(hr:∀i,i<m->aS[i]? =ρ[g i]?){kvs:List (K×V)}{ws:List (K×az)}(s:bH m (kvs.map (·.2)))(r:ec H ρ h (i0 g kvs) ws):ec H aS h kvs ws:=
 #[(M9 g kvs).symm.trans r.1,yZ hr s (Na g kvs▸r.2)]
theorem Nc(sm:pD o o')(r:jD prog w H ρ h a d o):jD prog w H ρ h a d o':=by
 induction o using MO.casesOn with
 |inst C kvs=>induction o' using MO.casesOn with
  |inst D kws=>exact sm.1▸#[r.1,r.2.1,r.2.2.imp λm q=>#[q.1,λx=>sm.2 x▸q.2 x]]
  |_=>exact nomatch(sm)
 |_=>exact (sm)▸r
theorem Up(h:pD a b):pD b a:=by
 induction a using MO.casesOn with
 |inst C kvs=>induction b using MO.casesOn with
  |inst D kws=>exact #[h.1.symm,λx=>(h.2 x).symm]
  |_=>exact nomatch(h)
 |_=>
  subst (h);exact fZ _
theorem YY(hr:∀i,i<m->aS[i]? =ρ[g i]?)(s:∀v,o=U v->eh m v)(r:gS H ρ h (o.map (en g)) ov):gS H aS h o ov:=by
 rcases o with _|v
 ·exact gS.none_inv r▸trivial
 ·obtain ⟨w,rfl,q⟩:=gS.mZ r;exact acv hr (s v rfl) q
theorem YZ(hr:∀i,i<m->aS[i]? =ρ[g i]?)(s:zB m o)(sm:pD o' (fE g o))(r:jD prog w H ρ h a d o'):jD prog w H aS h a d o:=by
 replace r:=Nc sm r;induction o using MO.casesOn with
 |list xs=>exact #[r.1,r.2.imp λvs q=>q.imp λn q=>#[q.1,yZ hr s q.2]]
 |dict kvs=>exact #[r.1,r.2.imp λws q=>#[q.1,Nb hr s q.2]]
 |fW kvs=>exact #[r.1,r.2.imp λws q=>#[q.1,Nb hr s q.2]]
 |inst C kvs=>exact #[r.1,r.2.1,r.2.2.imp λmm q=>#[q.1,λx=>YY hr (s x) (M6 g x kvs▸q.2 x)]]
 |bu b=>exact r
end
section
variable{c:Cx}{Z X:AP}{ρ aS:bG}{O aZ dc:L}{s s':aA}
theorem af3(ae:b9 c ρ O s.heap):Qm O:=λi m e=>by
 obtain ⟨a,d,e',r⟩:=ae.objs i m e;rw [←ae.size];induction m using MO.casesOn with
 |list xs=>exact r.2.elim λvs q=>q.elim λn q=>Bd q.2
 |dict kvs=>exact r.2.elim λws q=>Bd q.2.2
 |fW kvs=>exact r.2.elim λws q=>Bd q.2.2
 |inst C kvs=>exact λx v ex=>r.2.2.elim λmm q=>(gS.mZ (ex▸q.2 x)).elim λw q=>af2 q.2
 |bu b=>trivial
end
end
section
open PyProof.Rows
mutual
noncomputable def oU(D:Nat->Prop):V->Prop
 |.tup xs=>qy D xs
 |.lst xs=>qy D xs
 |.ref i=>D i
 |_=>True
noncomputable def qy(D:Nat->Prop):LV->Prop
 | []=>True
 |x::r=>oU D x/\ qy D r
end
noncomputable def qY(D:Nat->Prop):MO->Prop
 |.list xs=>qy D xs
 |.dict kvs=>qy D (kvs.map (·.2))
 |.fW kvs=>qy D (kvs.map (·.2))
 |.inst _ kvs=>∀x v,look x kvs=U v->oU D v
 |.bu _=>True
section
variable{H:aQ}{ρ aS:bG}{h:aQ}{D:Nat->Prop}{aoU:Nat->Nat}
theorem Nd(hr:∀i p,D i->ρ[i]? =U p->aS[aoU i]? =U p)(s:oU D v)(r:Rep H ρ h v ag):Rep H aS h (en aoU v) ag:=
 @Rep.rec H ρ h (λv ag G=>oU D v->Rep H aS h (en aoU v) ag) (λxs us G=>qy D xs->bJ H aS h (fP aoU xs) us) (λG=>.none) (λG G=>.bool _) (λG G G=>.int _ _) (λG G G=>.str _ _) (λG G G=>.bytes _ _) (λq G a s=>.tup q (a s)) (λq G a s=>.lst q (a s)) (λq G=>.ee q) (λe s=>.ref (hr _ _ s e)) (λG G=>.con _) (λG=>.nil) (λG G a b s=>.cons (a s.1) (b s.2)) v ag r s
theorem Qn(hr:∀i p,D i->ρ[i]? =U p->aS[aoU i]? =U p)(s:qy D xs)(r:bJ H ρ h xs us):bJ H aS h (fP aoU xs) us:=
 @bJ.rec H ρ h (λv ag G=>oU D v->Rep H aS h (en aoU v) ag) (λxs us G=>qy D xs->bJ H aS h (fP aoU xs) us) (λG=>.none) (λG G=>.bool _) (λG G G=>.int _ _) (λG G G=>.str _ _) (λG G G=>.bytes _ _) (λq G a s=>.tup q (a s)) (λq G a s=>.lst q (a s)) (λq G=>.ee q) (λe s=>.ref (hr _ _ s e)) (λG G=>.con _) (λG=>.nil) (λG G a b s=>.cons (a s.1) (b s.2)) xs us r s
theorem Qo{K:Type}(hr:∀i p,D i->ρ[i]? =U p->aS[aoU i]? =U p){kvs:List (K×V)}{ws:List (K×az)}(s:qy D (kvs.map (·.2)))(r:ec H ρ h kvs ws):ec H aS h (i0 aoU kvs) ws:=
 #[(M9 aoU kvs).trans r.1,by simp only [Na];exact Qn hr s r.2]
theorem acw(hr:∀i p,D i->ρ[i]? =U p->aS[aoU i]? =U p)(s:∀v,o=U v->oU D v)(r:gS H ρ h o ov):gS H aS h (o.map (en aoU)) ov:=by
 rcases o with _|v
 ·exact gS.none_inv r▸trivial
 ·obtain ⟨w,rfl,q⟩:=gS.mZ r;exact Nd hr (s v rfl) q
theorem acx(hr:∀i p,D i->ρ[i]? =U p->aS[aoU i]? =U p)(s:qY D o)(r:jD prog w H ρ h a d o):jD prog w H aS h a d (fE aoU o):=by
 induction o using MO.casesOn with
 |list xs=>exact #[r.1,r.2.imp λvs q=>q.imp λn q=>#[q.1,Qn hr s q.2]]
 |dict kvs=>exact #[r.1,r.2.imp λws q=>#[q.1,Qo hr s q.2]]
 |fW kvs=>exact #[r.1,r.2.imp λws q=>#[q.1,Qo hr s q.2]]
 |inst C kvs=>exact #[r.1,r.2.1,r.2.2.imp λmm q=>#[q.1,λx=>(M6 aoU x kvs).symm▸acw hr (s x) (q.2 x)]]
 |bu b=>exact r
end
structure u0(j:Nat->Nat)(Os O:L):Prop where
 inj:∀a b,a<J Os->b<J Os->j a=j b->a=b
 obj:∀(i:Nat) (m:MO),Os[i]? =U m->zB (J Os) m/\ ∃m',O[j i]? =U m'/\ pD m' (fE j m)
structure Back(j:Nat->Nat)(D:Nat->Prop)(aoU:Nat->Nat)(Os O fQ dc:L):Prop where
 low:J O<=J dc
 old:∀i,i<J Os->D i/\ aoU i=j i
 dom:∀i,D i->i<(J Os) \/(J Os<=i/\ (J O)<=aoU i)
 inj:∀a b,D a->D b->aoU a=aoU b->a=b
 has:∀i,D i->∃m,fQ[i]? =U m/\ qY D m/\ ∃m',dc[aoU i]? =U m'/\ pD (fE aoU m) m'
 rest:∀i,i<J O->(∀a,a<J Os->j a≠i)->dc[i]? =O[i]?
 new:∀i,J O<=i->i<J dc->∃a,D a/\ aoU a=i
section
variable{c:Cx}{Z:AP}{ρ:bG}{O Os fQ dc:L}{s s':aA}{j aoU:Nat->Nat}{D:Nat->Prop}
theorem acy(ae:b9 c ρ O s.heap)(E:u0 j Os O):∃pB,(∀i,i<J Os->pB[i]? =ρ[j i]?)/\ (∀b,cy pB b->cy ρ b)/\ b9 c pB Os s.heap:=by
 have Uq:∀i,i<J Os->j i<J ρ:=λi hi=>by
  refine (E.obj i Os[i] (by simp [hi])).elim λG hq=>hq.elim λm' hq=>?_;rw [ae.size];exact (jj hq.1).1
 let pB:bG:=(cC (J Os)).map λi=>(ρ[j i]?).getD (0,0)
 have hk:∀i,i<J Os->pB[i]? =ρ[j i]? :=λi hi=>by
  show((cC (J Os)).map _)[i]? =_
  have:=Uq i hi;simp only [rU,CU hi];simp [this]
 have hlen:J pB=J Os:=by simp [pB]
 have Qp:∀{i:Nat} {q:ay×ay},pB[i]? =U q->i<J Os/\ ρ[j i]? =U q:=λ{i q} e=>by
  have hi:i<J Os:=by rw [←hlen];exact (jj e).1
  exact #[hi,(hk i hi).symm.trans e]
 have foot:∀b,cy pB b->cy ρ b:=λb f=>by
  refine f.elim λi hq=>hq.elim λa hq=>hq.elim λd hq=>hq.elim λe q=>?_;exact #[j i,a,d,(Qp e).2,q]
 refine #[pB,hk,foot,ae.base,hlen,λi m e=>?_,λi k a d a' d' ne e1 e2=>?_,λb f=>ae.fresh b (foot b f)]
 ·have hi:i<J Os:=(jj e).1
  refine bl λaG=>?_;refine (E.obj i m e).elim λo2 hq=>hq.elim λm' hq=>hq.elim λo1 o3=>?_;refine (ae.objs _ _ o1).elim λa hq=>hq.elim λd hq=>hq.elim λq r=>?_;refine aG ?_;exact #[a,d,(hk i hi).trans q,YZ hk o2 o3 r]
 ·obtain ⟨h1,q1⟩:=Qp e1
  have h2:=(Qp e2).1;exact ae.apart _ _ _ _ _ _ (λz=>ne (E.inj i k h1 h2 z)) q1 ((Qp e2).2)
theorem Nf(ae:b9 c ρ O s.heap)(E:u0 j Os O)(hk:∀i,i<J Os->pB[i]? =ρ[j i]?)(foot:∀b,cy pB b->cy ρ b)(hs:J pB=J Os)(zf:∀b,Z b->¬cy ρ b)(p:b7 c Z bj pB s ρs' fQ s')(B:Back j D aoU Os O fQ dc):
  ∃qz,(∀i q,D i->ρs'[i]? =U q->qz[aoU i]? =U q)/\ b7 c Z bj ρ s qz dc s'/\ (∀b,cy qz b->cy ρ b \/cy ρs' b):=by
 classical
 have af:=p.inv
 let inv (i:Nat):Nat:=if h:∃a,D a/\ aoU a=i then Lh h else 0
 let qz:bG:=(cC (J dc)).map λi=>if i<(J O)then(ρ[i]?).getD (0,0)else(ρs'[inv i]?).getD (0,0)
 have hlen:J qz=J dc:=by simp [qz]
 have hold:∀i,i<J O->qz[i]? =ρ[i]? :=λi hi=>by
  show((cC (J dc)).map _)[i]? =_
  have:i<J ρ:=by rw [ae.size];exact hi
  simp only [rU,CU (gG hi B.low)];simp [hi,this]
 have hinv:∀a,D a->inv (aoU a)=a:=λa da=>by
  have h:∃b,D b/\ aoU b=aoU a:=#[a,da,rfl];show(if h:∃b,D b/\ aoU b=aoU a then Lh h else 0)=a
  rw [dif_pos h];exact B.inj _ _ (Li h).1 da (Li h).2
 have dlt:∀a,D a->a<J ρs'/\ aoU a<J dc:=λa da=>by
  refine bl λaG=>?_;refine (B.has a da).elim λm hq=>hq.elim λe hq=>hq.elim λG hq=>hq.elim λm' hq=>?_;have e':=hq.1;refine aG ?_;exact #[by rw [af.size];exact (jj e).1,(jj e').1]
 have af4:∀a,D a->J O<=aoU a->qz[aoU a]? =ρs'[a]? :=λa da hg=>by
  show((cC (J dc)).map _)[aoU a]? =_
  have h1:=(dlt a da).1;simp only [rU,CU (dlt a da).2];simp [ur.mpr hg,hinv a da,h1]
 have Qq:∀i,i<J Os->j i<J O:=λi hi=>by
  refine (E.obj i Os[i] (by simp [hi])).elim λG hq=>hq.elim λm' hq=>?_;have h:=hq.1;exact (jj h).1
 have Ng:∀i q,D i->ρs'[i]? =U q->qz[aoU i]? =U q:=λi q di e=>by
  rcases B.dom i di with hi|⟨hi,hg⟩
  ·obtain ⟨_,hj⟩:=B.old i hi
   have hl:i<J pB:=by
    rcases kc i (J pB)with z|z
    ·exact z
    ·exfalso
     have:=hk i hi;rw [lS z]at this;have Ur:=Qq i hi;simp only [←ae.size]at Ur;simp [Ur]at this
   have:=p.cq.pre i pB[i] (by simp [hl]);rw [e]at this;obtain rfl:=bh this;simp only [hj,hold _ (Qq i hi),←hk i hi];simp [hl]
  ·rw [af4 i di hg];exact e
 have cs:∀{i:Nat} {q:ay×ay},qz[i]? =U q->(i<J O/\ ρ[i]? =U q) \/(J O<=i/\ ∃a,D a/\ aoU a=i/\ ρs'[a]? =U q):=λ{i q} e=>by
  have hi:i<J dc:=by rw [←hlen];exact (jj e).1
  rcases kc i (J O)with h|h
  ·exact .inl #[h,(hold i h).symm.trans e]
  ·obtain ⟨a,da,ga⟩:=B.new i h hi
   subst ga;exact .inr #[h,a,da,rfl,(af4 a da h).symm.trans e]
 have Fc:∀b,cy qz b->cy ρ b \/cy ρs' b:=λb f=>by
  refine bl λaG=>?_;refine f.elim λi hq=>hq.elim λa hq=>hq.elim λd hq=>hq.elim λe q=>?_;refine aG ?_;rcases cs e with⟨_,e⟩|⟨_,k,_,_,e⟩
  ·exact .inl #[i,a,d,e,q]
  ·exact .inr #[k,a,d,e,q]
 have st:cG Z bj ρ s.heap qz s'.heap:=by
  refine #[λi q e=>?_,λb f n=>?_,λb o e n x z=>p.cq.keep b o e (λf=>n (foot b f)) x z,λb o e n x=>p.cq.slot b o e (λf=>n (foot b f)) x,p.cq.kL,p.cq.alive,λb G x=>x.elim]
  ·have hi:i<J O:=by rw [←ae.size];exact (jj e).1
   rw [hold i hi];exact e
  ·rcases Fc b f with q|q
   ·exact (n q).elim
   ·exact p.cq.new b q λz=>n (foot b z)
 have Ei:∀{k:Nat} {q:ay×ay},pB[k]? =U q->k<J Os/\ ρ[j k]? =U q:=λ{k q} e=>by
  have hi:k<J Os:=by rw [←hs];exact (jj e).1
  exact #[hi,(hk k hi).symm.trans e]
 have fresh:∀{a:Nat} {x y b:ay},J Os<=a->ρs'[a]? =U (x,y)->(b=x \/b=y)->¬cy ρ b:=λ{a x y b} ha e hb f=>by
  refine (ae.foot f).elim λo hq=>?_;have eo:=hq.1;by_cases q:cy pB b
  ·obtain ⟨k,x',y',e',th⟩:=q
   have e2:=p.cq.pre _ _ e';have ap:=af.apart a k _ _ _ _ (gD (gG ((Ei e').1) ha)) e e2;rcases hb with rfl|rfl<;>rcases th with rfl|rfl
   ·exact ap.1 rfl
   ·exact ap.2.1 rfl
   ·exact ap.2.2.1 rfl
   ·exact ap.2.2.2 rfl
  ·have:=p.cq.new b #[a,x,y,e,hb] q
   rw [eo]at this;exact nomatch this
 have touched:∀{a:Nat} {m:MO},D a->dc[aoU a]? =U m->∃x y,qz[aoU a]? =U (x,y)/\ jD c.prog c.w c.H qz s'.heap x y m:=λ{a m} da em=>by
  refine bl λaG=>?_;obtain ⟨m0,e0,in0,m',e',sm⟩:=B.has a da;refine aG ?_;rw [em]at e';obtain rfl:=bh e';obtain ⟨x,y,q,r⟩:=af.objs _ _ e0;exact #[x,y,Ng a _ da q,Nc sm (acx Ng in0 r)]
 refine #[qz,Ng,#[st,#[af.base,hlen,λi m e=>?_,λi k a d a' d' ne e1 e2=>?_,λb f=>(Fc b f).elim (ae.fresh b) (af.fresh b)],p.gens,p.os],Fc]
 ·have hi:i<J dc:=(jj e).1
  rcases kc i (J O)with h|h
  ·by_cases hj:∃a,a<J Os/\ j a=i
   ·obtain ⟨a,ha,rfl⟩:=hj
    obtain ⟨da,ga⟩:=B.old a ha;rw [←ga]at e⊢;exact touched da e
   ·have Ur:∀a,a<J Os->j a≠i:=λa ha z=>hj #[a,ha,z]
    rw [B.rest i h Ur]at e;refine bl λaG=>?_;obtain ⟨a,d,q,r⟩:=ae.objs _ _ e;refine aG ?_
    have nf:∀b,b=a \/b=d->¬cy pB b:=λb hb f=>by
     obtain ⟨k,x,y,e',th⟩:=f;refine (Ei e').elim λk1 k2=>?_;have ap:=ae.apart i (j k) _ _ _ _ (λz=>Ur k k1 z.symm) q k2;rcases hb with rfl|rfl<;>rcases th with rfl|rfl
     ·exact ap.1 rfl
     ·exact ap.2.1 rfl
     ·exact ap.2.2.1 rfl
     ·exact ap.2.2.2 rfl
    have kp:∀b,b=a \/b=d->s'.heap.get? b=s.heap.get? b:=λb hb=>by
     refine (r.calm b hb).elim λo hq=>?_;rw [hq.1];exact p.cq.keep b o hq.1 (nf b hb) id λz=>zf b z #[i,a,d,q,hb]
    exact #[a,d,(hold i h).trans q,r.congr st (kp a (.inl rfl)) (kp d (.inr rfl))]
  ·obtain ⟨a,da,ga⟩:=B.new i h hi
   rw [←ga]at e⊢;exact touched da e
 ·have aM:∀{i k:Nat} {a d a' d':ay},ρ[i]? =U (a,d)->(∃x,D x/\ (J O)<=aoU x/\ ρs'[x]? =U (a',d'))->a≠a'/\ a≠d'/\ d≠a'/\ d≠d':=λ{i k a d a' d'} e #[x,dx,gx,ex]=>by
   have hx:J Os<=x:=by
    rcases B.dom x dx with z|z
    ·exfalso
     have:=(B.old x z).2;rw [this]at gx;exact absurd (Qq x z) (ur.mpr gx)
    ·exact z.1
   exact #[λz=>fresh hx ex (.inl z) (#[i,a,d,e,.inl rfl]),λz=>fresh hx ex (.inr z) (#[i,a,d,e,.inl rfl]),λz=>fresh hx ex (.inl z) (#[i,a,d,e,.inr rfl]),λz=>fresh hx ex (.inr z) (#[i,a,d,e,.inr rfl])]
  rcases cs e1 with⟨h1,q1⟩|⟨h1,x1,dx1,gx1,q1⟩<;>rcases cs e2 with⟨h2,q2⟩|⟨h2,x2,dx2,gx2,q2⟩
  ·exact ae.apart i k _ _ _ _ ne q1 q2
  ·exact aM (k:=0) q1 #[x2,dx2,gx2▸h2,q2]
  ·have:=aM (k:=0) q2 #[x1,dx1,gx1▸h1,q1]
   exact #[bP this.1,bP this.2.2.1,bP this.2.1,bP this.2.2.2]
  ·exact af.apart x1 x2 _ _ _ _ (λz=>ne (by simp only [←gx1,←gx2,z])) q1 q2
noncomputable def fK(O:L)(args:LV)(run:LV->L->RV)(r1:RV):Prop:=∃j Os as,u0 j Os O/\ args=fP j as/\ bH (J Os) as/\ match r1 with
 |.ok vk dc=>∃v fQ D aoU,run as Os= .ok v fQ/\ Back j D aoU Os O fQ dc/\ oU D v/\ vk=en aoU v
 |.exc vk dc=>∃v fQ D aoU,run as Os= .exc v fQ/\ Back j D aoU Os O fQ dc/\ oU D v/\ vk=en aoU v
 |.bad=>True
theorem Us(h:vN c n c₂)(k:∀a args O,c₁ (.con (.ref a)) args O≠ .bad->Qm O->bH (J O) args->fK O args (c₂ (.con (.ref a))) (c₁ (.con (.ref a)) args O)):vN c n c₁:=by
 intro a args us O ρ s A aL ae fs hA R hb;obtain ⟨j,Os,as,E,rfl,sa,K⟩:=k a args O hb (af3 ae) (by rw [←ae.size];exact Bd R);refine bl λaG=>?_;refine (acy ae E).elim λpB hq=>hq.elim λhk hq=>hq.elim λfoot Js=>?_;refine aG ?_
 have af5:∀e∈aL,eB c.H pB s.heap e:=λe he=>by
  refine bl λaG=>?_;obtain ⟨q,ao,o,es,m,e1,e2,e3,e4,e5⟩:=fs e he;refine aG ?_;exact #[q,ao,o,es,m,e1,e2,λf=>e3 (foot _ f),e4,e5]
 have zf:∀b,bq aL b->¬cy ρ b:=λb z=>(MF fs z).1;generalize hr1:c₁ (.con (.ref a)) (fP j as) O=r1 at K hb⊢;induction r1 using Res.casesOn with
 |bad=>exact absurd rfl hb
 |ok vk dc=>
  obtain ⟨v,fQ,D,aoU,hr,B,iv,rfl⟩:=K;have hc:=h Js af5 hA (yZ hk sa R) (by rw [hr];intro z;cases z);rw [hr]at hc;refine jN hc λq s' z=>?_;induction q using mT with
  |error e=>obtain ⟨_,_,_,z,_⟩:=z;cases z
  |ok f=>
   induction f using uK with
   |ret ag=>
    obtain ⟨_,_,aS,e1,p,rr⟩:=z;cases e1
    refine (Nf ae E hk foot Js.size zf p B).elim λqz hq=>?_;have Ng:=hq.1;have pk:=hq.2.1;exact #[_,dc,qz,rfl,pk,Nd Ng iv rr]
   |_=>exact z
 |exc vk dc=>
  obtain ⟨v,fQ,D,aoU,hr,B,iv,rfl⟩:=K;have hc:=h Js af5 hA (yZ hk sa R) (by rw [hr];intro z;cases z);rw [hr]at hc;refine jN hc λq s' z=>?_;induction q using mT with
  |error e=>
   obtain ⟨_,_,aS,e1,p,F⟩:=z;cases e1
   refine bl λaG=>?_;refine (Nf ae E hk foot Js.size zf p B).elim λqz hq=>hq.elim λNg hq=>hq.elim λpk Fc=>?_;refine F.elim λx hq=>hq.elim λd hq=>hq.elim λvs hq=>hq.elim λsl hq=>?_;have f0:=hq.1;have F:=hq.2;have nf:∀b,yD c.H aS s.heap b->yD c.H qz s.heap b:=λb nb=>#[nb.1,nb.2.1,λq=>(Fc b q).elim (λz=>(ae.foot z).elim λo e=>nn nb.1 e.1) nb.2.2];refine F.why.elim λmw hq=>hq.elim λcv hq=>hq.elim λw1 hq=>hq.elim λw2 w3=>?_;refine aG ?_;exact #[_,dc,qz,rfl,pk,x,d,vs,sl,f0,F.ne,nf _ F.nx,nf _ F.nd,F.ex,#[mw,cv,w1,w2,Nd Ng iv w3],F.tb.imp id λq=>q.imp λT q=>q.imp λts q=>q.imp λfl q=>{q with new:=nf _ q.new}]
  |ok f=>
   induction f using uK with
   |ret ag=>obtain ⟨_,_,_,z,_⟩:=z;cases z
   |_=>exact z.elim
end
end
noncomputable def ba(i:Nat):Option Stmt:=(LY.main.body)[i]?
noncomputable def alW:pX->V:=λc=>(oO c).getD .none
noncomputable def fdOf:Option dW->la
 |some (.FunctionDef _ a b _ _ _ sc _ _ _)=>#[a.args.map (·.arg),a.defaults.map (λe=>match e with|.Constant c _ _=>alW c|_=>.none),b,sc]
 |_=>#[[],[],[],#[.function,[],av,av,[]]]
noncomputable def vQ(j:Nat):Option dW->Option dW
 |some (.ClassDef _ _ _ b _ _ _ _ _ _ _)=>b[j]?
 |_=>.none
noncomputable def eM:la:=fdOf (ba 14)
noncomputable def ij:la:=fdOf (ba 28)
noncomputable def cf:la:=fdOf (ba 35)
noncomputable def nE:la:=fdOf (ba 38)
noncomputable def kM:la:=fdOf (ba 52)
noncomputable def cw:la:=fdOf (ba 54)
noncomputable def dz:la:=fdOf (ba 65)
noncomputable def u3:la:=fdOf (ba 79)
noncomputable def gu:la:=fdOf (ba 83)
noncomputable def cm:la:=fdOf (ba 85)
noncomputable def b8:la:=fdOf (ba 86)
noncomputable def c9:la:=fdOf (ba 87)
noncomputable def bZ:la:=fdOf (ba 88)
noncomputable def bo:la:=fdOf (ba 93)
noncomputable def aW:la:=fdOf (ba 94)
noncomputable def gN:la:=fdOf (ba 95)
noncomputable def Fd:List (Nat×Option dW):= [
 (65,ba 5),
 (72,ba 6),
 (79,ba 7),
 (86,ba 8),
 (93,ba 9),
 (100,ba 10),
 (107,ba 11),
 (114,ba 12),
 (121,ba 14),
 (126,ba 15),
 (131,ba 16),
 (138,ba 17),
 (145,ba 18),
 (152,ba 19),
 (159,ba 20),
 (166,ba 21),
 (194,ba 24),
 (201,ba 25),
 (208,ba 26),
 (215,ba 27),
 (222,ba 28),
 (229,ba 29),
 (236,ba 30),
 (243,ba 31),
 (250,ba 32),
 (257,ba 33),
 (264,ba 34),
 (271,ba 35),
 (278,ba 37),
 (285,ba 38),
 (292,ba 39),
 (299,ba 41),
 (327,ba 43),
 (334,ba 44),
 (341,ba 45),
 (348,ba 46),
 (377,ba 49),
 (384,ba 50),
 (391,ba 51),
 (398,ba 52),
 (405,ba 53),
 (412,ba 54),
 (419,ba 55),
 (426,ba 56),
 (433,ba 57),
 (440,ba 58),
 (447,ba 59),
 (454,ba 60),
 (461,ba 61),
 (468,ba 62),
 (510,ba 65),
 (517,ba 66),
 (524,ba 67),
 (531,ba 68),
 (538,ba 69),
 (545,ba 70),
 (552,ba 71),
 (559,ba 72),
 (566,ba 73),
 (573,ba 74),
 (580,ba 75),
 (608,ba 79),
 (613,ba 80),
 (620,ba 81),
 (627,ba 82),
 (634,ba 83),
 (641,ba 84),
 (646,ba 85),
 (653,ba 86),
 (660,ba 87),
 (667,ba 88),
 (674,ba 89),
 (681,ba 90),
 (688,ba 91),
 (695,ba 92),
 (700,ba 93),
 (705,ba 94),
 (710,ba 95),
 (180,vQ 0 (ba 23)),
 (313,vQ 0 (ba 42)),
 (363,vQ 0 (ba 48)),
 (482,vQ 0 (ba 64)),
 (489,vQ 1 (ba 64)),
 (496,vQ 2 (ba 64)),
 (594,vQ 0 (ba 77))]
noncomputable def af6:List (Nat×S2):= [
 (183,#[180,[],[aE "fields",aE "family",aE "order",aE "prefix",aE "rows",aE "sets",aE "known",aE "makers",aE "flags"]]),
 (316,#[313,[],[aE "data",aE "link",aE "kind",aE "l4",aE "off",aE "place",aE "meta"]]),
 (366,#[363,[],[aE "packet",aE "now",aE "hook",aE "talk",aE "state",aE "is_reply",aE "talks",aE "sets",aE "objects",aE "fields",aE "readers",aE "doers",aE "ops",aE "tools",aE "order",aE "log",aE "replies",aE "steps",aE "homes"]]),
 (499,#[482,[(aE "get",489),(aE "put",496)],[aE "octets"]]),
 (597,#[594,[],[aE "number",aE "original",aE "reply",aE "zone",aE "until",aE "since",aE "mark",aE "status",aE "state",aE "sides",aE "master"]])]
noncomputable def Fe:List (aF×az):= [
 (aE "__name__",.str (aE "law_pf0352_01") 1092),
 (aE "__doc__",.none),
 (aE "__package__",.none),
 (aE "__loader__",.builtin "__main__.__loader__#opaque"),
 (aE "__spec__",.none),
 (aE "__annotations__",.ref 6),
 (aE "__builtins__",.ref 4),
 (aE "__file__",.str (aE "/claim/cut.py") 172),
 (aE "__cached__",.none),
 (aE "WallFault",.ref 31),
 (aE "Misused",.ref 44),
 (aE "LeftOut",.ref 56),
 (aE "needs_of",.ref 65),
 (aE "needs_in",.ref 72),
 (aE "field_named",.ref 79),
 (aE "is_worked",.ref 86),
 (aE "field_under",.ref 93),
 (aE "size_of",.ref 100),
 (aE "order_of",.ref 107),
 (aE "parts_of",.ref 114),
 (aE "number_of",.ref 121),
 (aE "octets_of",.ref 126),
 (aE "turned",.ref 131),
 (aE "host_octets",.ref 138),
 (aE "host_number",.ref 145),
 (aE "host_order",.ref 152),
 (aE "pad4",.ref 159),
 (aE "bits_of",.ref 166),
 (aE "Rowing",.ref 183),
 (aE "slots_of",.ref 194),
 (aE "const",.ref 201),
 (aE "turn_row",.ref 208),
 (aE "field_row",.ref 215),
 (aE "put_needs",.ref 222),
 (aE "cut_row",.ref 229),
 (aE "load_field",.ref 236),
 (aE "bits_row",.ref 243),
 (aE "shift_rows",.ref 250),
 (aE "load",.ref 257),
 (aE "load_hash",.ref 264),
 (aE "load_key",.ref 271),
 (aE "has_spans",.ref 278),
 (aE "make_dynset",.ref 285),
 (aE "dyn_makers",.ref 292),
 (aE "new_meta",.ref 299),
 (aE "Packet",.ref 316),
 (aE "family_of",.ref 327),
 (aE "base_of",.ref 334),
 (aE "part",.ref 341),
 (aE "field_bits",.ref 348),
 (aE "Scene",.ref 366),
 (aE "needs_met",.ref 377),
 (aE "width_of",.ref 384),
 (aE "read_by",.ref 391),
 (aE "masked",.ref 398),
 (aE "value_of",.ref 405),
 (aE "key_of",.ref 412),
 (aE "compared",.ref 419),
 (aE "meta_value",.ref 426),
 (aE "side_value",.ref 433),
 (aE "ct_value",.ref 440),
 (aE "read_payload",.ref 447),
 (aE "read_meta",.ref 454),
 (aE "read_ct",.ref 461),
 (aE "core_readers",.ref 468),
 (aE "Regs",.ref 499),
 (aE "key_of_layout",.ref 510),
 (aE "go_on",.ref 517),
 (aE "op_cmp",.ref 524),
 (aE "op_bitwise",.ref 531),
 (aE "op_shift",.ref 538),
 (aE "op_byteorder",.ref 545),
 (aE "put_number",.ref 552),
 (aE "op_payload",.ref 559),
 (aE "op_meta",.ref 566),
 (aE "op_ct",.ref 573),
 (aE "load_ops",.ref 580),
 (aE "Talk",.ref 597),
 (aE "_law_digits",.ref 608),
 (aE "_law_octets",.ref 613),
 (aE "_law_fields",.ref 620),
 (aE "_law_plain",.ref 627),
 (aE "_law_component",.ref 634),
 (aE "_law_needs",.ref 641),
 (aE "_law_about",.ref 646),
 (aE "_law_wanted",.ref 653),
 (aE "_law_made",.ref 660),
 (aE "_law_facts",.ref 667),
 (aE "_law_bits",.ref 674),
 (aE "_law_value",.ref 681),
 (aE "_law_note",.ref 688),
 (aE "_law_scene",.ref 695),
 (aE "_law_keys_hold",.ref 700),
 (aE "_law_order_holds",.ref 705),
 (aE "law",.ref 710)]
noncomputable def blL:List (aF×az):= [(aE "len",.builtin "len"),(aE "max",.builtin "max"),(aE "range",.type "range"),(aE "tuple",.type "tuple"),(aE "bytes",.type "bytes"),(aE "bytearray",.type "bytearray")]
noncomputable def R4(x:aF):Option V:=match Fe.lookup x with
 |some ag=>U (.con ag)
 |.none=>(blL.lookup x).map .con
noncomputable def P:fF:=#[R4,λa=>(Fd.lookup a).map fdOf,λa=>af6.lookup a,aE "LeftOut"]
set_option backward.match.sparseCases true
section
open PyProof.Rows
inductive kN where
 |no
 |yes (v:V) (O:L)
 |exc (v:V) (O:L)
 |ask (p:Prop) (d:Decidable p) (r:kN)
noncomputable def kN.k:kN->(QT)->RV
 |.no,_=>.bad
 |.yes v O,k=>k v O
 |.exc v O,_=>.exc v O
 |.ask p d r,k=> @ite _ p d (r.k k) .bad
noncomputable abbrev Spec:=LV->L->kN
noncomputable abbrev eR:=ay->Option Spec
theorem kN.blw(a:kN):∀{k k':QT},ic k k'->le (a.k k) ((a.k .ok).bind k'):=by
 induction a with
 |no=>exact λG=>le.bad
 |yes v O=>exact λh=>h v O
 |exc v O=>exact λG=>le.refl _
 |ask p d r ih=>
  intro k k' h;exact le.eL (λG=>ih h) λG=>le.bad
noncomputable def nW(t:eR):Ht:=λf args O=>match f with
 |.con (.ref a)=>(match t a with|some S=>(S args O).k .ok|.none=>.bad)
 |.con v=>jU v args O
 |_=>.bad
noncomputable def Y0(t:eR):yY:=λf args O k=>match f with
 |.con (.ref a)=>(match t a with|some S=>(S args O).k k|.none=>.bad)
 |.con v=>ei v args O k
 |_=>.bad
theorem y0(h:t a=U S):nW t (.con (.ref a)) args O=(S args O).k .ok:=I (λo:Option Spec=>(match o with|some S=>(S args O).k .ok|.none=>Res.bad:RV)) h
theorem Y1(h:t a=u):nW t (.con (.ref a)) args O= .bad:=I (λo:Option Spec=>(match o with|some S=>(S args O).k .ok|.none=>Res.bad:RV)) h
noncomputable def inl(t:eR):Nat->Ht
 |0=>nW t
 |n+1=>λf args O=>match f with
  |.con (.ref a)=>(match t a with|some S=>(S args O).k .ok|.none=>fk P (gn P (inl t n) deep) (.con (.ref a)) args O)
  |.con v=>jU v args O
  |_=>.bad
noncomputable def cn(t:eR):Nat->yY
 |0=>Y0 t
 |n+1=>λf args O k=>match f with
  |.con (.ref a)=>(match t a with|some S=>(S args O).k k|.none=>runK P (cn t n) (.con (.ref a)) args O k)
  |.con v=>ei v args O k
  |_=>.bad
theorem Ut(t:eR):Below (Y0 t) (nW t):=λf args O k k' h=>by
 unfold Y0 nW;induction f using V.casesOn with
 |con v=>
  induction v using rZ with
  |ref a=>
   have e:∀o:Option Spec,le (match o with|some S=>(S args O).k k|.none=>.bad) ((match o with|some S=>(S args O).k .ok|.none=>Res.bad).bind k'):=λo=>by
    rcases o with _|S
    ·exact le.bad
    ·exact (S args O).blw h
   exact e (t a)
  |_=>exact yW h
 |_=>exact le.bad
theorem Ai(t:eR)(n:Nat):Below (cn t n) (inl t n):=by
 induction n with
 |zero=>exact Ut t
 |succ n ih=>
  intro f args O k k' h;dsimp only [inl,cn];induction f using V.casesOn with
  |con v=>
   induction v using rZ with
   |ref a=>
    have e:∀o:Option Spec,le (match o with|some S=>(S args O).k k|.none=>runK P (cn t n) (.con (.ref a)) args O k) ((match o with|some S=>(S args O).k .ok|.none=>fk P (gn P (inl t n) deep) (.con (.ref a)) args O).bind k'):=λo=>by
     rcases o with _|S
     ·exact M3 ih _ _ _ _ _ h
     ·exact (S args O).blw h
    exact e (t a)
   |_=>exact yW h
  |_=>exact le.bad
noncomputable def Good(n:Nat)(t:eR):Prop:=∀c,fX c P->sF c P->vN c n (nW t)
section
variable{c:Cx}{n:Nat}{t t':eR}
theorem aax(h:vN c n c₁)(hb:∀v args O,(∀a,v≠gF a)->c₁ (.con v) args O=jU v args O)(hn:∀f args O,(∀v,f≠V.con v)->c₁ f args O= .bad):SC c n c₁:=by
 intro f args fv us O ρ s A aL ae fs hA rf R;by_cases hf:∃v,f= .con v
 ·obtain ⟨v,rfl⟩:=hf
  cases rf
  by_cases hr:∃a,fv=gF a
  ·obtain ⟨a,rfl⟩:=hr
   intro hb;refine sk (jN (h ae fs hA R hb) λq s' z=>?_);induction q using mT with
   |error e=>exact z
   |ok f=>rcases f<;>exact z
  ·rw [hb fv args O λa z=>hr #[a,z]]
   exact Ul hA ae fs R
 ·exact WX.bad (hn f args O λv z=>hf #[v,z])
theorem af7(h:vN c n (nW t)):SC c n (nW t):=aax h (λv args O hv=>by rcases v<;>first|rfl|exact absurd rfl (hv _)) λf args O hf=>by rcases f<;>first|rfl|exact absurd rfl (hf _)
theorem Uu(h:vN c n (inl t k)):SC c n (inl t k):=by
 induction k using jw with
 |zero=>exact af7 h
 |succ k=>exact aax h (λv args O hv=>by rcases v<;>first|rfl|exact absurd rfl (hv _)) λf args O hf=>by rcases f<;>first|rfl|exact absurd rfl (hf _)
theorem Y2(B:fX c P)(X:sF c P)(h6:6<=n)(h:vN c n (nW t))(k:Nat):vN c (n+3*k) (inl t k):=by
 induction k with
 |zero=>exact h
 |succ k ih=>
  intro a args us O ρ s A aL ae fs hA R hb;have e1:inl t (k+1) (.con (.ref a)) args O=(match t a with|some S=>(S args O).k .ok|none=>fk P (gn P (inl t k) deep) (.con (.ref a)) args O):=rfl;rw [e1]at hb⊢;induction ht:t a using aK with
  |none=>
   rw [ht]at hb;exact (Ho B X (A3 h6 (cg _ _)) (Uu ih) ih) ae fs hA R hb
  |some S=>
   rw [ht]at hb;have:=h ae fs (hA.le (cg _ _)) R (by rw [(y0 ht)];exact hb);simp only [(y0 ht)]at this;exact this
theorem Y3:Good 6 λG=>none:=λc B X=>λae fs hA R hb=>absurd rfl hb
theorem good_add(aoU:Good n t)(h6:6<=n)(k:Nat)(h:∀a S,t' a=U S->t a=U S \/∀args O,(S args O).k .ok≠ .bad->Qm O->bH (J O) args->fK O args (fk P (gn P (inl t k) deep) (.con (.ref a))) ((S args O).k .ok)):Good (n+3*(k+1)) t':=λc B X=>by
 have hk:vN c (n+3*k) (inl t k):=Y2 B X h6 (aoU c B X) k;intro a args us O ρ s A aL ae fs hA R hb;induction ht:t' a using aK with
 |none=>exact absurd (Y1 ht) hb
 |some S=>
  have e1:nW t' (.con (.ref a)) args O=(S args O).k .ok:=y0 ht;rcases h a S ht with q|q
  ·have e2:nW t (.con (.ref a)) args O=(S args O).k .ok:=y0 q
   have:=(aoU c B X) ae fs (hA.le (cg _ _)) R (by rw [e2,←e1];exact hb);rw [e2,←e1]at this;exact this
  ·let c₁:Ht:=λf args O=>match f with
    |.con (.ref b)=>if b=a then(S args O).k .ok else .bad
    |_=>.bad
   have h1:vN c (n+3*k+3) c₁:=Us (Ho B X (A3 h6 (cg _ _)) (Uu hk) hk) λb args O hb hs ha=>by
    have e:c₁ (.con (.ref b)) args O=if b=a then(S args O).k .ok else .bad:=rfl
    by_cases z:b=a
    ·subst z
     rw [e,au rfl]at hb⊢;exact q args O hb hs ha
    ·rw [e,ax z]at hb
     exact absurd rfl hb
   have e2:c₁ (.con (.ref a)) args O=(S args O).k .ok:=au rfl;have:=h1 ae fs hA R (by rw [e2,←e1];exact hb);simp only [e2,←e1]at this;exact this
end
end
set_option backward.match.sparseCases false
theorem Y4:(∀v:V,eh 0 v->oU (λG=>False) v)/\ ∀xs:LV,bH 0 xs->qy (λG=>False) xs:=
 V.wi (P:=λv=>eh 0 v->oU (λG=>False) v) (Q:=λxs=>bH 0 xs->qy (λG=>False) xs) (λv h G=>by rcases v<;>first|trivial|exact nomatch h) (λxs ih h=>ih h) (λxs ih h=>ih h) (λi h=>iQ _ h) (λG=>trivial) λx r a b h=>#[a h.1,b h.2]
theorem Y5(v:V):eh 0 v->oU (λG=>False) v:=Y4.1 v
theorem sR{run:LV->L->RV}(ha:bH 0 args)(hv:eh 0 v)(hr:run args []= .ok v aZ):fK O args run (.ok v O):=
 ⟨id,[],args,#[λa b h=>absurd h (iQ _),λi m e=>by simp at e],(Gq _).symm,ha,v,aZ,λG=>False,id,hr,
  #[ez _,λi h=>absurd h (iQ _),λi h=>h.elim,λa b h=>h.elim,λi h=>h.elim,λi G G=>rfl,λi h1 h2=>absurd h1 (JZ.mpr h2)],Y5 v hv,(M5 v).symm⟩
theorem jY(h:O[i]? =U (.list xs)):listAt O i=U xs:=by unfold listAt;rw [h]
theorem sS(h:O[i]? =U (.bu xs)):fY O i=U xs:=by unfold fY;rw [h]
theorem BG(h:O[i]? =U (.bu xs)):listAt O i=none:=by unfold listAt;rw [h]
theorem Hu(h:O[i]? =U (.dict xs)):dictAt O i=U xs:=by unfold dictAt;rw [h]
theorem PR(h:O[i]? =U (.dict xs)):listAt O i=none:=by unfold listAt;rw [h]
theorem gU(e:runK P (cn t k) f args O .ok= .ok v aZ):fk P (gn P (inl t k) deep) f args O= .ok v aZ:=acu (Ai t k) e
theorem Y6(e:runK P (cn t k) f args O .ok= .exc v aZ):fk P (gn P (inl t k) deep) f args O= .exc v aZ:=by
 have z:=M3 (P:=P) (Ai t k) f args O .ok .ok λG G=>le.refl _;simp only [e,DV]at z;exact z (by intro y;rcases y with⟨⟩)
noncomputable def dZ(d:la)(i:Nat):Option Stmt:=d.body[i]?
noncomputable def kZ:Option dW->aH×LT
 |some (.For t _ b _ _)=>(t,b)
 |_=>(.Name mK #[0,0,0,0],[])
noncomputable abbrev E(t:eR)(m d:Nat):vO:=DU P (cn t m) d
noncomputable def dA(t:eR)(m d:Nat)(sc:bM)(x:aH×LT):V->LK->L->(KT)->(QT)->RV:=
 λv l O n q=>gr sc x.1 v O l λl=>fm ((E t m d).x sc) x.2 l O n n q
noncomputable def jm(t:eR)(m:Nat)(f:la)(i:Nat):KT:=λl O=>fm ((E t m 20).x f.scope) (f.body.drop i) l O (λG O=>.ok .none O) (λG O=>.ok .none O) .ok
noncomputable def S(s:String):V:=.str (aE s)
noncomputable def numOf(b:U8):Nat:=b.foldl (λa o=>a*256+o.toNat) 0
theorem acz(t:eR)(m:Nat)(b:U8)(O:L):runK P (cn t m) (.con (.ref 121)) [.bytes b] O .ok=
  if(J b)<=aR then cR (dA t m 19 eM.scope (kZ (dZ eM 1))) (It.bytes b).nx bE 0 [("octets",.bytes b),("number",.int 0)] O (jm t m eM 2) .ok else .bad:=by rfl'
theorem Y7(t:eR)(m:Nat)(b:U8):runK P (cn t m) (.con (.ref 121)) [.ref 0] [.bu b] .ok=
  cR (dA t m 19 eM.scope (kZ (dZ eM 1))) (It.bu 0).nx bE 0 [("octets",.ref 0),("number",.int 0)] [.bu b] (jm t m eM 2) .ok:=by rfl'
theorem Y8(t:eR)(m:Nat)(a o:Int)(x:V)(O:L)(n:KT)(q:QT):dA t m 19 eM.scope (kZ (dZ eM 1)) (.int o) [("octets",x),("number",.int a)] O n q=
  if a.natAbs<2^1000/\ (0:Int)<=8/\ (8:Int)<=1000000 then(if 0<=a*2^(8:Int).toNat/\ 0<=o then n [("octets",x),("number",.int (((a*2^(8:Int).toNat).toNat|||o.toNat:Nat):Int)),("octet",.int o)] O else .bad)else .bad:=by rfl'
theorem Uv(t:eR)(m:Nat)(a o o':Int)(x:V)(O:L)(n:KT)(q:QT):dA t m 19 eM.scope (kZ (dZ eM 1)) (.int o) [("octets",x),("number",.int a),("octet",.int o')] O n q=
  if a.natAbs<2^1000/\ (0:Int)<=8/\ (8:Int)<=1000000 then(if 0<=a*2^(8:Int).toNat/\ 0<=o then n [("octets",x),("number",.int (((a*2^(8:Int).toNat).toNat|||o.toNat:Nat):Int)),("octet",.int o)] O else .bad)else .bad:=by rfl'
theorem acA(t:eR)(m:Nat)(a:V)(x:V)(r:LK)(O:L):jm t m eM 2 (("octets",x)::("number",a)::r) O= .ok a O:=by rfl'
theorem af8(h:o<256):(a*256|||o)=a*256+o:=by
 have:=Nat.two_pow_add_eq_or_of_lt (i:=8) h a;rw [oy a 256];exact this.symm
noncomputable abbrev af9(o:Int):LK:= [(aE "octet",.int o)]
noncomputable abbrev Y9(t:eR)(m:Nat):=dA t m 19 eM.scope (kZ (dZ eM 1))
set_option exponentiation.threshold 2000 in
theorem Za(t:eR)(m:Nat){a:Nat}{o:UInt8}(ha:a<2^1000)(hr:r= [] \/∃o':Int,r=af9 o'):
  Y9 t m (.int o.toNat) (("octets",x)::("number",.int a)::r) O n q=n [("octets",x),("number",.int (a*256+o.toNat:Nat)),("octet",.int o.toNat)] O:=by
 have e2:((a:Int)*2^(8:Int).toNat)=((a*256:Nat):Int):=by
  rw [show(2:Int)^(8:Int).toNat=256 from rfl];rfl
 have h2:(0<=(a:Int)*2^(8:Int).toNat/\ (0:Int)<=(o.toNat:Int)):=by rw [e2];exact (And.intro (bV _) (bV _))
 have e3:((((a:Int)*2^(8:Int).toNat).toNat|||((o.toNat:Int)).toNat:Nat):Int)=((a*256+o.toNat:Nat):Int):=by
  simp only [e2,mQ,mQ,af8 o.toNat_lt]
 rcases hr with rfl|⟨o',rfl⟩
 ·refine (Y8 t m _ _ _ _ _ _).trans ?_
  rw [au (#[by simpa using ha,by decide,by decide]),au h2,e3]
 ·refine (Uv t m _ _ o' _ _ _ _).trans ?_
  rw [au (#[by simpa using ha,by decide,by decide]),au h2,e3]
set_option exponentiation.threshold 2000 in
theorem DW(t:eR)(m:Nat){b:U8}(hb:J b<=100)(hnx:∀i,nx O i=U (b[i]?.map λo=>.int o.toNat)):
  ∀(k i a:Nat) (r:LK) (f:Nat),i+k=J b->a<256^i->(r= [] \/∃o':Int,r=af9 o')->k<f->
   cR (Y9 t m) nx f i (("octets",x)::("number",.int a)::r) O (jm t m eM 2) .ok= .ok (.int ((b.drop i).foldl (λa o=>a*256+o.toNat) a:Nat)) O
 |k,i,a,r,0,_,_,_,hf=>by lia
 |0,i,a,r,f+1,hi,ha,hr,hf=>by
  unfold cR;rw [hnx,lS (by exact (aaf hi))];show jm t m eM 2 _ _=_
  rw [acA,xW (by exact (aaf hi))]
  rfl
 |k+1,i,a,r,f+1,hi,ha,hr,hf=>by
  have Uq:i<J b:=by exact (aiI hi)
  unfold cR;rw [hnx,dS Uq];show Y9 t m (.int (b[i].toNat)) _ O _ _=_
  have h2:a<2^1000:=by
   refine gG ha ?_;rw [show(256:Nat)=2^8 from rfl,←mO];exact rN (rL 1) (by exact (si (mL _ (iP Uq)) hb (aV rfl)):8*i<=1000)
  have h3:a*256+b[i].toNat<256^(i+1):=by
   have:=b[i].toNat_lt;simp only [Nat.pow_succ]
   lia
  rw [Za t m h2 hr];simp only [DW t m hb hnx k (i+1) _ _ f (by exact (aae hi)) h3 (.inr #[_,rfl]) (by exact (iM hf)),List.drop_eq_getElem_cons Uq]
  rfl
theorem PS(t:eR)(m:Nat)(hb:J b<=100):runK P (cn t m) (.con (.ref 121)) [.bytes b] O .ok= .ok (.int (numOf b)) O:=by
 rw [acz,au (by unfold aR;exact (bt hb (aV rfl)))];exact DW t m hb (λi=>rfl) (J b) 0 0 [] bE (by exact (kg _)) (by decide) (.inl rfl) (by unfold bE;exact (gd hb (bF rfl)))
theorem PT(t:eR)(m:Nat)(hb:J b<=100):runK P (cn t m) (.con (.ref 121)) [.ref 0] [.bu b] .ok= .ok (.int (numOf b)) [.bu b]:=by
 rw [Y7];exact DW t m hb (λi=>rfl) (J b) 0 0 [] bE (by exact (kg _)) (by decide) (.inl rfl) (by unfold bE;omega)
noncomputable def Nh(r:RV):Option (V×L):=match r with
 |.ok v O=>U (v,O)
 |_=>u
theorem vR(h:Nh r=U p):r= .ok p.1 p.2:=by rcases r<;>first|exact I (λp:V×L=>Res.ok p.1 p.2) (bh h)|exact dG h
theorem DX{α:Type}{l:List α}{n:Nat}(h:J l=n+1):∃a t,l=a::t/\ (J t)=n:=by
 rcases l with _|⟨a,t⟩
 ·exact nomatch h
 ·exact #[a,t,rfl,kJ h]
theorem R5{α:Type}{l:List α}(h:J l=1):∃a,l= [a]:=CV.mp h
theorem Ni{α:Type}{l:List α}(h:J l=2):∃a b,l= [a,b]:=
 (DX h).elim λa z=>z.elim λt z=>#[a,(R5 z.2).imp λb e=>z.1.trans (I _ e)]
theorem R6{α:Type}{l:List α}(h:J l=4):∃a b c d,l= [a,b,c,d]:=
 (DX h).elim λa z=>z.elim λt z=>#[a,(DX z.2).elim λb y=>y.elim λag y=>#[b,(Ni y.2).imp λc e=>e.imp λd e=>z.1.trans (I _ (y.1.trans (I _ e)))]]
noncomputable def gO(b:Bool):Option Unit:=bif b then U ()else .none
theorem wH(h:gO b=U ag):b=true:=by rcases b<;>first|rfl|exact dG h
noncomputable def i2{α:Type}(o:Option α)(f:α->kN):kN:=match o with
 |some a=>f a
 |.none=>.no
noncomputable def Zb:V->Option Bool
 |.bool b=>U b
 |_=>.none
theorem Hv(e:Zb x=U b):x= .bool b:=by rcases x<;>first|exact I V.bool (bh e)|exact dG e
noncomputable def Uw{α:Type}(f:V->Option α):LV->Option α
 | [x]=>f x
 |_=>.none
noncomputable def shC{α β:Type}(f:V->Option α)(g:LV->Option β):LV->Option (α×β)
 |x::r=>(f x).bind λa=>(g r).map λb=>(a,b)
 | []=>.none
noncomputable abbrev sh2{α β:Type}(f:V->Option α)(g:V->Option β):=shC f (Uw g)
noncomputable abbrev Qr{α β γ:Type}(f:V->Option α)(g:V->Option β)(h:V->Option γ):=shC f (sh2 g h)
noncomputable abbrev sh4{α β γ δ:Type}(f:V->Option α)(g:V->Option β)(h:V->Option γ)(i:V->Option δ):=shC f (Qr g h i)
theorem Ux{α:Type}{f:V->Option α}{args:LV}{a:α}(h:Uw f args=U a):∃x,args= [x]/\ f x=U a:=by
 rcases args with _|⟨x,_|⟨y,r⟩⟩
 ·exact dG h
 ·exact #[x,rfl,h]
 ·exact dG h
theorem nh{α:Type}{f:V->Option α}{F:α->V}(hF:∀{x a},f x=U a->x=F a){args:LV}{a:α}(h:Uw f args=U a):args= [F a]:=
 (Ux h).elim λx z=>z.1.trans (I (λx=> [x]) (hF z.2))
theorem f6{α β:Type}{f:V->Option α}{g:LV->Option β}{F:α->V}{aoU:β->LV}(hF:∀{x a},f x=U a->x=F a)(hG:∀{r b},g r=U b->r=aoU b){a:α×β}(h:shC f g args=U a):args=F a.1::aoU a.2:=by
 rcases args with _|⟨x,r⟩
 ·exact dG h
 ·obtain ⟨ag,e1,h⟩:=gm h
  obtain ⟨b,e2,rfl⟩:=je.mp h;exact qF uC (hF e1) (hG e2)
theorem tM(h:o=U a):i2 o f=f a:=h▸rfl
theorem kN.aaz{p:Prop}{d:Decidable p}{k:QT}:(kN.ask p d r).k k=if p then r.k k else .bad:=rfl
noncomputable def tNo:eR:=λG=>.none
noncomputable def pE(x:ay)(s:Spec)(t:eR):eR:=λa=>if a=x then U s else t a
theorem jn{S:Spec}{aoU:Prop}(h:pE x s t a=U S)(k:a=x->s=S->aoU)(l:t a=U S->aoU):aoU:=by
 unfold pE at h;by_cases q:a=x
 ·rw [au q]at h;exact k q (bh h)
 ·rw [ax q]at h;exact l h
section
variable{O:L}{args:LV}{run:LV->L->RV}
theorem dB(h:∀a,o=U a->((f a).k .ok≠ .bad)->fK O args run ((f a).k .ok))(hb:(i2 o f).k .ok≠ .bad):fK O args run ((i2 o f).k .ok):=by
 rcases o with _|a
 ·exact absurd rfl hb
 ·exact h a rfl hb
theorem kO{p:Prop}{d:Decidable p}(h:p->(r.k .ok≠ .bad)->fK O args run (r.k .ok))(hb:(kN.ask p d r).k .ok≠ .bad):fK O args run ((kN.ask p d r).k .ok):=by
 by_cases q:p
 ·rw [kN.aaz,au q]at hb⊢;exact h q hb
 ·rw [kN.aaz,ax q]at hb;exact absurd rfl hb
end
theorem Uy:(∀v:V,eh n v->oU (·<n) v)/\ ∀xs:LV,bH n xs->qy (·<n) xs:=
 V.wi (λv h G=>by rcases v<;>first|trivial|exact nomatch h) (λxs ih h=>ih h) (λxs ih h=>ih h) (λi h=>h) (λG=>trivial) λx r a b h=>#[a h.1,b h.2]
theorem wI(v:V):eh n v->oU (·<n) v:=Uy.1 v
theorem Ff(xs:LV):bH n xs->qy (·<n) xs:=Uy.2 xs
theorem agb(h:zB n m):qY (·<n) m:=by
 induction m using MO.casesOn with
 |inst=>exact λx v e=>wI v (h x v e)
 |bu=>trivial
 |_=>exact Ff _ h
section
variable{O dc Os fQ:L}{args as:LV}{run:LV->L->RV}{v:V}{j:Nat->Nat}
theorem R7(E:u0 j Os O)(low:J dc=J O)(has:∀i,i<J Os->∃m,fQ[i]? =U m/\ zB (J Os) m/\ ∃m',dc[j i]? =U m'/\ pD (fE j m) m')
  (rest:∀i,i<J O->(∀a,a<J Os->j a≠i)->dc[i]? =O[i]?):Back j (·<J Os) j Os O fQ dc:=
 ⟨bf low.symm,λi h=>#[h,rfl],λi h=>.inl h,λa b ha hb e=>E.inj a b ha hb e,λi h=>by
  refine bl λaG=>?_;refine (has i h).elim λm hq=>hq.elim λe hq=>hq.elim λs r=>?_;refine aG ?_;exact #[m,e,agb s,r],rest,λi h1 h2=>absurd h1 (by simp only [low]at h2;exact JZ.mpr h2)⟩
theorem y3(E:u0 j Os O)(ha:args=fP j as)(sa:bH (J Os) as)(hr:run as Os= .ok v fQ)(low:J dc=J O)
  (has:∀i,i<J Os->∃m,fQ[i]? =U m/\ zB (J Os) m/\ ∃m',dc[j i]? =U m'/\ pD (fE j m) m') (rest:∀i,i<J O->(∀a,a<J Os->j a≠i)->dc[i]? =O[i]?) (sv:eh (J Os) v):
  fK O args run (.ok (en j v) dc):=#[j,Os,as,E,ha,sa,v,fQ,_,j,hr,R7 E low has rest,wI v sv,rfl]
theorem Aj(E:u0 j Os O)(ha:args=fP j as)(sa:bH (J Os) as)(hr:run as Os= .ok v fQ)(same:∀i,i<J Os->fQ[i]? =Os[i]?)(sv:eh (J Os) v):fK O args run (.ok (en j v) O):=
 y3 E ha sa hr rfl (λi h=>by
  refine bl λaG=>?_;refine (E.obj i Os[i] (by simp [h])).elim λs hq=>hq.elim λm' hq=>hq.elim λe r=>?_;refine aG ?_;exact #[Os[i],by simp only [same i h];simp [h],s,m',e,Up r]) (λG G G=>rfl) sv
theorem Gs(e:O[i]? =U m)(hs:zB 1 m)(hs0:zB 1 m0)(h:pD m (fE (λG=>i) m0)):u0 (λG=>i) [m0] O:=
 ⟨λa b ha hb G=>by simp at ha hb;exact (Eq.trans ha (Eq.symm hb)),λk m' e'=>by
  induction k using jw with
  |zero=>obtain rfl:=bh e';exact #[hs0,m,e,h]
  |succ k=>simp at e'⟩
end
noncomputable def aaA(O:L):V->Option (U8)
 |.bytes b=>U b
 |.ref i=>fY O i
 |_=>.none
theorem R8(h:aaA O x=U b):x= .bytes b \/∃i,x= .ref i/\ O[i]? =U (.bu b):=by
 induction x using V.casesOn with
 |bytes=>exact .inl (I V.bytes (bh h))
 |ref i=>exact .inr #[i,rfl,gH h]
 |_=>exact dG h
noncomputable def IC:Spec:=λargs O=>i2 (Uw (aaA O) args) λb=>.ask (J b<=100) inferInstance (.yes (.int (numOf b)) O)
theorem Zc(t:eR)(k:Nat)(args:LV)(O:L)(hb:(IC args O).k .ok≠ .bad):fK O args (fk P (gn P (inl t k) deep) (.con (.ref 121))) ((IC args O).k .ok):=
 dB (λb e=>kO λq G=>(Ux e).elim λx z=>z.1▸(R8 z.2).elim (λe=>e▸sR #[tv,tv] trivial (gU (PS t k q)))
  λ#[i,e,e1]=>e▸Aj (Gs e1 trivial (m0:=.bu b) trivial rfl) (as:= [.ref 0]) rfl #[CF,tv] (gU (PT t k q)) (λi h=>rfl) trivial) hb
noncomputable def zC(xs:LV)(O:L)(k:QT):RV:=bc (bytesOf xs) λb=>if(J b)<=aR then k (.bytes b) (O++ [.list xs])else .bad
noncomputable def cS(xs:LN):LV:=xs.map λx:Nat=>V.int (x:Int)
noncomputable def cA(n s:Nat):U8:=(cC s).map λp=>(n/2^(8*(s - 1 - p))).toUInt8
theorem Ak:(∀x∈xs,x<256)->bytesOf (cS xs)=U (xs.map (·.toUInt8)):=by
 induction xs with
 |nil=>exact λG=>rfl
 |cons x r ih=>exact λh=>(au #[bV x,qH (lK (h x cY)) rfl]).trans (I (mI (x.toUInt8::·)) (ih λy hy=>h y (cZ _ hy)))
theorem y4(h:∀x∈xs,x<256)(hl:J xs<=100):zC (cS xs) O k=k (.bytes (xs.map (·.toUInt8))) (O++ [.list (cS xs)]):=by
 unfold zC;rw [Ak h];exact au (bt (bf (cQ _)) (bt hl (aV rfl)))
theorem alX(x:Nat):x&&&255=x % 256:=mP x 8
theorem to8(x:Nat):(x % 256).toUInt8=x.toUInt8:=DG ((DH ..).trans ((Nat.mod_mod x 256).trans (DH ..).symm))
theorem Be{xs:LN}(hl:J xs<=100):zC (cS (xs.map (· % 256))) O k=k (.bytes (xs.map (·.toUInt8))) (O++ [.list (cS (xs.map (· % 256)))]):=
 (y4 (λx h=>(iR.mp h).elim λy z=>z.2▸dH y (bF rfl)) (cQ (as:=xs) _▸hl)).trans (I (λb=>k (.bytes b) _) (lU.trans (rV λy G=>to8 y)))
theorem acB(t:eR)(s:Nat)(n:Nat):(s=1 \/s=2 \/s=4)->runK P (cn t 0) (.con (.ref 126)) [.int n,.int s] [] .ok=
  if !(((n/2^(8*s):Nat):Int)==0)then .bad else(zC (cS (((cC s).map λp=>n/2^(8*(s - 1 - p))).map (·&&&255))) [] .ok):=by
 rintro (rfl|rfl|rfl)
 ·rfl'
 ·rfl'
 ·rfl'
theorem agc(t:eR){s n:Nat}(hs:s=1 \/s=2 \/s=4)(hn:n<256^s):∃O,runK P (cn t 0) (.con (.ref 126)) [.int n,.int s] [] .ok= .ok (.bytes (cA n s)) O:=by
 have e:=acB t s n hs;rw [uu (gG hn (bf (mO 2 8 s).symm)),show(·&&&255)=(· % 256)from funext alX]at e;exact #[_,e.trans ((ax nofun).trans ((Be (bt (bf ((cQ _).trans lV)) (bt (bt (fx s 0) (yH (s:=0) (x:=4) (aV rfl) hs)) (aV rfl)))).trans (I (λb=>Res.ok (V.bytes b) _) lU)))]
theorem Uz(t:eR)(a b:UInt8):runK P (cn t 0) (.con (.ref 131)) [.bytes [a,b]] [] .ok=zC [.int b.toNat,.int a.toNat] [] .ok:=by rfl'
theorem UA(t:eR)(a b c d:UInt8):runK P (cn t 0) (.con (.ref 131)) [.bytes [a,b,c,d]] [] .ok=zC [.int d.toNat,.int c.toNat,.int b.toNat,.int a.toNat] [] .ok:=by rfl'
theorem ajn(o:UInt8):o.toNat.toUInt8=o:=UInt8.ofNat_toNat
theorem Hw(h:J b<=100):zC (cS (b.map (·.toNat))) O k=k (.bytes b) (O++ [.list (cS (b.map (·.toNat)))]):=
 (y4 (λx hx=>(iR.mp hx).elim λy z=>z.2▸y.toNat_lt) (cQ (as:=b) _▸h)).trans (I (λb'=>k (.bytes b') _) (lU.trans ((rV λy G=>ajn y).trans (List.map_id' b))))
theorem acC(t:eR)(h:J b=2 \/J b=4):∃O,runK P (cn t 0) (.con (.ref 131)) [.bytes b] [] .ok= .ok (.bytes b.reverse) O:=by
 rcases h with h|h
 ·obtain ⟨x,y,rfl⟩:=Ni h
  exact #[_,(Uz t x y).trans (Hw (b:= [y,x]) (aV rfl))]
 ·obtain ⟨x,y,z,w,rfl⟩:=R6 h
  exact #[_,(UA t x y z w).trans (Hw (b:= [w,z,y,x]) (aV rfl))]
theorem agd(t:eR)(n:Nat):runK P (cn t 0) (.con (.ref 613)) [.int n,.int 4,.bool av] [] .ok=zC (cS ([n/256^3,n/256^2,n/256^1,n/256^0].map (· % 256))) [] .ok:=by rfl'
theorem acD(t:eR)(n:Nat):runK P (cn t 0) (.con (.ref 613)) [.int n,.int 4,.bool ai] [] .ok=zC (cS ([n/256^0,n/256^1,n/256^2,n/256^3].map (· % 256))) [] .ok:=by rfl'
theorem acE(t:eR)(n:Nat):runK P (cn t 0) (.con (.ref 613)) [.int n,.int 2,.bool av] [] .ok=zC (cS ([n/256^1,n/256^0].map (· % 256))) [] .ok:=by rfl'
theorem ajo(t:eR){n s:Nat}(h:s=4 \/(s=2/\ l=av)):∃O,runK P (cn t 0) (.con (.ref 613)) [.int n,.int s,.bool l] [] .ok= .ok (.bytes (if l then(cA n s).reverse else cA n s)) O:=by
 rcases h with rfl|⟨rfl,rfl⟩
 ·rcases l with⟨⟩
  ·exact #[_,(agd t n).trans (Be (aV rfl))]
  ·exact #[_,(acD t n).trans (Be (aV rfl))]
 ·exact #[_,(acE t n).trans (Be (aV rfl))]
noncomputable def qQ:Spec:=λargs O=>i2 (sh2 dE dE args) λx=>.ask (0<=x.1/\ (x.2=1 \/x.2=2 \/x.2=4)/\ x.1.toNat<256^x.2.toNat) inferInstance (.yes (.bytes (cA x.1.toNat x.2.toNat)) O)
noncomputable def wJ:Spec:=λargs O=>i2 (Uw jJ args) λb=>.ask (J b=2 \/J b=4) inferInstance (.yes (.bytes b.reverse) O)
noncomputable def Gu:Spec:=λargs O=>i2 (Qr dE dE Zb args) λx=>.ask (0<=x.1/\ (x.2.1=4 \/(x.2.1=2/\ x.2.2=av))) inferInstance (.yes (.bytes (if x.2.2 then(cA x.1.toNat x.2.1.toNat).reverse else cA x.1.toNat x.2.1.toNat)) O)
theorem Zd(t:eR)(args:LV)(O:L)(hb:(qQ args O).k .ok≠ .bad):fK O args (fk P (gn P (inl t 0) deep) (.con (.ref 126))) ((qQ args O).k .ok):=
 dB (λx e=>kO λq G=>by
  obtain ⟨n,s⟩:=x;obtain rfl:=f6 cD (nh cD) e;obtain ⟨n,rfl⟩:=iA q.1;have hs:∃k:Nat,s=k/\ (k=1 \/k=2 \/k=4):=q.2.1.elim (λz=>#[1,z,.inl rfl]) λz=>z.elim (λz=>#[2,z,.inr (.inl rfl)]) λz=>#[4,z,.inr (.inr rfl)];obtain ⟨s,rfl,hs⟩:=hs;exact (agc t hs q.2.2).elim λaZ r=>sR #[tv,tv,tv] trivial (gU r)) hb
theorem UB(t:eR)(args:LV)(O:L)(hb:(wJ args O).k .ok≠ .bad):fK O args (fk P (gn P (inl t 0) deep) (.con (.ref 131))) ((wJ args O).k .ok):=
 dB (λb e=>kO λq G=>(acC t q).elim λaZ r=>nh gL e▸sR #[tv,tv] trivial (gU r)) hb
theorem acF(t:eR)(args:LV)(O:L)(hb:(Gu args O).k .ok≠ .bad):fK O args (fk P (gn P (inl t 0) deep) (.con (.ref 613))) ((Gu args O).k .ok):=
 dB (λx e=>kO λq G=>by
  obtain ⟨n,s,l⟩:=x;obtain rfl:=f6 cD (f6 cD (nh Hv)) e;obtain ⟨n,rfl⟩:=iA q.1;have hs:∃k:Nat,s=k/\ (k=4 \/(k=2/\ l=av)):=q.2.elim (λz=>#[4,z,.inl rfl]) λz=>#[2,z.1,.inr #[rfl,z.2]];obtain ⟨s,rfl,hs⟩:=hs;exact (ajo t hs).elim λaZ r=>sR #[tv,tv,tv,tv] trivial (gU r)) hb
noncomputable def lj:Nat->V->Bool
 |0,_=>av
 |n+1,.tup xs=>xs.all (lj n)
 |n+1,.lst xs=>xs.all (lj n)
 |_,.ref _=>av
 |_,_=>ai
theorem u4(h:∀v,lj n v=ai->eh 0 v):∀xs:LV,xs.all (lj n)=ai->bH 0 xs
 | [],_=>trivial
 |x::r,q=>by
  simp only [lR,iK]at q;exact #[h x q.1,u4 h r q.2]
theorem ni:∀(n:Nat) (v:V),lj n v=ai->eh 0 v
 |0,_,h=>nomatch h
 |n+1,.tup xs,h=>u4 (ni n) xs h
 |n+1,.lst xs,h=>u4 (ni n) xs h
 |_+1,.ref _,h=>nomatch h
 |_+1,.none,_|_+1,.bool _,_|_+1,.int _,_|_+1,.str _,_|_+1,.bytes _,_|_+1,.ee _ _,_|_+1,.con _,_=>trivial
noncomputable def spP(t:eR)(k:Nat)(a:ay):Spec:=λargs O=>i2 (gO (args.all (lj 5))) λG=>i2 (Nh (runK P (cn t k) (.con (.ref a)) args [] .ok)) λp=>i2 (gO (lj 5 p.1)) λG=>.yes p.1 O
theorem UC(args:LV)(O:L)(hb:(spP t k a args O).k .ok≠ .bad):fK O args (fk P (gn P (inl t k) deep) (.con (.ref a))) ((spP t k a args O).k .ok):=
 dB (λG ha=>dB λp e=>dB λG q G=>sR (u4 (ni 5) _ (wH ha)) (ni 5 _ (wH q)) (gU (vR e))) hb
noncomputable def T1:eR:=pE 121 IC (pE 126 qQ (pE 131 wJ (pE 613 Gu tNo)))
theorem ajp:Good 9 T1:=good_add Y3 (ez _) 0 λa S h=>.inr λargs O hb G G=>
 jn h (λe z=>by subst e z;exact Zc _ _ args O hb) λh=>jn h (λe z=>by subst e z;exact Zd _ args O hb) λh=>jn h (λe z=>by subst e z;exact UB _ args O hb) λh=>jn h (λe z=>by subst e z;exact acF _ args O hb) λh=>dG h
noncomputable def fq(at' many:Nat)(b:U8):ON:=if(J b)<(at'+many+7)/8 then u else U (numOf (cut (at'/8) ((at'+many+7)/8) b)/2^(8*((at'+many+7)/8) - at' - many) % 2^many)
noncomputable def cj:ON->V
 |none=>.none
 |some n=>.int n
noncomputable def sG:NN:= [(96,32),(8,6),(14,2),(64,128),(176,16),(336,16),(256,4),(416,4),(160,16),(160,8)]
noncomputable def aaC(b:U8)(p:Nat×Nat):RV:=if(J b)<=aR then(if decide ((((p.1+p.2+7)/8:Nat):Int)>((J b):Int))then .ok .none [.bu b]else if(J b)<=aR then
   (if(J (cut (p.1/8) ((p.1+p.2+7)/8) b))<=100 then .ok (.int ((numOf (cut (p.1/8) ((p.1+p.2+7)/8) b)/2^(8*((p.1+p.2+7)/8) - p.1 - p.2)&&&2^p.2 - 1:Nat):Int)) [.bu b,.bu (cut (p.1/8) ((p.1+p.2+7)/8) b)]else .bad)else .bad)else .bad
theorem Nj(b:U8)(p:Nat×Nat)(h:p∈sG):runK P (cn T1 1) (.con (.ref 166)) [.ref 0,.int (p.1:Nat),.int (p.2:Nat)] [.bu b] .ok=aaC b p:=
 ((gE.mpr #[by rfl',gE.mpr #[by rfl',gE.mpr #[by rfl',gE.mpr #[by rfl',gE.mpr #[by rfl',gE.mpr #[by rfl',gE.mpr #[by rfl',gE.mpr #[by rfl',gE.mpr #[by rfl',gE.mpr #[by rfl',λG h=>nomatch h]]]]]]]]]]:∀p∈sG,runK P (cn T1 1) (.con (.ref 166)) [.ref 0,.int (p.1:Nat),.int (p.2:Nat)] [.bu b] .ok=aaC b p)) p h
theorem acG(b:U8)(hb:J b<=100)(p:Nat×Nat)(h:p∈sG):∃aZ,runK P (cn T1 1) (.con (.ref 166)) [.ref 0,.int (p.1:Nat),.int (p.2:Nat)] [.bu b] .ok= .ok (cj (fq p.1 p.2 b)) aZ/\ aZ[0]? =U (.bu b):=by
 have c:J b<=aR:=bt hb (aV rfl);unfold fq;by_cases q:J b<(p.1+p.2+7)/8
 ·rw [au q]
  exact #[_,((Nj b p h).trans (au c)).trans (au (dC (A5 q))),rfl]
 ·rw [ax q]
  exact #[_,((Nj b p h).trans (au c)).trans ((ax λz=>rY (mY (kh q)) (fj z)).trans ((au c).trans ((au (bt (bf lT) (bt (lQ _ _) (bt (KQ ..) hb)):J (cut (p.1/8) ((p.1+p.2+7)/8) b)<=100)).trans (I (λn:Nat=>Res.ok (V.int n) _) (mP ..))))),rfl]
noncomputable def Al:Spec:=λargs O=>i2 (Qr dw dE dE args) λx=>i2 (fY O x.1) λb=>.ask (J b<=100/\ 0<=x.2.1/\ 0<=x.2.2/\ (x.2.1.toNat,x.2.2.toNat)∈sG) inferInstance (.yes (cj (fq x.2.1.toNat x.2.2.toNat b)) O)
theorem tN(o:ON):eh n (cj o):=by rcases o<;>exact tv
theorem Ze(o:ON):en g (cj o)=cj o:=by rcases o<;>rfl
theorem UD(args:LV)(O:L)(hb:(Al args O).k .ok≠ .bad):fK O args (fk P (gn P (inl T1 1) deep) (.con (.ref 166))) ((Al args O).k .ok):=
 dB (λx e=>dB λb e1=>kO λq G=>by
  obtain ⟨i,a,m⟩:=x;obtain rfl:=f6 dF (f6 cD (nh cD)) e;obtain ⟨a,rfl⟩:=iA q.2.1;obtain ⟨m,rfl⟩:=iA q.2.2.1;refine (acG b q.1 (a,m) q.2.2.2).elim λaZ z=>Ze (fq a m b)▸Aj (Gs (gH e1) trivial (m0:=.bu b) trivial rfl) (as:= [.ref 0,.int a,.int m]) rfl #[CF,tv,tv,tv] (gU z.1) (λi h=>?_) (tN _);obtain rfl:=CG.mp h;exact z.2) hb
noncomputable def Dk(n:Nat)(ks:LN)(i:Nat):Prop:=i<n \/i∈ks
noncomputable def Gk(j:Nat->Nat)(n N:Nat)(ks:LN)(i:Nat):Nat:=if i<n then j i else N+ks.idxOf i
section
variable{O dc Os fQ:L}{args as:LV}{run:LV->L->RV}{v:V}{j:Nat->Nat}{ks:LN}
theorem Nk(E:u0 j Os O)(hk:∀k,k∈ks->J Os<=k)(nd:ks.Nodup)(low:J dc=J O+J ks)
  (has:∀i,i<J Os->∃m,fQ[i]? =U m/\ qY (Dk (J Os) ks) m/\ ∃m',dc[j i]? =U m'/\ pD (fE (Gk j (J Os) (J O) ks) m) m')
  (new:∀p k,ks[p]? =U k->∃m,fQ[k]? =U m/\ qY (Dk (J Os) ks) m/\ ∃m',dc[J O+p]? =U m'/\ pD (fE (Gk j (J Os) (J O) ks) m) m')
  (rest:∀i,i<J O->(∀a,a<J Os->j a≠i)->dc[i]? =O[i]?):Back j (Dk (J Os) ks) (Gk j (J Os) (J O) ks) Os O fQ dc:=by
 have g1:∀{i},i<J Os->Gk j (J Os) (J O) ks i=j i:=λh=>au h;have g2:∀{i},i∈ks->Gk j (J Os) (J O) ks i=J O+ks.idxOf i:=λh=>ax (ur.mpr (hk _ h))
 have Qq:∀i,i<J Os->j i<J O:=λi hi=>by
  refine (E.obj i Os[i] (by simp [hi])).elim λG hq=>hq.elim λm' hq=>?_;have h:=hq.1;exact (jj h).1
 refine #[by simp only [low];exact cg _ _,λi h=>#[.inl h,g1 h],λi h=>?_,λa b ha hb e=>?_,λi h=>?_,rest,λi h1 h2=>?_]
 ·rcases h with h|h
  ·exact .inl h
  ·exact .inr #[hk _ h,by simp only [g2 h];exact cg _ _]
 ·rcases ha with ha|ha<;>rcases hb with hb|hb
  ·rw [g1 ha,g1 hb]at e;exact E.inj a b ha hb e
  ·rw [g1 ha,g2 hb]at e;have:=Qq a ha;lia
  ·simp only [g2 ha,g1 hb]at e;have:=Qq b hb;lia
  ·rw [g2 ha,g2 hb]at e
   have e2:ks.idxOf a=ks.idxOf b:=by lia
   have h1:ks[ks.idxOf a]? =U a:=by rw [dS (CW ha),CX]
   have h2:ks[ks.idxOf b]? =U b:=by rw [dS (CW hb),CX]
   rw [e2,h2]at h1;exact (bh h1).symm
 ·rcases h with h|h
  ·rw [g1 h];exact has i h
  ·rw [g2 h]
   exact new _ i (by rw [dS (CW h),CX])
 ·have hp:i - J O<J ks:=by exact (aiQ low h1 h2)
  refine #[ks[i - J O],.inr (CY hp),?_];rw [g2 (CY hp),nd.idxOf_getElem];exact (xQ h1)
theorem DY(E:u0 j Os O)(ha:args=fP j as)(sa:bH (J Os) as)(hr:run as Os= .ok v fQ)(ks:LN)(hk:∀k,k∈ks->J Os<=k)(nd:ks.Nodup)(low:J dc=J O+J ks)
  (has:∀i,i<J Os->∃m,fQ[i]? =U m/\ qY (Dk (J Os) ks) m/\ ∃m',dc[j i]? =U m'/\ pD (fE (Gk j (J Os) (J O) ks) m) m')
  (new:∀p k,ks[p]? =U k->∃m,fQ[k]? =U m/\ qY (Dk (J Os) ks) m/\ ∃m',dc[J O+p]? =U m'/\ pD (fE (Gk j (J Os) (J O) ks) m) m')
  (rest:∀i,i<J O->(∀a,a<J Os->j a≠i)->dc[i]? =O[i]?) (sv:oU (Dk (J Os) ks) v):fK O args run (.ok (en (Gk j (J Os) (J O) ks) v) dc):=
 #[j,Os,as,E,ha,sa,v,fQ,_,_,hr,Nk E hk nd low has new rest,sv,rfl]
theorem Qs:u0 id [] O:=#[λa b h=>absurd h (iQ _),λi m e=>by simp at e]
theorem Hx(sa:bH 0 args)(hr:run args []= .ok v fQ)(hm:fQ[k]? =U m)(pm:qY (Dk 0 [k]) m)(pv:oU (Dk 0 [k]) v):
  fK O args run (.ok (en (Gk id 0 (J O) [k]) v) (O++ [fE (Gk id 0 (J O) [k]) m])):=
 DY Qs (Gq _).symm sa hr [k] (λG G=>bp _) (gf.mpr #[iT,jy]) (by simp)
  (λi h=>absurd h (iQ _)) (λp q e=>by
   induction p using jw with
   |zero=>obtain rfl:=bh e;exact #[m,hm,pm,_,by simp,fZ _]
   |succ p=>exact dG e) (λi h G=>by simp only [eA h]) pv
end
noncomputable def T2:eR:=pE 166 Al (pE 65 (spP T1 1 65) (pE 72 (spP T1 1 72) T1))
theorem good2:Good 15 T2:=good_add ajp (aV rfl) 1 λa S h=>jn h (λe z=>.inr λargs O hb G G=>by subst e z;exact UD args O hb) λh=>jn h (λe z=>.inr λargs O hb G G=>by subst e z;exact UC args O hb) λh=>
 jn h (λe z=>.inr λargs O hb G G=>by subst e z;exact UC args O hb) .inl
noncomputable def plainT(s:Nat):List (String×String×LV×Nat×String):= [
 ("ip saddr", "ip",[.tup [S "payload",.int s,S "network",.int 12,.int 4]],4, "big"),
 ("tcp dport", "tcp",[.tup [S "payload",.int s,S "transport",.int 2,.int 2]],2, "big"),
 ("ip dscp", "ip",[.tup [S "payload",.int s,S "network",.int 1,.int 1],.tup [S "bitwise",.int s,.int s,.bytes [252],.bytes [0]],.tup [S "shift",.int s,.int s,.int 1,S "right",.int 2]],1, "big"),
 ("tcp doff", "tcp",[.tup [S "payload",.int s,S "transport",.int 12,.int 1],.tup [S "bitwise",.int s,.int s,.bytes [240],.bytes [0]],.tup [S "shift",.int s,.int s,.int 1,S "right",.int 4]],1, "big"),
 ("ip ecn", "ip",[.tup [S "payload",.int s,S "network",.int 1,.int 1],.tup [S "bitwise",.int s,.int s,.bytes [3],.bytes [0]]],1, "big"),
 ("meta mark", "",[.tup [S "meta",.int s,S "mark",.int 4,S "host"]],4, "host"),
 ("meta iiftype", "",[.tup [S "meta",.int s,S "iiftype",.int 2,S "host"]],2, "host"),
 ("ct mark", "",[.tup [S "ct",.int s,S "mark",S "",.int 4,S "host"]],4, "host"),
 ("ct original ip saddr", "",[.tup [S "ct",.int s,S "saddr4",S "original",.int 4,S "big"]],4, "big"),
 ("ip6 saddr", "ip6",[.tup [S "payload",.int s,S "network",.int 8,.int 16]],16, "big"),
 ("udp sport", "udp",[.tup [S "payload",.int s,S "transport",.int 0,.int 2]],2, "big"),
 ("icmp type", "icmp",[.tup [S "payload",.int s,S "transport",.int 0,.int 1]],1, "big")]
noncomputable def kQ(w s:Nat):String×String×LV×Nat×String:=(plainT s).getD w ("icmp type", "icmp",[.tup [S "payload",.int s,S "transport",.int 0,.int 1]],1, "big")
noncomputable def ja(w:Nat):Nat:= [0,1,2,3,4,5,6,7,8,9,10,11,0,5,6,2,1].getD w w
noncomputable def eC(w n:Nat):V:=
 let e:V:=.tup [S "field",S (kQ (ja w) 0).1]
 [e,e,e,e,e,e,e,e,e,e,e,e,.tup [S "mask",e,.int n],.tup [S "xor",e,.int n],.tup [S "shl",e,.int (n % 18:Nat)],.tup [S "or",e,.int (n % 256:Nat)],.tup [S "shr",.tup [S "or",e,.int (n % 65536:Nat)],.int (n/65536 % 18:Nat)]].getD w e
noncomputable def R9(w n s:Nat)(l:Bool):LV:= [[],[],[],[],[],[],[],[],[],[],[],[],
 [.tup [S "bitwise",.int s,.int s,.bytes (cA n 4),.bytes [0,0,0,0]]],
 [.tup [S "bitwise",.int s,.int s,.bytes [255,255,255,255],.bytes (if l then(cA n 4).reverse else cA n 4)]],
 [.tup [S "byteorder",.int s,.int s,.int 2],.tup [S "shift",.int s,.int s,.int 2,S "left",.int (n % 18:Nat)],.tup [S "byteorder",.int s,.int s,.int 2]],
 [.tup [S "bitwise",.int s,.int s,.bytes [(255 - n % 256).toUInt8],.bytes [(n % 256).toUInt8]]],
 [.tup [S "bitwise",.int s,.int s,.bytes (cA (65535 - n % 65536) 2),.bytes (cA (n % 65536) 2)],.tup [S "shift",.int s,.int s,.int 2,S "right",.int (n/65536 % 18:Nat)]]].getD w []
noncomputable def eO(w n s:Nat)(l:Bool):LV:=(kQ (ja w) s).2.2.1++R9 w n s l
noncomputable def jb(w:Nat):String:=(kQ (ja w) 0).2.1
noncomputable def bW(w:Nat):Nat:=(kQ (ja w) 0).2.2.2.1
noncomputable def eE(w:Nat):String:=(kQ (ja w) 0).2.2.2.2
noncomputable def kC(w:Nat):Nat:=if w<12 then w else 15
noncomputable def alY(n s:Nat)(l:Bool)(w:Nat):Option (V×Option MO):=(Nh (runK P (cn T2 2) (.con (.ref 634)) [.int w,.int n,.int s,.bool l] [] .ok)).map (λp=>(p.1,p.2[kC w]?))
noncomputable def alZ(n s:Nat)(l:Bool)(w:Nat):Option (V×Option MO):=U (.tup [eC w n,S (jb w),.ref (kC w),.int (bW w),S (eE w)],U (.list (eO w n s l)))
theorem Zg(n s:Nat)(l:Bool)(h:w<15):alY n s l w=alZ n s l w:=match l with
 |true=>mV (by rfl') h
 |false=>mV (by rfl') h
theorem oV(h1:O[i]? =U (.list xs))(h2:O[j]? =U (.list ys))(hl:J xs+J ys<=1000):pC .Add (.ref i) (.ref j) O k=k (.ref (J O)) (O++ [.list (xs++ys)]):=by
 show(bc (listAt O i) λxs=>bc (listAt O j) λys=>if(J xs)+J ys<=aR then k (.ref (J O)) (O++ [.list (xs++ys)])else .bad)=_
 simp only [jY h1,jY h2];exact au (bt hl (by decide))
theorem nF{O:L}{i:Nat}{m m':MO}(h:O[i]? =U m):(O++ [m'])[i]? =U m:=by
 rw [eA (jj h).1];exact h
theorem ff:(O++ [m])[J O]? =U m:=by simp
noncomputable def Zh(w n s:Nat)(l:Bool):SV:= [("which",.int w),("n",.int n),("s",.int s),("is_little",.bool l)]
noncomputable def Gv(w n s:Nat)(l:Bool)(r:Nat)(by':Int):SV:=Zh w n s l++(([("name",S (kQ (ja w) s).1),("head",S (jb w)),("rows",.ref r),("size",.int (bW w)),("order",S (eE w)),("e",.tup [S "field",S (kQ (ja w) s).1]),("low",.int ((n:Int) % 65536)),("by",.int by')]):SV)
theorem Hy:ei (.type "bytes") [.ref (J O)] (O++ [.list xs]) k=zC xs O k:=by
 show(match listAt (O++ [.list xs]) (J O)with
   |some xs'=>bc (bytesOf xs') λb=>if(J b)<=aR then k (.bytes b) (O++ [.list xs])else .bad
   |.none=>_)=zC xs O k
 rw [jY ff]
 rfl
noncomputable def y5(s:Nat):L:= [.list [.int 0,.int 5,.int 6,.int 2,.int 1]]++(cC 12).map (λi=>.list (kQ i s).2.2.1)++ [.list ((cC 12).map λi=>.tup [S (kQ i s).1,S (kQ i s).2.1,.ref (i+1),.int (kQ i s).2.2.2.1,S (kQ i s).2.2.2.2])]
noncomputable abbrev cb(t:eR)(m:Nat)(D:la):=fm ((E t m 20).x D.scope)
theorem kR:∀{a b:LT} {l:LK} {O:L} {n c:KT} {q:QT},fm f (a++b) l O n c q=fm f a l O (λl O=>fm f b l O n c q) c q
 | [],_,_,_,_,_,_=>rfl
 |s::a,b,l,O,n,c,q=>by
  show f l O s (λl O=>fm f (a++b) l O n c q) c q=f l O s (λl O=>fm f a l O (λl O=>fm f b l O n c q) c q) c q
  congr 1
  funext l O
  exact kR
theorem Bg(i:Nat)
  (h0:runK P (cn t m) (.con (.ref a)) args O0 .ok=cb t m D D.body l0 O0 (λG O=>.ok .none O) (λG O=>.ok .none O) .ok)
  (h1:∀n,cb t m D (D.body.take i) l0 O0 n (λG O=>.ok .none O) .ok=n l O):runK P (cn t m) (.con (.ref a)) args O0 .ok=jm t m D i l O:=by
 simp only [h0];unfold cb
 conv=>lhs;rw [←iS i D.body,kR]
 exact h1 _
theorem i3(h:P.fn a=U D)(h1:yV D.params D.dflt args=U l0):
  runK P (cn t m) (.con (.ref a)) args O k=cb t m D D.body l0 O (λG O=>k .none O) (λG O=>k .none O) k:=by
 show(match P.fn a with|some d=>bc (yV d.params d.dflt args) λl=>fm ((E t m 20).x d.scope) d.body l O (λG O=>k .none O) (λG O=>k .none O) k|none=>_)=_
 rw [h];show bc (yV D.params D.dflt args) _=_
 rw [h1]
 rfl
theorem ajq(n s:Nat)(l:Bool)(k:KT):cb T2 2 gu (gu.body.take 4) (Zh 15 n s l) [] k (λG O=>.ok .none O) .ok=k (Gv 15 n s l 3 ((n:Int)/65536 % 18)) (y5 s):=by rfl'
theorem ajr(n s:Nat)(l:Bool)(k:KT):cb T2 2 gu (gu.body.take 4) (Zh 16 n s l) [] k (λG O=>.ok .none O) .ok=k (Gv 16 n s l 2 ((n:Int)/65536 % 18)) (y5 s):=by rfl'
theorem c15(n s:Nat)(l:Bool):runK P (cn T2 2) (.con (.ref 634)) [.int 15,.int n,.int s,.bool l] [] .ok=jm T2 2 gu 4 (Gv 15 n s l 3 ((n:Int)/65536 % 18)) (y5 s):=
 Bg 4 (i3 (by rfl') (by rfl')) (ajq n s l)
theorem c16(n s:Nat)(l:Bool):runK P (cn T2 2) (.con (.ref 634)) [.int 16,.int n,.int s,.bool l] [] .ok=jm T2 2 gu 4 (Gv 16 n s l 2 ((n:Int)/65536 % 18)) (y5 s):=
 Bg 4 (i3 (by rfl') (by rfl')) (ajr n s l)
theorem al0(n s:Nat)(l:Bool)(r:Nat)(b:Int)(O:L):jm T2 2 gu 4 (Gv 15 n s l r b) O=ei (.type "bytes") [.ref (J O)] (O++ [.list [.int (255 - (n:Int) % 256)]]) λv O=>ei (.type "bytes") [.ref (J O)] (O++ [.list [.int ((n:Int) % 256)]]) λw O=>pC .Add (.ref r) (.ref (J O)) (O++ [.list [.tup [S "bitwise",.int s,.int s,v,w]]]) λx O=>.ok (.tup [eC 15 n,S "ip",x,.int 1,S "big"]) O:=by rfl'
theorem al1(n s:Nat)(l:Bool)(r:Nat)(b:Int)(O:L):jm T2 2 gu 4 (Gv 16 n s l r b) O=(Gu [.int (65535 - (n:Int) % 65536),.int 2,.bool av] O).k λv O=>(Gu [.int ((n:Int) % 65536),.int 2,.bool av] O).k λw O=>pC .Add (.ref r) (.ref (J O)) (O++ [.list [.tup [S "bitwise",.int s,.int s,v,w],.tup [S "shift",.int s,.int s,.int 2,S "right",.int b]]]) λx O=>.ok (.tup [.tup [S "shr",.tup [S "or",.tup [S "field",S "tcp dport"],.int (n % 65536:Nat)],.int b],S "tcp",x,.int 2,S "big"]) O:=by rfl'
set_option backward.match.sparseCases true
theorem UE{x:Int}{n:Nat}(h:x=n):(Gu [.int x,.int 2,.bool av] O).k k=k (.bytes (cA n 2)) O:=
 h▸au #[bV n,.inr #[rfl,rfl]]
theorem aaD{x:Int}{n:Nat}(e:x=n)(h:n<256):ei (.type "bytes") [.ref (J O)] (O++ [.list [.int x]]) k=k (.bytes [n.toUInt8]) (O++ [.list [.int x]]):=
 e▸Hy.trans (y4 (KR.mpr h) (mM (bp _)))
theorem acH(w n s:Nat)(l:Bool)(h:w<17):∃k O,runK P (cn T2 2) (.con (.ref 634)) [.int w,.int n,.int s,.bool l] [] .ok= .ok (.tup [eC w n,S (jb w),.ref k,.int (bW w),S (eE w)]) O/\ O[k]? =U (.list (eO w n s l)):=by
 rcases kc w 15 with h1|h1
 ·obtain ⟨p,e1,e2⟩:=je.mp (Zg n s l h1)
  exact #[kC w,p.2,(vR e1).trans (I (Res.ok · p.2) (I DI e2)),I DJ e2]
 ·have cap:∀{a b:Nat},a+b<=9->a+b<=1000:=λh=>bt h (aV rfl)
  obtain ⟨w,rfl⟩:=JO h1;rcases w with _|_|w
  ·exact #[_,_,(c15 n s l).trans ((al0 n s l _ _ _).trans ((aaD (C6 (lK (dH n (bF rfl)))).symm (jg (lQ _ _))).trans ((aaD rfl (dH n (bF rfl))).trans (oV (nF (nF (nF rfl))) ff (cap (aV rfl)))))),ff]
  ·exact #[_,_,(c16 n s l).trans ((al1 n s l _ _ _).trans ((UE (C6 (lK (dH n (bF rfl)))).symm).trans ((UE rfl).trans (oV (nF rfl) ff (cap (aV rfl)))))),ff]
  ·exact absurd h (dK (kG (fx 2 w) 15))
set_option backward.match.sparseCases false
theorem UG:(∀v:V,eh 0 v->oU D v)/\ ∀xs:LV,bH 0 xs->qy D xs:=
 V.wi (λv h G=>by rcases v<;>first|trivial|exact nomatch h) (λxs ih h=>ih h) (λxs ih h=>ih h) (λi h=>absurd h (iQ i)) (λG=>trivial) λx r a b h=>#[a h.1,b h.2]
theorem nG(v:V):eh 0 v->oU D v:=UG.1 v
theorem qR(xs:LV):bH 0 xs->qy D xs:=UG.2 xs
theorem u6(h:eh 0 v):en g v=v:=M4 (λi z=>absurd z (iQ _)) v h
theorem eP(h:bH 0 xs):fP g xs=xs:=Gn (λi z=>absurd z (iQ _)) xs h
theorem qA{K:Type}{kvs:List (K×V)}(h:bH 0 (kvs.map (·.2))):i0 g kvs=kvs:=Bc (λi z=>absurd z (iQ _)) kvs h
theorem pn(h:xs.all (lj 5)=ai):bH 0 xs:=u4 (ni 5) xs h
theorem Fg(h:n<=k):Gk j n N [k] k=N:=(ax (ur.mpr h)).trans (I (N+·) CZ)
noncomputable def Sa:MO->Bool
 |.list xs=>xs.all (lj 5)
 |.dict kvs=>(kvs.map (·.2)).all (lj 5)
 |_=>av
theorem DZ(h:Sa m=ai):qY D m:=by
 induction m using MO.casesOn with
 |list xs=>exact qR _ (pn h)
 |dict kvs=>exact qR _ (pn h)
 |_=>cases h
theorem Hz(h:Sa m=ai):fE g m=m:=by
 induction m using MO.casesOn with
 |list xs=>exact I MO.list (eP (pn h))
 |dict kvs=>exact I MO.dict (qA (pn h))
 |_=>cases h
noncomputable def Nl(t:eR)(k:Nat)(a:ay):Spec:=λargs O=>i2 (gO (args.all (lj 5))) λG=>i2 (Nh (runK P (cn t k) (.con (.ref a)) args [] .ok)) λp=>i2 (dw p.1) λi=>i2 p.2[i]? λm=>i2 (gO (Sa m)) λG=>.yes (.ref (J O)) (O++ [m])
theorem agf(args:LV)(O:L)(hb:(Nl t k a args O).k .ok≠ .bad):fK O args (fk P (gn P (inl t k) deep) (.con (.ref a))) ((Nl t k a args O).k .ok):=
 dB (λG ha=>dB λp e=>dB λi e2=>dB λm hm=>dB λG q G=>by
  have z:=Hx (O:=O) (pn (wH ha)) (gU ((vR e).trans (I (Res.ok · p.2) (dF e2)))) hm (DZ (wH q)) (.inr (iV.mpr rfl));simp only [Hz (wH q),show en (Gk id 0 (J O) [i]) (.ref i)= .ref (J O)from congrArg V.ref (Fg (bp _))]at z;exact z) hb
noncomputable def Am:Spec:=λargs O=>i2 (sh4 dE dE dE Zb args) λx=>.ask (0<=x.1/\ x.1<17/\ 0<=x.2.1/\ 0<=x.2.2.1) inferInstance (.yes (.tup [eC x.1.toNat x.2.1.toNat,S (jb x.1.toNat),.ref (J O),.int (bW x.1.toNat),S (eE x.1.toNat)]) (O++ [.list (eO x.1.toNat x.2.1.toNat x.2.2.1.toNat x.2.2.2)]))
theorem Bh(w n:Nat)(h:w<17):lj 5 (eC w n)=true:=Ik (p:=λw=>lj 5 (eC w n)) (by rfl') h
theorem tD(w n s:Nat)(l:Bool)(h:w<17):(eO w n s l).all (lj 5)=true:=Ik (p:=λw=>(eO w n s l).all (lj 5)) (by rfl') h
theorem UH(args:LV)(O:L)(hb:(Am args O).k .ok≠ .bad):fK O args (fk P (gn P (inl T2 2) deep) (.con (.ref 634))) ((Am args O).k .ok):=
 dB (λx e=>kO λq G=>by
  obtain ⟨w,n,s,l⟩:=x;obtain rfl:=f6 cD (f6 cD (f6 cD (nh Hv))) e;obtain ⟨w,rfl⟩:=iA q.1;obtain ⟨n,rfl⟩:=iA q.2.2.1;obtain ⟨s,rfl⟩:=iA q.2.2.2;have hw:w<17:=Ir q.2.1;refine bl λaG=>?_;refine (acH w n s l hw).elim λk hq=>hq.elim λaZ hq=>hq.elim λr hk=>?_;refine aG ?_;have hp:eh 0 (eC w n):=ni 5 _ (Bh w n hw)
  have z:=Hx (O:=O) (args:= [.int w,.int n,.int s,.bool l]) #[tv,tv,tv,tv,tv] (gU r) hk (DZ (tD w n s l hw))
   (#[nG _ hp,tv,.inr (iV.mpr rfl),tv,tv,tv])
  simp only [Hz (m:=.list (eO w n s l)) (tD w n s l hw),show en (Gk id 0 (J O) [k]) (.tup [eC w n,S (jb w),.ref k,.int (bW w),S (eE w)])= .tup [eC w n,S (jb w),.ref (J O),.int (bW w),S (eE w)]from
   qF (λe (i:Nat)=>V.tup [e,S (jb w),.ref i,.int (bW w),S (eE w)]) (u6 hp) (Fg (bp _))]at z
  exact z) hb
noncomputable def T3:eR:=pE 634 Am (pE 641 (Nl T2 2 641) T2)
theorem good3:Good 24 T3:=good_add good2 (aV rfl) 2 λa S h=>jn h (λe z=>.inr λargs O hb G G=>by subst e z;exact UH args O hb) λh=>jn h (λe z=>.inr λargs O hb G G=>by subst e z;exact agf args O hb) .inl
structure Ab where
 op:V
 nm:V
 tm:V
 inner:V
 e:V
 aM:Bool
noncomputable def dR(A:Ab)(p:Nat):SV:= [("op",A.op),("name",A.nm),("timeout",A.tm),("inner",A.inner),("parts",.ref p),("is_big",.bool A.aM),("e",A.e)]
noncomputable def cO(ps:NN):LV:=ps.map λp=>.tup [.int p.1,.int p.2]
noncomputable def aT(kn:SN):SV:=kn.map λp=>(p.1,.int p.2)
noncomputable abbrev cU(A:Ab)(ps:NN)(kn:SV)(lay:LV)(g:L):L:=.dict (dR A 1):: .list (cO ps):: .dict kn:: .list []:: .list lay::g
noncomputable def wB:LT:=(kZ (dZ b8 3)).2
noncomputable def nX:Stmt:=.Pass #[0,0,0,0]
noncomputable abbrev wS(i:Nat)(l:LK)(O:L):=(E T3 0 19).x b8.scope l O (wB.getD i nX)
theorem ajs(l:LK)(O:L)(n c:KT)(q:QT):fm ((E T3 0 19).x b8.scope) wB l O n c q=
  wS 0 l O (λl O=>wS 1 l O (λl O=>wS 2 l O (λl O=>wS 3 l O (λl O=>wS 4 l O (λl O=>wS 5 l O (λl O=>wS 6 l O n c q) c q) c q) c q) c q) c q) c q:=by rfl'
noncomputable def dh(place:Int)(cV:V)(b:Bool)(rows slot:Nat):SV:= [("about",.ref 0),("place",.int place),("known",.ref 2),("family",cV),("is_little",.bool b),("rows",.ref rows),("layout",.ref 4),("slot",.int slot)]
noncomputable def dQ(w n:Nat)(e head:V)(ajt:Nat)(size aO:V):SV:= [("which",.int w),("n",.int n),("e",e),("head",head),("loads",.ref ajt),("size",size),("order",aO)]
noncomputable abbrev eQ(x:Option (V×V)):SV:=match x with|none=> []|some (a,b)=> [("word",a),("number",b)]
theorem w3(pl:Int)(cV:V)(b:Bool)(rows slot w n:Nat)(e head:V)(ld:Nat)(size aO:V)(x:SV)(O:L)(k c:KT)(q:QT):
  wS 3 (dh pl cV b rows slot++(dQ w n e head ld size aO++x)) O k c q=pC .Add (.ref rows) (.ref ld) O λv O=>k (l5 "rows" v (dh pl cV b rows slot++(dQ w n e head ld size aO++x))) O:=by rfl'
theorem w1(pl:Int)(cV:V)(b:Bool)(rows slot w n:Nat)(e head:V)(ld:Nat)(size:Nat)(aO:V)(x:SV)(O:L)(k c:KT)(q:QT):
  wS 1 (dh pl cV b rows slot++(dQ w n e head ld (.int size) aO++x)) O k c q=if decide ((16:Int)<slot+ -(-(size:Int)/4))then q (.tup [.ref rows,.bool av]) O else k (dh pl cV b rows slot++(dQ w n e head ld (.int size) aO++x)) O:=by rfl'
theorem w6(pl:Int)(cV:V)(b:Bool)(rows slot w n:Nat)(e head:V)(ld:Nat)(size:Nat)(aO:V)(x:SV)(O:L)(k c:KT)(q:QT):
  wS 6 (dh pl cV b rows slot++(dQ w n e head ld (.int size) aO++x)) O k c q=k (l5 "slot" (.int (slot - (-(size:Int)/4))) (dh pl cV b rows slot++(dQ w n e head ld (.int size) aO++x))) O:=by rfl'
noncomputable def wT:Expr:=(kZ (dZ b8 3)).1
noncomputable abbrev Fh(v:V)(O:L)(l:LK)(k:LK->RV):RV:=gr b8.scope wT v O l k
theorem w0a(pl:Int)(cV:V)(b:Bool)(rows slot w n:Nat)(O:L)(k c:KT)(q:QT):
  (Fh (.tup [.int w,.int n]) O (dh pl cV b rows slot) λl=>wS 0 l O k c q)=if 0<=(w:Int)/\ (w:Int)<17/\ 0<=(n:Int)/\ 0<=(slot:Int)then k (dh pl cV b rows slot++(dQ w n (eC w n) (S (jb w)) (J O) (.int (bW w)) (S (eE w))++ [])) (O++ [.list (eO w n slot b)])else .bad:=by rfl'
theorem w0b(pl:Int)(cV:V)(b:Bool)(rows slot w n:Nat)(w' n':Nat)(e' h':V)(ld':Nat)(s' o':V)(x:Option (V×V))(O:L)(k c:KT)(q:QT):
  (Fh (.tup [.int w,.int n]) O (dh pl cV b rows slot++(dQ w' n' e' h' ld' s' o'++eQ x)) λl=>wS 0 l O k c q)=if 0<=(w:Int)/\ (w:Int)<17/\ 0<=(n:Int)/\ 0<=(slot:Int)then k (dh pl cV b rows slot++(dQ w n (eC w n) (S (jb w)) (J O) (.int (bW w)) (S (eE w))++eQ x)) (O++ [.list (eO w n slot b)])else .bad:=by
 match x with
 |none=>rfl'
 |some (y,z)=>rfl'
theorem w5(pl:Int)(cV:V)(b:Bool)(rows slot w n:Nat)(e head:V)(ld:Nat)(size aO:V)(x:SV)(A:Ab)(ps:NN)(kn:SV)(lay:LV)(g:L)(k c:KT)(q:QT):
  wS 5 (dh pl cV b rows slot++(dQ w n e head ld size aO++x)) (cU A ps kn lay g) k c q=if(J lay)<=aR then k (dh pl cV b rows slot++(dQ w n e head ld size aO++x)) (cU A ps kn (lay++ [.tup [size,aO]]) g)else .bad:=by rfl'
theorem w4a(pl:Int)(cV:V)(b:Bool)(rows slot w n:Nat)(e head:V)(ld:Nat)(size:V)(x:SV)(O:L)(k c:KT)(q:QT):
  wS 4 (dh pl cV b rows slot++(dQ w n e head ld size (S "big")++x)) O k c q=k (dh pl cV b rows slot++(dQ w n e head ld size (S "big")++x)) O:=by rfl'
theorem w4b(pl:Int)(cV:V)(b:Bool)(rows slot w n:Nat)(e head:V)(ld:Nat)(size:V)(x:SV)(A:Ab)(ps:NN)(kn:SV)(lay:LV)(g:L)(k c:KT)(q:QT):
  wS 4 (dh pl cV b rows slot++(dQ w n e head ld size (S "host")++x)) (cU A ps kn lay g) k c q=if A.aM then pC .Add (.ref rows) (.ref (J (cU A ps kn lay g))) (cU A ps kn lay g++ [.list [.tup [S "byteorder",.int slot,.int slot,size]]]) λv O=>k (l5 "order" (S "big") (l5 "rows" v (dh pl cV b rows slot++(dQ w n e head ld size (S "host")++x)))) O
   else k (dh pl cV b rows slot++(dQ w n e head ld size (S "host")++x)) (cU A ps kn lay g):=by rfl'
noncomputable def nT:aH×LT:=kZ (U (wB.getD 2 nX))
noncomputable abbrev Bi(v:V)(l:LK)(O:L)(n:KT)(q:QT):RV:=gr b8.scope nT.1 v O l λl=>fm ((E T3 0 18).x b8.scope) nT.2 l O n n q
theorem w2(pl:Int)(cV:V)(b:Bool)(rows slot w n:Nat)(e head:V)(ld:Nat)(size aO:V)(x:Option (V×V))(O:L)(k c:KT)(q:QT):
  wS 2 (dh pl cV b rows slot++(dQ w n e head ld size aO++eQ x)) O k c q=(Nl T2 2 641 [head,cV] O).k λv O=>Hp O v λi=>cR Bi i.nx bE 0 (dh pl cV b rows slot++(dQ w n e head ld size aO++eQ x)) O k q:=by
 match x with
 |none=>rfl'
 |some (y,z)=>rfl'
theorem wN1(pl:Int)(cV:V)(b:Bool)(rows slot w n:Nat)(e head:V)(ld:Nat)(size aO:V)(x:Option (V×V))(num:Nat)(A:Ab)(ps:NN)(kn:SV)(lay:LV)(g:L)(k:KT)(q:QT):
  Bi (.tup [S "nfproto",.int num]) (dh pl cV b rows slot++(dQ w n e head ld size aO++eQ x)) (cU A ps kn lay g) k q=
   bc (cmp (cU A ps kn lay g) .NotEq ((look "meta nfproto" kn).getD (.int (-1))) (.int num)) λd=>
    if d then ei (.type "bytes") [.ref (J (cU A ps kn lay g))] (cU A ps kn lay g++ [.list [.int num]]) λv O=>
     pC .Add (.ref rows) (.ref (J O)) (O++ [.list [.tup [S "meta",.int slot,S "nfproto",.int 1,S "big"],.tup [S "cmp",S "==",.int slot,v]]]) λv O=>
      bc (setItem (.ref 2) (S "meta nfproto") (.int num) O) λO=>k (l5 "rows" v (dh pl cV b rows slot++(dQ w n e head ld size aO++eQ (U (S "nfproto",.int num))))) O
    else bc (setItem (.ref 2) (S "meta nfproto") (.int num) (cU A ps kn lay g)) λO=>k (dh pl cV b rows slot++(dQ w n e head ld size aO++eQ (U (S "nfproto",.int num)))) O:=by
 match x with
 |none=>rfl'
 |some (y,z)=>rfl'
theorem wN2(pl:Int)(cV:V)(b:Bool)(rows slot w n:Nat)(e head:V)(ld:Nat)(size aO:V)(x:Option (V×V))(num:Nat)(A:Ab)(ps:NN)(kn:SV)(lay:LV)(g:L)(k:KT)(q:QT):
  Bi (.tup [S "l4proto",.int num]) (dh pl cV b rows slot++(dQ w n e head ld size aO++eQ x)) (cU A ps kn lay g) k q=
   bc (cmp (cU A ps kn lay g) .NotEq ((look "meta l4proto" kn).getD (.int (-1))) (.int num)) λd=>
    if d then ei (.type "bytes") [.ref (J (cU A ps kn lay g))] (cU A ps kn lay g++ [.list [.int num]]) λv O=>
     pC .Add (.ref rows) (.ref (J O)) (O++ [.list [.tup [S "meta",.int slot,S "l4proto",.int 1,S "big"],.tup [S "cmp",S "==",.int slot,v]]]) λv O=>
      bc (setItem (.ref 2) (S "meta l4proto") (.int num) O) λO=>k (l5 "rows" v (dh pl cV b rows slot++(dQ w n e head ld size aO++eQ (U (S "l4proto",.int num))))) O
    else bc (setItem (.ref 2) (S "meta l4proto") (.int num) (cU A ps kn lay g)) λO=>k (dh pl cV b rows slot++(dQ w n e head ld size aO++eQ (U (S "l4proto",.int num)))) O:=by
 match x with
 |none=>rfl'
 |some (y,z)=>rfl'
noncomputable def et(nf:Bool):Str:=if nf then "meta nfproto" else "meta l4proto"
noncomputable def nj(nf:Bool):String:=if nf then "nfproto" else "l4proto"
noncomputable def gP(x:aF):SN->ON
 | []=>u
 |(y,n)::r=>if y=x then U n else gP x r
theorem qB:gP x ((y,n)::r)=if y=x then U n else gP x r:=rfl
noncomputable def gw(x:aF)(v:Nat)(kn:SN):SN:=if kn.any (λp=>p.1=x)then kn.map (λp=>if p.1=x then(p.1,v)else p)else kn++ [(x,v)]
theorem D2(x:aF):∀kn:SN,look x (aT kn)=(gP x kn).map λn=>.int n
 | []=>rfl
 |(y,n)::r=>by
  show(if y=x then U (V.int n)else look x (aT r))=_
  rw [qB];by_cases h:y=x
  ·rw [au h,au h];rfl
  ·rw [ax h,ax h];exact D2 x r
theorem Qt(x:aF)(v:Nat)(kn:SN):put x (.int v) (aT kn)=aT (gw x v kn):=by
 unfold put gw aT;rw [Kt];by_cases h:kn.any (λp=>decide (p.1=x))=ai
 ·refine (au h).trans ?_
  simp only [if_pos h,lU,lU];exact rV λp G=>(apply_ite (λp:aF×Nat=>(p.1,V.int p.2)) (p.1=x) (p.1,v) p).symm
 ·exact (ax h).trans (Eq.trans (oB (l₂:= [(x,v)])).symm (I (ya _) (ax h).symm))
theorem An(x:aF)(v:Nat)(kn:SN):J (gw x v kn)<=J kn+1:=by
 by_cases h:kn.any (λp=>p.1=x)
 ·exact bt (bf ((I uD (au h)).trans (cQ _))) (rL _)
 ·exact bf ((I uD (ax h)).trans cx)
theorem UI(O:L)(x:aF)(m:Nat)(kn:SN):cmp O .NotEq ((look x (aT kn)).getD (.int (-1))) (.int m)=U (!decide (gP x kn=U m)):=by
 rw [D2];induction gP x kn using aK with
 |none=>rfl
 |some a=>
  refine I (λb=>U (!b)) (?_);by_cases h:a=m
  ·exact (dX.mpr (I qc h)).trans (dC (I U h)).symm
  ·exact (ql.mpr λz=>h (kK z)).trans (fy λz=>h (bh z)).symm
noncomputable def f7(nf:Bool)(m slot:Nat)(kn:SN):LV:=if gP (et nf) kn=U m then []else [.tup [S "meta",.int slot,S (nj nf),.int 1,S "big"],.tup [S "cmp",S "==",.int slot,.bytes [m.toUInt8]]]
noncomputable def jH(g:L)(r:Nat)(R:LV):Prop:=(r=3/\ R= []) \/∃i,r=i+5/\ g[i]? =U (.list R)
noncomputable def Ext(g g':L):Prop:=∀(i:Nat) m,g[i]? =U m->g'[i]? =U m
theorem Ext.app{g g':L}{m:MO}(h:Ext g g'):Ext g (g'++ [m]):=λi x e=>nF (h i x e)
theorem Ext.UJ{g:L}:Ext g g:=λG G e=>e
theorem Ext.trans{a b c:L}(h:Ext a b)(k:Ext b c):Ext a c:=λi m e=>k i m (h i m e)
theorem jH.ext(h:jH g r R)(e:Ext g g'):jH g' r R:=h.imp id λ#[i,q,z]=>#[i,q,e _ _ z]
theorem jH.at{g:L}{r:Nat}{R:LV}(h:jH g r R){A:Ab}{ps:NN}{kn:SV}{lay:LV}:(cU A ps kn lay g)[r]? =U (.list R):=
 h.elim (λz=>z.1▸z.2▸rfl) λ#[i,q,z]=>q▸z
theorem Sb{A:Ab}{ps:NN}{kn:SN}{lay:LV}{g:L}{x:aF}{m:Nat}(h:J kn<=1000):setItem (.ref 2) (.str x) (.int m) (cU A ps (aT kn) lay g)=U (cU A ps (aT (gw x m kn)) lay g):=
 (au (bt (bf (cQ _)) h)).trans (I (λz=>U (cU A ps z lay g)) (Qt ..))
theorem qt{α:Type}{o:Option α}{a:α}{k:α->RV}(h:o=U a):bc o k=k a:=h▸rfl
theorem gj:bc (U a) k=k a:=rfl
theorem UK(pl:Int)(cV:V)(b:Bool)(r slot w n:Nat)(e head:V)(ld:Nat)(size aO:V)(x:Option (V×V))(nf:Bool)(m:Nat)(A:Ab)(ps:NN)(kn:SN)(lay:LV)(g:L){R:LV}
  (hr:jH g r R) (hR:R.length<=900) (hm:m<256) (hk:J kn<=900):
  ∃r' g' x',(∀k q,Bi (.tup [S (nj nf),.int m]) (dh pl cV b r slot++(dQ w n e head ld size aO++eQ x)) (cU A ps (aT kn) lay g) k q=k (dh pl cV b r' slot++(dQ w n e head ld size aO++eQ x')) (cU A ps (aT (gw (et nf) m kn)) lay g'))/\ Ext g g'/\ jH g' r' (R++f7 nf m slot kn):=by
 have run:∀k q,Bi (.tup [S (nj nf),.int m]) (dh pl cV b r slot++(dQ w n e head ld size aO++eQ x)) (cU A ps (aT kn) lay g) k q=
   bc (cmp (cU A ps (aT kn) lay g) .NotEq ((look (et nf) (aT kn)).getD (.int (-1))) (.int m)) λd=>
    if d then ei (.type "bytes") [.ref (J (cU A ps (aT kn) lay g))] (cU A ps (aT kn) lay g++ [.list [.int m]]) λv O=>
     pC .Add (.ref r) (.ref (J O)) (O++ [.list [.tup [S "meta",.int slot,S (nj nf),.int 1,S "big"],.tup [S "cmp",S "==",.int slot,v]]]) λv O=>
      bc (setItem (.ref 2) (.str (et nf)) (.int m) O) λO=>k (l5 "rows" v (dh pl cV b r slot++(dQ w n e head ld size aO++eQ (U (S (nj nf),.int m))))) O
    else bc (setItem (.ref 2) (.str (et nf)) (.int m) (cU A ps (aT kn) lay g)) λO=>k (dh pl cV b r slot++(dQ w n e head ld size aO++eQ (U (S (nj nf),.int m)))) O:=by
  intro k q;rcases nf with⟨⟩
  ·exact wN2 pl cV b r slot w n e head ld size aO x m A ps (aT kn) lay g k q
  ·exact wN1 pl cV b r slot w n e head ld size aO x m A ps (aT kn) lay g k q
 have st:∀{g':L},setItem (.ref 2) (.str (et nf)) (.int m) (cU A ps (aT kn) lay g')=U (cU A ps (aT (gw (et nf) m kn)) lay g'):=Sb (bt hk (aV rfl));by_cases hl:gP (et nf) kn=U m
 ·refine #[r,g,U (S (nj nf),.int m),λk q=>(run k q).trans ((qt (UI (cU A ps (aT kn) lay g) (et nf) m kn)).trans ((ax λz=>jq ((I (!·) (dC hl)).symm.trans z)).trans (qt st))),Ext.UJ,?_]
  simp only [show f7 nf m slot kn= []from if_pos hl,cL];exact hr
 ·let nr:LV:= [.tup [S "meta",.int slot,S (nj nf),.int 1,S "big"],.tup [S "cmp",S "==",.int slot,.bytes [m.toUInt8]]]
  let g1:L:=g++ [.list [.int m]]++ [.list nr]
  let g':L:=g1++ [.list (R++nr)]
  refine #[J g1+5,g',U (S (nj nf),.int m),λk q=>(run k q).trans ((qt (UI (cU A ps (aT kn) lay g) (et nf) m kn)).trans ((au (I (!·) (fy hl))).trans (Hy.trans ((y4 (λx hx=>iV.mp hx▸hm) (aV rfl)).trans ((oV (nF (nF hr.at)) ff (bt (lJ hR 2) (aV rfl))).trans (qt (st (g':=g')))))))),Ext.UJ.app.app.app,?_];rw [show f7 nf m slot kn=nr from ax hl];exact .inr #[J g1,rfl,ff]
theorem nq(h:nx O i=U (U v)):
  cR B nx (f+1) i l O n q=B v l O (λl O=>cR B nx f (i+1) l O n q) q:=by
 show(match nx O i with
  |.none=>_
  |some .none=>_
  |some (U v)=>_)=_
 rw [h]
theorem mE(h:nx O i=U u):
  cR B nx (f+1) i l O n q=n l O:=by
 show(match nx O i with
  |.none=>_
  |some .none=>_
  |some (U v)=>_)=_
 rw [h]
theorem Bj(h:O[j]? =U (.list xs))(i:Nat):(It.list j).nx O i=U xs[i]? :=by
 show(match O[j]? with
  |some (.list xs)=>_
  |_=>_)=_
 rw [h]
theorem mv{α:Type}{xs rest:List α}(h:xs.drop i=rest):xs[i]? =rest[0]? :=by rw [←h,List.getElem?_drop,CH]
theorem drop_tail{α:Type}{rows:List α}{row:α}{rest:List α}(hx:rows.drop i=row::rest):rows.drop (i+1)=rest:=oD.symm.trans (I (CT 1) hx)
theorem Sd(h:O[j]? =U (.list xs))(hx:xs.drop i=x::rest):(It.list j).nx O i=U (U x):=(Bj h i).trans (I U (mv hx))
theorem Nn(h:O[j]? =U (.list xs))(hx:xs.drop i= []):(It.list j).nx O i=U none:=(Bj h i).trans (I U (mv hx))
theorem l6{α β:Type}{f:α->β}{xs rest:List α}(h:xs.drop i=rest):(xs.map f).drop i=rest.map f:=List.map_drop.symm.trans (I (ya f) h)
theorem u7{α:Type}{xs rest:List α}{x:α}(h:xs.drop i=x::rest):x∈xs:=KA (h▸cY)
theorem UL(h:nx O i=U (U v))(hb:B v O .ok= .ok x aZ):
  gp B nx (f+1) i O k=gp B nx f (i+1) aZ λxs O=>k (x::xs) O:=by
 show(match nx O i with
  |.none=>_
  |some .none=>_
  |some (U v)=>(match B v O .ok with
   |.ok x O=>gp B nx f (i+1) O λxs O=>k (x::xs) O
   |_=>.bad))=_
 rw [h];dsimp only;rw [hb]
theorem Se(h:nx O i=U u):gp B nx (f+1) i O k=k [] O:=by
 show(match nx O i with
  |.none=>_
  |some .none=>_
  |some (U v)=>_)=_
 rw [h]
noncomputable def bY(w:Nat)(ip:Bool):List (Bool×Nat):=
 let four:=if ip then []else [(ai,2)]
 [four,[(av,6)],four,[(av,6)],four,[],[],[],[],[(ai,10)],[(av,17)],four++ [(av,1)]].getD (ja w) []
noncomputable def Fi(xs:List (Bool×Nat)):LV:=xs.map λp=>.tup [S (nj p.1),.int p.2]
noncomputable def dT(ip:Bool):V:=S (if ip then "ip" else "inet")
theorem UM(w:Nat)(ip:Bool)(O:L)(h:w<17):Nl T2 2 641 [S (jb w),dT ip] O= .yes (.ref (J O)) (O++ [.list (Fi (bY w ip))]):=by
 rcases ip with⟨⟩
 ·exact mV (f:=λw=>Nl T2 2 641 [S (jb w),dT av] O) (g:=λw=>.yes (.ref (J O)) (O++ [.list (Fi (bY w av))])) (by rfl') h
 ·exact mV (f:=λw=>Nl T2 2 641 [S (jb w),dT ai] O) (g:=λw=>.yes (.ref (J O)) (O++ [.list (Fi (bY w ai))])) (by rfl') h
noncomputable def bR(slot:Nat):List (Bool×Nat)->SN->LV×SN
 | [],kn=>([],kn)
 |(nf,m)::r,kn=>(f7 nf m slot kn++(bR slot r (gw (et nf) m kn)).1,(bR slot r (gw (et nf) m kn)).2)
theorem Np:bR slot ((nf,m)::r) kn=(f7 nf m slot kn++(bR slot r (gw (et nf) m kn)).1,(bR slot r (gw (et nf) m kn)).2):=rfl
theorem u9(nf:Bool)(m slot:Nat)(kn:SN):J (f7 nf m slot kn)<=2:=by
 unfold f7
 split<;>exact aV rfl
theorem UN(pl:Int)(cV:V)(b:Bool)(slot w n:Nat)(e head:V)(ld:Nat)(size aO:V)(A:Ab)(ps:NN)(lay:LV)(xs:List (Bool×Nat))(j:Nat)(rest:List (Bool×Nat)):
  ∀(i:Nat) (f r:Nat) (g:L) (x:Option (V×V)) (R:LV) (kn:SN),xs.drop i=rest->g[j]? =U (.list (Fi xs))->jH g r R->R.length+2*J rest<=900->J kn+J rest<=900->(∀p∈rest,p.2<256)->J rest<f->
  ∃r' g' x',(∀k q,cR Bi (It.list (j+5)).nx f i (dh pl cV b r slot++(dQ w n e head ld size aO++eQ x)) (cU A ps (aT kn) lay g) k q=k (dh pl cV b r' slot++(dQ w n e head ld size aO++eQ x')) (cU A ps (aT (bR slot rest kn).2) lay g'))/\ Ext g g'/\ jH g' r' (R++(bR slot rest kn).1):=by
 induction rest with
 |nil=>
  intro i f r g x R kn hx hj hr _ _ _ hf;obtain ⟨f,rfl⟩:=jx (gD hf);exact #[r,g,x,λk q=>mE (Nn (hj) (l6 hx)),Ext.UJ,(cL R).symm▸hr]
 |cons p rest ih=>
  intro i f r g x R kn hx hj hr hR hk hm hf;obtain ⟨f,rfl⟩:=jx (gD (gd (bp _) hf));obtain ⟨nf,m⟩:=p;refine bl λaG=>?_;refine (UK pl cV b r slot w n e head ld size aO x nf m A ps kn lay g hr (nV hR (aV rfl)) (hm _ cY) (nV hk (aV rfl))).elim λr1 hq=>hq.elim λg1 hq=>hq.elim λx1 hq=>hq.elim λh1 hq=>?_;refine aG ?_
  exact (ih (i+1) f r1 g1 x1 (R++f7 nf m slot kn) (gw (et nf) m kn) (drop_tail hx) (hq.1 _ _ hj) hq.2 (bt (bf (I (·+2*J rest) cx)) (Iq hR (u9 nf m slot kn))) (aad hk (An (et nf) m kn)) (λp hp=>hm p (cZ _ hp)) (iM hf)).imp λr2 z=>z.imp λg2 z=>z.imp λx2 z=>
   #[λk q=>(nq (Sd (show(cU A ps (aT kn) lay g)[j+5]? =_ from hj) (l6 hx))).trans ((h1 _ q).trans (z.1 k q)),hq.1.trans z.2.1,(cM R _ _).symm▸z.2.2]
noncomputable def nt(w slot:Nat)(aM:Bool):LV:=if aM&&(eE w== "host")then [.tup [S "byteorder",.int slot,.int slot,.int (bW w)]]else []
noncomputable def iu(w:Nat)(aM:Bool):V:=.tup [.int (bW w),S (if aM then "big" else eE w)]
noncomputable def slots(w:Nat):Nat:=(bW w+3)/4
noncomputable def f9(ip l aM:Bool)(w n slot:Nat)(kn:SN):LV:=(bR slot (bY w ip) kn).1++eO w n slot l++nt w slot aM
theorem D3(w:Nat):eE w= "big" \/eE w= "host" :=
 (BU.mp (Ma (p:=λx:String×String×LV×Nat×String=>x.2.2.2.2== "big" ||x.2.2.2.2== "host") (by rfl') (by rfl') (ja w))).imp eq_of_beq eq_of_beq
theorem ik(w:Nat)(ip:Bool):(∀p∈bY w ip,p.2<256)/\ (J (bY w ip))<=2:=by
 have h:(bY w ip).all (λp=>J0 p.2 256)&&rI (J (bY w ip)) 2:=by
  rcases ip<;>exact Ma (p:=λx:List (Bool×Nat)=>x.all (λp=>J0 p.2 256)&&rI (J x) 2) (by rfl') (by rfl') (ja w)
 exact #[λp hp=>qa (jh.mp (fR.mp h).1 p hp),qa (fR.mp h).2]
theorem ll(w n s:Nat)(l:Bool)(h:w<17):J (eO w n s l)<=4:=zM (f:=λw=>J (eO w n s l)) (g:=λG=>4) (by rfl') h
theorem pz(slot:Nat)(xs:List (Bool×Nat)):∀(kn:SN),(bR slot xs kn).1.length<=2*J xs/\ (bR slot xs kn).2.length<=J kn+J xs:=by
 induction xs with
 |nil=>exact λkn=>#[ez _,ez _]
 |cons p r ih=>
  obtain ⟨nf,m⟩:=p
  exact λkn=>⟨bt (bf cx) (bt (kf (u9 nf m slot kn) (ih (gw (et nf) m kn)).1) (bf (rM ..))),
   bt (ih (gw (et nf) m kn)).2 (bt (lJ (An (et nf) m kn) _) (bf (kF ..)))⟩
theorem Nq(hw:w<17): -(-(bW w:Int)/4)=(slots w:Int):=mV (f:=λw=> -(-(bW w:Int)/4)) (g:=λw=>(slots w:Int)) (by rfl') hw
noncomputable abbrev y6(w n:Nat)(ao:LK)(O:L)(k:KT)(q:QT):RV:=dA T3 0 19 b8.scope (kZ (dZ b8 3)) (.tup [.int w,.int n]) ao O k q
noncomputable abbrev aju(k:KT)(q:QT):KT:=λl O=>wS 1 l O (λl O=>wS 2 l O (λl O=>wS 3 l O (λl O=>wS 4 l O (λl O=>wS 5 l O (λl O=>wS 6 l O k k q) k q) k q) k q) k q) k q
theorem Nr(w n:Nat)(ao:LK)(O:L)(k:KT)(q:QT):y6 w n ao O k q=Fh (.tup [.int w,.int n]) O ao λl=>wS 0 l O (aju k q) k q:=
 I (Fh (.tup [.int w,.int n]) O ao) (funext λl=>ajs l O k k q)
noncomputable def Nt(pl:Int)(cV:V)(b:Bool)(r slot w n:Nat)(x:Option (V×V))(ao:LK):Prop:=∀(O:L) (k c:KT) (q:QT),
 (Fh (.tup [.int w,.int n]) O ao λl=>wS 0 l O k c q)=if 0<=(w:Int)/\ (w:Int)<17/\ 0<=(n:Int)/\ 0<=(slot:Int)then k (dh pl cV b r slot++(dQ w n (eC w n) (S (jb w)) (J O) (.int (bW w)) (S (eE w))++eQ x)) (O++ [.list (eO w n slot b)])else .bad
theorem UO(pl:Int)(cV:V)(b:Bool)(r slot w n:Nat)(x:Option (V×V))(ao:LK)(hL:Nt pl cV b r slot w n x ao)(A:Ab)(ps:NN)(kn:SV)(lay:LV)(g:L)(hw:w<17)(ho:16<slot+slots w)(k:KT)(q:QT):
  y6 w n ao (cU A ps kn lay g) k q=q (.tup [.ref r,.bool av]) (cU A ps kn lay (g++ [.list (eO w n slot b)])):=by
 exact (Nr ..).trans ((hL _ _ _ _).trans ((au #[bV w,qH (lK hw) rfl,bV n,bV slot]).trans ((w1 pl cV b r slot w n _ _ _ (bW w) _ (eQ x) _ _ _ _).trans
  (au (dC ((Nq hw).symm▸A5 ho:(16:Int)<slot+ -(-(bW w:Int)/4)))))))
theorem y7(h:O[i]? =U (.list xs)):Hp O (.ref i) k=k (.list i):=by
 show bc (match O[i]? with|some (.list _)=>U (.list i)|some (.bu _)=>U (.bu i)|_=>u) k=_
 rw [h]
 rfl
inductive sT(pl:Int)(cV:V)(b:Bool)(r slot:Nat):LK->Prop
 |base:sT pl cV b r slot (dh pl cV b r slot)
 |comp (w n:Nat) (e head:V) (ld:Nat) (size aO:V) (x:Option (V×V)):sT pl cV b r slot (dh pl cV b r slot++(dQ w n e head ld size aO++eQ x))
theorem UP(h:(if aM then "big" else eE w)=s):iu w aM= .tup [.int (bW w),S s]:=h▸rfl
theorem acI(pl:Int)(ip b:Bool)(r slot w n:Nat)(x:Option (V×V))(ao:LK)(hL:Nt pl (dT ip) b r slot w n x ao)(A:Ab)(ps:NN)(kn:SN)(lay:LV)(g:L)(hw:w<17)(ho:slot+slots w<=16)
  (hr:jH g r R) (hR:R.length<=800) (hk:J kn<=800) (s7:J lay<=100):
  ∃r' g' L',(∀k q,y6 w n ao (cU A ps (aT kn) lay g) k q=k L' (cU A ps (aT (bR slot (bY w ip) kn).2) (lay++ [iu w A.aM]) g'))/\ sT pl (dT ip) b r' (slot+slots w) L'/\ jH g' r' (R++f9 ip b A.aM w n slot kn):=by
 let m1:MO:=.list (eO w n slot b)
 let g0:L:=g++ [m1]
 have nw:=ik w ip;refine bl λaG=>?_;refine (UN pl (dT ip) b slot w n (eC w n) (S (jb w)) (J g+5) (.int (bW w)) (S (eE w)) A ps lay (bY w ip) (J g0) (bY w ip) 0 bE r (g0++ [.list (Fi (bY w ip))]) x R kn rfl ff (hr.ext Ext.UJ.app.app) (A4 hR nw.2 (aV rfl)) (Ep hk nw.2 (aV rfl)) nw.1 (gd nw.2 (bF rfl))).elim λr2 hq=>hq.elim λg2 hq=>hq.elim λx2 hq=>hq.elim λh1 hq=>?_;refine aG ?_
 let kn2:=aT (bR slot (bY w ip) kn).2
 let R3:LV:=R++(bR slot (bY w ip) kn).1++eO w n slot b
 have l3:J R3<=820:=bt (bf (cx.trans (I (·+_) cx))) (aiM (pz slot (bY w ip) kn).1 nw.2 hR (ll w n slot b hw) (aV rfl))
 let g3:L:=g2++ [.list R3]
 have hr3:jH g3 (J g2+5) R3:=.inr #[J g2,rfl,ff]
 have start:∀k q,y6 w n ao (cU A ps (aT kn) lay g) k q=wS 4 (dh pl (dT ip) b (J g2+5) slot++(dQ w n (eC w n) (S (jb w)) (J g+5) (.int (bW w)) (S (eE w))++eQ x2)) (cU A ps kn2 lay g3) (λl O=>wS 5 l O (λl O=>wS 6 l O k k q) k q) k q:=λk q=>
  (Nr ..).trans ((hL _ _ _ _).trans ((au #[bV w,qH (lK hw) rfl,bV n,bV slot]).trans ((w1 pl (dT ip) b r slot w n _ _ _ (bW w) _ (eQ x) _ _ _ _).trans
   ((ax λz=>dK ho (Ir (Nq hw▸fj z:(16:Int)<slot+slots w))).trans ((w2 pl (dT ip) b r slot w n _ _ _ _ _ x _ _ _ _).trans ((I (kN.k · _) (UM w ip _ hw)).trans ((y7 ff).trans
    ((h1 _ q).trans ((w3 pl (dT ip) b r2 slot w n _ _ _ _ _ (eQ x2) _ _ _ _).trans (oV hq.2.at (hq.1 _ _ (nF ff)) (bt (bf cx.symm) (bt l3 (aV rfl)))))))))))))
 have close:∀{r':Nat} {g':L} {o:String},jH g' r' (R3++nt w slot A.aM)->(if A.aM then "big" else eE w)=o->
   (∀k q,y6 w n ao (cU A ps (aT kn) lay g) k q=wS 5 (dh pl (dT ip) b r' slot++(dQ w n (eC w n) (S (jb w)) (J g+5) (.int (bW w)) (S o)++eQ x2)) (cU A ps kn2 lay g') (λl O=>wS 6 l O k k q) k q)->
   ∃r' g' L',(∀k q,y6 w n ao (cU A ps (aT kn) lay g) k q=k L' (cU A ps kn2 (lay++ [iu w A.aM]) g'))/\ sT pl (dT ip) b r' (slot+slots w) L'/\ jH g' r' (R++f9 ip b A.aM w n slot kn):=λ{r' g' o} hr e h=>
  ⟨r',g',_,λk q=>(h k q).trans ((w5 pl (dT ip) b r' slot w n _ _ _ _ _ (eQ x2) A ps _ lay g' _ _ _).trans ((au (bt s7 (aV rfl))).trans ((w6 pl (dT ip) b r' slot w n _ _ _ _ _ (eQ x2) _ _ _ _).trans
   (qF (λz y=>k (dh pl (dT ip) b r' slot|>l5 "slot" (.int ((slot:Int)+z))|>(·++(dQ w n (eC w n) (S (jb w)) (J g+5) (.int (bW w)) (S o)++eQ x2))) (cU A ps kn2 (lay++ [y]) g')) (Nq hw) (UP e).symm)))),.comp w n _ _ _ _ _ x2,((cM R _ _).symm.trans (I (·++nt w slot A.aM) (cM R _ _).symm):R++f9 ip b A.aM w n slot kn=R3++nt w slot A.aM)▸hr⟩
 rcases hb:(A.aM&&(eE w== "host"))with _|_
 ·
  have t0:nt w slot A.aM= []:=ax λz=>jq (hb.symm.trans z);rcases D3 w with ho|ho
  ·exact close (t0▸(cL R3).symm▸hr3) (by rw [ho];exact ite_self _) λk q=>(start k q).trans ((I (λo=>wS 4 (dh pl (dT ip) b (J g2+5) slot++(dQ w n (eC w n) (S (jb w)) (J g+5) (.int (bW w)) (S o)++eQ x2)) _ _ k q) ho).trans (w4a pl (dT ip) b _ slot w n _ _ _ _ (eQ x2) _ _ _ _))
  ·have ab:¬A.aM=true:=λz=>jq (hb.symm.trans (fR.mpr #[z,dX.mpr ho]))
   exact close (t0▸(cL R3).symm▸hr3) ((ax ab).trans ho) λk q=>(start k q).trans ((I (λo=>wS 4 (dh pl (dT ip) b (J g2+5) slot++(dQ w n (eC w n) (S (jb w)) (J g+5) (.int (bW w)) (S o)++eQ x2)) _ _ k q) ho).trans ((w4b pl (dT ip) b _ slot w n _ _ _ _ (eQ x2) A ps _ lay g3 _ _ _).trans (ax ab)))
 ·
  have t1:nt w slot A.aM= [.tup [S "byteorder",.int slot,.int slot,.int (bW w)]]:=au hb;have th:=fR.mp hb
  let g4:L:=g3++ [.list [.tup [S "byteorder",.int slot,.int slot,.int (bW w)]]]
  exact close (.inr #[J g4,rfl,ff]) (au th.1) λk q=>(start k q).trans ((I (λo=>wS 4 (dh pl (dT ip) b (J g2+5) slot++(dQ w n (eC w n) (S (jb w)) (J g+5) (.int (bW w)) (S o)++eQ x2)) _ _ k q) (dX.mp th.2)).trans
   ((w4b pl (dT ip) b _ slot w n _ _ _ _ (eQ x2) A ps _ lay g3 _ _ _).trans ((au th.1).trans ((oV (nF hr3.at) ff (bt (lJ l3 1) (aV rfl))).trans (by simp only [t1];rfl)))))
structure D4 where
 rows:LV
 lay:LV
 kn:SN
 ok:Bool
noncomputable def bx(ip l aM:Bool):NN->Nat->SN->D4
 | [],slot,kn=>#[[],[],kn,ai]
 |(w,n)::r,slot,kn=>if slot+slots w<=16 then
   let z:=bx ip l aM r (slot+slots w) (bR slot (bY w ip) kn).2
   #[f9 ip l aM w n slot kn++z.rows,iu w aM::z.lay,z.kn,z.ok]
  else#[[],[],kn,av]
theorem vb:bx ip l aM ((w,n)::r) slot kn=if slot+slots w<=16 then
   #[f9 ip l aM w n slot kn++(bx ip l aM r (slot+slots w) (bR slot (bY w ip) kn).2).rows,iu w aM::(bx ip l aM r (slot+slots w) (bR slot (bY w ip) kn).2).lay,(bx ip l aM r (slot+slots w) (bR slot (bY w ip) kn).2).kn,(bx ip l aM r (slot+slots w) (bR slot (bY w ip) kn).2).ok]
  else#[[],[],kn,av]:=rfl
theorem sT.starts(h:sT pl cV b r slot ao)(w n:Nat):∃x,Nt pl cV b r slot w n x ao:=by
 cases h with
 |base=>exact #[u,λO k c q=>w0a pl cV b r slot w n O k c q]
 |comp w' n' e hd ld sz o x=>exact #[x,λO k c q=>w0b pl cV b r slot w n w' n' e hd ld sz o x O k c q]
noncomputable def mq(A:Ab)(lay:LV)(pl:Int):V:=.tup [S "dynset",A.op,.int 0,.tup lay,A.nm,A.tm,.int pl,A.inner]
noncomputable def lW0(pl:Int)(cV:V)(b:Bool):LK:= [("about",.ref 0),("place",.int pl),("known",.ref 2),("family",cV),("is_little",.bool b)]
theorem Zi(pl:Int)(cV:V)(b:Bool)(A:Ab)(ps:NN)(kn:SV)(k:KT):cb T3 0 b8 (b8.body.take 3) (lW0 pl cV b) [.dict (dR A 1),.list (cO ps),.dict kn] k (λG O=>.ok .none O) .ok=k (dh pl cV b 3 0) (cU A ps kn [] []):=by rfl'
theorem Zj(l:LK)(O:L):jm T3 0 b8 3 l O=(E T3 0 20).x b8.scope l O ((dZ b8 3).getD nX) (jm T3 0 b8 4) (λG O=>.ok .none O) .ok:=by rfl'
theorem UQ(pl:Int)(cV:V)(b:Bool)(A:Ab)(ps:NN)(kn:SV)(n c:KT)(q:QT):(E T3 0 20).x b8.scope (dh pl cV b 3 0) (cU A ps kn [] []) ((dZ b8 3).getD nX) n c q=cR (dA T3 0 19 b8.scope (kZ (dZ b8 3))) (It.list 1).nx bE 0 (dh pl cV b 3 0) (cU A ps kn [] []) n q:=by rfl'
theorem Fj(pl:Int)(cV:V)(b:Bool)(A:Ab)(ps:NN)(kn:SV):runK P (cn T3 0) (.con (.ref 653)) [.ref 0,.int pl,.ref 2,cV,.bool b] [.dict (dR A 1),.list (cO ps),.dict kn] .ok=
  cR (dA T3 0 19 b8.scope (kZ (dZ b8 3))) (It.list 1).nx bE 0 (dh pl cV b 3 0) (cU A ps kn [] []) (jm T3 0 b8 4) .ok:=
 (Bg 3 (i3 (by rfl') (by rfl')) (Zi pl cV b A ps kn)).trans ((Zj _ _).trans (UQ pl cV b A ps kn _ _ _))
theorem UR(pl:Int)(cV:V)(b:Bool)(r slot:Nat)(A:Ab)(ps:NN)(kn:SV)(lay:LV)(g:L):jm T3 0 b8 4 (dh pl cV b r slot) (cU A ps kn lay g)=
  if(J lay)<=aR then pC .Add (.ref r) (.ref (J (cU A ps kn lay g))) (cU A ps kn lay g++ [.list [mq A lay pl]]) λv O=>.ok (.tup [v,.bool ai]) O else .bad:=by rfl'
theorem US(pl:Int)(cV:V)(b:Bool)(r slot:Nat)(w n:Nat)(e head:V)(ld:Nat)(size aO:V)(x:Option (V×V))(A:Ab)(ps:NN)(kn:SV)(lay:LV)(g:L):jm T3 0 b8 4 (dh pl cV b r slot++(dQ w n e head ld size aO++eQ x)) (cU A ps kn lay g)=
  if(J lay)<=aR then pC .Add (.ref r) (.ref (J (cU A ps kn lay g))) (cU A ps kn lay g++ [.list [mq A lay pl]]) λv O=>.ok (.tup [v,.bool ai]) O else .bad:=by
 match x with
 |none=>rfl'
 |some (y,z)=>rfl'
theorem vS(h:slot+slots w<=16)(e:bx ip l aM r (slot+slots w) (bR slot (bY w ip) kn).2=z):bx ip l aM ((w,n)::r) slot kn=#[f9 ip l aM w n slot kn++z.rows,iu w aM::z.lay,z.kn,z.ok]:=
 (au h).trans (e▸rfl)
theorem tE(h:¬slot+slots w<=16):bx ip l aM ((w,n)::r) slot kn=#[[],[],kn,av]:=ax h
noncomputable abbrev ID(f i:Nat)(ao:LK)(O:L)(N:KT)(q:QT):RV:=cR (dA T3 0 19 b8.scope (kZ (dZ b8 3))) (It.list 1).nx f i ao O N q
noncomputable def acJ(pl:Int)(cV:V)(b:Bool)(A:Ab)(ps:NN)(f i r:Nat)(g:L)(ao:LK)(O:L)(lay:LV)(z:D4):Prop:=match z.ok with
 |true=>∃slot' L',sT pl cV b r slot' L'/\ ∀N q,ID f i ao O N q=N L' (cU A ps (aT z.kn) (lay++z.lay) g)
 |false=>∃vd,∀N q,ID f i ao O N q=q (.tup [.ref r,.bool av]) (cU A ps (aT z.kn) vd g)
theorem D5(hw:w<17):J (f9 ip b aM w n slot kn)<=9:=
 bt (bf (cx.trans (I (·+_) cx))) (aiK (pz slot (bY w ip) kn).1 (ik w ip).2 (ll w n slot b hw) (by unfold nt;split<;>exact aV rfl:J (nt w slot aM)<=1) (aV rfl))
theorem UT(pl:Int)(ip b:Bool)(A:Ab)(ps:NN)(jI:∀p∈ps,p.1<17)(rest:NN):
  ∀(i f r slot:Nat) (g:L) (ao:LK) (R lay:LV) (kn:SN),ps.drop i=rest->sT pl (dT ip) b r slot ao->jH g r R->R.length+9*J rest<=800->J kn+2*J rest<=800->J lay+J rest<=100->J rest<f->
  ∃r' g',jH g' r' (R++(bx ip b A.aM rest slot kn).rows)/\ acJ pl (dT ip) b A ps f i r' g' ao (cU A ps (aT kn) lay g) lay (bx ip b A.aM rest slot kn):=by
 induction rest with
 |nil=>
  intro i f r slot g ao R lay kn hx hL hr _ _ _ hf;obtain ⟨f,rfl⟩:=jx (gD hf);exact #[r,g,(cL R).symm▸hr,slot,ao,hL,λN q=>(mE (I U (mv (l6 hx)))).trans (I (λz=>N ao (cU A ps (aT kn) z g)) (cL lay).symm)]
 |cons p rest ih=>
  obtain ⟨w,n⟩:=p;intro i f r slot g ao R lay kn hx hL hr hR hk hla hf;obtain ⟨f,rfl⟩:=jx (gD (gd (bp _) hf));obtain ⟨x,hs⟩:=hL.starts w n;have hw:w<17:=jI (w,n) (u7 hx);have step:∀N q,ID (f+1) i ao (cU A ps (aT kn) lay g) N q=y6 w n ao (cU A ps (aT kn) lay g) (λl O=>ID f (i+1) l O N q) q:=λN q=>nq (I U (mv (l6 hx)));by_cases ho:slot+slots w<=16
  ·obtain ⟨r1,g1,L1,h1,h2,h3⟩:=acI pl ip b r slot w n x ao hs A ps kn lay g hw ho hr (nV hR (aV rfl)) (nV hk (aV rfl)) (nV hla (aV rfl))
   have k:=ih (i+1) f r1 (slot+slots w) g1 L1 (R++f9 ip b A.aM w n slot kn) (lay++ [iu w A.aM]) (bR slot (bY w ip) kn).2 (drop_tail hx) h2 h3 (bt (bf (I (·+9*J rest) cx)) (Iq hR (D5 hw)))
    (Rg hk (pz slot (bY w ip) kn).2 (ik w ip).2) (bt (bf (I (·+J rest) cx)) (zS hla)) (iM hf)
   rw [vS ho rfl];generalize bx ip b A.aM rest (slot+slots w) (bR slot (bY w ip) kn).2=z at k;obtain ⟨zr,zl,zk,_|_⟩:=z
   ·exact k.imp λr2 k=>k.imp λg2 k=>#[(cM R _ _)▸k.1,k.2.imp λvd e N q=>(step N q).trans ((h1 _ q).trans (e N q))]
   ·exact k.imp λr2 k=>k.imp λg2 k=>#[(cM R _ _)▸k.1,k.2.imp λs' e=>e.imp λL' e=>#[e.1,λN q=>(step N q).trans ((h1 _ q).trans ((e.2 N q).trans (I (λz=>N L' (cU A ps (aT zk) z g2)) (cM lay _ _))))]]
  ·rw [tE ho]
   exact #[r,g++ [.list (eO w n slot b)],(cL R).symm▸hr.ext Ext.UJ.app,lay,λN q=>(step N q).trans (UO pl (dT ip) b r slot w n x ao hs A ps (aT kn) lay g hw (uv ho) _ q)]
theorem jP(ip l aM:Bool)(ps:NN):∀(slot:Nat) (kn:SN),(∀p∈ps,p.1<17)->(bx ip l aM ps slot kn).rows.length<=9*J ps/\ (bx ip l aM ps slot kn).lay.length<=J ps:=by
 induction ps with
 |nil=>exact λG G G=>#[ez _,ez _]
 |cons p r ih=>
  obtain ⟨w,n⟩:=p;intro slot kn h;by_cases ho:slot+slots w<=16
  ·rw [vS ho rfl]
   exact #[bt (bf cx) (bt (kf (D5 (h (w,n) cY)) (ih (slot+slots w) (bR slot (bY w ip) kn).2 λp hp=>h p (cZ _ hp)).1) (bf (rM ..))),mM (ih (slot+slots w) (bR slot (bY w ip) kn).2 λp hp=>h p (cZ _ hp)).2]
  ·rw [tE ho]
   exact #[bp _,bp _]
noncomputable def dk(A:Ab)(pl:Int)(z:D4):LV:=if z.ok then z.rows++ [mq A z.lay pl]else z.rows
theorem acK(pl:Int)(ip b:Bool)(A:Ab)(ps:NN)(kn:SN)(jI:∀p∈ps,p.1<17)(hl:J ps<=10)(hk:J kn<=100):
  ∃r aZ,runK P (cn T3 0) (.con (.ref 653)) [.ref 0,.int pl,.ref 2,dT ip,.bool b] [.dict (dR A 1),.list (cO ps),.dict (aT kn)] .ok= .ok (.tup [.ref r,.bool (bx ip b A.aM ps 0 kn).ok]) aZ
   /\ 3<=r/\ aZ[r]? =U (.list (dk A pl (bx ip b A.aM ps 0 kn)))/\ aZ[0]? =U (.dict (dR A 1))/\ aZ[1]? =U (.list (cO ps))/\ aZ[2]? =U (.dict (aT (bx ip b A.aM ps 0 kn).kn)):=by
 have len:=jP ip b A.aM ps 0 kn jI;obtain ⟨r,g,h1,h2⟩:=UT pl ip b A ps jI ps 0 bE 3 0 [] (dh pl (dT ip) b 3 0) [] [] kn rfl .base (.inl #[rfl,rfl]) (alI hl (aV rfl)) (A4 hk hl (aV rfl)) (Iv hl (aV rfl)) (gd hl (bF rfl));generalize bx ip b A.aM ps 0 kn=z at*;obtain ⟨zr,zl,zk,_|_⟩:=z
 ·exact h2.elim λvd h2=>#[r,_,(Fj pl (dT ip) b A ps (aT kn)).trans (h2 _ _),(h1.elim (λz=>bf z.1.symm) λ#[i,e,_]=>e▸bt (aV rfl:3<=5) (fx 5 i)),h1.at,rfl,rfl,rfl]
 ·obtain ⟨s',L',sh,h2⟩:=h2
  have fin:jm T3 0 b8 4 L' (cU A ps (aT zk) zl g)=if(J zl)<=aR then pC .Add (.ref r) (.ref (J (cU A ps (aT zk) zl g))) (cU A ps (aT zk) zl g++ [.list [mq A zl pl]]) λv O=>.ok (.tup [v,.bool ai]) O else .bad:=by
   cases sh with
   |base=>exact UR ..
   |comp=>exact US ..
  exact #[_,_,(Fj pl (dT ip) b A ps (aT kn)).trans ((h2 _ _).trans (fin.trans ((au (bt len.2 (bt hl (aV rfl)))).trans (oV (nF h1.at) ff (bt (lJ (bt len.1 (mL 9 hl)) 1) (aV rfl)))))),by simp only [cx];exact fx 3 (J g+3),ff,rfl,rfl,rfl]
theorem gI(a:bH m xs)(h:bH m ys):bH m (xs++ys):=by
 induction xs with
 |nil=>exact h
 |cons x r ih=>exact #[a.1,ih a.2]
noncomputable def Ab.Pure(A:Ab):Prop:=eh 0 A.op/\ eh 0 A.nm/\ eh 0 A.tm/\ eh 0 A.inner/\ eh 0 A.e
theorem Ao(slot:Nat)(xs:List (Bool×Nat)):∀(kn:SN),bH 0 (bR slot xs kn).1:=by
 induction xs with
 |nil=>exact λG=>trivial
 |cons p r ih=>
  have nf:=p.1;have m:=p.2;refine λkn=>gI ?_ (ih _);unfold f7
  split
  ·trivial
  ·exact #[#[tv,tv,tv,tv,tv,tv],#[tv,tv,tv,tv,tv],tv]
theorem BH(ip l aM:Bool)(w n slot:Nat)(kn:SN)(hw:w<17):bH 0 (f9 ip l aM w n slot kn):=by
 refine gI (gI (Ao slot _ _) (pn (tD w n slot l hw))) ?_;unfold nt
 split
 ·exact #[#[tv,tv,tv,tv,tv],tv]
 ·trivial
theorem iF(ip l aM:Bool)(ps:NN):∀(slot:Nat) (kn:SN),(∀p∈ps,p.1<17)->bH 0 (bx ip l aM ps slot kn).rows/\ bH 0 (bx ip l aM ps slot kn).lay:=by
 induction ps with
 |nil=>exact λG G G=>#[tv,tv]
 |cons p r ih=>
  obtain ⟨w,n⟩:=p;intro slot kn h;by_cases ho:slot+slots w<=16
  ·rw [vS ho rfl]
   exact #[gI (BH ip l aM w n slot kn (h (w,n) cY)) (ih (slot+slots w) (bR slot (bY w ip) kn).2 λp hp=>h p (cZ _ hp)).1,#[tv,tv,tv],(ih (slot+slots w) (bR slot (bY w ip) kn).2 λp hp=>h p (cZ _ hp)).2]
  ·rw [tE ho]
   exact #[tv,tv]
theorem pN(hA:A.Pure)(pl:Int)(h1:bH 0 z.rows)(h2:bH 0 z.lay):bH 0 (dk A pl z):=by
 unfold dk
 split
 ·exact gI h1 #[#[tv,hA.1,tv,h2,hA.2.1,hA.2.2.1,tv,hA.2.2.2.1,tv],tv]
 ·exact h1
noncomputable def unI(v:V):Nat:=((dE v).getD 0).toNat
theorem agh(h:aT a=aT b):a=b:=(List.map_inj_right λx y e=>I (λv=>(v.1,unI v.2)) e).mp h
noncomputable def unD(ao:SV)(i:Nat):V:=(ao.getD i ("",V.none)).2
structure WD where
 A:Ab
 p:Nat
 ps:NN
 kn:SN
structure agi(O:L)(a k:Nat)(d:WD):Prop where
 ab:O[a]? =U (.dict (dR d.A d.p))
 pa:O[d.p]? =U (.list (cO d.ps))
 kn:O[k]? =U (.dict (aT d.kn))
 w:∀p∈d.ps,p.1<17
 len:J d.ps<=10
 cap:J d.kn<=100
 pure:d.A.Pure
 ne:a≠k
noncomputable def aaF:MO->SV
 |.dict d=>d
 |_=> []
noncomputable def pG(n:Nat):MO->Prop
 |.list xs=>bH n xs
 |.dict kvs=>bH n (kvs.map (·.2))
 |.fW kvs=>bH n (kvs.map (·.2))
 |.inst _ kvs=>bH n (kvs.map (·.2))
 |.bu _=>True
theorem Gw(h:bH n (kvs.map (·.2)))(e:look x kvs=U v):eh n v:=by
 induction kvs with
 |nil=>exact dG e
 |cons p r ih=>
  rw [aeo]at e;by_cases q:p.1=x
  ·rw [au q]at e;exact bh e▸h.1
  ·rw [ax q]at e;exact ih h.2 e
theorem Nu(h:pG n m):zB n m:=by
 rcases m<;>first|exact h|exact λx v e=>Gw h e
section
variable{n:Nat}{g h:Nat->Nat}(hg:∀i,i<n->h (g i)=i)
include hg
theorem inv2:(∀v:V,eh n v->en h (en g v)=v)/\ ∀xs:LV,bH n xs->fP h (fP g xs)=xs:=
 V.wi (λv e G=>(I (en h) (qs e)).trans (qs e)) (λxs ih k=>I V.tup (ih k)) (λxs ih k=>I V.lst (ih k)) (λi k=>I V.ref (hg i k)) (λG=>rfl)
  λx r a b k=>(I (·::fP h (fP g r)) (a k.1)).trans (I (x::·) (b k.2))
theorem Zk{K:Type}(kvs:List (K×V))(k:bH n (kvs.map (·.2))):i0 h (i0 g kvs)=kvs:=by
 induction kvs with
 |nil=>rfl
 |cons p r ih=>exact qF (λx (s:List (K×V))=>(p.1,x)::s) ((inv2 hg).1 p.2 k.1) (ih k.2)
theorem al2(k:pG n m):fE h (fE g m)=m:=by
 induction m using MO.casesOn with
 |list xs=>exact I MO.list ((inv2 hg).2 xs k)
 |dict kvs=>exact I MO.dict (Zk hg kvs k)
 |fW kvs=>exact I MO.fW (Zk hg kvs k)
 |inst C kvs=>exact I (MO.inst C) (Zk hg kvs k)
 |bu b=>rfl
end
noncomputable def jS(js:LN)(i:Nat):Nat:=js.getD i 0
structure nY(js:LN)(args:LV)(O:L)(as:LV)(Os:L):Prop where
 nd:js.Nodup
 len:J Os=J js
 obj:∀i m,Os[i]? =U m->pG (J js) m/\ O[jS js i]? =U (fE (jS js) m)
 ar:args=fP (jS js) as
 sa:bH (J js) as
section
variable{js:LN}
theorem Sf(h:i<J js):jS js i=js[i]:=by
 unfold jS;simp only [CM,dS h]
 rfl
theorem Ap(nd:js.Nodup)(i:Nat)(h:i<J js):js.idxOf (jS js i)=i:=(I (js.idxOf ·) (Sf h)).trans (nd.idxOf_getElem i h)
theorem UU(nd:js.Nodup)(a b:Nat)(ha:a<J js)(hb:b<J js)(e:jS js a=jS js b):a=b:=(Ap nd a ha).symm.trans ((I (js.idxOf ·) e).trans (Ap nd b hb))
theorem UW(h:x∈js):∃i,i<J js/\ jS js i=x:=(List.getElem_of_mem h).imp λi z=>z.elim λhi e=>#[hi,(Sf hi).trans e]
section
variable{args:LV}{O:L}{as as':LV}{Os fQ:L}
theorem nY.back(h:nY js args O as Os)(hi:i<J Os):U Os[i]=(O[jS js i]?).map (fE λx=>js.idxOf x):=
 (I U (al2 (Ap h.nd) (h.obj i _ (dS hi)).1)).symm.trans (I (mI (fE λx=>js.idxOf x)) (h.obj i _ (dS hi)).2).symm
theorem nY.uniq(h:nY js args O as Os)(h':nY js args O as' fQ):as=as'/\ Os=fQ:=
 #[((inv2 (Ap h.nd)).2 as h.sa).symm.trans ((I (fP λx=>js.idxOf x) (h.ar.symm.trans h'.ar)).trans ((inv2 (Ap h.nd)).2 as' h'.sa)),KS (h.len.trans h'.len.symm) λi h1 h2=>bh ((h.back h1).trans (h'.back h2).symm)]
theorem nY.emb(h:nY js args O as Os):u0 (jS js) Os O:=
 #[λa b ha hb e=>UU h.nd a b (h.len▸ha) (h.len▸hb) e,λi m e=>#[h.len.symm▸Nu (h.obj i m e).1,_,(h.obj i m e).2,fZ _]]
end
end
noncomputable def resB(p:Bool×V×L):RV:=bif p.1 then .exc p.2.1 p.2.2 else .ok p.2.1 p.2.2
noncomputable def Nv(x:Bool)(v:V)(O:L):kN:=bif x then .exc v O else .yes v O
noncomputable def HA:RV->Option (Bool×V×L)
 |.ok v O=>U (av,v,O)
 |.exc v O=>U (ai,v,O)
 |.bad=>u
theorem Zl(h:HA r=U p):r=resB p:=by
 rcases r<;>first|exact bh h▸rfl|exact dG h
theorem agk:(Nv x v O).k .ok=resB (x,v,O):=by rcases x<;>rfl
noncomputable abbrev GS(js:LN)(O:L)(ks:LN):Nat->Nat:=Gk (jS js) (J js) (J O) ks
structure s8(js:LN)(ks:LN)(run:LV->L->RV)(args:LV)(O:L)(as:LV)(Os:L)(p:Bool×V×L)(dc:L):Prop where
 at':nY js args O as Os
 run:HA (run as Os)=U p
 kn:∀k,k∈ks->J js<=k
 nd:ks.Nodup
 low:J dc=J O+J ks
 has:∀i,i<J js->∃m,p.2.2[i]? =U m/\ qY (Dk (J js) ks) m/\ dc[jS js i]? =U (fE (GS js O ks) m)
 new:∀q k,ks[q]? =U k->∃m,p.2.2[k]? =U m/\ qY (Dk (J js) ks) m/\ dc[J O+q]? =U (fE (GS js O ks) m)
 rest:∀i,i<J O->i∉js->dc[i]? =O[i]?
 sv:oU (Dk (J js) ks) p.2.1
section
variable{js:LN}{ks:Bool×V×L->LN}{run:LV->L->RV}{args:LV}{O:L}{as as1:LV}{Os agl:L}{p p1:Bool×V×L}{dc Zm:L}
theorem s8.agm{ks:LN}(h:s8 js ks run args O as Os p dc)(hi:i<J js):dc[jS js i]? =(p.2.2[i]?).map (fE (GS js O ks)):=(h.has i hi).elim λm z=>z.2.2.trans (I (mI _) z.1).symm
theorem s8.agn{ks:LN}(h:s8 js ks run args O as Os p dc)(e:ks[q]? =U k):dc[J O+q]? =(p.2.2[k]?).map (fE (GS js O ks)):=(h.new q k e).elim λm z=>z.2.2.trans (I (mI _) z.1).symm
theorem s8.uniq(h:s8 js (ks p) run args O as Os p dc)(h1:s8 js (ks p1) run args O as1 agl p1 Zm):p=p1/\ dc=Zm:=by
 obtain ⟨rfl,rfl⟩:=h.at'.uniq h1.at';obtain rfl:=bh (h.run.symm.trans h1.run);refine #[rfl,KS (h.low.trans h1.low.symm) λi a b=>bh ((dS a).symm.trans (Eq.trans ?_ (dS b)))];by_cases hi:i<J O
 ·by_cases hj:i∈js
  ·exact (UW hj).elim λa z=>z.2▸(h.agm z.1).trans (h1.agm z.1).symm
  ·exact (h.rest i hi hj).trans (h1.rest i hi hj).symm
 ·have e:=aiP hi
  exact e▸(h.agn (dS (Cz (kh hi) (h.low▸a)))).trans (h1.agn (dS (Cz (kh hi) (h.low▸a)))).symm
end
structure Sel where
 js:LV->L->LN
 ks:V->L->LN
 run:LV->L->RV
noncomputable def Sel.Q(S:Sel)(args:LV)(O:L)(r:kN):Prop:=
 ∃as Os p dc,s8 (S.js args O) (S.ks p.2.1 p.2.2) S.run args O as Os p dc/\ r=Nv p.1 (en (GS (S.js args O) O (S.ks p.2.1 p.2.2)) p.2.1) dc
open Classical in
noncomputable def e9(S:Sel):Spec:=λargs O=>if h:∃r,S.Q args O r then h.choose else .no
theorem Bk{S:Sel}(qS:S.js args O=js)(h:s8 js ks S.run args O as Os p dc)(Aq:S.ks p.2.1 p.2.2=ks):e9 S args O=Nv p.1 (en (GS js O ks) p.2.1) dc:=by
 subst qS Aq;have hh:∃r,S.Q args O r:=#[_,as,Os,p,dc,h,rfl];refine hh.choose_spec.elim λas1 hq=>hq.elim λagl hq=>hq.elim λp1 hq=>hq.elim λZm hq=>?_;obtain ⟨rfl,rfl⟩:=s8.uniq (ks:=λp=>S.ks p.2.1 p.2.2) hq.1 h;exact (dif_pos hh).trans hq.2
theorem UX{run:LV->L->RV}(hl:J Os=n)(E:u0 j Os O)(ha:args=fP j as)(sa:bH n as)(hr:run as Os=resB p)(hk:∀k,k∈ks->n<=k)(nd:ks.Nodup)(low:J dc=J O+J ks)
  (has:∀i,i<n->∃m,p.2.2[i]? =U m/\ qY (Dk n ks) m/\ dc[j i]? =U (fE (Gk j n (J O) ks) m)) (new:∀q k,ks[q]? =U k->∃m,p.2.2[k]? =U m/\ qY (Dk n ks) m/\ dc[J O+q]? =U (fE (Gk j n (J O) ks) m))
  (rest:∀i,i<J O->(∀a,a<n->j a≠i)->dc[i]? =O[i]?) (sv:oU (Dk n ks) p.2.1):fK O args run (resB (p.1,en (Gk j n (J O) ks) p.2.1,dc)):=by
 subst hl;have B:=Nk E hk nd low (λi hi=>(has i hi).imp λm z=>#[z.1,z.2.1,_,z.2.2,fZ _]) (λq k hq=>(new q k hq).imp λm z=>#[z.1,z.2.1,_,z.2.2,fZ _]) rest;obtain ⟨_|_,v,fQ⟩:=p
 ·exact #[j,Os,as,E,ha,sa,v,fQ,_,_,hr,B,sv,rfl]
 ·exact #[j,Os,as,E,ha,sa,v,fQ,_,_,hr,B,sv,rfl]
theorem Nw{S:Sel}{run:LV->L->RV}(hr:∀as Os p,S.run as Os=resB p->run as Os=resB p)(args:LV)(O:L)(hb:(e9 S args O).k .ok≠ .bad):fK O args run ((e9 S args O).k .ok):=by
 by_cases h:∃r,S.Q args O r
 ·obtain ⟨as,Os,p,dc,q,z⟩:=h.choose_spec
  exact ((I (kN.k · .ok) ((dif_pos h).trans z)).trans agk)▸UX q.at'.len q.at'.emb q.at'.ar q.at'.sa (hr _ _ _ (Zl q.run)) q.kn q.nd q.low q.has q.new (λi hi hn=>q.rest i hi λhj=>(UW hj).elim λa z=>hn a z.1 z.2) q.sv
 ·exact absurd (I (kN.k · .ok) (dif_neg h)) hb
noncomputable def i4(t:eR)(k:Nat)(a:ay)(js:LV->L->LN)(ks:V->L->LN):Sel:=#[js,ks,λas Os=>runK P (cn t k) (.con (.ref a)) as Os .ok]
theorem Nx(h:runK P (cn t k) (.con (.ref a)) as Os .ok=r):(i4 t k a js ks).run as Os=r:=h
theorem dV(args:LV)(O:L)(hb:(e9 (i4 t k a js ks) args O).k .ok≠ .bad):
  fK O args (fk P (gn P (inl t k) deep) (.con (.ref a))) ((e9 (i4 t k a js ks) args O).k .ok):=
 Nw (λas Os p e=>by
  obtain ⟨_|_,v,aZ⟩:=p
  ·exact gU e
  ·exact Y6 e) args O hb
theorem Ny(h:∀i,D i->D' i):(∀v:V,oU D v->oU D' v)/\ ∀xs:LV,qy D xs->qy D' xs:=
 V.wi (λv h G=>by rcases v<;>first|trivial|exact nomatch h) (λxs ih h=>ih h) (λxs ih h=>ih h) h (λG=>trivial) λx r a b h=>#[a h.1,b h.2]
theorem y8(h:∀i,D i->D' i)(v:V):oU D v->oU D' v:=(Ny h).1 v
theorem D6(h:∀i,D i->D' i)(xs:LV):qy D xs->qy D' xs:=(Ny h).2 xs
theorem Nz(hg:∀i,i<n->g i=i)(h:pG n m):fE g m=m:=by
 induction m using MO.casesOn with
 |list xs=>exact I MO.list (Gn hg _ h)
 |dict kvs=>exact I MO.dict (Bc hg _ h)
 |fW kvs=>exact I MO.fW (Bc hg _ h)
 |inst C kvs=>exact I (MO.inst C) (Bc hg _ h)
 |bu b=>rfl
theorem NA(hD:∀i,i<n->D i)(h:pG n m):qY D m:=by
 induction m using MO.casesOn with
 |list xs=>exact (λ{xs} h=>D6 hD xs (Ff xs h)) h
 |dict kvs=>exact (λ{xs} h=>D6 hD xs (Ff xs h)) h
 |fW kvs=>exact (λ{xs} h=>D6 hD xs (Ff xs h)) h
 |inst C kvs=>exact λx v e=>y8 hD v (wI v (Gw h e))
 |bu b=>trivial
section
variable{n:Nat}{g h:Nat->Nat}(hg:∀i,i<n->g i=h i)
include hg
theorem Gx:(∀v:V,eh n v->en g v=en h v)/\ ∀xs:LV,bH n xs->fP g xs=fP h xs:=
 V.wi (λv e G=>(qs e).trans (qs e).symm) (λxs ih q=>I V.tup (ih q)) (λxs ih q=>I V.lst (ih q)) (λi q=>I V.ref (hg i q)) (λG=>rfl) λx r a b q=>qF uC (a q.1) (b q.2)
theorem Ar{K:Type}(kvs:List (K×V))(q:bH n (kvs.map (·.2))):i0 g kvs=i0 h kvs:=by
 induction kvs with
 |nil=>rfl
 |cons p r ih=>exact qF (λx (s:List (K×V))=>(p.1,x)::s) ((Gx hg).1 p.2 q.1) (ih q.2)
theorem HC(q:pG n m):fE g m=fE h m:=by
 induction m using MO.casesOn with
 |list xs=>exact I MO.list ((Gx hg).2 xs q)
 |dict kvs=>exact I MO.dict (Ar hg kvs q)
 |fW kvs=>exact I MO.fW (Ar hg kvs q)
 |inst C kvs=>exact I (MO.inst C) (Ar hg kvs q)
 |bu b=>rfl
end
noncomputable def Cl(n:Nat):L->Prop
 | []=>True
 |m::r=>pG n m/\ Cl n r
theorem Cl.at(h:Cl n p):∀{i:Nat},p[i]? =U m->pG n m:=by
 induction p with
 |nil=>exact λe=>dG e
 |cons x r ih=>
  intro i e;induction i using jw with
  |zero=>exact bh e▸h.1
  |succ i=>exact ih h.2 e
theorem vf(h:i<n):jS (cC n) i=i:=(Sf (gG h (bf lV.symm))).trans (List.getElem_range ..)
theorem Zn(c:Cl (J p) p)(sa:bH (J p) args):nY (cC (J p)) args (p++g) args p:=
 {nd:=List.nodup_range,len:=(lV).symm,ar:=(Gn (λi h=>vf h) _ sa).symm,sa:=(lV).symm▸sa
  obj:=λi m e=>
   #[(lV).symm▸c.at e,(I (λi=>(p++g)[i]?) (vf ((jj e).1))).trans ((eA ((jj e).1)).trans (e.trans (I U (Nz (λi h=>vf h) (c.at e)).symm)))]}
section
variable{S:Sel}{args:LV}{p p' g e:L}{v:V}
theorem Qu(x:Bool)(qS:S.js args (p++g)=cC (J p))(Aq:S.ks v (p'++e)= [])(hp:J p'=J p)(c:Cl (J p) p)(c':Cl (J p) p')(sa:bH (J p) args)(run:HA (S.run args p)=U (x,v,p'++e))(sv:eh (J p) v):
  e9 S args (p++g)=Nv x v (p'++g):=by
 have gs:∀(i),i<J p->GS (cC (J p)) (p++g) [] i=i:=λi h=>(au ((lV:J (cC (J p))=J p).symm▸h)).trans (vf h);have D:∀i,i<J p->Dk (J (cC (J p))) [] i:=λi h=>.inl ((lV:J (cC (J p))=J p).symm▸h)
 have hh:s8 (cC (J p)) [] S.run args (p++g) args p (x,v,p'++e) (p'++g):=
  {at':=Zn c sa,run:=run,kn:=λk hk=>(nomatch hk),nd:=jy
   low:=cx.trans ((I (·+J g) hp).trans cx.symm)
   has:=λi hi=>
    have hi:i<J p':=hp▸(lV:J (cC (J p))=J p)▸hi;have m:=dS hi
    #[p'[i],(eA hi).trans m,NA D (c'.at m),(I (λi=>(p'++g)[i]?) (vf (hp▸hi))).trans ((eA hi).trans (m.trans (I U (Nz gs (c'.at m)).symm)))]
   new:=λq k e=>(dG e)
   rest:=λi hi hn=>
    (ji (hp▸(kh λz=>hn (rP.mpr z)))).trans ((I (λn=>g[i - n]?) hp).trans (ji (kh λz=>hn (rP.mpr z))).symm)
   sv:=y8 D v (wI v sv)}
 exact (Bk qS hh Aq).trans (I (Nv x · (p'++g)) (M4 gs v sv))
theorem nQ(qS:S.js args (p++g)=cC (J p))(Aq:S.ks v (p'++e)= [])(hp:J p'=J p)(c:Cl (J p) p)(c':Cl (J p) p')(sa:bH (J p) args)(run:S.run args p= .ok v (p'++e))(sv:eh (J p) v):
  e9 S args (p++g)= .yes v (p'++g):=Qu av qS Aq hp c c' sa (I HA run) sv
theorem Qv(qS:S.js args (p++g)=cC (J p))(Aq:S.ks v (p'++e)= [])(hp:J p'=J p)(c:Cl (J p) p)(c':Cl (J p) p')(sa:bH (J p) args)(run:S.run args p= .exc v (p'++e))(sv:eh (J p) v):
  e9 S args (p++g)= .exc v (p'++g):=Qu ai qS Aq hp c c' sa (I HA run) sv
end
theorem Gy{S:Sel}(qS:S.js args O=js)(Aq:S.ks v aZ= [])(at':nY js args O as Os)(run:S.run as Os= .ok v aZ)(low:J dc=J O)
  (has:∀i,i<J js->∃m,aZ[i]? =U m/\ pG (J js) m/\ dc[jS js i]? =U (fE (jS js) m)) (rest:∀i,i<J O->i∉js->dc[i]? =O[i]?) (sv:eh (J js) v):e9 S args O= .yes (en (jS js) v) dc:=
 have gs:∀i,i<J js->GS js O [] i=jS js i:=λi h=>au h
 (Bk (ks:= []) qS #[at',I HA run,λk hk=>(nomatch hk),jy,low,λi hi=>(has i hi).imp λm z=>#[z.1,NA (λi h=>.inl h) z.2.1,z.2.2.trans (I U (HC gs z.2.1).symm)],λq k e=>(dG e),rest,y8 (λi hi=>.inl hi) v (wI v sv)] Aq).trans
  (I (kN.yes · dc) ((Gx gs).1 v sv))
theorem NB{S:Sel}(qS:S.js args O=js)(at':nY js args O as Os)(run:S.run as Os= .ok (.ref b) aZ)(Aq:S.ks (.ref b) aZ= [a,b])(ha:J js<=a)(hb:J js<=b)(ne:b≠a)
  (same:∀i,i<J js->aZ[i]? =Os[i]?) (ea:aZ[a]? =U ma) (eb:aZ[b]? =U mb) (ia:qY (Dk (J js) [a,b]) ma) (ib:qY (Dk (J js) [a,b]) mb) (ra:fE (GS js O [a,b]) ma=na) (rb:GS js O [a,b] a=J O->fE (GS js O [a,b]) mb=nb):
  e9 S args O= .yes (.ref (J O+1)) (O++ [na,nb]):=by
 refine (Bk (dc:=O++ [na,nb]) qS
  {at':=at',run:=I HA run,kn:=λk hk=>(eU.mp hk).elim (λe=>e▸ha) λhk=>iV.mp hk▸hb,nd:=gf.mpr #[λz=>ne (iV.mp z).symm,gf.mpr #[iT,jy]],low:=cx
   has:=λi hi=>
    have e:=dS (gG hi (bf at'.len.symm));have o:=at'.obj i _ e
    #[_,(same i hi).trans e,NA (λi h=>.inl h) o.1,(eA (jj o.2).1).trans (o.2.trans (I U (HC (λi h=>au h) o.1).symm))]
   new:=λq k e=>match q with
    |0=>bh e▸#[ma,ea,ia,(λ{q}=>(ji (cg ..)).trans (I (λn=> [na,nb][n]?) (iN ..)):∀{q:Nat},(O++ [na,nb])[J O+q]? = [na,nb][q]?).trans (I U ra.symm)]
    |1=>bh e▸#[mb,eb,ib,(λ{q}=>(ji (cg ..)).trans (I (λn=> [na,nb][n]?) (iN ..)):∀{q:Nat},(O++ [na,nb])[J O+q]? = [na,nb][q]?).trans (I U (rb ((ax (dK ha)).trans (I (J O+·) CZ))).symm)]
    |_+2=>(dG e)
   rest:=λi hi G=>eA hi
   sv:=.inr (cZ _ cY)} Aq).trans ?_
 exact I (λn=>kN.yes (.ref n) (O++ [na,nb])) ((ax (dK hb)).trans (I (J O+·) (List.idxOf_cons.trans (I (λx=>bif x then 0 else [b].idxOf b+1) (ql.mpr ne.symm)|>.trans (I jv CZ)))))
set_option backward.match.sparseCases true
theorem at3{Q:Nat->MO->Prop}(h0:Q 0 a)(h1:Q 1 b)(h2:Q 2 c)(i:Nat)(m:MO)(e: [a,b,c][i]? =U m):Q i m:=
 match i with
 |0=>bh e▸h0
 |1=>bh e▸h1
 |2=>bh e▸h2
 |_+3=>dG e
theorem lt3{Q:Nat->Prop}(h0:Q 0)(h1:Q 1)(h2:Q 2)(i:Nat)(h:i<3):Q i:=
 match i with
 |0=>h0
 |1=>h1
 |2=>h2
 |_+3=>absurd h (dK (fx ..))
theorem BI{α:Type}{Q:Nat->α->Prop}{a:α}(h0:Q 0 a)(i:Nat)(m:α)(e: [a][i]? =U m):Q i m:=
 match i with
 |0=>bh e▸h0
 |_+1=>dG e
noncomputable def jW:LV->L->LN:=λargs O=>match args with
 | [.ref a,_,.ref k,_,_]=> [a,(dw (unD (((O[a]?).map aaF).getD []) 4)).getD 0,k]
 |_=> []
noncomputable def kW:V->L->LN:=λv G=>match v with
 |.tup (.ref r::_)=> [r]
 |_=> []
noncomputable def As:Spec:=e9 (i4 T3 0 653 jW kW)
theorem mF(hA:A.Pure):i0 g (dR A p)=dR A (g p):=by
 show [(_,en g A.op),(_,en g A.nm),(_,en g A.tm),(_,en g A.inner),(_,V.ref (g p)),(_,V.bool A.aM),(_,en g A.e)]=_
 simp only [u6 hA.1,u6 hA.2.1,u6 hA.2.2.1,u6 hA.2.2.2.1,u6 hA.2.2.2.2]
 rfl
theorem gq(ps:NN):bH 0 (cO ps):=by
 induction ps with
 |nil=>trivial
 |cons p r ih=>exact #[#[tv,tv,tv],ih]
theorem kT(kn:SN):bH 0 ((aT kn).map (·.2)):=by
 induction kn with
 |nil=>trivial
 |cons p r ih=>exact #[tv,ih]
theorem Bl{O:L}(h:i<J O):(O.set k m++ [n])[i]? =(O.set k m)[i]? :=eA (gG h (bf oz.symm))
theorem acL(h:agi O a k d)(pl:Int)(ip b:Bool):As [.ref a,.int pl,.ref k,dT ip,.bool b] O=
  .yes (.tup [.ref (J O),.bool (bx ip b d.A.aM d.ps 0 d.kn).ok]) (O.set k (.dict (aT (bx ip b d.A.aM d.ps 0 d.kn).kn))++ [.list (dk d.A pl (bx ip b d.A.aM d.ps 0 d.kn))]):=by
 obtain ⟨A,p,ps,kn⟩:=d;refine bl λaG=>?_;obtain ⟨d1,d2,d3,d4,d5,d6,d7,d8⟩:=h;refine (acK pl ip b A ps kn d4 d5 d6).elim λr hq=>hq.elim λaZ hq=>hq.elim λrun hq=>?_;have hr:=hq.1;have zs:bH 0 (dk A pl (bx ip b A.aM ps 0 kn)):=pN d7 pl (iF ip b A.aM ps 0 kn d4).1 (iF ip b A.aM ps 0 kn d4).2;refine aG ?_;dsimp only at*;generalize bx ip b A.aM ps 0 kn=z at*;have kp:k≠p:=λq=>nomatch d2.symm.trans ((I (λi:Nat=>O[i]?) q.symm).trans d3);have Au:∀{n:Nat} {v:V},eh 0 v->eh n v:=λh=>cT (bp _) _ h;have gi:∀i,i<3->GS [a,p,k] O [r] i=jS [a,p,k] i:=λi h=>au h
 have hh:s8 [a,p,k] [r] (i4 T3 0 653 jW kW).run [.ref a,.int pl,.ref k,dT ip,.bool b] O [.ref 0,.int pl,.ref 2,dT ip,.bool b] [.dict (dR A 1),.list (cO ps),.dict (aT kn)] (av,.tup [.ref r,.bool z.ok],aZ) (O.set k (.dict (aT z.kn))++ [.list (dk A pl z)]):=
  {at':=⟨gf.mpr #[λq=>(eU.mp q).elim (λq=>nomatch d2.symm.trans ((I (λi:Nat=>O[i]?) q.symm).trans d1)) λq=>d8 (iV.mp q),gf.mpr #[λq=>kp (iV.mp q).symm,gf.mpr #[iT,jy]]],rfl,
    at3 #[#[Au d7.1,Au d7.2.1,Au d7.2.2.1,Au d7.2.2.2.1,(bF rfl:1<3),tv,Au d7.2.2.2.2,tv],d1.trans (I (λl=>U (MO.dict l)) (mF (g:=jS [a,p,k]) (p:=1) d7).symm)]
     #[fp (bp _) _ (gq ps),d2.trans (I (λl=>U (MO.list l)) (eP (gq ps)).symm)] #[fp (bp _) _ (kT kn),d3.trans (I (λl=>U (MO.dict l)) (qA (kT kn)).symm)],
    rfl,#[(bF rfl:0<3),tv,(bF rfl:2<3),tv,tv,tv]⟩
   run:=I HA run
   kn:=λx hx=>iV.mp hx▸hr
   nd:=gf.mpr #[iT,jy]
   low:=cx.trans (I (·+1) oz)
   has:=lt3 #[_,hq.2.2.1,#[nG _ d7.1,nG _ d7.2.1,nG _ d7.2.2.1,nG _ d7.2.2.2.1,.inl (bF rfl:1<3),tv,nG _ d7.2.2.2.2,tv],(Bl (jj d1).1).trans ((km d8.symm).trans (d1.trans (I (λl=>U (MO.dict l)) (mF (g:=GS [a,p,k] O [r]) (p:=1) d7).symm)))]
    #[_,hq.2.2.2.1,qR _ (gq ps),(Bl (jj d2).1).trans ((km kp).trans (d2.trans (I (λl=>U (MO.list l)) (eP (gq ps)).symm)))]
    #[_,hq.2.2.2.2,qR _ (kT z.kn),(Bl ((jj d3).1)).trans ((uB ((jj d3).1)).trans (I (λl=>U (MO.dict l)) (qA (kT z.kn)).symm))]
   new:=BI #[_,hq.2.1,qR _ zs,(I (λn=>(O.set k (.dict (aT z.kn))++ [.list (dk A pl z)])[n]?) oz.symm).trans (ff.trans (I (λl=>U (MO.list l)) (eP zs).symm))]
   rest:=λi hi hn=>(Bl hi).trans (km λ(q:k=i)=>hn (q▸cZ _ (cZ _ cY)))
   sv:=#[.inr cY,tv,tv]}
 exact (Bk (args:= [.ref a,.int pl,.ref k,dT ip,.bool b]) (I (λo:Option MO=> [a,(dw (unD ((o.map aaF).getD []) 4)).getD 0,k]) d1) hh rfl).trans (I (λn=>kN.yes (V.tup [.ref n,.bool z.ok]) _) (Fg hr))
noncomputable def T4:eR:=pE 653 As T3
theorem ajv:Good 27 T4:=good_add good3 (by decide) 0 λa S h=>jn h (λe1 e2=>.inr (e1▸e2▸λargs O hb G G=>dV args O hb)) .inl
set_option backward.match.sparseCases false
noncomputable def iE:SV:=match runK P (cn T4 0) (.con (.ref 620)) [] [] .ok with
 |.ok _ [.dict kvs]=>kvs
 |_=> []
noncomputable def Qw(ip:Bool)(aO:String):SV:= [("fields",.ref 0),("family",dT ip),("order",S aO),("prefix",S "__set"),("rows",.ref 2),("sets",.ref 3),("known",.ref 4),("makers",.ref 5),("flags",.ref 6)]
noncomputable abbrev bB(ip:Bool)(aO:String)(fl:SV)(xs:LV)(kn:SV)(g:L):L:=.dict iE:: .inst 183 (Qw ip aO):: .list xs:: .dict []:: .dict kn:: .dict []:: .dict fl::g
noncomputable def pF:aH×LT:=kZ (dZ ij 0)
noncomputable abbrev Bm(v:V)(l:LK)(O:L)(n:KT)(q:QT):RV:=gr ij.scope pF.1 v O l λl=>fm ((E T4 6 19).x ij.scope) pF.2 l O n n q
inductive nZ where
 |none
 |two (a b:V)
 |four (a b c d:V)
noncomputable def nZ.l:nZ->SV
 |.none=> []
 |.two a b=> [("name",a),("number",b)]
 |.four a b c d=> [("name",a),("number",b),("many",c),("order",d)]
noncomputable def kU(aY:Nat)(hJ:V):SV:= [("rowing",.ref 1),("reg",.int aY),("proto",hJ)]
theorem acM(ip:Bool)(aO:String)(aY:Nat)(hJ:V)(fl:SV)(xs:LV)(kn:SV)(g:L)(x:nZ)(m:Nat)(k:KT)(q:QT):
  Bm (.tup [S "meta nfproto",.int m]) (kU aY hJ++x.l) (bB ip aO fl xs kn g) k q=bc (cmp (bB ip aO fl xs kn g) .Eq ((look "meta nfproto" kn).getD .none) (.int m)) λc=>
   if c then k (l5 "number" (.int m) (l5 "name" (S "meta nfproto") (kU aY hJ++x.l))) (bB ip aO fl xs kn g)
   else if(J xs)<=aR then(qQ [.int m,.int 1] (bB ip aO fl (xs++ [V.tup [S "meta",.int aY,S "nfproto",.int 1,S "big"]]) kn g)).k λv G=>if(J (xs++ [V.tup [S "meta",.int aY,S "nfproto",.int 1,S "big"]]))<=aR then
    bc (setItem (.ref 4) (S "meta nfproto") (.int m) (bB ip aO fl (xs++ [V.tup [S "meta",.int aY,S "nfproto",.int 1,S "big"]]++ [V.tup [S "cmp",S "==",.int aY,v]]) kn g)) λO=>k (kU aY hJ++(nZ.four (S "meta nfproto") (.int m) (.int 1) (S "big")).l) O else .bad else .bad:=by
 induction x using nZ.casesOn with
 |none=>rfl'
 |two a b=>rfl'
 |four a b c d=>rfl'
theorem acN(ip:Bool)(aO:String)(aY:Nat)(hJ:V)(fl:SV)(xs:LV)(kn:SV)(g:L)(x:nZ)(m:Nat)(k:KT)(q:QT):
  Bm (.tup [S "meta l4proto",.int m]) (kU aY hJ++x.l) (bB ip aO fl xs kn g) k q=bc (cmp (bB ip aO fl xs kn g) .Eq ((look "meta l4proto" kn).getD .none) (.int m)) λc=>
   if c then k (l5 "number" (.int m) (l5 "name" (S "meta l4proto") (kU aY hJ++x.l))) (bB ip aO fl xs kn g)
   else if(J xs)<=aR then(qQ [.int m,.int 1] (bB ip aO fl (xs++ [V.tup [S "meta",.int aY,S "l4proto",.int 1,S "big"]]) kn g)).k λv G=>if(J (xs++ [V.tup [S "meta",.int aY,S "l4proto",.int 1,S "big"]]))<=aR then
    bc (setItem (.ref 4) (S "meta l4proto") (.int m) (bB ip aO fl (xs++ [V.tup [S "meta",.int aY,S "l4proto",.int 1,S "big"]]++ [V.tup [S "cmp",S "==",.int aY,v]]) kn g)) λO=>k (kU aY hJ++(nZ.four (S "meta l4proto") (.int m) (.int 1) (S "big")).l) O else .bad else .bad:=by
 induction x using nZ.casesOn with
 |none=>rfl'
 |two a b=>rfl'
 |four a b c d=>rfl'
theorem Qx(O:L)(x:aF)(m:Nat)(kn:SN):cmp O .Eq ((look x (aT kn)).getD .none) (.int m)=U (decide (gP x kn=U m)):=by
 rw [D2];induction gP x kn using aK with
 |none=>rfl
 |some a=>
  show U ((a:Int)==(m:Int))=_
  congr 1
  by_cases h:a=m
  ·subst h;simp
  ·rw [ql.mpr (by lia)]
   simp [h]
theorem Fm:∀{kn:SN},(kn.map (·.1)).Nodup->gP x kn=U m->gw x m kn=kn
 | [],_,h=>by exact dG h
 |(y,n)::r,nd,h=>by
  rw [qB]at h;by_cases q:y=x
  ·rw [au q]at h
   cases h
   subst q
   have:r.map (λp:aF×Nat=>if p.1=y then(p.1,m)else p)=r:=by
    conv=>rhs;rw [←List.map_id r]
    apply rV
    intro p hp;have:p.1≠y:=λe=>(gf.mp nd).1 (iR.mpr #[p,hp,e]);simp [this]
   unfold gw;rw [au (by simp)];simp only [iU,if_true];rw [this]
  ·rw [ax q]at h
   have ih:=Fm (gf.mp nd).2 h;unfold gw at ih⊢
   have ha:r.any (λp=>decide (p.1=x))=true:=by
    by_cases z:r.any (λp=>decide (p.1=x))=ai
    ·exact z
    ·rw [ax z]at ih
     exact absurd (I uD ih) (by simp)
   rw [au ha]at ih;rw [au (by simp only [rQ,ha,tV])];rw [iU,ax q];rw [ih]
theorem Fn(h:(kn.map (·.1)).Nodup):((gw x m kn).map (·.1)).Nodup:=by
 unfold gw;by_cases q:kn.any (λp=>decide (p.1=x))=ai
 ·rw [au q,lU]
  have:((λp:aF×Nat=>p.1)∘λp:aF×Nat=>if p.1=x then(p.1,m)else p)=λp=>p.1:=by
   funext p
   simp only [Xo]
   split<;>rfl
  rw [this];exact h
 ·rw [ax q,oB]
  refine KJ.mpr #[h,by simp,λa ha b hb e=>q ?_];rw [iU,CP,iV]at hb;obtain ⟨p,hp,rfl⟩:=iR.mp ha;exact List.any_eq_true.mpr #[p,hp,by simp [e,hb]]
theorem acO{m:Nat}(h:m<256):(qQ [.int m,.int 1] O).k k=k (.bytes [m.toUInt8]) O:=
 (au #[bV m,.inl rfl,h]).trans (I (λx:Nat=>k (.bytes [x.toUInt8]) O) (rO m))
theorem UY{m:Nat}(h:J kn<=1000):setItem (.ref 4) (.str x) (.int m) (bB ip aO fl xs (aT kn) g)=U (bB ip aO fl xs (aT (gw x m kn)) g):=by
 show(if(J (aT kn))<=1000 then U (bB ip aO fl xs (put x (.int m) (aT kn)) g)else u)=_
 rw [au (by unfold aT;rw [cQ];exact h),Qt]
theorem Sg(ip:Bool)(aO:String)(aY:Nat)(hJ:V)(fl:SV)(xs:LV)(kn:SN)(g:L)(x:nZ)(nf:Bool)(m:Nat)(hx:J xs<=900)(hk:J kn<=900)(nd:(kn.map (·.1)).Nodup)(hm:m<256):
  ∃x':nZ,∀k q,Bm (.tup [.str (et nf),.int m]) (kU aY hJ++x.l) (bB ip aO fl xs (aT kn) g) k q=k (kU aY hJ++x'.l) (bB ip aO fl (xs++f7 nf m aY kn) (aT (gw (et nf) m kn)) g):=by
 have run:∀k q,Bm (.tup [.str (et nf),.int m]) (kU aY hJ++x.l) (bB ip aO fl xs (aT kn) g) k q=bc (cmp (bB ip aO fl xs (aT kn) g) .Eq ((look (et nf) (aT kn)).getD .none) (.int m)) λc=>
   if c then k (l5 "number" (.int m) (l5 "name" (.str (et nf)) (kU aY hJ++x.l))) (bB ip aO fl xs (aT kn) g)
   else if(J xs)<=aR then(qQ [.int m,.int 1] (bB ip aO fl (xs++ [V.tup [S "meta",.int aY,S (nj nf),.int 1,S "big"]]) (aT kn) g)).k λv G=>if(J (xs++ [V.tup [S "meta",.int aY,S (nj nf),.int 1,S "big"]]))<=aR then
    bc (setItem (.ref 4) (.str (et nf)) (.int m) (bB ip aO fl (xs++ [V.tup [S "meta",.int aY,S (nj nf),.int 1,S "big"]]++ [V.tup [S "cmp",S "==",.int aY,v]]) (aT kn) g)) λO=>k (kU aY hJ++(nZ.four (.str (et nf)) (.int m) (.int 1) (S "big")).l) O else .bad else .bad:=by
  intro k q;rcases nf with⟨⟩
  ·exact acN ip aO aY hJ fl xs (aT kn) g x m k q
  ·exact acM ip aO aY hJ fl xs (aT kn) g x m k q
 by_cases h:gP (et nf) kn=U m
 ·have tl:∃x':nZ,l5 "number" (.int m) (l5 "name" (.str (et nf)) (kU aY hJ++x.l))=kU aY hJ++x'.l:=by
   cases x with
   |none=>exact #[.two (.str (et nf)) (.int m),rfl]
   |two a b=>exact #[.two (.str (et nf)) (.int m),rfl]
   |four a b c d=>exact #[.four (.str (et nf)) (.int m) c d,rfl]
  obtain ⟨x',e⟩:=tl;refine #[x',λk q=>?_];rw [run,Qx,dC h,gj,au rfl,e,Fm nd h];unfold f7;rw [au h,cL]
 ·refine #[.four (.str (et nf)) (.int m) (.int 1) (S "big"),λk q=>?_]
  rw [run,Qx,fy h,gj,ax (by decide),au (by unfold aR;exact (bt hx (aV rfl))),acO hm,au (by rw [cx];unfold aR;simp only [rS];exact (Nat.succ_le_of_lt (gd hx (bF rfl)))),UY (bt hk (aV rfl)),gj];unfold f7;rw [ax h,cM]
  rfl
noncomputable def nH:Nat->V
 |0=>S "ip" |1=>S "tcp" |2=>S "ip" |3=>S "tcp" |4=>S "ip" |9=>S "ip6" |10=>S "udp" |_=>S "icmp"
noncomputable def sU(xs:List (Bool×Nat)):LV:=xs.map λp=>.tup [.str (et p.1),.int p.2]
noncomputable def Sh(w:Nat):Prop:=w=0 \/w=1 \/w=2 \/w=3 \/w=4 \/w=9 \/w=10 \/w=11
theorem acP(w:Nat)(hw:Sh w)(ip:Bool)(aO:String)(aY:Nat)(fl:SV)(xs:LV)(kn:SV)(g:L)(n c:KT)(q:QT):
  (E T4 6 20).x ij.scope (kU aY (nH w)) (bB ip aO fl xs kn g) ((dZ ij 0).getD nX) n c q=cR Bm (It.tup (sU (bY w ip))).nx bE 0 (kU aY (nH w)) (bB ip aO fl xs kn g) n q:=by
 rcases hw with rfl|rfl|rfl|rfl|rfl|rfl|rfl|rfl<;>rcases ip<;>rfl'
theorem Zo(l:LK)(O:L):cb T4 6 ij ij.body l O=λn c q=>(E T4 6 20).x ij.scope l O ((dZ ij 0).getD nX) n c q:=by rfl'
theorem NC(ip:Bool)(aO:String)(aY:Nat)(hJ:V)(fl:SV)(g:L)(ao:List (Bool×Nat)):
  ∀(rest:List (Bool×Nat)) (i f:Nat) (x:nZ) (xs:LV) (kn:SN),ao.drop i=rest->J xs+2*J rest<=900->J kn+J rest<=900->(kn.map (·.1)).Nodup->(∀p∈rest,p.2<256)->J rest<f->
  ∃x':nZ,∀n q,cR Bm (It.tup (sU ao)).nx f i (kU aY hJ++x.l) (bB ip aO fl xs (aT kn) g) n q=n (kU aY hJ++x'.l) (bB ip aO fl (xs++(bR aY rest kn).1) (aT (bR aY rest kn).2) g)
 | [],i,0,x,xs,kn,_,_,_,_,_,hf=>absurd hf (iQ _)
 |_::_,i,0,x,xs,kn,_,_,_,_,_,hf=>absurd hf (iQ _)
 | [],i,f+1,x,xs,kn,hx,_,_,_,_,_=>⟨x,λn q=>by
  have e1:(It.tup (sU ao)).nx (bB ip aO fl xs (aT kn) g) i=U none:=by
   show U (sU ao)[i]? =U u
   rw [lS (by unfold sU;rw [cQ];exact C0.mp hx)]
  rw [k9];simp only [e1,show(bR aY [] kn).1= []from rfl,cL]
  rfl⟩
 |(nf,m)::rest,i,f+1,x,xs,kn,hx,hl,hk,nd,hm,hf=>by
  have hi:ao[i]? =U (nf,m):=by
   have:=I (·[0]?) hx
   simpa using this
  have e1:(It.tup (sU ao)).nx (bB ip aO fl xs (aT kn) g) i=U (U (.tup [.str (et nf),.int m])):=by
   show U (sU ao)[i]? =_
   unfold sU;simp only [rU,hi]
   rfl
  simp only [oA]at hl hk hf;refine (Sg ip aO aY hJ fl xs kn g x nf m (nV hl (aV rfl)) (nV hk (aV rfl)) nd (hm _ (cY ..))).elim λx1 h1=>?_;obtain ⟨x2,h2⟩:=NC ip aO aY hJ fl g ao rest (i+1) f x1 (xs++f7 nf m aY kn) (gw (et nf) m kn) (by rw [←oD,hx];rfl) (by rw [cx];exact (Iq hl (u9 nf m aY kn))) (aad hk (An (et nf) m kn)) (Fn nd) (λp hp=>hm p (cZ _ hp)) (iM hf);refine #[x2,λn q=>?_]
  conv=>lhs;rw [k9]
  rw [e1];refine (h1 _ q).trans ((h2 n q).trans ?_);rw [cM]
  rfl
theorem ago(w:Nat)(hw:Sh w)(ip:Bool)(aO:String)(aY:Nat)(fl:SV)(xs:LV)(kn:SN)(g:L)(hl:J xs<=800)(hk:J kn<=800)(nd:(kn.map (·.1)).Nodup):
  runK P (cn T4 6) (.con (.ref 222)) [.ref 1,.int aY,nH w] (bB ip aO fl xs (aT kn) g) .ok= .ok .none (bB ip aO fl (xs++(bR aY (bY w ip) kn).1) (aT (bR aY (bY w ip) kn).2) g):=by
 have n2:=(ik w ip).2;obtain ⟨x,h⟩:=NC ip aO aY (nH w) fl g (bY w ip) (bY w ip) 0 bE .none xs kn rfl (A4 hl n2 (aV rfl)) (Ep hk n2 (aV rfl)) nd ((ik w ip).1) (by unfold bE;exact (gd n2 (bF rfl)));refine (i3 (D:=ij) (l0:=kU aY (nH w)) (by rfl') (by rfl')).trans ?_;rw [Zo];exact (acP w hw ip aO aY fl xs (aT kn) g _ _ _).trans (h _ _)
structure RD where
 ip:Bool
 aO:String
 fl:SV
 xs:LV
 kn:SN
 g:L
noncomputable def RD.ND(d:RD):L:=bB d.ip d.aO d.fl d.xs (aT d.kn) d.g
noncomputable def RD.ok(d:RD):Prop:=J d.xs<=800/\ (J d.kn)<=800/\ (d.kn.map (·.1)).Nodup/\ bH 0 d.xs
theorem acQ{run:LV->L->RV}(hs:Qm O)(ha:bH (J O) args)(hr:run args O= .ok v aZ)(low:J dc=J O)(same:∀i,i<J O->∃m,aZ[i]? =U m/\ dc[i]? =U m/\ zB (J O) m)(sv:eh (J O) v):fK O args run (.ok v dc):=by
 have E:u0 id O O:=#[λa b G G e=>e,λi m e=>#[hs i m e,m,e,by simp only [Ql];exact fZ m]]
 have:=y3 E (Gq args).symm ha hr low (λi hi=>by
  refine bl λaG=>?_;refine (same i hi).elim λm hq=>hq.elim λe1 hq=>hq.elim λe2 e3=>?_;refine aG ?_;exact #[m,e1,e3,m,e2,by rw [show fE id m=m from Ql m];exact fZ m]) (λi hi hn=>absurd rfl (hn i hi)) sv
 rw [M5]at this;exact this
theorem Zp(h:dT a=dT b):a=b:=by
 rcases a<;>rcases b<;>first|rfl|(exfalso;revert h;unfold dT S;rw [V.str.injEq];decide)
theorem RD.uniq{d d':RD}(h:d.ND=d'.ND):d.ip=d'.ip/\ d.xs=d'.xs/\ d.kn=d'.kn:=by
 unfold RD.ND bB at h;simp only [yl,MO.inst.injEq,MO.list.injEq,MO.dict.injEq,true_and]at h;refine bl λaG=>?_;refine h.elim λh1 hq=>?_;refine aG ?_;refine #[?_,hq.1,agh hq.2.1];unfold Qw at h1;simp only [yl,sb,true_and]at h1;exact Zp h1.1
noncomputable def vT(w:Nat):Prop:=w=0 \/w=1 \/w=9 \/w=10 \/w=11
theorem HD(ha:vT a)(hb:vT b)(h:nH a=nH b):a=b:=by
 rcases ha with rfl|rfl|rfl|rfl|rfl<;>rcases hb with rfl|rfl|rfl|rfl|rfl<;>first|rfl|(exfalso;revert h;unfold nH S;simp only [V.str.injEq];decide)
theorem UZ(h:vT w):Sh w:=by
 unfold vT at h;unfold Sh;lia
structure tI(args:LV)(O:L)(d:RD)(w r:Nat):Prop where
 ok:d.ok
 st:O=d.ND
 pr:vT w
 ar:args= [.ref 1,.int r,nH w]
noncomputable def Av(O:L)(d:RD)(w r:Nat):L:=(O.set 2 (.list (d.xs++(bR r (bY w d.ip) d.kn).1))).set 4 (.dict (aT (bR r (bY w d.ip) d.kn).2))
open Classical in
noncomputable def Bn:Spec:=λargs O=>if h:∃d w r,tI args O d w r then .yes .none (Av O h.choose h.choose_spec.choose h.choose_spec.choose_spec.choose)else .no
theorem U0(q:tI args O d w r):Bn args O= .yes .none (Av O d w r):=by
 have h:∃d w r,tI args O d w r:=#[d,w,r,q];have p:=h.choose_spec.choose_spec.choose_spec;unfold Bn;rw [dif_pos h];generalize h.choose_spec.choose_spec.choose=r' at p⊢;generalize h.choose_spec.choose=w' at p⊢;generalize h.choose=d' at p⊢;refine bl λaG=>?_;refine (RD.uniq (p.st.symm.trans q.st)).elim λe1 hq=>hq.elim λe2 e3=>?_;have e:=p.ar.symm.trans q.ar;simp only [yl,V.int.injEq,true_and,and_true]at e;obtain ⟨e4,e5⟩:=e;refine aG ?_;unfold Av;simp only [e1,e2,e3,(by lia:r'=r),(HD p.pr q.pr e5)]
theorem Zq(args:LV)(O:L)(hb:(Bn args O).k .ok≠ .bad)(hs:Qm O)(ha:bH (J O) args):fK O args (fk P (gn P (inl T4 6) deep) (.con (.ref 222))) ((Bn args O).k .ok):=by
 by_cases h:∃d w r,tI args O d w r
 ·obtain ⟨d,w,r,q⟩:=h
  rw [U0 q];obtain ⟨o,rfl,hp,rfl⟩:=q;refine acQ hs ha (gU (ago w (UZ hp) d.ip d.aO r d.fl d.xs d.kn d.g o.1 o.2.1 o.2.2.1)) rfl (λi hi=>?_) trivial
  have keep:∀i,i≠2->i≠4->(Av d.ND d w r)[i]? =d.ND[i]? :=λi h2 h4=>by
   unfold Av;rw [km (bP h4),km (bP h2)]
  by_cases h2:i=2
  ·subst h2
   exact #[_,rfl,rfl,gI (hs 2 _ rfl) (fp (bp _) _ (Ao _ _ _))]
  ·by_cases h4:i=4
   ·rw [h4]
    exact #[_,rfl,rfl,fp (bp _) _ (kT _)]
   ·have e:=keep i h2 h4
    simp only [dS hi]at e;exact #[_,e,e,hs i _ (dS hi)]
 ·unfold Bn at hb
  rw [dif_neg h]at hb;exact absurd rfl hb
set_option backward.match.sparseCases true
noncomputable def y9(args:LV)(O:L):Prop:=∃d w r,tI args O d w r
open Classical in
noncomputable def wK(args:LV)(O:L):LV×SV:=if h:y9 args O then(h.choose.xs++(bR h.choose_spec.choose_spec.choose (bY h.choose_spec.choose h.choose.ip) h.choose.kn).1,aT (bR h.choose_spec.choose_spec.choose (bY h.choose_spec.choose h.choose.ip) h.choose.kn).2)else([],[])
theorem HF(q:tI args O d w r):wK args O=(d.xs++(bR r (bY w d.ip) d.kn).1,aT (bR r (bY w d.ip) d.kn).2):=by
 have h:y9 args O:=#[d,w,r,q];have p:=h.choose_spec.choose_spec.choose_spec;unfold wK;rw [dif_pos h];generalize h.choose_spec.choose_spec.choose=r' at p⊢;generalize h.choose_spec.choose=w' at p⊢;generalize h.choose=d' at p⊢;refine bl λaG=>?_;refine (RD.uniq (p.st.symm.trans q.st)).elim λe1 hq=>hq.elim λe2 e3=>?_;have e:=p.ar.symm.trans q.ar;simp only [yl,V.int.injEq,true_and,and_true]at e;obtain ⟨e4,e5⟩:=e;refine aG ?_;simp only [e1,e2,e3,show r'=r by lia,HD p.pr q.pr e5]
noncomputable def vg:Spec:=λargs O=>match O with
 |a::b:: .list xs::c:: .dict kn::r=>.ask (y9 args O) (oM _) (.yes .none (a::b:: .list (wK args O).1::c:: .dict (wK args O).2::r))
 |_=>.no
theorem acR(q:tI args O d w r):(vg args O).k .ok=(Bn args O).k .ok:=by
 have e:=HF q;rw [U0 q];obtain ⟨o,rfl,hp,ha⟩:=q;show(@ite _ (y9 args d.ND) (oM _) _ _)=_
 rw [au (#[d,w,r,o,rfl,hp,ha])];rw [e]
 rfl
theorem acS(args:LV)(O:L):(vg args O).k .ok= .bad \/∃r,(vg args O).k .ok= @ite _ (y9 args O) (oM _) r .bad:=by
 rcases O with _|⟨a,_|⟨b,_|⟨m,_|⟨c,_|⟨m',r⟩⟩⟩⟩⟩
 ·exact .inl rfl
 ·exact .inl rfl
 ·exact .inl rfl
 ·rcases m<;>exact .inl rfl
 ·rcases m<;>exact .inl rfl
 ·rcases m
  ·rcases m'
   ·exact .inl rfl
   ·exact .inr #[_,rfl]
   ·exact .inl rfl
   ·exact .inl rfl
   ·exact .inl rfl
  ·exact .inl rfl
  ·exact .inl rfl
  ·exact .inl rfl
  ·exact .inl rfl
theorem U1(args:LV)(O:L)(hb:(vg args O).k .ok≠ .bad)(hs:Qm O)(ha:bH (J O) args):fK O args (fk P (gn P (inl T4 6) deep) (.con (.ref 222))) ((vg args O).k .ok):=by
 by_cases h:y9 args O
 ·obtain ⟨d,w,r,q⟩:=h
  rw [(acR q)]at hb⊢;exact Zq args O hb hs ha
 ·exact ((acS args O).elim hb λq=>q.elim λr e=>hb (e.trans (ax h))).elim
noncomputable def Aw:eR:=λa=>if a=222 then U vg else T4 a
theorem agp:Good 48 Aw:=good_add ajv (by decide) 6 λa S h=>by
 unfold Aw at h
 split at h
 ·obtain rfl:=bh h;subst a;right;intro args O hb hs ha;exact U1 args O hb hs ha
 ·exact .inl h
set_option backward.match.sparseCases false
noncomputable def BJ:List (List Int):= [[2,2,4,2],[3,2,3,3,5],[17,4294967296],[6,3,4294967296]]
noncomputable def kV(xs:LV):Int:=xs.foldl (λa v=>match v with|.int s=>a*s|_=>a) 1
noncomputable def oW:LV->Int->LV
 |.int s::r,n=>.int (n % s)::oW r (n/s)
 |_,_=> []
noncomputable def NF(xs:LV)(p:Nat):Int:=match xs[p]? with
 |some (.int z)=>z
 |_=>0
noncomputable def i5(xs:LV)(p ag top:Int):Int:=(NF xs p.toNat % top+ag) % top
noncomputable def lD(xs:LV)(p ag:Int):SV:= [("script",.lst xs),("place",.int p),("usual",.int ag),("sizes",.ref 0)]
noncomputable def lD3(xs:LV)(p ag:Int)(top sz:Int)(z:V):SV:=lD xs p ag++([("top",.int top),("size",.int sz),("number",z)]:SV)
theorem Qy{P:List Int->Prop}(a:P [2,2,4,2])(b:P [3,2,3,3,5])(c:P [17,4294967296])(d:P [6,3,4294967296]):∀s∈BJ,P s:=
 gE.mpr #[a,gE.mpr #[b,gE.mpr #[c,gE.mpr #[d,λG h=>nomatch h]]]]
theorem agr(xs:LV)(p ag:Int)(k c:KT)(q:QT):∀s∈BJ,cb Aw 2 u3 (u3.body.take 3) (lD xs p ag) [.list (s.map .int)] k c q=
  if(J xs)<=aR then(if decide (p<J xs)then ng xs p λv=>k (lD3 xs p ag (kV (s.map .int)) (s.getLastD 0) v) [.list (s.map .int)]else k (lD3 xs p ag (kV (s.map .int)) (s.getLastD 0) (.int 0)) [.list (s.map .int)])else .bad:=
 Qy (by rfl') (by rfl') (by rfl') (by rfl')
noncomputable def dgR(xs:LV)(p ag z:Int)(s:List Int):RV:=jm Aw 2 u3 3 (lD3 xs p ag (kV (s.map .int)) (s.getLastD 0) (.int z)) [.list (s.map .int)]
theorem acT(xs:LV)(p ag z:Int):∀s∈BJ,(Nh (dgR xs p ag z s)).map (λy=>(y.1,y.2[2*J s+1]?,y.2[0]?))=U (.ref (2*J s+1),U (.list (oW (s.map .int) ((z % kV (s.map .int)+ag) % kV (s.map .int)))),U (.list (s.map .int))):=
 Qy (by rfl') (by rfl') (by rfl') (by rfl')
theorem ags(s:List Int)(h:s∈BJ)(xs:LV)(p ag:Int)(hp:0<=p)(hl:J xs<=1000)(hx:∀v∈xs,∃z:Int,v= .int z):
  ∃aZ,runK P (cn Aw 2) (.con (.ref 608)) [.lst xs,.int p,.int ag,.ref 0] [.list (s.map .int)] .ok= .ok (.ref (2*J s+1)) aZ/\ aZ[2*J s+1]? =U (.list (oW (s.map .int) (i5 xs p ag (kV (s.map .int)))))/\ aZ[0]? =U (.list (s.map .int)):=by
 have run:runK P (cn Aw 2) (.con (.ref 608)) [.lst xs,.int p,.int ag,.ref 0] [.list (s.map .int)] .ok=dgR xs p ag (NF xs p.toNat) s:=by
  refine (i3 (by rfl') rfl).trans (((kR)).trans ((agr xs p ag _ _ _ s h).trans ((au (bt hl (aV rfl))).trans ?_)));by_cases q:p<J xs
  ·have hq:=Rm hp q
   refine (hx xs[p.toNat] (CY hq)).elim λz hz=>?_;have e1:xs[p.toNat]? =U (.int z):=(dS hq).trans (I U hz);have e2:NF xs p.toNat=z:=by unfold NF;rw [e1]
   simp only [e2];refine (au (dC q)).trans ?_;unfold ng;exact (au #[hp,aiT q hl rfl]).trans (I (bc · _) e1)
  ·have e2:NF xs p.toNat=0:=by unfold NF;rw [lS (aiR hp q)]
   rw [e2];exact ax λz=>q (fj z)
 refine bl λaG=>?_;refine (je.mp (acT xs p ag (NF xs p.toNat) s h)).elim λy hq=>hq.elim λe1 e2=>?_;refine aG ?_;exact #[y.2,run.trans ((vR e1).trans (I (Res.ok · y.2) (I (·.1) e2))),I (·.2.1) e2,I (·.2.2) e2]
noncomputable def IE:Spec:=λargs O=>i2 (sh4 yy dE dE dw args) λx=>i2 (listAt O x.2.2.2) λsz=>.ask ((∃s∈BJ,sz=s.map .int)/\ 0<=x.2.1/\ (J x.1)<=1000/\ ∀v∈x.1,∃z:Int,v= .int z) (oM _) (.yes (.ref (J O)) (O++ [.list (oW sz (i5 x.1 x.2.1 x.2.2.1 (kV sz)))]))
theorem qC:(∀v∈xs,∃z:Int,v= .int z)->bH n xs:=by
 induction xs with
 |nil=>exact λG=>trivial
 |cons x r ih=>exact λh=>#[(h x cY).elim λz e=>e▸trivial,ih λv hv=>h v (cZ _ hv)]
theorem Qz(s:List Int):∀z:Int,bH n (oW (s.map .int) z):=by
 induction s with
 |nil=>exact λG=>trivial
 |cons s r ih=>exact λz=>#[tv,ih _]
theorem vh(s:List Int):bH n (s.map V.int):=qC λv h=>(iR.mp h).elim λz y=>#[z,y.2.symm]
theorem Zr(args:LV)(O:L)(hb:(IE args O).k .ok≠ .bad):fK O args (fk P (gn P (inl Aw 2) deep) (.con (.ref 608))) ((IE args O).k .ok):=
 dB (λx e=>dB λsz e1=>kO λq G=>by
  obtain ⟨xs,p,ag,r⟩:=x;obtain rfl:=f6 yJ (f6 cD (f6 cD (nh dF))) e;obtain ⟨⟨s,hs,rfl⟩,q2,q3,q4⟩:=q;refine bl λaG=>?_;refine (ags s hs xs p ag q2 q3 q4).elim λaZ hq=>hq.elim λrun hq=>hq.elim λhi h0=>?_;refine aG ?_;have E:u0 (λG=>r) [.list (s.map .int)] O:=Gs (eH e1) (vh s) (vh s) (I MO.list (eP (vh s)).symm)
  have fin:=DY (as:= [.lst xs,.int p,.int ag,.ref 0]) (dc:=O++ [.list (oW (s.map .int) (i5 xs p ag (kV (s.map .int))))]) E
   (I (λxs=> [V.lst xs,V.int p,V.int ag,V.ref r]) (eP (qC q4)).symm) #[qC q4,tv,tv,CF,tv] (gU run) [2*J s+1]
   (λk hk=>iV.mp hk▸mM (bp _)) (gf.mpr #[iT,jy]) cx
   (λx hx=>CG.mp hx▸#[_,h0,qR _ (vh s),.list (s.map .int),nF (eH e1),I MO.list (eP (vh s))])
   (λx k e=>by
    induction x using jw with
    |zero=>obtain rfl:=bh e;exact #[_,hi,qR _ (Qz s _),_,ff,I MO.list (eP (Qz s _))]
    |succ x=>exact dG e) (λx hx G=>eA hx) (.inr (iV.mpr rfl))
  exact (I V.ref (Fg (mM (bp _))):en (Gk (λG=>r) 1 (J O) [2*J s+1]) (.ref (2*J s+1))= .ref (J O))▸fin) hb
noncomputable def Si(mark c8:V):SV:= [("mark",mark),("priority",.int 0),("iif",.int 0),("oif",.int 0),("iifname",.int 0),("oifname",.int 0),("pkttype",.int 0),("iiftype",c8),("oiftype",.int 1)]
noncomputable def Sj(N:Nat)(kd l4 off:Int):SV:= [("data",.ref (N+1)),("link",.ref (N+2)),("kind",.int kd),("l4",.int l4),("off",.int off),("place",.int 0),("meta",.ref (N+3))]
noncomputable def U2(N:Nat)(oc:U8)(kd:Int):L:= [.inst 316 (Sj N kd (-1) (-1)),.bu oc,.bu [],.dict (Si (.int 0) (.int 1))]
noncomputable def Zs:Spec:=λargs O=>i2 (Qr jJ dE jJ args) λx=>.ask (x.2.2= []) inferInstance (.ask (J x.1<=1000) inferInstance (.yes (.ref (J O)) (O++U2 (J O) x.1 x.2.1)))
theorem agt(oc:U8)(kd:Int):runK P (cn Aw 2) (.con (.ref 316)) [.bytes oc,.int kd,.bytes []] [] .ok=match(if(J oc)<=aR then Res.ok V.none [.inst 316 (Sj 0 kd (-1) (-1)),.bu oc,.bu [],.dict (Si (.int 0) (.int 1))]else .bad:RV)with|.ok .none aZ=>.ok (.ref 0) aZ|_=>.bad:=by rfl'
theorem ajw(q:J oc<=1000):runK P (cn Aw 2) (.con (.ref 316)) [.bytes oc,.int kd,.bytes []] [] .ok= .ok (.ref 0) (U2 0 oc kd):=by
 have r:=agt oc kd;rw [au (bt q (aV rfl))]at r;exact r
theorem acU(args:LV)(O:L)(hb:(Zs args O).k .ok≠ .bad):fK O args (fk P (gn P (inl Aw 2) deep) (.con (.ref 316))) ((Zs args O).k .ok):=
 dB (λx e=>kO λq0 hb=>kO (λq G=>by
  obtain ⟨oc,kd,b⟩:=x;obtain rfl:=f6 gL (f6 cD (nh gL)) e;obtain rfl:b= []:=q0;have at':∀{i:Nat} {m},(U2 (J O) oc kd)[i]? =U m->(O++U2 (J O) oc kd)[J O+i]? =U m:=λ{i m} e=>by rw [ji (cg _ _),iN];exact e
  exact DY (as:= [.bytes oc,.int kd,.bytes []]) (dc:=O++U2 (J O) oc kd) Qs rfl #[tv,tv,tv,tv] (gU (ajw q)) [0,1,2,3]
   (λG G=>bp _) (by decide) cx (λi h=>absurd h (iQ _)) (λp q e=>by
    match p,e with
    |0,e=>
     obtain rfl:=bh e;exact #[_,rfl,λx v e=>y8 (λi hi=>.inr ((by decide:∀i,i<4->i∈ [0,1,2,3]) i hi)) v (wI v (Gw (kvs:=Sj 0 kd (-1) (-1)) #[bF rfl,bF rfl,tv,tv,tv,tv,bF rfl,tv] e)),_,at' rfl,fZ _]
    |1,e=>obtain rfl:=bh e;exact #[_,rfl,tv,_,at' rfl,fZ _]
    |2,e=>obtain rfl:=bh e;exact #[_,rfl,tv,_,at' rfl,fZ _]
    |3,e=>obtain rfl:=bh e;exact #[_,rfl,DZ rfl,_,at' rfl,fZ _]
    |p+4,e=>exact dG e) (λi h G=>eA h) (.inr ((by decide:∀i,i<4->i∈ [0,1,2,3]) 0 (bF rfl)))) hb) hb
noncomputable def zE:eR:=pE 316 Zs (pE 608 IE Aw)
theorem agu:Good 57 zE:=good_add agp (aV rfl) 2 λa S h=>jn h (λe z=>.inr λargs O hb G G=>by subst e z;exact acU args O hb) λh=>jn h (λe z=>.inr λargs O hb G G=>by subst e z;exact Zr args O hb) .inl
noncomputable def eG(k:Nat):MO:=.inst 499 [("octets",.ref k)]
noncomputable def gk(b:U8)(s m:Nat):U8:=cut (4*s) (4*s+m) b
noncomputable def ft(b:U8)(s:Nat)(o:U8):U8:=b.take (4*s)++o++b.drop (4*s+J o)
noncomputable def eW:U8->U8
 | [a]=> [a,0,0,0]
 | [a,b]=> [a,b,0,0]
 |o=>o
theorem acV(b:U8)(r m:Int):runK P (cn zE 2) (.con (.ref 489)) [.ref 0,.int r,.int m] [eG 1,.bu b] .ok=
  if decide (r<0)then .bad else if decide (64<4*r+m)then .bad else
  (sQ (.ref 1) (.int (4*r)) (.int (4*r+m)) [eG 1,.bu b] λv O=>ei (.type "bytes") [v] O .ok):=by rfl'
theorem Zt(b:U8)(r:Int)(o:UInt8):runK P (cn zE 2) (.con (.ref 496)) [.ref 0,.int r,.bytes [o]] [eG 1,.bu b] .ok=
  if decide (r<0)then .bad else if decide (64<4*r+4)then .bad else
  bc (jB (.ref 1) (.int (4*r)) (.int (4*r+4)) (.bytes [o,0,0,0]) [eG 1,.bu b]) λO=>.ok .none O:=by rfl'
theorem Zu(b:U8)(r:Int)(o p:UInt8):runK P (cn zE 2) (.con (.ref 496)) [.ref 0,.int r,.bytes [o,p]] [eG 1,.bu b] .ok=
  if decide (r<0)then .bad else if decide (64<4*r+4)then .bad else
  bc (jB (.ref 1) (.int (4*r)) (.int (4*r+4)) (.bytes [o,p,0,0]) [eG 1,.bu b]) λO=>.ok .none O:=by rfl'
theorem Zv(b:U8)(r:Int)(o p q s:UInt8):runK P (cn zE 2) (.con (.ref 496)) [.ref 0,.int r,.bytes [o,p,q,s]] [eG 1,.bu b] .ok=
  if decide (r<0)then .bad else if decide (64<4*r+4)then .bad else
  bc (jB (.ref 1) (.int (4*r)) (.int (4*r+4)) (.bytes [o,p,q,s]) [eG 1,.bu b]) λO=>.ok .none O:=by rfl'
theorem U3(b:U8)(r:Int)(o1 o2 o3 o4 o5 o6 o7 o8 o9 Fo Fp Fq HG HH HI HJ:UInt8):runK P (cn zE 2) (.con (.ref 496)) [.ref 0,.int r,.bytes [o1,o2,o3,o4,o5,o6,o7,o8,o9,Fo,Fp,Fq,HG,HH,HI,HJ]] [eG 1,.bu b] .ok=
  if decide (r<0)then .bad else if decide (64<4*r+16)then .bad else
  bc (jB (.ref 1) (.int (4*r)) (.int (4*r+16)) (.bytes [o1,o2,o3,o4,o5,o6,o7,o8,o9,Fo,Fp,Fq,HG,HH,HI,HJ]) [eG 1,.bu b]) λO=>.ok .none O:=by rfl'
theorem Fs(e:O[i]? =U (.bu b))(h1:0<=lo/\ lo<2^40)(h2:0<=hi/\ hi<2^40)(hb:J b<=aR):
  sQ (.ref i) (.int lo) (.int hi) O k=k (.ref (J O)) (O++ [.bu (cut lo.toNat hi.toNat b)]):=by
 have e1:Ej 0 (.int lo)=U lo.toNat:=au h1;have e2:Ej aR (.int hi)=U hi.toNat:=au h2
 show(bc (Ej 0 (.int lo)) λlo=>bc (Ej aR (.int hi)) λhi=>match listAt O i with
  |some xs=>if(J xs)<=aR then k (.ref (J O)) (O++ [.list (cut lo hi xs)])else .bad
  |.none=>bc (fY O i) λb=>if(J b)<=aR then k (.ref (J O)) (O++ [.bu (cut lo hi b)])else .bad)=_
 simp only [e1,e2,BG e,sS e];exact au hb
theorem Ft(e:O[i]? =U (.bu b))(hb:J b<=aR):ei (.type "bytes") [.ref i] O k=k (.bytes b) O:=by
 show(match listAt O i with
   |some xs=>bc (bytesOf xs) λb=>if(J b)<=aR then k (.bytes b) O else .bad
   |.none=>match fY O i with
    |some b=>if(J b)<=aR then k (.bytes b) O else .bad
    |.none=>.bad)=_
 rw [BG e,sS e];exact au hb
theorem agv(b:U8)(s m:Nat)(hb:J b=64)(h:4*s+m<=64):∃g,runK P (cn zE 2) (.con (.ref 489)) [.ref 0,.int s,.int m] [eG 1,.bu b] .ok= .ok (.bytes (gk b s m)) (eG 1:: .bu b::g):=by
 exact ⟨[.bu (cut (4*s) (4*s+m) b)],(acV b s m).trans ((ax λz=>yE (fj z)).trans ((ax λz=>rY (mY h) (fj z)).trans
  ((Fs rfl #[bV _,qH (nV h (ez _)) rfl] #[bV _,qH h rfl] (bt (bf hb) (aV rfl))).trans (Ft rfl (bt (bf lT) (bt (lQ _ _) (bt (KQ ..) (bt (bf hb) (aV rfl)))))))))⟩
theorem agw(b:U8)(s:Nat)(o:U8)(hb:J b=64)(h:4*s+J o<=64):jB (.ref 1) (.int (4*(s:Int))) (.int (4*(s:Int)+J o)) (.bytes o) [eG 1,.bu b]=U [eG 1,.bu (ft b s o)]:=
 au (#[bV (4*s),mY (cg (4*s) (J o)),mY (bt h (bf hb.symm)),bt (bf hb) (aV rfl),PZ (C7 ..)]:0<=4*(s:Int)/\ 4*(s:Int)<=4*(s:Int)+J o/\ 4*(s:Int)+J o<=J b/\ (J b)<=1000/\ 4*(s:Int)+J o - 4*(s:Int)=J o)
theorem U4{α:Type}{P:List α->Prop}{l:List α}(h:J l=4)(k:∀a b c d,P [a,b,c,d]):P l:=
 (R6 h).elim λa z=>z.elim λb z=>z.elim λc z=>z.elim λd z=>z▸k a b c d
theorem NG{α:Type}{P:List α->Prop}{l:List α}(h:J l=n+m)(k:∀a t,J a=n->J t=m->P (a++t)):P l:=
 iS n l▸k (l.take n) (l.drop n) (uF.trans (h▸kH (cg n m))) (lT.trans (h▸iN ..))
theorem al3{α:Type}{P:List α->Prop}{l:List α}(h:J l=16)(k:∀o1 o2 o3 o4 o5 o6 o7 o8 o9 Fo Fp Fq HG HH HI HJ,P [o1,o2,o3,o4,o5,o6,o7,o8,o9,Fo,Fp,Fq,HG,HH,HI,HJ]):P l:=
 NG (m:=12) h λa t h1 h=>NG (P:=λt=>P (a++t)) (m:=8) h λb ag h2 h=>NG (P:=λag=>P (a++(b++ag))) h λc d h3 h4=>
  U4 (P:=λa=>P (a++(b++(c++d)))) h1 λo1 o2 o3 o4=>U4 (P:=λb=>P (o1::o2::o3::o4::(b++(c++d)))) h2 λo5 o6 o7 o8=>U4 (P:=λc=>P (o1::o2::o3::o4::o5::o6::o7::o8::(c++d))) h3 λo9 Fo Fp Fq=>
   U4 (P:=λd=>P (o1::o2::o3::o4::o5::o6::o7::o8::o9::Fo::Fp::Fq::d)) h4 λHG HH HI HJ=>k o1 o2 o3 o4 o5 o6 o7 o8 o9 Fo Fp Fq HG HH HI HJ
theorem Bo{s:Nat}(hb:J b=64)(h:4*s+J o<=64)(e:n=((J o):Int)):(if decide ((s:Int)<0)then .bad else if decide (64<4*(s:Int)+n)then .bad else
  bc (jB (.ref 1) (.int (4*(s:Int))) (.int (4*(s:Int)+n)) (.bytes o) [eG 1,.bu b]) λO=>Res.ok V.none O)= .ok .none [eG 1,.bu (ft b s o)]:=by
 subst e;exact (ax λz=>yE (fj z)).trans ((ax λz=>rY (mY h) (fj z)).trans (I (bc · _) (agw b s _ hb h)))
theorem agx(b:U8)(s:Nat)(o:U8)(hb:J b=64)(ho:J o=1 \/J o=2 \/J o=4 \/J o=16)(h:4*s+J (eW o)<=64):
  runK P (cn zE 2) (.con (.ref 496)) [.ref 0,.int s,.bytes o] [eG 1,.bu b] .ok= .ok .none [eG 1,.bu (ft b s (eW o))]:=by
 revert h
 let aoU:U8->Prop:=λo=>4*s+J (eW o)<=64->runK P (cn zE 2) (.con (.ref 496)) [.ref 0,.int s,.bytes o] [eG 1,.bu b] .ok= .ok .none [eG 1,.bu (ft b s (eW o))]
 show aoU o
 rcases ho with e|e|e|e
 ·exact (R5 e).elim λa z=>z▸(λh=>(Zt b s a).trans (Bo hb h rfl):aoU [a])
 ·exact (Ni e).elim λa z=>z.elim λc z=>z▸(λh=>(Zu b s a c).trans (Bo hb h rfl):aoU [a,c])
 ·exact U4 e λa c d f h=>(Zv b s a c d f).trans (Bo hb h rfl)
 ·exact al3 e λo1 o2 o3 o4 o5 o6 o7 o8 o9 Fo Fp Fq HG HH HI HJ h=>(U3 b s o1 o2 o3 o4 o5 o6 o7 o8 o9 Fo Fp Fq HG HH HI HJ).trans (Bo hb h rfl)
noncomputable def NH:MO->ON
 |.inst C kvs=>(match kvs with
  |p::r=>if C=499/\ p.1=aE "octets" /\ r.length=0 then dw p.2 else .none
  | []=>.none)
 |_=>.none
theorem U5(h:NH m=U k):m=eG k:=by
 induction m using MO.casesOn with
 |inst C kvs=>induction kvs using bS with
  |nil=>exact dG h
  |cons p r=>
   obtain ⟨⟨rfl,e2,e3⟩,e⟩:=jo.mp h;obtain rfl:=xY.mp e3;exact I (λp=>MO.inst 499 [p]) (Prod.ext e2 (dF e))
 |_=>exact dG h
noncomputable def Ax:Spec:=λargs O=>i2 (Qr dw dE dE args) λx=>i2 (O[x.1]?.bind NH) λk=>i2 (fY O k) λb=>.ask (x.1≠k/\ (J b)=64/\ 0<=x.2.1/\ 0<=x.2.2/\ 4*x.2.1+x.2.2<=64) (oM _) (.yes (.bytes (gk b x.2.1.toNat x.2.2.toNat)) O)
noncomputable def Ay:Spec:=λargs O=>i2 (Qr dw dE jJ args) λx=>i2 (O[x.1]?.bind NH) λk=>i2 (fY O k) λb=>.ask (x.1≠k/\ (J b)=64/\ 0<=x.2.1/\ (J x.2.2=1 \/J x.2.2=2 \/J x.2.2=4 \/J x.2.2=16)/\ 4*x.2.1+J (eW x.2.2)<=64) (oM _) (.yes .none (O.set k (.bu (ft b x.2.1.toNat (eW x.2.2)))))
noncomputable def jR(j k:Nat)(i:Nat):Nat:=if i=0 then j else k
theorem two{P:Nat->Prop}(h:i<2)(a:P 0)(b:P 1):P i:=match i,h with
 |0,_=>a
 |1,_=>b
 |i+2,h=>absurd h (dK (fx 2 i))
theorem NI(h1:O[j]? =U (eG k))(h2:O[k]? =U (.bu b))(ne:j≠k):u0 (jR j k) [eG 1,.bu b] O:=
 ⟨λx y hx hy=>two (P:=λx=>jR j k x=jR j k y->x=y) hx (two (P:=λy=>jR j k 0=jR j k y->0=y) hy (λG=>rfl) λq=>absurd q ne) (two (P:=λy=>jR j k 1=jR j k y->1=y) hy (λq=>absurd q.symm ne) λG=>rfl),
  λi m e=>two (P:=λi=> [eG 1,MO.bu b][i]? =U m->zB 2 m/\ ∃m',O[jR j k i]? =U m'/\ pD m' (fE (jR j k) m)) (jj e).1 (λe=>bh e▸#[Nu #[bF rfl,tv],_,h1,fZ (eG k)]) (λe=>bh e▸#[tv,_,h2,fZ _]) e⟩
theorem NJ{O:L}{j:Nat}(h:O[j]?.bind NH=U k):O[j]? =U (eG k):=(gm h).elim λm z=>z.1.trans (I U (U5 z.2))
theorem U6(args:LV)(O:L)(hb:(Ax args O).k .ok≠ .bad):fK O args (fk P (gn P (inl zE 2) deep) (.con (.ref 489))) ((Ax args O).k .ok):=
 dB (λx e=>dB λk h1=>dB λb h2=>kO λq G=>by
  obtain ⟨j,r,m⟩:=x;obtain rfl:=f6 dF (f6 cD (nh cD)) e;obtain ⟨ne,q1,q2,q3,q4⟩:=q;obtain ⟨r,rfl⟩:=iA q2;obtain ⟨m,rfl⟩:=iA q3;obtain ⟨g,run⟩:=agv b r m q1 (yG q4);exact Aj (NI (NJ h1) (gH h2) ne) (as:= [.ref 0,.int r,.int m]) rfl #[J3,tv,tv,tv] (gU run) (λi h=>two (P:=λi=>(eG 1:: .bu b::g)[i]? = [eG 1,.bu b][i]?) h rfl rfl) trivial) hb
theorem U7(args:LV)(O:L)(hb:(Ay args O).k .ok≠ .bad):fK O args (fk P (gn P (inl zE 2) deep) (.con (.ref 496))) ((Ay args O).k .ok):=
 dB (λx e=>dB λk h1=>dB λb h2=>kO λq G=>by
  obtain ⟨j,r,o⟩:=x;obtain rfl:=f6 dF (f6 cD (nh gL)) e;have ne:=q.1;obtain ⟨r,rfl⟩:=iA q.2.2.1
  exact y3 (dc:=O.set k (.bu (ft b r (eW o)))) (NI (NJ h1) (gH h2) ne) (as:= [.ref 0,.int r,.bytes o]) rfl #[J3,tv,tv,tv] (gU (agx b r o q.2.1 q.2.2.2.1 (yG q.2.2.2.2))) (oz ..)
   (λi h=>two (P:=λi=>∃m,[eG 1,MO.bu (ft b r (eW o))][i]? =U m/\ zB 2 m/\ ∃m',(O.set k (.bu (ft b r (eW o))))[jR j k i]? =U m'/\ pD (fE (jR j k) m) m') h
    #[_,rfl,Nu #[bF rfl,tv],eG k,(km (bP ne)).trans (NJ h1),fZ (eG k)] #[_,rfl,tv,.bu (ft b r (eW o)),uB (jj (gH h2)).1,fZ _])
   (λi hi hn=>km (hn 1 (bF rfl))) trivial) hb
noncomputable def eu:eR:=pE 489 Ax (pE 496 Ay zE)
theorem agy:Good 66 eu:=good_add agu (aV rfl) 2 λa S h=>jn h (λe z=>.inr λargs O hb G G=>by subst e z;exact U6 args O hb) λh=>jn h (λe z=>.inr λargs O hb G G=>by subst e z;exact U7 args O hb) .inl
noncomputable def apps:LV->LV->(LV->RV)->RV
 | [],xs,k=>k xs
 |r::rs,xs,k=>if(J xs)<=aR then apps rs (xs++ [r]) k else .bad
theorem agz:apps (r::rs) xs k=if(J xs)<=aR then apps rs (xs++ [r]) k else .bad:=rfl
theorem tO:∀{rs xs:LV} {k:LV->RV},J xs+rs.length<=1000->apps rs xs k=k (xs++rs)
 | [],xs,k,_=>by rw [cL];rfl
 |r::rs,xs,k,h=>by
  rw [agz];simp only [oA]at h;rw [au (by unfold aR;exact (nV h (aV rfl))),tO (by rw [cx,rS];exact (zS h)),cM]
  rfl
noncomputable def vj(O:L)(k:LV->(LV->L)->RV):RV:=match O with
 |a::b:: .list xs::r=>k xs λys=>a::b:: .list ys::r
 |_=>.bad
noncomputable abbrev ldK(w n:Nat)(ip:Bool)(aO:String)(fl:SV)(xs:LV)(kn:SV)(aY:Nat):RV:=runK P (cn eu 12) (.con (.ref 257)) [.ref 1,.int aY,eC w n] (bB ip aO fl xs kn []) .ok
noncomputable abbrev HK(w:Nat)(ip:Bool)(aO:String)(fl:SV)(xs:LV)(kn:SV)(aY:Nat)(k:QT):RV:=(vg [.ref 1,.int aY,nH w] (bB ip aO fl xs kn [])).k k
section
variable(ip:Bool)(aO:String)(fl:SV)(xs:LV)(kn:SV)(aY n:Nat)
theorem U9(w:Nat)(h:w=0 \/w=1 \/w=9 \/w=10 \/w=11):ldK w n ip aO fl xs kn aY=HK w ip aO fl xs kn aY λv O=>vj O λxs st=>apps (eO w n aY av) xs λys=>.ok .none (st ys):=by
 rcases h with rfl|rfl|rfl|rfl|rfl<;>rfl'
theorem ldm(w:Nat)(h:w=5 \/w=6 \/w=7 \/w=8):ldK w n ip aO fl xs kn aY=apps (eO w n aY av) xs λys=>.ok .none (bB ip aO fl ys kn []):=by
 rcases h with rfl|rfl|rfl|rfl<;>rfl'
theorem ldc(w b:Nat)(h:(w=2/\ b=0) \/(w=3/\ b=1) \/(w=4/\ b=0)):ldK w n ip aO fl xs kn aY=HK b ip aO fl xs kn aY λv O=>vj O λxs st=>apps (eO w n aY av) xs λys=>.ok .none (st ys):=by
 rcases h with⟨rfl,rfl⟩|⟨rfl,rfl⟩|⟨rfl,rfl⟩<;>rfl'
noncomputable abbrev oX(m s:Nat)(k:U8->RV):RV:=(qQ [.int m,.int s] []).k λv G=>match v with|.bytes b=>k b|_=>.bad
theorem al4:ldK 12 n ip aO fl xs kn aY=HK 0 ip aO fl xs kn aY λv O=>vj O λxs st=>apps (eO 0 n aY av) xs λys=>
  oX (n&&&4294967295) 4 λb=>apps [.tup [S "bitwise",.int aY,.int aY,.bytes b,.bytes [0,0,0,0]]] ys λys=>.ok .none (st ys):=by rfl'
theorem al5(l:Bool):ldK 13 n ip (if l then "little" else "big") fl xs kn aY=apps (eO 5 n aY av) xs λys=>
  oX (n&&&4294967295) 4 λb=>if l then(wJ [.bytes b] []).k λv G=>apps [.tup [S "bitwise",.int aY,.int aY,.bytes [255,255,255,255],v]] ys λys=>.ok .none (bB ip (if l then "little" else "big") fl ys kn [])
   else apps [.tup [S "bitwise",.int aY,.int aY,.bytes [255,255,255,255],.bytes b]] ys λys=>.ok .none (bB ip (if l then "little" else "big") fl ys kn []):=by
 rcases l<;>rfl'
theorem al6:ldK 14 n ip aO fl xs kn aY=apps (eO 14 n aY av) xs λys=>.ok .none (bB ip aO fl ys kn []):=by rfl'
theorem al7:ldK 15 n ip aO fl xs kn aY=HK 0 ip aO fl xs kn aY λv O=>vj O λxs st=>apps (eO 2 n aY av) xs λys=>
  oX (255^^^(n % 256&&&255)) 1 λb=>oX (n % 256&&&255) 1 λc=>apps [.tup [S "bitwise",.int aY,.int aY,.bytes b,.bytes c]] ys λys=>.ok .none (st ys):=by rfl'
theorem al8:ldK 16 n ip aO fl xs kn aY=HK 1 ip aO fl xs kn aY λv O=>vj O λxs st=>apps (eO 1 n aY av) xs λys=>
  oX (65535^^^(n % 65536&&&65535)) 2 λb=>oX (n % 65536&&&65535) 2 λc=>apps [.tup [S "bitwise",.int aY,.int aY,.bytes b,.bytes c],.tup [S "shift",.int aY,.int aY,.int 2,S "right",.int (n/65536 % 18:Nat)]] ys λys=>.ok .none (st ys):=by rfl'
end
theorem kq{m s:Nat}{k:U8->RV}(hs:s=1 \/s=2 \/s=4)(h:m<256^s):oX m s k=k (cA m s):=au #[bV m,aaj hs,h]
theorem aaH(m:Nat):cA m 1= [m.toUInt8]:=I (λx:Nat=> [x.toUInt8]) (rO m)
theorem aaI(hw:vT w)(h1:J xs<=800)(h2:J kn<=800)(nd:(kn.map (·.1)).Nodup)(sc:bH 0 xs):
  HK w ip aO fl xs (aT kn) aY k=k .none (bB ip aO fl (xs++(bR aY (bY w ip) kn).1) (aT (bR aY (bY w ip) kn).2) []):=by
 let d:RD:=#[ip,aO,fl,xs,kn,[]]
 show(@ite _ (y9 _ _) (oM _) _ _)=_
 rw [au #[d,w,aY,(#[#[h1,h2,nd,sc],rfl,hw,rfl]:tI [.ref 1,.int aY,nH w] (bB ip aO fl xs (aT kn) []) d w aY)]];show k .none (_::_:: .list (wK _ _).1::_:: .dict (wK _ _).2::_)=_
 rw [(HF (#[#[h1,h2,nd,sc],rfl,hw,rfl]:tI [.ref 1,.int aY,nH w] (bB ip aO fl xs (aT kn) []) d w aY))]
theorem NK{n:Nat}(h:n<2^32):n&&&4294967295=n:=(mP n 32).trans (iO h)
theorem agA(n:Nat):n % 256&&&255=n % 256:=(mP _ 8).trans (iO (dH _ (by decide)))
theorem Zw(n:Nat):n % 65536&&&65535=n % 65536:=(mP _ 16).trans (iO (dH _ (by decide)))
theorem NL{k n:Nat}(h:n<2^k):(2^k - 1)^^^n=2^k - 1 - n:=by
 refine J4 λi=>?_;simp only [J5,Nat.testBit_two_pow_sub_one,uw,rM 1,J6 h i];by_cases q:i<k
 ·rw [dC q];cases n.testBit i<;>rfl
 ·rw [fy q,J7 (gG h (rN qd (kh q)))];rfl
noncomputable def b5(l:Bool):String:=if l then "little" else "big"
theorem Az(aY:Nat)(w:Nat)(ip:Bool)(kn:SN):(bR aY (bY w ip) kn).1.length<=4:=si (pz aY (bY w ip) kn).1 (ik w ip).2 (aV rfl)
section
variable{ip:Bool}{aO:String}{fl:SV}{xs:LV}{kn:SN}{aY:Nat}
noncomputable def Sk(ip:Bool)(aO:String)(fl:SV)(xs:LV)(kn:SN)(aY:Nat)(r:RV)(b:Nat)(rows:LV):Prop:=r= .ok .none (bB ip aO fl (xs++(bR aY (bY b ip) kn).1++rows) (aT (bR aY (bY b ip) kn).2) [])
structure QA(xs:LV)(kn:SN):Prop where
 h1:J xs<=800
 h2:J kn<=800
 nd:(kn.map (·.1)).Nodup
 sc:bH 0 xs
theorem vm{α:Type}{a b:List α}{m n:Nat}(h:J a<=m)(k:J b<=n):J (a++b)<=m+n:=cx▸kf h k
theorem ap1(H:QA xs kn)(b:Nat)(l:rs.length<=4):apps rs (xs++(bR aY (bY b ip) kn).1) k=k (xs++(bR aY (bY b ip) kn).1++rs):=
 tO (bt (kf (vm H.h1 (Az aY b ip kn)) l) (aV rfl))
theorem ap2(H:QA xs kn)(b:Nat)(l:rs.length<=4)(l':J QB<=4):apps QB (xs++(bR aY (bY b ip) kn).1++rs) k=k (xs++(bR aY (bY b ip) kn).1++(rs++QB)):=
 (tO (bt (kf (vm (vm H.h1 (Az aY b ip kn)) l) l') (aV rfl))).trans (I k (cM ..))
theorem HL(H:QA xs kn){b:Nat}(hb:vT b){rs:LV}(l:rs.length<=4){r:RV}(e:r=HK b ip aO fl xs (aT kn) aY λv O=>vj O λxs st=>apps rs xs λys=>.ok .none (st ys)):Sk ip aO fl xs kn aY r b rs:=
 e.trans ((aaI hb H.h1 H.h2 H.nd H.sc).trans (ap1 H b l))
theorem Va(H:QA xs kn){b:Nat}(hb:bY b ip= []){rs:LV}(l:rs.length<=4){r:RV}(e:r=apps rs xs λys=>.ok .none (bB ip aO fl ys (aT kn) [])):Sk ip aO fl xs kn aY r b rs:=by
 unfold Sk;rw [hb];exact e.trans ((tO (bt (kf H.h1 l) (aV rfl))).trans (I (λx=>Res.ok V.none (bB ip aO fl (x++rs) (aT kn) [])) (cL xs).symm))
theorem ldQ(H:QA xs kn){b:Nat}(hb:vT b){rs QB:LV}(l:rs.length<=4)(l':J QB<=4){r:RV}{K:LV->(LV->L)->RV}(e:r=HK b ip aO fl xs (aT kn) aY λv O=>vj O λxs st=>apps rs xs λys=>K ys st)
  (hK:∀ys st,K ys st=apps QB ys λys=>.ok .none (st ys)):Sk ip aO fl xs kn aY r b (rs++QB):=
 e.trans ((aaI hb H.h1 H.h2 H.nd H.sc).trans ((ap1 H b l).trans ((hK ..).trans (ap2 H b l l'))))
end
theorem ajx(w n:Nat)(hw:w<17)(hn:n<2^32)(l ip:Bool)(fl:SV)(xs:LV)(kn:SN)(aY:Nat)(h1:J xs<=800)(h2:J kn<=800)(nd:(kn.map (·.1)).Nodup)(sc:bH 0 xs):
  ldK w n ip (b5 l) fl xs (aT kn) aY= .ok .none (bB ip (b5 l) fl (xs++(bR aY (bY w ip) kn).1++eO w n aY l) (aT (bR aY (bY w ip) kn).2) []):=by
 have c:=ll w n aY l hw;have H:QA xs kn:=#[h1,h2,nd,sc];have one:∀{a:V},[a].length<=4:=λ{_}=>aV rfl
 match w,hw with
 |0,_=>exact HL H (.inl rfl) c (U9 ip _ fl xs _ aY n 0 (.inl rfl))
 |1,_=>exact HL H (.inr (.inl rfl)) c (U9 ip _ fl xs _ aY n 1 (.inr (.inl rfl)))
 |2,_=>exact HL H (.inl rfl) c (ldc ip _ fl xs _ aY n 2 0 (.inl #[rfl,rfl]))
 |3,_=>exact HL H (.inr (.inl rfl)) c (ldc ip _ fl xs _ aY n 3 1 (.inr (.inl #[rfl,rfl])))
 |4,_=>exact HL H (.inl rfl) c (ldc ip _ fl xs _ aY n 4 0 (.inr (.inr #[rfl,rfl])))
 |5,_=>exact Va H rfl c (ldm ip _ fl xs _ aY n 5 (.inl rfl))
 |6,_=>exact Va H rfl c (ldm ip _ fl xs _ aY n 6 (.inr (.inl rfl)))
 |7,_=>exact Va H rfl c (ldm ip _ fl xs _ aY n 7 (.inr (.inr (.inl rfl))))
 |8,_=>exact Va H rfl c (ldm ip _ fl xs _ aY n 8 (.inr (.inr (.inr rfl))))
 |9,_=>exact HL H (.inr (.inr (.inl rfl))) c (U9 ip _ fl xs _ aY n 9 (.inr (.inr (.inl rfl))))
 |10,_=>exact HL H (.inr (.inr (.inr (.inl rfl)))) c (U9 ip _ fl xs _ aY n 10 (.inr (.inr (.inr (.inl rfl)))))
 |11,_=>exact HL H (.inr (.inr (.inr (.inr rfl)))) c (U9 ip _ fl xs _ aY n 11 (.inr (.inr (.inr (.inr rfl)))))
 |12,_=>exact ldQ H (.inl rfl) (ll 0 n aY av (aV rfl)) one (al4 ip _ fl xs _ aY n) λys st=>by rw [NK hn,kq (.inr (.inr rfl)) hn]
 |13,_=>
  have hl:∀{a:V} {k},apps [a] (xs++eO 5 n aY av) k=k (xs++ []++(eO 5 n aY av++ [a])):=λ{a k}=>(tO (bt (kf (vm h1 (ll 5 n aY av (aV rfl))) one) (aV rfl))).trans (I k ((cM ..).trans (I (·++_) (cL xs).symm)));refine (al5 ip fl xs _ aY n l).trans ((tO (bt (kf h1 (ll 5 n aY av (aV rfl))) (aV rfl))).trans ?_);simp only [NK hn,kq (.inr (.inr rfl)) hn];rcases l with⟨⟩
  ·exact (ax nofun).trans hl
  ·exact (au rfl).trans ((au (.inr (cQ _))).trans hl)
 |14,_=>exact Va H rfl c (al6 ip _ fl xs _ aY n)
 |15,_=>exact ldQ H (.inl rfl) (ll 2 n aY av (aV rfl)) one (al7 ip _ fl xs _ aY n) λys st=>by rw [agA,show 255^^^n % 256=255 - n % 256 from NL (k:=8) (dH n (bF rfl)),kq (.inl rfl) (gd (lQ _ _) (bF rfl)),kq (.inl rfl) (dH n (y:=256) (bF rfl)),aaH,aaH]
 |16,_=>exact ldQ H (.inr (.inl rfl)) (ll 1 n aY av (aV rfl)) (aV rfl) (al8 ip _ fl xs _ aY n) λys st=>by rw [Zw,show 65535^^^n % 65536=65535 - n % 65536 from NL (k:=16) (dH n (bF rfl)),kq (.inr (.inl rfl)) (gd (lQ _ _) (bF rfl)),kq (.inr (.inl rfl)) (dH n (y:=65536) (bF rfl))];rfl
 |w+17,h=>exact absurd h (dK (fx _ _))
structure Sc where
 six:Bool
 oc:U8
 l4:Int
 off:Int
 mark:Nat
 c8:Nat
 tk:Option (Nat×ON)
 aP:Bool
structure T9 where
 a0:MO
 a1:MO
 a2:MO
 a3:MO
 a4:MO
 a5:MO
 a6:MO
 a7:MO
 a8:MO
noncomputable def aaJ:ON->V
 |none=>.tup [.int 10,.int 17,.int 1,.int 2,.int 3,.int 4]
 |some s=>.tup [.int 2,.int 17,.int s,.int 2,.int 3,.int 4]
noncomputable def Sl(mk:Nat)(src:ON):SV:= [("number",.int 1),("original",aaJ src),("reply",.tup [.int 2,.int 17,.int 3,.int 4,.int 1,.int 2]),("zone",.int 0),("until",.int 0),("since",.int 0),("mark",.int mk),("status",.int 0),("state",.int 0),("sides",.none),("master",.int 0)]
noncomputable def vn:SV:= [("payload",.con (.ref 447)),("meta",.con (.ref 454)),("ct",.con (.ref 461))]
noncomputable def NM:SV:= [("bitwise",.con (.ref 531)),("byteorder",.con (.ref 545)),("cmp",.con (.ref 524)),("shift",.con (.ref 538)),("payload",.con (.ref 559)),("meta",.con (.ref 566)),("ct",.con (.ref 573)),("dynset",.con (.ref 688))]
noncomputable def Fu:SV:= [("payload",.con (.ref 559)),("meta",.con (.ref 566)),("ct",.con (.ref 573))]
noncomputable def al9(o:Nat)(tk:V)(aO:V):SV:= [("packet",.ref 9),("now",.int 0),("hook",S "input"),("talk",tk),("state",.int 1),("is_reply",.int 0),("talks",.none),("sets",.ref 15),("objects",.ref 16),("fields",.ref 13),("readers",.ref o),("doers",.ref 18),("ops",.ref (o+1)),("tools",.ref 20),("order",aO),("log",.ref 21),("replies",.ref 22),("steps",.none),("homes",.ref 23)]
noncomputable abbrev AA(t:T9)(d:Sc)(o:Nat)(tk:V)(lg:LV)(r:L):L:=
 t.a0::t.a1::t.a2::t.a3::t.a4::t.a5::t.a6::t.a7::t.a8:: .inst 316 (Sj 9 (if d.six then 34525 else 2048) d.l4 d.off):: .bu d.oc:: .bu []:: .dict (Si (.int d.mark) (.int d.c8)):: .dict iE::
 .inst 366 (al9 o tk (S (b5 d.aP))):: .dict []:: .dict []:: .dict []:: .dict []:: .dict []:: .dict []:: .list lg:: .list []:: .dict []::r
noncomputable def ajy(t:T9)(d:Sc)(lg:LV)(r:L):L:=match d.tk with
 |none=>AA t d 24 .none lg (.dict vn:: .dict NM:: .dict Fu::r)
 |some (mk,src)=>AA t d 25 (.ref 24) lg (.inst 597 (Sl mk src):: .dict vn:: .dict NM:: .dict Fu::r)
noncomputable def cF(d:Sc):Nat:=match d.tk with
 |none=>27
 |some _=>28
noncomputable def bL(t:T9)(d:Sc)(b:U8)(lg:LV):L:=ajy t d lg [eG (cF d+1),.bu b]
noncomputable def Sm:Option (Nat×ON)->V
 |none=>.tup [.none,.none]
 |some (mk,u)=>.tup [.int mk,.none]
 |some (mk,U src)=>.tup [.int mk,.int src]
noncomputable def agC(wh bi ki:Int)(d:Sc):SV:= [("octets",.bytes d.oc),("whole",.int wh),("bits",.int bi),("kind",.int ki),("heads",.ref 8),("l4",.int d.l4),("off",.int d.off),("mark",.int d.mark),("iiftype",.int d.c8),("talk",Sm d.tk)]
noncomputable abbrev T9.fct(t:T9)(wh bi ki:Int)(d:Sc):T9:={t with a7:=.dict (agC wh bi ki d)}
noncomputable def T9.l(t:T9):L:= [t.a0,t.a1,t.a2,t.a3,t.a4,t.a5,t.a6,t.a7,t.a8]
noncomputable abbrev sV(a:ay)(row:LV)(t:T9)(d:Sc)(b:U8)(lg:LV):RV:=runK P (cn eu 12) (.con (.ref a)) [.ref 14,.ref (cF d),.tup row,.none] (bL t d b lg) .ok
noncomputable def jF:V:=.tup [S "break",S ""]
noncomputable abbrev iw(d:Sc)(r:Int)(v:V)(O:L):RV:=(Ay [.ref (cF d),.int r,v] O).k λG O=>.ok .none O
noncomputable abbrev n6(d:Sc)(r m:Int)(O:L)(k:U8->RV):RV:=(Ax [.ref (cF d),.int r,.int m] O).k λv G=>match v with|.bytes g=>k g|_=>.bad
noncomputable abbrev qT(g:U8)(k:Nat->RV):RV:=(IC [.bytes g] []).k λv G=>match v with|.int a=>k a.toNat|_=>.bad
section
variable(t:T9)(b:U8)(lg:LV)(r:Int)
theorem Vb(d:Sc)(at' many:Nat)(h:(at'=12/\ many=4) \/(at'=1/\ many=1) \/(at'=8/\ many=16)):sV 559 [S "payload",.int r,S "network",.int at',.int many] t d b lg=
  if(J d.oc)<=aR then(if decide (((J d.oc):Int)<(at'+many:Nat))then .ok jF (bL t d b lg)else
   sQ (.ref 10) (.int at') (.int (at'+many:Nat)) (bL t d b lg) λv O=>ei (.type "bytes") [v] O λv O=>iw d r v O)else .bad:=by
 obtain ⟨six,oc,l4,off,mark,c8,tk,aP⟩:=d;rcases h with⟨rfl,rfl⟩|⟨rfl,rfl⟩|⟨rfl,rfl⟩<;>rcases tk with _|⟨mk,src⟩<;>rfl'
theorem NO(d:Sc)(at' many:Nat)(h:(at'=2/\ many=2) \/(at'=12/\ many=1) \/(at'=0/\ many=2) \/(at'=0/\ many=1)):sV 559 [S "payload",.int r,S "transport",.int at',.int many] t d b lg=
  if decide (d.off<0)then .ok jF (bL t d b lg)else
  if(J d.oc)<=aR then(if decide (((J d.oc):Int)<d.off+at'+many)then .ok jF (bL t d b lg)else
   sQ (.ref 10) (.int (d.off+at')) (.int (d.off+at'+many)) (bL t d b lg) λv O=>ei (.type "bytes") [v] O λv O=>iw d r v O)else .bad:=by
 obtain ⟨six,oc,l4,off,mark,c8,tk,aP⟩:=d;rcases h with⟨rfl,rfl⟩|⟨rfl,rfl⟩|⟨rfl,rfl⟩|⟨rfl,rfl⟩<;>rcases tk with _|⟨mk,src⟩<;>rfl'
end
noncomputable abbrev aaK(o:U8)(k:V->RV):RV:=(wJ [.bytes o] []).k λv G=>k v
noncomputable abbrev Fv(l:Bool)(n s:Nat)(k:V->RV):RV:=oX n s λo=>if l then aaK o k else k (.bytes o)
section
variable(t:T9)(b:U8)(lg:LV)(r:Int)
theorem acW(d:Sc):sV 566 [S "meta",.int r,S "mark",.int 4,S "host"] t d b lg=Fv d.aP d.mark 4 λv=>iw d r v (bL t d b lg):=by
 obtain ⟨six,oc,l4,off,mark,c8,tk,aP⟩:=d;rcases tk with _|⟨mk,src⟩<;>rcases aP<;>rfl'
theorem agE(d:Sc):sV 566 [S "meta",.int r,S "iiftype",.int 2,S "host"] t d b lg=Fv d.aP d.c8 2 λv=>iw d r v (bL t d b lg):=by
 obtain ⟨six,oc,l4,off,mark,c8,tk,aP⟩:=d;rcases tk with _|⟨mk,src⟩<;>rcases aP<;>rfl'
theorem ajz(d:Sc):sV 566 [S "meta",.int r,S "nfproto",.int 1,S "big"] t d b lg=oX (if d.six then 10 else 2) 1 λo=>iw d r (.bytes o) (bL t d b lg):=by
 obtain ⟨six,oc,l4,off,mark,c8,tk,aP⟩:=d;rcases tk with _|⟨mk,src⟩<;>rcases six<;>rfl'
theorem ajA(d:Sc)(l4:Nat)(h:d.l4=l4)(hl:l4=1 \/l4=6 \/l4=17):sV 566 [S "meta",.int r,S "l4proto",.int 1,S "big"] t d b lg=oX l4 1 λo=>iw d r (.bytes o) (bL t d b lg):=by
 obtain ⟨six,oc,l4',off,mark,c8,tk,aP⟩:=d;obtain rfl:=h;rcases hl with rfl|rfl|rfl<;>rcases tk with _|⟨mk,src⟩<;>rfl'
theorem HM(d:Sc):∃g,sV 573 [S "ct",.int r,S "mark",S "",.int 4,S "host"] t d b lg=match d.tk with
  |none=>.ok jF (bL t d b lg++g)
  |some (mk,src)=>Fv d.aP mk 4 λv=>iw d r v (bL t d b lg++g):=by
 obtain ⟨six,oc,l4,off,mark,c8,tk,aP⟩:=d;rcases tk with _|⟨mk,src⟩
 ·exact #[[],by rfl']
 ·exact #[[.dict [("status",.int 0),("direction",.int 0),("mark",.int mk),("zone",.int 0),("expiration",.int 0)]],by rcases aP<;>rfl']
theorem NP(d:Sc):∃g,sV 573 [S "ct",.int r,S "saddr4",S "original",.int 4,S "big"] t d b lg=match d.tk with
  |some (mk,U src)=>oX src 4 λo=>iw d r (.bytes o) (bL t d b lg++g)
  |_=>.ok jF (bL t d b lg++g):=by
 obtain ⟨six,oc,l4,off,mark,c8,tk,aP⟩:=d;rcases tk with _|⟨mk,_|src⟩
 ·exact #[[],by rfl']
 ·exact #[[.dict [("status",.int 0),("direction",.int 0),("mark",.int mk),("zone",.int 0),("expiration",.int 0)],.dict [("l3proto",.int 10),("protocol",.int 17),("proto-src",.int 2),("proto-dst",.int 4),("saddr6",.int 1),("daddr6",.int 3)]],by rfl']
 ·exact #[[.dict [("status",.int 0),("direction",.int 0),("mark",.int mk),("zone",.int 0),("expiration",.int 0)],.dict [("l3proto",.int 2),("protocol",.int 17),("proto-src",.int 2),("proto-dst",.int 4),("saddr4",.int src),("daddr4",.int 3)]],by rfl']
theorem agF(d:Sc)(v:UInt8):sV 524 [S "cmp",S "==",.int r,.bytes [v]] t d b lg=n6 d r 1 (bL t d b lg) λg=>qT g λn=>if((n:Int)==(numOf [v]:Nat))==ai then .ok .none (bL t d b lg)else .ok jF (bL t d b lg):=by
 obtain ⟨six,oc,l4,off,mark,c8,tk,aP⟩:=d;rcases tk with _|⟨mk,src⟩<;>rfl'
theorem acX(d:Sc)(m x:UInt8):sV 531 [S "bitwise",.int r,.int r,.bytes [m],.bytes [x]] t d b lg=n6 d r 1 (bL t d b lg) λg=>qT g λn=>oX ((n&&&numOf [m])^^^numOf [x]) 1 λo=>iw d r (.bytes o) (bL t d b lg):=by
 obtain ⟨six,oc,l4,off,mark,c8,tk,aP⟩:=d;rcases tk with _|⟨mk,src⟩<;>rfl'
theorem acY(d:Sc)(m1 m2 x1 x2:UInt8):sV 531 [S "bitwise",.int r,.int r,.bytes [m1,m2],.bytes [x1,x2]] t d b lg=n6 d r 2 (bL t d b lg) λg=>qT g λn=>oX ((n&&&numOf [m1,m2])^^^numOf [x1,x2]) 2 λo=>iw d r (.bytes o) (bL t d b lg):=by
 obtain ⟨six,oc,l4,off,mark,c8,tk,aP⟩:=d;rcases tk with _|⟨mk,src⟩<;>rfl'
theorem acZ(d:Sc)(m1 m2 m3 m4 x1 x2 x3 x4:UInt8):sV 531 [S "bitwise",.int r,.int r,.bytes [m1,m2,m3,m4],.bytes [x1,x2,x3,x4]] t d b lg=n6 d r 4 (bL t d b lg) λg=>qT g λn=>oX ((n&&&numOf [m1,m2,m3,m4])^^^numOf [x1,x2,x3,x4]) 4 λo=>iw d r (.bytes o) (bL t d b lg):=by
 obtain ⟨six,oc,l4,off,mark,c8,tk,aP⟩:=d;rcases tk with _|⟨mk,src⟩<;>rfl'
theorem ac0(d:Sc)(m:Nat)(h:m=2 \/m=4):sV 545 [S "byteorder",.int r,.int r,.int m] t d b lg=n6 d r m (bL t d b lg) λg=>qT g λn=>Fv d.aP n m λv=>iw d r v (bL t d b lg):=by
 obtain ⟨six,oc,l4,off,mark,c8,tk,aP⟩:=d;rcases h with rfl|rfl<;>rcases tk with _|⟨mk,src⟩<;>rcases aP<;>rfl'
theorem agG(d:Sc)(m:Nat)(h:m=1 \/m=2)(y:Int):sV 538 [S "shift",.int r,.int r,.int m,S "right",.int y] t d b lg=n6 d r m (bL t d b lg) λg=>qT g λn=>
  if decide (8*(m:Int)<=y)then oX 0 m λo=>iw d r (.bytes o) (bL t d b lg)else if 0<=y then(qQ [.int ((n:Int)/2^y.toNat),.int m] []).k λv G=>iw d r v (bL t d b lg)else .bad:=by
 obtain ⟨six,oc,l4,off,mark,c8,tk,aP⟩:=d;rcases h with rfl|rfl<;>rcases tk with _|⟨mk,src⟩<;>rfl'
theorem agH(d:Sc)(y:Int):sV 538 [S "shift",.int r,.int r,.int 2,S "left",.int y] t d b lg=n6 d r 2 (bL t d b lg) λg=>qT g λn=>
  if decide (16<=y)then oX 0 2 λo=>iw d r (.bytes o) (bL t d b lg)else if(n:Int).natAbs<2^1000/\ 0<=y/\ y<=1000000 then(if 0<=(n:Int)*2^y.toNat/\ (0:Int)<=65535 then(qQ [.int ((((n:Int)*2^y.toNat).toNat&&&65535:Nat):Int),.int 2] []).k λv G=>iw d r v (bL t d b lg)else .bad)else .bad:=by
 obtain ⟨six,oc,l4,off,mark,c8,tk,aP⟩:=d;rcases tk with _|⟨mk,src⟩<;>rfl'
end
theorem za:∀(b:U8) (a:Nat),b.foldl (λa o=>a*256+o.toNat) a=a*256^(J b)+numOf b
 | [],a=>(Nat.mul_one a).symm
 |o::r,a=>(za r _).trans ((I (·+numOf r) ((J8 ..).trans (I (·+_) ((J9 ..).trans (I (a*·) (oy ..)))))).trans ((rJ ..).trans (I (_+·) ((za r (0*256+o.toNat)).trans (by rw [Ka,kg])).symm)))
theorem zc(o:UInt8)(r:U8):numOf (o::r)=o.toNat*256^r.length+numOf r:=(za r (0*256+o.toNat)).trans (by simp only [Ka,kg])
theorem vU(a b:U8):numOf (a++b)=numOf a*256^(J b)+numOf b:=CS.trans (za b _)
theorem i6:∀b:U8,numOf b<256^(J b)
 | []=>Nat.one_pos
 |o::r=>zc o r▸gG (Nat.add_lt_add_left (i6 r) _) (bt (bf (Nat.succ_mul ..).symm) (bt (Nat.mul_le_mul_right _ o.toNat_lt) (bf (oy ..))))
theorem HN:∀{a b:U8},J a=J b->numOf a=numOf b->a=b
 | [],[],_,_=>rfl
 |x::a,y::b,h,e=>by
  have ha:=i6 a;simp only [zc,zc,(kJ h)]at e;rw [(kJ h)]at ha;have q:=I (·/256^(J b)) e;have r:=I (· % 256^(J b)) e;simp only [oy _ (256^(J b)),ux (gd (bp _) ha),uu ha,uu (i6 b),Kb,iO ha,iO (i6 b),CH]at q r;simp only [DG q,HN (kJ h) r]
theorem dY(n:Nat):n.toUInt8.toNat=n % 256:=DH ..
theorem sW(a:UInt8):numOf [a]=a.toNat:=kg _
theorem NQ(a b:UInt8):numOf [a,b]=a.toNat*256+b.toNat:=(vU [a] [b]).trans (congr (I _ (I (·*256) (sW a))) (sW b))
theorem agI(a b c d:UInt8):numOf [a,b,c,d]=((a.toNat*256+b.toNat)*256+c.toNat)*256+d.toNat:=(vU [a,b] [c,d]).trans (by simp only [NQ,NQ];exact (rJ ..).symm.trans (I (·+_) ((I (·+_) (J9 _ 256 256).symm).trans (J8 ..).symm)))
theorem agJ(n:Nat):cA n 1= [n.toUInt8]:=I (λx:Nat=> [x.toUInt8]) (rO n)
theorem ajB(n:Nat):cA n 2= [(n/256).toUInt8,n.toUInt8]:=I (λx:Nat=> [(n/256).toUInt8,x.toUInt8]) (rO n)
theorem ajC(n:Nat):cA n 4= [(n/16777216).toUInt8,(n/65536).toUInt8,(n/256).toUInt8,n.toUInt8]:=I (λx:Nat=> [(n/16777216).toUInt8,(n/65536).toUInt8,(n/256).toUInt8,x.toUInt8]) (rO n)
theorem bU(n s:Nat):J (cA n s)=s:=(cQ _).trans lV
theorem dm(h:y=x/256)(k:z=x % 256):y*256+z=x:=h▸k▸Nat.div_add_mod' x 256
theorem kr(hs:s=1 \/s=2 \/s=4)(h:n<256^s):numOf (cA n s)=n:=by
 rcases hs with rfl|rfl|rfl
 ·exact (I numOf (agJ n)).trans ((sW _).trans ((dY n).trans (iO h)))
 ·exact (I numOf (ajB n)).trans ((NQ ..).trans (dm ((dY _).trans (iO (Kc h))) (dY n)))
 ·have e:n/65536=n/256/256:=(CI n 256 256).symm
  exact (I numOf (ajC n)).trans ((agI ..).trans (dm (dm (dm ((dY _).trans ((iO (Kc h):n/16777216 % 256=n/16777216).trans ((CI n 65536 256).symm.trans (I (·/256) e)))) ((dY _).trans (I (· % 256) e))) (dY _)) (dY n)))
theorem Gz(h:J o=1 \/J o=2 \/J o=4):cA (numOf o) (J o)=o:=
 HN (bU ..) (kr h (i6 o))
theorem Sn(b:U8)(k:Nat)(h:k<=J b):numOf (b.take k)=numOf b/256^(J b - k):=by
 have e:=vU (b.take k) (b.drop k);have l:=i6 (b.drop k);rw [iS,lT]at e;rw [lT]at l;rw [e,oy,ux (uy (by decide)),uu l,CH]
theorem So(b:U8)(k:Nat):numOf (b.drop k)=numOf b % 256^(J b - k):=by
 have e:=vU (b.take k) (b.drop k);have l:=i6 (b.drop k);rw [iS,lT]at e;rw [lT]at l;rw [e,oy,Kb,iO l]
theorem l7(h:hi<=J b):J (cut lo hi b)=hi - lo:=
 lT.trans (I (· - lo) (uF.trans (kH h)))
theorem Vc(b:U8)(lo hi:Nat)(h:hi<=J b):numOf (cut lo hi b)=numOf b/256^(J b - hi) % 256^(hi - lo):=
 (So _ lo).trans (congr (I _ (Sn b hi h)) (I (256^·) (I (· - lo) (uF.trans (kH h)))))
theorem ajD(x k m r:Nat):x/2^k % 2^m=x % 2^(k+(m+r))/2^k % 2^m:=by
 rw [Kd,Nat.mod_mul_right_div_self,Nat.mod_mod_of_dvd _ (Ke 2 (cg m r))]
theorem Sp(b:U8)(a m:Nat)(h:(a+m+7)/8<=J b):
  numOf b/2^(8*J b - (a+m)) % 2^m=numOf (cut (a/8) ((a+m+7)/8) b)/2^(8*((a+m+7)/8) - a - m) % 2^m:=by
 rw [Vc b _ _ h,(λx=>(mO 2 8 x).symm),(λx=>(mO 2 8 x).symm),uw,Kf,Kf,←Kg (mL 8 h) (lK (CJ (CK (a+m+7) (kI 7))):a+m<=8*((a+m+7)/8)),←Kg (lK (CJ (CK (a+m+7) (kI 7))):a+m<=8*((a+m+7)/8)) (bt (Nat.mul_div_le a 8) (cg a m)),(CE ((rM a m).trans ((I (m+·) (Nat.mod_add_div a 8).symm).trans (rJ ..).symm))),Kd,←CI];exact ajD ..
noncomputable def gc(l:Bool)(o:U8):U8:=if l then o.reverse else o
theorem eN(l:Bool)(o:U8):J (gc l o)=J o:=match l with
 |true=>rT
 |false=>rfl
theorem HO(l:Bool)(o:U8):gc l (gc l o)=o:=match l with
 |true=>List.reverse_reverse o
 |false=>rfl
theorem ama(a b:Nat):(a^^^b).toUInt8=a.toUInt8^^^b.toUInt8:=
 DG ((dY _).trans ((JW (n:=8)).trans ((UInt8.toNat_xor ..).trans (congr (I _ (dY a)) (dY b))).symm))
theorem NR(m n s:Nat):cA (m^^^n) s=List.zipWith (·^^^·) (cA m s) (cA n s):=by
 unfold cA;simp only [List.zipWith_map,List.zipWith_self];exact rV λp G=>(I Nat.toUInt8 Nat.xor_div_two_pow).trans (ama ..)
theorem QC(x:Nat):cA (numOf (gc l (cA x 4))) 4=gc l (cA x 4):=
 (I (cA _) ((eN ..).trans (bU x 4)).symm).trans (Gz (.inr (.inr ((eN ..).trans (bU x 4)))))
theorem ac1(hm:m<256^4)(hn:n<256^4):cA (numOf (gc l (cA m 4))^^^numOf (gc l (cA n 4))) 4=gc l (cA (m^^^n) 4):=by
 simp only [NR,QC,QC,NR];rcases l with⟨⟩
 ·rfl
 ·exact (List.reverse_zipWith ((bU m 4).trans (bU n 4).symm)).symm
theorem Vd(hx:x<2^k)(hm:m<2^k):(x&&&(2^k - 1 - m))^^^m=x|||m:=by
 refine J4 λi=>?_;simp only [J5,Nat.testBit_and,Nat.testBit_or,uw,rM,J6 hm i];by_cases q:i<k
 ·rw [dC q]
  cases x.testBit i<;>cases m.testBit i<;>rfl
 ·have e:∀{y},y<2^k->y.testBit i=false:=λh=>J7 (gG h (rN qd (kh q)))
  rw [e hx,e hm];rfl
theorem Fw{b:U8}(hb:J b=64)(h:4*s+n<=64):J (b.take (4*s))=4*s:=uF.trans (kH (bt (cg ..) (bt h (bf hb.symm))))
theorem Zx(hb:J b=64)(h:4*s+J o<=64):J (ft b s o)=64:=by
 unfold ft;simp only [cx,cx,lT,Fw hb h,hb];exact xQ h
theorem Ve(hb:J b=64)(h:4*s+J o<=64)(k:Nat)(hk:k<=4*s):(ft b s o).take k=b.take k:=by
 unfold ft;simp only [cM,KU (bt hk (bf (Fw hb h).symm)),yc,kH hk]
theorem Zy(hb:J b=64)(h:4*s+J o<=64)(m:Nat)(hm:m<=J o):gk (ft b s o) s m=o.take m:=by
 unfold gk ft cut;simp only [Kv,iN,cM,List.drop_append_of_le_length (bf (Fw hb h).symm),xW (bf (Fw hb h)),uE,KU hm]
theorem QD:∀{o:U8},(J o=1 \/J o=2 \/J o=4 \/J o=16)->J (eW o)=4*((J o+3)/4)/\ (eW o).take (J o)=o
 | [],h=>absurd h (by decide)
 | [_],_=>#[by rfl',rfl]
 | [_,_],_=>#[by rfl',rfl]
 |_::_::_::_,h=>#[(h.resolve_left nofun).resolve_left nofun|>.elim (λh=>h.trans (I (λn=>4*((n+3)/4)) h).symm) (λh=>h.trans (I (λn=>4*((n+3)/4)) h).symm),KN]
theorem NS(h:J o=1 \/J o=2 \/J o=4 \/J o=16):J (eW o)=4*((J o+3)/4):=(QD h).1
theorem Vf(h:J o=1 \/J o=2 \/J o=4 \/J o=16):(eW o).take (J o)=o:=(QD h).2
theorem Vg(h:4*s+m<=k)(e:b'.take k=b.take k):gk b' s m=gk b s m:=by
 have q:∀x:U8,gk x s m=cut (4*s) (4*s+m) (x.take k):=λx=>I (CT _) ((I (KV · x) (kH h).symm).trans yc.symm);exact (q b').trans ((I _ e).trans (q b).symm)
structure Sc.Ok(d:Sc):Prop where
 oc:J d.oc<=100
 mark:d.mark<256^4
 c8:d.c8<256^2
 tk:∀mk src,d.tk=U (mk,src)->mk<256^4/\ ∀x,src=U x->x<256^4
 l4:d.l4=1 \/d.l4=6 \/d.l4=17
 off:d.off= -1 \/d.off=20 \/d.off=40
section
variable{t:T9}{d:Sc}{b:U8}{lg:LV}{g:L}{s:Nat}
theorem Zz:(bL t d b lg++g)[cF d]? =U (eG (cF d+1)):=by
 obtain ⟨six,oc,l4,off,mark,c8,tk,aP⟩:=d;rcases tk with _|⟨mk,src⟩<;>rfl
theorem QE:(bL t d b lg++g)[cF d+1]? =U (.bu b):=by
 obtain ⟨six,oc,l4,off,mark,c8,tk,aP⟩:=d;rcases tk with _|⟨mk,src⟩<;>rfl
theorem ac2:(bL t d b lg++g).set (cF d+1) (.bu b')=bL t d b' lg++g:=by
 obtain ⟨six,oc,l4,off,mark,c8,tk,aP⟩:=d;rcases tk with _|⟨mk,src⟩<;>rfl
theorem ZA:(bL t d b lg++g)[10]? =U (.bu d.oc):=by
 obtain ⟨six,oc,l4,off,mark,c8,tk,aP⟩:=d;rcases tk with _|⟨mk,src⟩<;>rfl
theorem Vh:(bL t d b lg++g)[cF d]?.bind NH=U (cF d+1):=Zz▸rfl
theorem D7(hb:J b=64)(ho:J o=1 \/J o=2 \/J o=4 \/J o=16)(h:4*s+J (eW o)<=64):iw d s (.bytes o) (bL t d b lg++g)= .ok .none (bL t d (ft b s (eW o)) lg++g):=
 (I (kN.k · λG O=>.ok .none O) ((tM Vh).trans (tM (sS QE)):Ay [.ref (cF d),.int s,.bytes o] (bL t d b lg++g)=_)).trans ((au #[lN (CD _),hb,bV s,ho,mY h]).trans (I (Res.ok V.none) ac2))
theorem D8(hb:J b=64)(h:4*s+m<=64):n6 d s m (bL t d b lg++g) k=k (gk b s m):=
 (I (kN.k · _) ((tM Vh).trans (tM (sS QE)):Ax [.ref (cF d),.int s,.int m] (bL t d b lg++g)=_)).trans (au #[lN (CD _),hb,bV s,bV m,mY h])
theorem QF(h:J o<=100):qT o k=k (numOf o):=au h
theorem ZC(h:J o=2 \/J o=4):aaK o k=k (.bytes o.reverse):=au h
theorem zd(hs:s=2 \/s=4)(h:n<256^s):Fv l n s k=k (.bytes (gc l (cA n s))):=
 (kq (.inr hs) h).trans (match l with
  |false=>rfl
  |true=>ZC (hs.imp (bU n s).trans (bU n s).trans))
end
noncomputable def Step(d:Sc)(a:ay)(row:LV)(b:U8)(v:V)(b':U8):Prop:=∀t lg,∃g,sV a row t d b lg= .ok v (bL t d b' lg++g)
section
variable{d:Sc}{b:U8}{s:Nat}
theorem Step.mk(h:∀t lg,sV a row t d b lg= .ok v (bL t d b' lg)):Step d a row b v b':=λt lg=>#[[],by simp only [cL];exact h t lg]
theorem ajE(hb:J b=64)(ho:J o=1 \/J o=2 \/J o=4 \/J o=16)(h:4*s+J (eW o)<=64):iw d s (.bytes o) (bL t d b lg)= .ok .none (bL t d (ft b s (eW o)) lg):=
 (I (iw d s (.bytes o)) (cL _).symm).trans ((D7 hb ho h).trans (I (Res.ok V.none) (cL _)))
theorem ajF(hb:J b=64)(h:4*s+m<=64):n6 d s m (bL t d b lg) k=k (gk b s m):=
 (I (n6 d s m · k) (cL _).symm).trans (D8 hb h)
theorem NT(e:J o=m)(hm:m=1 \/m=2 \/m=4 \/m=16)(h:4*s+4*((m+3)/4)<=64):4*s+J (eW o)<=64:=by
 subst e;rw [NS hm];exact h
theorem four(hm:m=1 \/m=2 \/m=4)(h:4*s+4<=64):4*s+4*((m+3)/4)<=64:=by rcases hm with rfl|rfl|rfl<;>exact h
theorem AB(hd:d.Ok):J d.oc<=aR:=bt hd.oc (aV rfl)
variable(hd:d.Ok)(hb:J b=64)
include hd hb
theorem QG(hl:lo<=hi)(hh:hi<=J d.oc)(em:hi - lo=m)(hm:m=1 \/m=2 \/m=4 \/m=16)(h:4*s+4*((m+3)/4)<=64):
  (sQ (.ref 10) (.int lo) (.int hi) (bL t d b lg) λv O=>ei (.type "bytes") [v] O λv O=>iw d s v O)= .ok .none (bL t d (ft b s (eW (cut lo hi d.oc))) lg++ [.bu (cut lo hi d.oc)]):=by
 have c:=AB hd;exact (Fs (cL (bL t d b lg)▸ZA) #[bV lo,(λh=>qH (bt h c) rfl:∀{x:Nat},x<=J d.oc->(x:Int)<2^40) (bt hl hh)] #[bV hi,(λh=>qH (bt h c) rfl:∀{x:Nat},x<=J d.oc->(x:Int)<2^40) hh] c).trans ((Ft ff (bt (l7 hh▸bt (lQ ..) hh) c)).trans (D7 hb (((l7 hh).trans em:J (cut lo hi d.oc)=m).symm▸hm) (NT ((l7 hh).trans em:J (cut lo hi d.oc)=m) hm h)))
theorem agK(h:(a=12/\ m=4) \/(a=1/\ m=1) \/(a=8/\ m=16))(hs:4*s+4*((m+3)/4)<=64)(hl:a+m<=J d.oc):Step d 559 [S "payload",.int s,S "network",.int a,.int m] b .none (ft b s (eW (cut a (a+m) d.oc))):=λt lg=>
 ⟨[.bu (cut a (a+m) d.oc)],(Vb t b lg s d a m h).trans ((au (AB hd)).trans ((ax λz=>rY (mY hl) (fj z)).trans
  (QG hd hb (cg a m) hl (iN ..) (h.elim (λz=>.inr (.inr (.inl z.2))) λh=>h.elim (λz=>.inl z.2) λz=>.inr (.inr (.inr z.2))) hs)))⟩
theorem ac3(h:(a=12/\ m=4) \/(a=1/\ m=1) \/(a=8/\ m=16))(hl:¬a+m<=J d.oc):Step d 559 [S "payload",.int s,S "network",.int a,.int m] b jF b:=.mk λt lg=>
 (Vb t b lg s d a m h).trans ((au (AB hd)).trans (au (dC (A5 (uv hl)))))
theorem ZD{f:Nat}(h:(a=2/\ m=2) \/(a=12/\ m=1) \/(a=0/\ m=2) \/(a=0/\ m=1))(hs:4*s+4<=64)(hf:d.off=f)(hl:f+a+m<=J d.oc):Step d 559 [S "payload",.int s,S "transport",.int a,.int m] b .none (ft b s (eW (cut (f+a) (f+a+m) d.oc))):=λt lg=>by
 refine #[[.bu (cut (f+a) (f+a+m) d.oc)],(NO t b lg s d a m h).trans ?_];rw [hf];exact (ax λz=>yE (fj z)).trans ((au (AB hd)).trans ((ax λz=>rY (mY hl) (fj z)).trans (QG hd hb (cg ..) hl (iN ..) (A6 (h.elim (λz=>.inr (.inl z.2)) λh=>h.elim (λz=>.inl z.2) λh=>h.elim (λz=>.inr (.inl z.2)) λz=>.inl z.2) rfl) (four (h.elim (λz=>.inr (.inl z.2)) λh=>h.elim (λz=>.inl z.2) λh=>h.elim (λz=>.inr (.inl z.2)) λz=>.inl z.2) hs))))
theorem Vi{a m:Nat}(h:(a=2/\ m=2) \/(a=12/\ m=1) \/(a=0/\ m=2) \/(a=0/\ m=1))(hl:d.off= -1 \/¬d.off+a+m<=J d.oc):Step d 559 [S "payload",.int s,S "transport",.int a,.int m] b jF b:=.mk λt lg=>by
 refine (NO t b lg s d a m h).trans ?_;by_cases q:d.off<0
 ·exact au (dC q)
 ·exact (ax λz=>q (fj z)).trans ((au (AB hd)).trans (au (dC (Int.not_le.mp (hl.resolve_left λz=>q (z▸K3 0))))))
end
section
variable{d:Sc}{b:U8}{s:Nat}(hd:d.Ok)(hb:J b=64)
include hd hb
theorem l8(m:Nat)(hm:m=1 \/m=2 \/m=4)(ho:J o=m)(hs:4*s+4<=64):iw d s (.bytes o) (bL t d b lg)= .ok .none (bL t d (ft b s (eW o)) lg):=
 ajE hb (A6 hm ho) (NT ho (A6 hm rfl) (four hm hs))
theorem aaL(m:Nat)(hm:m=1 \/m=2 \/m=4)(ho:J o=m)(hs:4*s+4<=64):iw d s (.bytes o) (bL t d b lg++g)= .ok .none (bL t d (ft b s (eW o)) lg++g):=
 D7 hb (A6 hm ho) (NT ho (A6 hm rfl) (four hm hs))
theorem ac4(hs:4*s+4<=64):Step d 566 [S "meta",.int s,S "mark",.int 4,S "host"] b .none (ft b s (eW (gc d.aP (cA d.mark 4)))):=.mk λt lg=>
 (acW t b lg s d).trans ((zd (.inr rfl) hd.mark).trans (l8 hd hb 4 (.inr (.inr rfl)) ((eN ..).trans (bU ..)) hs))
theorem agL(hs:4*s+4<=64):Step d 566 [S "meta",.int s,S "iiftype",.int 2,S "host"] b .none (ft b s (eW (gc d.aP (cA d.c8 2)))):=.mk λt lg=>
 (agE t b lg s d).trans ((zd (.inl rfl) hd.c8).trans (l8 hd hb 2 (.inr (.inl rfl)) ((eN ..).trans (bU ..)) hs))
theorem ajG(hs:4*s+4<=64):Step d 566 [S "meta",.int s,S "nfproto",.int 1,S "big"] b .none (ft b s (eW (cA (if d.six then 10 else 2) 1))):=.mk λt lg=>
 (ajz t b lg s d).trans ((kq (.inl rfl) (by rcases d.six<;>exact bF rfl)).trans (l8 hd hb 1 (.inl rfl) (bU _ _) hs))
theorem ajH{l4:Nat}(h:d.l4=l4)(hs:4*s+4<=64):Step d 566 [S "meta",.int s,S "l4proto",.int 1,S "big"] b .none (ft b s (eW (cA l4 1))):=.mk λt lg=>
 (ajA t b lg s d l4 h (hd.l4.imp (λz=>kK (h.symm.trans z)) λz=>z.imp (λz=>kK (h.symm.trans z)) λz=>kK (h.symm.trans z):l4=1 \/l4=6 \/l4=17)).trans ((kq (.inl rfl) (by rcases (hd.l4.imp (λz=>kK (h.symm.trans z)) λz=>z.imp (λz=>kK (h.symm.trans z)) λz=>kK (h.symm.trans z):l4=1 \/l4=6 \/l4=17)with rfl|rfl|rfl<;>exact bF rfl)).trans (l8 hd hb 1 (.inl rfl) (bU _ _) hs))
theorem Vj(h:d.tk=U (mk,src))(hs:4*s+4<=64):Step d 573 [S "ct",.int s,S "mark",S "",.int 4,S "host"] b .none (ft b s (eW (gc d.aP (cA mk 4)))):=λt lg=>
 (HM t b lg s d).imp λg e=>e.trans (by
  simp only [h];exact (zd (.inr rfl) (hd.tk _ _ h).1).trans (aaL hd hb 4 (.inr (.inr rfl)) ((eN ..).trans (bU ..)) hs))
theorem Sq(h:d.tk=u):Step d 573 [S "ct",.int s,S "mark",S "",.int 4,S "host"] b jF b:=λt lg=>(HM t b lg s d).imp λg e=>e.trans (by rw [h])
theorem ZE(h:d.tk=U (mk,U src))(hs:4*s+4<=64):Step d 573 [S "ct",.int s,S "saddr4",S "original",.int 4,S "big"] b .none (ft b s (eW (cA src 4))):=λt lg=>
 (NP t b lg s d).imp λg e=>e.trans (by
  rw [h];exact (kq (.inr (.inr rfl)) ((hd.tk _ _ h).2 _ rfl)).trans (aaL hd hb 4 (.inr (.inr rfl)) (bU ..) hs))
theorem HP(h:∀mk src,d.tk≠U (mk,U src)):Step d 573 [S "ct",.int s,S "saddr4",S "original",.int 4,S "big"] b jF b:=λt lg=>(NP t b lg s d).imp λg e=>e.trans (by
 rcases ht:d.tk with _|⟨mk,_|x⟩
 ·rfl
 ·rfl
 ·exact absurd ht (h mk x))
theorem vo(m:Nat)(h:4*s+m<=64):J (gk b s m)=m:=(l7 (bt h (bf hb.symm))).trans (iN ..)
theorem wL(h:4*s+m<=64)(hm:m<=4):(n6 d s m (bL t d b lg) λg=>qT g k)=k (numOf (gk b s m)):=
 (ajF hb h).trans (QF (bt (bf (vo hd hb m h)) (bt hm (aV rfl))))
theorem wM(m:Nat)(h:4*s+m<=64):numOf (gk b s m)<256^m:=gG (i6 _) (bf (I (256^·) (vo hd hb m h)))
theorem agM(v:UInt8)(hs:4*s+4<=64):Step d 524 [S "cmp",S "==",.int s,.bytes [v]] b (if numOf (gk b s 1)=v.toNat then .none else jF) b:=.mk λt lg=>by
 refine (agF t b lg s d v).trans ((wL hd hb (m:=1) (yF hs (aV rfl)) (aV rfl)).trans ?_);by_cases q:numOf (gk b s 1)=v.toNat
 ·rw [au q]
  exact au (dX.mpr (dX.mpr (I qc (q.trans (sW v).symm))))
 ·rw [ax q]
  exact ax λz=>q ((kK (dX.mp (dX.mp z))).trans (sW v))
theorem agN(hm:4*s+m<=64)(hX:J X=m):(numOf (gk b s m)&&&numOf M)^^^numOf X<256^m:=by
 rw [((mO 2 8 m).symm)];exact xS (gd CL (((mO 2 8 m).symm)▸wM hd hb m hm)) (((mO 2 8 m).symm)▸hX▸i6 X)
theorem agO(m:Nat)(hm:m=1 \/m=2 \/m=4)(hM:J M=m)(hX:J X=m)(hs:4*s+4<=64):
  Step d 531 [S "bitwise",.int s,.int s,.bytes M,.bytes X] b .none (ft b s (eW (cA ((numOf (gk b s m)&&&numOf M)^^^numOf X) m))):=.mk λt lg=>by
 have fin:(n6 d s m (bL t d b lg) λg=>qT g λn=>oX ((n&&&numOf M)^^^numOf X) m λo=>iw d s (.bytes o) (bL t d b lg))= .ok .none (bL t d (ft b s (eW (cA ((numOf (gk b s m)&&&numOf M)^^^numOf X) m))) lg):=
  (wL hd hb (yH hs hm) (hm.elim (λz=>z▸aV rfl) λz=>z.elim (λz=>z▸aV rfl) λz=>bf z)).trans ((kq hm (agN hd hb (yH hs hm) hX)).trans (l8 hd hb m hm (bU _ _) hs))
 refine Eq.trans ?_ fin;rcases hm with rfl|rfl|rfl
 ·obtain ⟨_,rfl⟩:=R5 hM
  obtain ⟨_,rfl⟩:=R5 hX;exact acX t b lg s d _ _
 ·obtain ⟨_,_,rfl⟩:=Ni hM
  obtain ⟨_,_,rfl⟩:=Ni hX;exact acY t b lg s d _ _ _ _
 ·obtain ⟨_,_,_,_,rfl⟩:=R6 hM
  obtain ⟨_,_,_,_,rfl⟩:=R6 hX;exact acZ t b lg s d _ _ _ _ _ _ _ _
theorem ac5(m:Nat)(hm:m=2 \/m=4)(hs:4*s+4<=64):Step d 545 [S "byteorder",.int s,.int s,.int m] b .none (ft b s (eW (gc d.aP (gk b s m)))):=.mk λt lg=>by
 have e:=Gz (o:=gk b s m) ((vo hd hb m (yH hs (.inr hm))).symm▸ .inr hm);rw [(vo hd hb m (yH hs (.inr hm)))]at e;refine (ac0 t b lg s d m hm).trans ((wL hd hb (yH hs (.inr hm)) (hm.elim (λz=>z▸aV rfl) bf)).trans ((zd hm (wM hd hb m (yH hs (.inr hm)))).trans ?_));rw [e];exact l8 hd hb m (.inr hm) ((eN ..).trans (vo hd hb m (yH hs (.inr hm)))) hs
theorem QH{m:Nat}{z:Int}{n:Nat}{k:V->RV}(e:z=n)(hs:m=1 \/m=2 \/m=4)(h:n<256^m):((qQ [.int z,.int m] []).k λv G=>k v)=k (.bytes (cA n m)):=by
 subst e;exact au #[bV n,aaj hs,h]
theorem agP(m:Nat)(hm:m=1 \/m=2)(y:Nat)(hs:4*s+4<=64):Step d 538 [S "shift",.int s,.int s,.int m,S "right",.int y] b .none (ft b s (eW (cA (numOf (gk b s m)/2^y) m))):=.mk λt lg=>by
 have hm4:=Rk hm rfl;refine (agG t b lg s d m hm y).trans ((wL hd hb (Rl hs hm) (hm.elim (λz=>z▸aV rfl) λz=>z▸aV rfl)).trans ?_);by_cases q:8*m<=y
 ·have z:numOf (gk b s m)/2^y=0:=uu (gG (wM hd hb m (Rl hs hm)) (bt (bf (mO 2 8 m).symm) (rN qd q)))
  simp only [z];exact (au (dC (mY q))).trans ((kq hm4 (uy (kI _))).trans (l8 hd hb m hm4 (bU _ _) hs))
 ·exact (ax λz=>q (yG (fj z))).trans ((au (bV y)).trans ((QH hd hb (by simp only [mQ];norm_cast) hm4 (gd (xT _ _) (wM hd hb m (Rl hs hm)))).trans (l8 hd hb m hm4 (bU _ _) hs)))
theorem agQ(y:Nat)(hy:y<=1000)(hs:4*s+4<=64):Step d 538 [S "shift",.int s,.int s,.int 2,S "left",.int y] b .none (ft b s (eW (cA (numOf (gk b s 2)*2^y % 65536) 2))):=.mk λt lg=>by
 refine (agH t b lg s d y).trans ((wL hd hb (yF hs (aV rfl):4*s+2<=64) (aV rfl)).trans ?_);by_cases q:16<=y
 ·have z:numOf (gk b s 2)*2^y % 65536=0:=Nat.mod_eq_zero_of_dvd (Nat.dvd_mul_left_of_dvd (Ke 2 q) _)
  simp only [z];exact (au (dC (mY q))).trans ((kq (.inr (.inl rfl)) (bF rfl)).trans (l8 hd hb 2 (.inr (.inl rfl)) (bU _ _) hs))
 ·have e1:((numOf (gk b s 2):Int)*2^(y:Int).toNat)=((numOf (gk b s 2)*2^y:Nat):Int):=by
   simp only [mQ];norm_cast
  refine (ax λz=>q (yG (fj z))).trans ((au #[gG (wM hd hb 2 (yF hs (aV rfl):4*s+2<=64)) (rN qd (aV rfl:16<=1000)),bV y,Iu hy rfl]).trans ((au #[e1▸bV _,bV 65535]).trans
   ((QH hd hb ?_ (.inr (.inl rfl)) (dH _ (bF rfl))).trans (l8 hd hb 2 (.inr (.inl rfl)) (bU _ _) hs))))
  simp only [e1,mQ];exact I _ (mP _ 16)
end
inductive zF:String->ay->Prop
 |bit:zF "bitwise" 531
 |amb:zF "byteorder" 545
 |cmp:zF "cmp" 524
 |shift:zF "shift" 538
 |pay:zF "payload" 559
 |mta:zF "meta" 566
 |ct:zF "ct" 573
inductive Runs(d:Sc):LV->U8->U8->Prop
 |nil (b:U8):Runs d [] b b
 |cons {nm:String} {a:ay} {rest rows:LV} {b b1 b2:U8}:zF nm a->Step d a (S nm::rest) b .none b1->Runs d rows b1 b2->Runs d (.tup (S nm::rest)::rows) b b2
theorem Runs.app(h:Runs d r1 b b1)(k:Runs d r2 b1 b2):Runs d (r1++r2) b b2:=by
 induction h with
 |nil=>exact k
 |cons q s _ ih=>exact .cons q s (ih k)
inductive iJ(d:Sc):LV->U8->Prop
 |here {nm:String} {a:ay} {rest rows:LV} {b b1:U8}:zF nm a->Step d a (S nm::rest) b jF b1->iJ d (.tup (S nm::rest)::rows) b
 |cons {nm:String} {a:ay} {rest rows:LV} {b b1:U8}:zF nm a->Step d a (S nm::rest) b .none b1->iJ d rows b1->iJ d (.tup (S nm::rest)::rows) b
theorem iJ.left(h:iJ d r1 b)(r2:LV):iJ d (r1++r2) b:=by
 induction h with
 |here q s=>exact .here q s
 |cons q s _ ih=>exact .cons q s ih
theorem Runs.brk(h:Runs d r1 b b1)(k:iJ d r2 b1):iJ d (r1++r2) b:=by
 induction h with
 |nil=>exact k
 |cons q s _ ih=>exact .cons q s (ih k)
structure At(b0:U8)(s:Nat)(b:U8)(o:U8):Prop where
 len:J b=64
 low:b.take (4*s)=b0.take (4*s)
 has:gk b s (J o)=o
theorem At.put(hb:J b=64)(hl:b.take (4*s)=b0.take (4*s))(ho:J o=1 \/J o=2 \/J o=4 \/J o=16)(hs:4*s+4*((J o+3)/4)<=64):At b0 s (ft b s (eW o)) o:=by
 have l:=NS ho;have l2:J o<=J (eW o):=by simp only [l];rcases ho with h|h|h|h<;>rw [h]<;>exact aV rfl
 exact #[Zx hb (yF hs (bf l)),(Ve hb (yF hs (bf l)) _ (ez _)).trans hl,(Zy hb (yF hs (bf l)) _ l2).trans (Vf ho)]
theorem At.l8(hb:J b=64)(hl:b.take (4*s)=b0.take (4*s))(m:Nat)(e:J o=m)(hm:m=1 \/m=2 \/m=4)(hs:4*s+4<=64):At b0 s (ft b s (eW o)) o:=
 .put hb hl (A6 hm e) (e.symm▸four hm hs)
noncomputable def NU(d:Sc):Nat:=if d.six then 10 else 2
noncomputable def lq(d:Sc)(p:Bool×Nat):Prop:=if p.1 then p.2=NU d else(p.2:Int)=d.l4
noncomputable def vp(d:Sc)(kn:SN):Prop:=∀nf m,gP (et nf) kn=U m->lq d (nf,m)
theorem ac6:∀a b:Bool,et a=et b->a=b:=by
 intro a b h;rcases a<;>rcases b<;>first|rfl|(exfalso;revert h;decide)
theorem Vk(x y:aF)(v:Nat):∀kn:SN,gP y (gw x v kn)=if y=x then U v else gP y kn:=by
 intro kn
 have hm:∀l:SN,y≠x->gP y (l.map λp=>if p.1=x then(p.1,v)else p)=gP y l:=by
  intro l hy;induction l with
  |nil=>rfl
  |cons p r ih=>
   obtain ⟨k,n⟩:=p;show gP y ((if k=x then(k,v)else(k,n))::_)=_
   by_cases q:k=x
   ·rw [q]
    rw [au rfl,qB,qB,ax (bP hy),ax (bP hy)];exact ih
   ·rw [ax q]
    rw [qB,qB,ih]
 have hm2:∀l:SN,l.any (λp=>decide (p.1=x))=ai->gP x (l.map λp=>if p.1=x then(p.1,v)else p)=U v:=by
  intro l;induction l with
  |nil=>intro h;cases h
  |cons p r ih=>
   obtain ⟨k,n⟩:=p;intro h;show gP x ((if k=x then(k,v)else(k,n))::_)=_
   by_cases q:k=x
   ·rw [au q]
    exact qB.trans (au q)
   ·rw [ax q]
    rw [qB,ax q];exact ih (by simpa [q]using h)
 have ha:∀l:SN,¬l.any (λp=>decide (p.1=x))=ai->gP y (l++ [(x,v)])=if y=x then U v else gP y l:=by
  intro l;induction l with
  |nil=>
   intro _;show(if x=y then U v else u)=_
   by_cases q:y=x
   ·rw [au q,au q.symm]
   ·rw [ax q,ax (bP q)];rfl
  |cons p r ih=>
   obtain ⟨k,n⟩:=p;intro h;show(if k=y then U n else gP y (r++ [(x,v)]))=if y=x then U v else if k=y then U n else gP y r
   rw [(ih (λe=>h (by simp only [rQ,e,tV])))];by_cases q:k=y
   ·rw [au q,ax (λe=>(λe=>h (by simp [e])) (q.trans e)),au q]
   ·rw [ax q,ax q]
 unfold gw;by_cases q:kn.any (λp=>decide (p.1=x))=ai
 ·rw [au q]
  by_cases e:y=x
  ·rw [e]
   rw [au rfl];exact hm2 kn q
  ·rw [ax e];exact hm kn e
 ·rw [ax q];exact ha kn q
theorem vp.set(h:vp d kn)(k:lq d (nf,m)):vp d (gw (et nf) m kn):=by
 intro nf' m' e;rw [Vk]at e;by_cases q:et nf'=et nf
 ·rw [au q]at e
  obtain rfl:=bh e;rw [ac6 _ _ q];exact k
 ·rw [ax q]at e
  exact h _ _ e
section
variable{d:Sc}{s:Nat}(hd:d.Ok)
include hd
theorem ze{b0:U8}(hb:J b=64)(hl:b.take (4*s)=b0.take (4*s))(hs:4*s+4<=64)(nf:Bool)(m:Nat)(hm:m<256)(hk:vp d kn):
  (lq d (nf,m)->∃b',Runs d (f7 nf m s kn) b b'/\ (J b')=64/\ b'.take (4*s)=b0.take (4*s))/\ (¬lq d (nf,m)->iJ d (f7 nf m s kn) b):=by
 unfold f7;by_cases e:gP (et nf) kn=U m
 ·rw [au e]
  have:=hk _ _ e;exact #[λG=>#[b,.nil _,hb,hl],λh=>absurd this h]
 ·rw [ax e]
  have st:∃(v:Nat),v<256/\ (lq d (nf,m)↔m=v)/\ Step d 566 [S "meta",.int s,S (nj nf),.int 1,S "big"] b .none (ft b s (eW (cA v 1))):=by
   rcases nf with⟨⟩
   ·have f:∀{v:Nat},v<256->d.l4=v->∃(v:Nat),v<256/\ (lq d (av,m)↔m=v)/\ Step d 566 [S "meta",.int s,S (nj av),.int 1,S "big"] b .none (ft b s (eW (cA v 1))):=λ{v} h e=>#[v,h,(e▸Int.ofNat_inj:(m:Int)=d.l4↔m=v),ajH hd hb e hs]
    exact hd.l4.elim (f (bF rfl)) λh=>h.elim (f (bF rfl)) (f (bF rfl))
   ·exact #[NU d,by unfold NU;rcases d.six<;>exact bF rfl,Iff.rfl,ajG hd hb hs]
  refine bl λaG=>?_;refine st.elim λv hq=>?_;refine aG ?_;have BI:At b0 s (ft b s (eW (cA v 1))) (cA v 1):=.l8 hb hl 1 (bU _ _) (by decide) hs;have c:=agM hd BI.len m.toUInt8 hs;have h1:=BI.has;rw [bU]at h1;simp only [h1,kr (.inl rfl) hq.1,dY,iO hm]at c
  constructor
  ·intro hx
   rw [au (hq.2.1.mp hx).symm]at c;exact #[_,.cons .mta hq.2.2 (.cons .cmp c (.nil _)),BI.len,BI.low]
  ·intro hx
   rw [ax (λe=>hx (hq.2.1.mpr e.symm))]at c;exact .cons .mta hq.2.2 (.here .cmp c)
theorem vV{b0:U8}(hs:4*s+4<=64):∀(xs:List (Bool×Nat)) (b:U8) (kn:SN),J b=64->b.take (4*s)=b0.take (4*s)->(∀p∈xs,p.2<256)->vp d kn->
  ((∀p∈xs,lq d p)->∃b',Runs d (bR s xs kn).1 b b'/\ (J b')=64/\ b'.take (4*s)=b0.take (4*s)/\ vp d (bR s xs kn).2)/\ (¬(∀p∈xs,lq d p)->iJ d (bR s xs kn).1 b)
 | [],b,kn,hb,hl,_,hk=>#[λG=>#[b,.nil _,hb,hl,hk],λh=>absurd (λp hp=>nomatch hp) h]
 |(nf,m)::r,b,kn,hb,hl,hm,hk=>by
  rw [Np];by_cases h:lq d (nf,m)
  ·obtain ⟨b1,r1,l1,t1⟩:=(ze hd hb hl hs nf m (hm _ (cY ..)) hk).1 h
   constructor
   ·intro ha
    refine bl λaG=>?_;refine ((vV hs r b1 (gw (et nf) m kn) l1 t1 (λp hp=>hm p (cZ _ hp)) (hk.set h)).1 λp hp=>ha p (cZ _ hp)).elim λb2 hq=>hq.elim λr2 hq=>hq.elim λl2 hq=>hq.elim λt2 k2=>?_;refine aG ?_;exact #[b2,r1.app r2,l2,t2,k2]
   ·intro ha
    refine r1.brk ((vV hs r b1 (gw (et nf) m kn) l1 t1 (λp hp=>hm p (cZ _ hp)) (hk.set h)).2 λhh=>ha λp hp=>?_);rcases eU.mp hp with rfl|hp
    ·exact h
    ·exact hh p hp
  ·exact #[λha=>absurd (ha _ (cY ..)) h,λG=>((ze hd hb hl hs nf m (hm _ (cY ..)) hk).2 h).left _]
end
noncomputable def AD(d:Sc)(a m:Nat):Option (U8):=if 0<=d.off/\ d.off+a+m<=(J d.oc)then U (cut (d.off.toNat+a) (d.off.toNat+a+m) d.oc)else u
noncomputable def wN(d:Sc)(a m:Nat):Option (U8):=if a+m<=(J d.oc)then U (cut a (a+m) d.oc)else u
theorem tP(e:wN d a m=U o):J o=m:=by
 refine (jo.mp e).elim λq e=>?_;exact bh e▸(l7 q).trans (iN ..)
theorem wO(e:AD d a m=U o):J o=m:=by
 refine (jo.mp e).elim λq e=>?_;exact bh e▸(l7 (aiJ q)).trans (iN ..)
noncomputable def su(w:Nat)(d:Sc):Option (U8):=
 [wN d 12 4,AD d 2 2,(wN d 1 1).map λo=>cA (numOf o/4) 1,(AD d 12 1).map λo=>cA (numOf o/16) 1,(wN d 1 1).map λo=>cA (numOf o % 4) 1,
  U (gc d.aP (cA d.mark 4)),U (gc d.aP (cA d.c8 2)),d.tk.map λp=>gc d.aP (cA p.1 4),d.tk.bind λp=>p.2.map λx=>cA x 4,wN d 8 16,AD d 0 2].getD w (AD d 0 1)
noncomputable def mx(d:Sc)(s:Nat)(rows:LV)(b0 b:U8)(r:Option (U8)):Prop:=r.elim (iJ d rows b) λo=>∃b',Runs d rows b b'/\ At b0 s b' o
section
variable{d:Sc}{s:Nat}{b0 b:U8}(hd:d.Ok)
theorem mx.then(h:mx d s rows b0 b r)(k:∀o b1,r=U o->At b0 s b1 o->∃b',Runs d more b1 b'/\ At b0 s b' (f o)):mx d s (rows++more) b0 b (r.map f):=by
 rcases r with _|o
 ·exact iJ.left h more
 ·exact h.elim λb1 z=>(k o b1 rfl z.2).imp λb2 y=>#[z.1.app y.1,y.2]
include hd
theorem Fx(hb:J b=64)(hl:b.take (4*s)=b0.take (4*s)){a:Nat}(h:(a=12/\ m=4) \/(a=1/\ m=1) \/(a=8/\ m=16))(hs:4*s+4*((m+3)/4)<=64):
  mx d s [.tup [S "payload",.int s,S "network",.int a,.int m]] b0 b (wN d a m):=by
 unfold wN;by_cases q:a+m<=J d.oc
 ·rw [au q]
  have ol:J (cut a (a+m) d.oc)=m:=(l7 q).trans (iN ..);exact #[_,.cons .pay (agK hd hb h hs q) (.nil _),.put hb hl (ol.symm▸h.elim (λz=>.inr (.inr (.inl z.2))) λh=>h.elim (λz=>.inl z.2) λz=>.inr (.inr (.inr z.2))) (ol.symm▸hs)]
 ·rw [ax q]
  exact .here .pay (ac3 hd hb h q)
theorem zg(hb:J b=64)(hl:b.take (4*s)=b0.take (4*s)){a m:Nat}(h:(a=2/\ m=2) \/(a=12/\ m=1) \/(a=0/\ m=2) \/(a=0/\ m=1))(hs:4*s+4<=64):
  mx d s [.tup [S "payload",.int s,S "transport",.int a,.int m]] b0 b (AD d a m):=by
 unfold AD;by_cases q:0<=d.off/\ d.off+a+m<=J d.oc
 ·obtain ⟨f,ef⟩:=iA q.1
  have q2:f+a+m<=J d.oc:=yG (show((f+a+m:Nat):Int)<=_ from(ef▸q.2:(f:Int)+a+m<=J d.oc));rw [au q,ef];exact #[_,.cons .pay (ZD hd hb h hs ef q2) (.nil _),.l8 hb hl m ((l7 q2).trans (iN ..)) (h.elim (λz=>.inr (.inl z.2)) λh=>h.elim (λz=>.inl z.2) λh=>h.elim (λz=>.inr (.inl z.2)) λz=>.inl z.2) hs]
 ·rw [ax q]
  exact .here .pay (Vi hd hb h (hd.off.imp id λz y=>q #[z.elim (λz=>z▸bV 20) λz=>z▸bV 40,y]))
theorem AE(h:At b0 s b o)(m:Nat)(hm:m=1 \/m=2 \/m=4)(ho:J o=m)(hM:J M=m)(hX:J X=m)(hs:4*s+4<=64):
  ∃b',Runs d [.tup [S "bitwise",.int s,.int s,.bytes M,.bytes X]] b b'/\ At b0 s b' (cA ((numOf o&&&numOf M)^^^numOf X) m):=
 #[_,.cons .bit ((ho▸h.has:gk b s m=o)▸agO hd h.len m hm hM hX hs) (.nil _),.l8 h.len h.low m (bU _ _) hm hs]
theorem Vl(h:At b0 s b o)(m:Nat)(hm:m=1 \/m=2)(ho:J o=m)(y:Nat)(hs:4*s+4<=64):
  ∃b',Runs d [.tup [S "shift",.int s,.int s,.int m,S "right",.int y]] b b'/\ At b0 s b' (cA (numOf o/2^y) m):=
 #[_,.cons .shift ((ho▸h.has:gk b s m=o)▸agP hd h.len m hm y hs) (.nil _),.l8 h.len h.low m (bU _ _) (Rk hm rfl) hs]
theorem agR(h:At b0 s b o)(ho:J o=2)(y:Nat)(hy:y<=1000)(hs:4*s+4<=64):
  ∃b',Runs d [.tup [S "shift",.int s,.int s,.int 2,S "left",.int y]] b b'/\ At b0 s b' (cA (numOf o*2^y % 65536) 2):=
 #[_,.cons .shift ((ho▸h.has:gk b s 2=o)▸agQ hd h.len y hy hs) (.nil _),.l8 h.len h.low 2 (bU _ _) (.inr (.inl rfl)) hs]
theorem GA(h:At b0 s b o)(m:Nat)(hm:m=2 \/m=4)(ho:J o=m)(hs:4*s+4<=64):
  ∃b',Runs d [.tup [S "byteorder",.int s,.int s,.int m]] b b'/\ At b0 s b' (gc d.aP o):=
 #[_,.cons .amb ((ho▸h.has:gk b s m=o)▸ac5 hd h.len m hm hs) (.nil _),.l8 h.len h.low m ((eN ..).trans ho) (.inr hm) hs]
end
theorem agS:∀x:Nat,x<256->(x&&&252)/4=x/4:=by decide+kernel
theorem agT:∀x:Nat,x<256->(x&&&240)/16=x/16:=by decide+kernel
theorem amc(x:Nat):x&&&3=x % 4:=mP x 2
section
variable{d:Sc}{s:Nat}{b0 b:U8}(hd:d.Ok)
include hd
theorem Vm(h:At b0 s b o)(ho:J o=1)(hs:4*s+4<=64):
  ∃b',Runs d [.tup [S "bitwise",.int s,.int s,.bytes [M],.bytes [0]]] b b'/\ At b0 s b' (cA (numOf o&&&M.toNat) 1):=
 (I (λx=>cA x 1) ((congr (I _ (I _ (sW M))) (Eq.refl (numOf [0]))).trans (Kh _)))▸AE hd h 1 (.inl rfl) ho rfl rfl hs
theorem Vn(h:At b0 s b o)(ho:J o=1){y:Nat}{z:Nat->Nat}(e:∀x,x<256->(x&&&M.toNat)/2^y=z x)(hs:4*s+4<=64):
  ∃b',Runs d [.tup [S "bitwise",.int s,.int s,.bytes [M],.bytes [0]],.tup [S "shift",.int s,.int s,.int 1,S "right",.int y]] b b'/\ At b0 s b' (cA (z (numOf o)) 1):=by
 refine bl λaG=>?_;refine (Vm hd h ho (M:=M) hs).elim λb2 hq=>hq.elim λr2 h2=>?_;refine aG ?_;have q:=Vl hd h2 1 (.inl rfl) (bU _ _) y hs;rw [kr (.inl rfl) (gd CL (gG (i6 o) (bf (I (256^·) ho)):numOf o<256)),e _ (gG (i6 o) (bf (I (256^·) ho)):numOf o<256)]at q;exact q.imp λb3 q=>#[r2.app q.1,q.2]
theorem ac7(w:Nat)(hw:w<12)(hb:J b=64)(hl:b.take (4*s)=b0.take (4*s))(hs:s+slots w<=16):mx d s (kQ w s).2.2.1 b0 b (su w d):=by
 have i7:4*s+4<=64:=Ri hs (zM (f:=λG=>1) (by rfl') hw)
 refine Z8 (P:=λw=>s+slots w<=16->mx d s (kQ w s).2.2.1 b0 b (su w d)) hw (λG=>Fx hd hb hl (a:=12) (m:=4) (.inl #[rfl,rfl]) i7) (λG=>zg hd hb hl (m:=2) (.inl #[rfl,rfl]) i7)
  (λG=>(Fx hd hb hl (.inr (.inl #[rfl,rfl])) i7).then λo b1 e h=>Vn hd h (tP e) (M:=252) (y:=2) agS i7)
  (λG=>(zg hd hb hl (.inr (.inl #[rfl,rfl])) i7).then λo b1 e h=>Vn hd h (wO e) (M:=240) (y:=4) agT i7)
  (λG=>(Fx hd hb hl (.inr (.inl #[rfl,rfl])) i7).then λo b1 e h=>amc (numOf o)▸Vm hd h (tP e) i7)
  (λG=>#[_,.cons .mta (ac4 hd hb i7) (.nil _),.l8 hb hl 4 ((eN ..).trans (bU ..)) (.inr (.inr rfl)) i7]) (λG=>#[_,.cons .mta (agL hd hb i7) (.nil _),.l8 hb hl 2 ((eN ..).trans (bU ..)) (.inr (.inl rfl)) i7]) (λG=>?_) (λG=>?_)
  (λhs=>Fx hd hb hl (.inr (.inr #[rfl,rfl])) (aag hs rfl)) (λG=>zg hd hb hl (a:=0) (m:=2) (.inr (.inr (.inl #[rfl,rfl]))) i7) (λG=>zg hd hb hl (a:=0) (m:=1) (.inr (.inr (.inr #[rfl,rfl]))) i7) hs
 ·show mx d s _ b0 b (d.tk.map _)
  rcases e:d.tk with _|p
  ·exact .here .ct (Sq hd hb e)
  ·exact #[_,.cons .ct (Vj hd hb e i7) (.nil _),.l8 hb hl 4 ((eN ..).trans (bU ..)) (.inr (.inr rfl)) i7]
 ·show mx d s _ b0 b (d.tk.bind _)
  rcases e:d.tk with _|⟨mk,_|x⟩
  ·exact .here .ct (HP hd hb λmk src h=>nomatch e.symm.trans h)
  ·exact .here .ct (HP hd hb λmk src h=>nomatch e.symm.trans h)
  ·exact #[_,.cons .ct (ZE hd hb e i7) (.nil _),.l8 hb hl 4 (bU _ _) (.inr (.inr rfl)) i7]
end
noncomputable def Fy(w n:Nat)(l:Bool)(o:U8):U8:= [o,o,o,o,o,o,o,o,o,o,o,o,cA (numOf o&&&n) 4,gc l (cA (numOf (gc l o)^^^n) 4),gc l (cA (numOf (gc l o)*2^(n % 18) % 65536) 2),
 cA (numOf o|||n % 256) 1,cA ((numOf o|||n % 65536)/2^(n/65536 % 18)) 2].getD w o
noncomputable def AF(w n:Nat)(d:Sc):Option (U8):=(su (ja w) d).map (Fy w n d.aP)
theorem qU{α:Type}{x:Option α}{f:α->U8}(h:∀a,J (f a)=m)(e:x.map f=U o):J o=m:=by
 obtain ⟨a,_,rfl⟩:=je.mp e;exact h a
theorem D9(hw:w<12)(e:su w d=U o):J o=bW w:=
 Z8 (P:=λw=>su w d=U o->J o=bW w) hw tP wO (qU λG=>bU ..) (qU λG=>bU ..) (qU λG=>bU ..) (λe=>bh e▸(eN ..).trans (bU ..)) (λe=>bh e▸(eN ..).trans (bU ..)) (qU λG=>(eN ..).trans (bU ..))
  (λe=>(gm e).elim λG z=>qU (λG=>bU ..) z.2) tP wO wO e
theorem vq(h:w<17):ja w<12:=zM (f:=λw=>ja w+1) (g:=λG=>12) (by rfl') h
theorem Bp(h:x<2^k):x&&&(2^k - 1)=x:=(mP x k).trans (iO h)
theorem Fz(h:J o=m):numOf (gc l o)<256^m:=gG (i6 _) (bf (I (256^·) ((eN ..).trans h)))
theorem pO(h:J o=m):numOf o<256^m:=gG (i6 _) (bf (I (256^·) h))
theorem ac8(h:J o=4):gc l (cA (numOf (gc l o)) 4)=o:=
 (I (gc l) ((I (cA _) ((eN l o).trans h).symm).trans (Gz (.inr (.inr ((eN l o).trans h)))))).trans (HO l o)
theorem HQ(hw:w<17):0<slots w:=zM (f:=λG=>1) (by rfl') hw
section
variable{d:Sc}{s:Nat}{b0 b:U8}(hd:d.Ok)
include hd
theorem QI(w n:Nat)(hw:w<17)(hn:n<256^4)(hb:J b=64)(hl:b.take (4*s)=b0.take (4*s))(hs:s+slots w<=16):mx d s (eO w n s d.aP) b0 b (AF w n d):=by
 have i7:4*s+4<=64:=Ri hs (HQ hw);refine mx.then (ac7 hd (ja w) (vq hw) hb hl (bt (bf (I (s+·) (mV (f:=λw=>slots (ja w)) (by rfl') hw))) hs)) λo b1 e h=>?_
 have ol:=D9 (vq hw) e;rcases kc w 12 with h12|h12
 ·simp only [mV (f:=λw=>R9 w n s d.aP) (g:=λG=> []) (by rfl') h12,mV (f:=λw=>Fy w n d.aP o) (g:=λG=>o) (by rfl') h12]
  exact #[b1,.nil _,h]
 have m16:=dH n (y:=65536) (bF rfl);have le:∀{a b:Nat},a - b<a+1:=λ{a b}=>jg (lQ a b);refine c5 (P:=λw=>J o=bW (ja w)->∃b',Runs d (R9 w n s d.aP) b1 b'/\ At b0 s b' (Fy w n d.aP o)) h12 hw (λol=>?_) (λol=>?_) (λol=>?_) (λol=>?_) (λol=>?_) ol
 ·have q:=AE hd h 4 (.inr (.inr rfl)) ol (M:=cA n 4) (X:= [0,0,0,0]) (bU _ _) rfl i7
  simp only [kr (.inr (.inr rfl)) hn,show numOf [0,0,0,0]=0 from rfl,Kh]at q;exact q
 ·have q:=AE hd h 4 (.inr (.inr rfl)) ol (M:= [255,255,255,255]) (X:=gc d.aP (cA n 4)) rfl ((eN ..).trans (bU ..)) i7
  have e3:=ac1 (l:=d.aP) (m:=numOf (gc d.aP o)) (Fz ol) hn;rw [ac8 ol]at e3;rw [show numOf [255,255,255,255]=2^32 - 1 from rfl,Bp (pO ol),e3]at q;exact q
 ·obtain ⟨b2,r2,h2⟩:=GA hd h 2 (.inl rfl) ol i7
  refine bl λaG=>?_;refine (agR hd h2 ((eN ..).trans ol) (n % 18) (bt (iP (dH n (bF rfl))) (aV rfl)) i7).elim λb3 hq=>hq.elim λr3 h3=>?_;refine aG ?_;exact (GA hd h3 2 (.inl rfl) (bU _ _) i7).imp λb4 z=>#[r2.app (r3.app z.1),z.2]
 ·have q:=AE hd h 1 (.inl rfl) ol (M:= [(255 - n % 256).toUInt8]) (X:= [(n % 256).toUInt8]) rfl rfl i7
  simp only [sW,sW,dY,dY,iO (le:255 - n % 256<256),iO (dH n (y:=256) (bF rfl)),Vd (k:=8) (pO ol) (dH n (y:=256) (bF rfl))]at q;exact q
 ·have q:=AE hd h 2 (.inr (.inl rfl)) ol (M:=cA (65535 - n % 65536) 2) (X:=cA (n % 65536) 2) (bU _ _) (bU _ _) i7
  simp only [kr (.inr (.inl rfl)) (le:65535 - n % 65536<65536),kr (.inr (.inl rfl)) m16,Vd (k:=16) (pO ol) m16]at q;refine q.elim λb2 hq=>hq.elim λr2 h2=>?_;have q:=Vl hd h2 2 (.inr rfl) (bU _ _) (n/65536 % 18) i7;rw [kr (.inr (.inl rfl)) (uz (n:=16) (pO ol) m16)]at q;exact q.imp λb4 z=>#[r2.app z.1,z.2]
end
noncomputable def condB(w:Nat)(d:Sc):Bool:= [!d.six,decide (d.l4=6),!d.six,decide (d.l4=6),!d.six,ai,ai,ai,ai,d.six,decide (d.l4=17),!d.six&&decide (d.l4=1)].getD (ja w) ai
theorem nf2(d:Sc):lq d (ai,2)↔d.six=false:=by
 show 2=NU d↔_
 unfold NU;rcases d.six<;>decide
theorem amd(d:Sc):lq d (ai,10)↔d.six=true:=by
 show 10=NU d↔_
 unfold NU;rcases d.six<;>decide
theorem l4n(d:Sc)(m:Nat):lq d (av,m)↔d.l4=m:=eq_comm
theorem all1{Q:Bool×Nat->Prop}:(∀x∈ [p],Q x)↔Q p:=KR
theorem NV(w:Nat)(hw:w<17)(ip:Bool)(d:Sc)(h:ip=ai->d.six=av):(∀p∈bY w ip,lq d p)↔condB w d=true:=by
 have four:(∀p∈(if ip then []else [(ai,2)]:List (Bool×Nat)),lq d p)↔(!d.six)=true:=by
  rcases ip with⟨⟩
  ·exact all1.trans ((nf2 d).trans (iff_of_eq (og _).symm))
  ·rw [h rfl];exact #[λG=>rfl,λG G q=>nomatch q]
 have no:(∀p∈([]:List (Bool×Nat)),lq d p)↔ai=true:=#[λG=>rfl,λG G q=>nomatch q];have l4:∀m:Nat,(∀p∈([(av,m)]:List (Bool×Nat)),lq d p)↔decide (d.l4=m)=true:=λm=>all1.trans ((l4n d m).trans decide_eq_true_iff.symm);exact S1 (P:=λw=>(∀p∈bY w ip,lq d p)↔condB w d=ai) hw four (l4 6) four (l4 6) four no no no no (all1.trans (amd d)) (l4 17) (List.forall_mem_append.trans ((and_congr four (l4 1)).trans fR.symm)) four no no four (l4 6)
noncomputable def FA(w:Nat):Bool:=eE w== "host"
noncomputable def Ea(w:Nat)(d:Sc)(o:U8):Nat:=numOf (if FA w then gc d.aP o else o)
noncomputable def valN(w n:Nat)(d:Sc):ON:=if condB w d then(AF w n d).map (Ea w d)else u
noncomputable def vW(d:Sc)(aM:Bool)(b:U8)(w slot:Nat):Nat:=numOf (if !aM&&FA w then gc d.aP (gk b slot (bW w))else gk b slot (bW w))
noncomputable def reads(d:Sc)(aM:Bool)(b:U8):NN->Nat->LN
 | [],_=> []
 |(w,n)::r,slot=>vW d aM b w slot::reads d aM b r (slot+slots w)
theorem FC(hw:w<17)(h:FA w=ai):bW w=2 \/bW w=4:=
 ((BU.mp ((Ik (p:=λw=>!FA w||(bW w==2||bW w==4)) (by rfl') hw:_=ai))).resolve_left λz=>nomatch h.symm.trans ((og _).mp z))|>λz=>(BU.mp z).imp eq_of_beq eq_of_beq
theorem ac9(hw:w<17)(e:AF w n d=U o):J o=bW w:=by
 obtain ⟨x,e1,rfl⟩:=je.mp e;exact S1 (P:=λw=>J x=bW (ja w)->J (Fy w n d.aP x)=bW w) hw id id id id id id id id id id id id (λG=>bU ..) (λG=>(eN ..).trans (bU ..)) (λG=>(eN ..).trans (bU ..)) (λG=>bU ..) (λG=>bU ..) (D9 (vq hw) e1)
theorem ajI:bW w<=4*slots w:=lK (CJ (CK (bW w+3) (kI 3)))
structure Ran(d:Sc)(slot:Nat)(rows:LV)(b:U8)(kn:SN)(b':U8):Prop where
 run:Runs d rows b b'
 len:J b'=64
 low:b'.take (4*slot)=b.take (4*slot)
 kn:vp d kn
noncomputable def Sr(d:Sc)(slot:Nat)(rows:LV)(b:U8)(v:ON)(R:U8->Nat)(kn:SN):Prop:=
 v.elim (iJ d rows b) λv=>∃b',Ran d slot rows b kn b'/\ R b'=v
section
variable{d:Sc}{slot:Nat}{b:U8}(hd:d.Ok)(ip:Bool)(pP:ip=ai->d.six=av)
include hd pP
theorem HR(w n:Nat)(hw:w<17)(hn:n<256^4)(hb:J b=64)(hs:slot+slots w<=16)(aM:Bool)(kn:SN)(hk:vp d kn):
  Sr d slot (f9 ip d.aP aM w n slot kn) b (valN w n d) (vW d aM · w slot) (bR slot (bY w ip) kn).2:=by
 have i7:4*slot+4<=64:=Ri hs (HQ hw);unfold f9 valN;rw [cM];by_cases hc:condB w d=ai
 ·rw [au hc]
  refine ((vV hd i7 (bY w ip) b kn hb rfl (ik w ip).1 hk).1 ((NV w hw ip d pP).mpr hc)).elim λb1 hq=>?_;have r1:=hq.1;have l1:=hq.2.1;have t1:=hq.2.2.1;have k1:=hq.2.2.2;induction e:AF w n d using aK with
  |none=>exact r1.brk (iJ.left (e▸(QI hd w n hw hn l1 t1 hs):mx d slot _ b b1 u) _)
  |some o=>
   refine ((e▸(QI hd w n hw hn l1 t1 hs):mx d slot _ b b1 (U o))).elim λb2 hq=>?_;have a2:=hq.2;have ol:=ac9 hw e
   have fin:∃b3,Runs d (nt w slot aM) b2 b3/\ (J b3)=64/\ b3.take (4*slot)=b.take (4*slot)/\ vW d aM b3 w slot=Ea w d o:=by
    unfold nt vW Ea;induction q2:FA w using dj with
    |true=>induction aM using dj with
     |true=>
      rw [au (show(ai&&eE w== "host")=ai from q2)];refine (GA hd a2 (bW w) (FC hw q2) ol i7).elim λb3 hq=>?_;exact #[b3,hq.1,hq.2.len,hq.2.low,I numOf ((I (gk b3 slot) ((eN ..).trans ol).symm).trans hq.2.has)]
     |false=>exact #[b2,.nil _,a2.len,a2.low,I (λx=>numOf (gc d.aP x)) (ol▸a2.has)]
    |false=>
     rw [ax (by rw [show(eE w== "host")=av from q2,xg];exact nofun),xg];exact #[b2,.nil _,a2.len,a2.low,I numOf (ol▸a2.has)]
   exact fin.imp λb3 z=>#[#[r1.app (hq.1.app z.1),z.2.1,z.2.2.1,k1],z.2.2.2]
 ·rw [ax hc]
  exact ((vV hd i7 (bY w ip) b kn hb rfl (ik w ip).1 hk).2 λh=>hc ((NV w hw ip d pP).mp h)).left _
theorem HS(aM:Bool)(ps:NN):∀(slot:Nat) (b:U8) (kn:SN),(∀p∈ps,p.1<17/\ p.2<256^4)->J b=64->vp d kn->(bx ip d.aP aM ps slot kn).ok=ai->
  (u∈ps.map (λp=>valN p.1 p.2 d)->iJ d (bx ip d.aP aM ps slot kn).rows b)/\
  (u∉ps.map (λp=>valN p.1 p.2 d)->∃b',Ran d slot (bx ip d.aP aM ps slot kn).rows b (bx ip d.aP aM ps slot kn).kn b'/\ ps.map (λp=>valN p.1 p.2 d)=(reads d aM b' ps slot).map U):=by
 induction ps with
 |nil=>exact λslot b kn G hb hk G=>#[λh=>(nomatch h),λG=>#[b,#[.nil _,hb,rfl,hk],rfl]]
 |cons p r ih=>
  obtain ⟨w,n⟩:=p;intro slot b kn hp hb hk ok;rw [vb]at ok⊢;by_cases ho:slot+slots w<=16
  case neg=>rw [ax ho]at ok;exact nomatch ok
  have hw:=hp (w,n) cY;rw [au ho]at ok⊢;simp only [iU];induction e:valN w n d using aK with
  |none=>exact #[λG=>iJ.left (e▸(HR hd ip pP w n hw.1 hw.2 hb ho aM kn hk):Sr d slot _ b u _ _) _,λh=>absurd cY h]
  |some v=>
   refine bl λaG=>?_;refine ((e▸(HR hd ip pP w n hw.1 hw.2 hb ho aM kn hk):Sr d slot _ b (U v) _ _)).elim λb1 hq=>hq.elim λR1 v1=>?_;refine aG ?_;refine #[λh=>R1.run.brk ((ih (slot+slots w) b1 (bR slot (bY w ip) kn).2 (λp h=>hp p (cZ _ h)) R1.len R1.kn ok).1 ((eU.mp h).resolve_left nofun)),λh=>((ih (slot+slots w) b1 (bR slot (bY w ip) kn).2 (λp h=>hp p (cZ _ h)) R1.len R1.kn ok).2 λhh=>h (cZ _ hh)).imp λb2 z=>?_]
   have t3:b2.take (4*slot)=b1.take (4*slot):=by
    have q:=I (KV (4*slot)) z.1.low
    rwa [yc,yc,kH (mL 4 (cg slot (slots w)))]at q
   exact #[#[R1.run.app z.1.run,z.1.len,t3.trans R1.low,z.1.kn],congr (I _ (I U ((I (λx=>numOf (if !aM&&FA w then gc d.aP x else x)) (Vg (bt (kG ajI _) (bf (qb ..).symm)) z.1.low)).trans v1).symm)) z.2]
end
noncomputable def bX(t:T9)(d:Sc)(lg:LV):L:=match d.tk with
 |none=>AA t d 24 .none lg [.dict vn,.dict NM,.dict Fu]
 |some (mk,src)=>AA t d 25 (.ref 24) lg [.inst 597 (Sl mk src),.dict vn,.dict NM]
noncomputable abbrev qD(e:V)(t:T9)(d:Sc)(lg:LV):RV:=runK P (cn eu 12) (.con (.ref 405)) [.ref 14,e] (bX t d lg) .ok
noncomputable abbrev AG(a m:Int)(O:L)(k:V->RV):RV:=(Al [.ref 10,.int a,.int m] O).k λv G=>k v
noncomputable def vt(w:Nat):V:=.tup [S "field",S (kQ w 0).1]
section
variable(t:T9)(lg:LV)
theorem Ss(d:Sc)(w a m:Nat)(h:(w=0/\ a=96/\ m=32) \/(w=2/\ a=8/\ m=6) \/(w=4/\ a=14/\ m=2)):qD (vt w) t d lg=if d.six then .ok .none (bX t d lg)else AG a m (bX t d lg) λv=>.ok v (bX t d lg):=by
 obtain ⟨six,oc,l4,off,mark,c8,tk,aP⟩:=d;rcases h with⟨rfl,rfl,rfl⟩|⟨rfl,rfl,rfl⟩|⟨rfl,rfl,rfl⟩<;>rcases six<;>rcases tk with _|⟨mk,src⟩<;>rfl'
theorem agV(d:Sc):qD (vt 9) t d lg=if d.six then AG 64 128 (bX t d lg) λv=>.ok v (bX t d lg)else .ok .none (bX t d lg):=by
 obtain ⟨six,oc,l4,off,mark,c8,tk,aP⟩:=d;rcases six<;>rcases tk with _|⟨mk,src⟩<;>rfl'
noncomputable abbrev NW(d:Sc)(a m:Int)(O:L)(k:V->RV):RV:=if decide (d.off<0)then k .none else if d.off.natAbs<2^64 \/(8:Int).natAbs<2^64 then AG (d.off*8+a) m O k else .bad
theorem Vo(d:Sc)(hl:d.l4=1 \/d.l4=6 \/d.l4=17)(w a m:Nat)(h:(w=1/\ a=16/\ m=16) \/(w=3/\ a=96/\ m=4)):qD (vt w) t d lg=if d.l4==6 then NW d a m (bX t d lg) λv=>.ok v (bX t d lg)else .ok .none (bX t d lg):=by
 obtain ⟨six,oc,l4,off,mark,c8,tk,aP⟩:=d;dsimp only at hl;rcases h with⟨rfl,rfl,rfl⟩|⟨rfl,rfl,rfl⟩<;>rcases hl with rfl|rfl|rfl<;>rcases tk with _|⟨mk,src⟩<;>rfl'
theorem Vp(d:Sc)(hl:d.l4=1 \/d.l4=6 \/d.l4=17):qD (vt 10) t d lg=if d.l4==17 then NW d 0 16 (bX t d lg) λv=>.ok v (bX t d lg)else .ok .none (bX t d lg):=by
 obtain ⟨six,oc,l4,off,mark,c8,tk,aP⟩:=d;dsimp only at hl;rcases hl with rfl|rfl|rfl<;>rcases tk with _|⟨mk,src⟩<;>rfl'
theorem QJ(d:Sc)(hl:d.l4=1 \/d.l4=6 \/d.l4=17):qD (vt 11) t d lg=if !d.six&&d.l4==1 then NW d 0 8 (bX t d lg) λv=>.ok v (bX t d lg)else .ok .none (bX t d lg):=by
 obtain ⟨six,oc,l4,off,mark,c8,tk,aP⟩:=d;dsimp only at hl;rcases hl with rfl|rfl|rfl<;>rcases six<;>rcases tk with _|⟨mk,src⟩<;>rfl'
theorem QK(d:Sc):qD (vt 5) t d lg= .ok (.int d.mark) (bX t d lg)/\ qD (vt 6) t d lg= .ok (.int d.c8) (bX t d lg):=by
 obtain ⟨six,oc,l4,off,mark,c8,tk,aP⟩:=d;rcases tk with _|⟨mk,src⟩<;>exact #[by rfl',by rfl']
theorem aaQ(d:Sc):(∃g,qD (vt 7) t d lg= .ok (cj (d.tk.map (·.1))) (bX t d lg++g))/\ ∃g,qD (vt 8) t d lg= .ok (cj (d.tk.bind (·.2))) (bX t d lg++g):=by
 obtain ⟨six,oc,l4,off,mark,c8,tk,aP⟩:=d;rcases tk with _|⟨mk,_|src⟩
 ·exact #[#[[],by rfl'],#[[],by rfl']]
 ·exact #[#[[.dict [("status",.int 0),("direction",.int 0),("mark",.int mk),("zone",.int 0),("expiration",.int 0)]],by rfl'],#[[.dict [("status",.int 0),("direction",.int 0),("mark",.int mk),("zone",.int 0),("expiration",.int 0)],.dict [("l3proto",.int 10),("protocol",.int 17),("proto-src",.int 2),("proto-dst",.int 4),("saddr6",.int 1),("daddr6",.int 3)]],by rfl']]
 ·exact #[#[[.dict [("status",.int 0),("direction",.int 0),("mark",.int mk),("zone",.int 0),("expiration",.int 0)]],by rfl'],#[[.dict [("status",.int 0),("direction",.int 0),("mark",.int mk),("zone",.int 0),("expiration",.int 0)],.dict [("l3proto",.int 2),("protocol",.int 17),("proto-src",.int 2),("proto-dst",.int 4),("saddr4",.int src),("daddr4",.int 3)]],by rfl']]
noncomputable abbrev ame(v:V)(O:L)(k:RV):RV:=bc (isS v .none) λc=>if c then .ok .none O else k
theorem ajJ(d:Sc)(n:Nat):qD (eC 12 n) t d lg=if d.six then .ok .none (bX t d lg)else AG 96 32 (bX t d lg) λv=>ame v (bX t d lg) (pC .BitAnd v (.int n) (bX t d lg) .ok):=by
 obtain ⟨six,oc,l4,off,mark,c8,tk,aP⟩:=d;rcases six<;>rcases tk with _|⟨mk,src⟩<;>rfl'
theorem ajK(d:Sc)(n:Nat):qD (eC 13 n) t d lg= .ok (.int ((d.mark^^^n)&&&4294967295:Nat)) (bX t d lg):=by
 obtain ⟨six,oc,l4,off,mark,c8,tk,aP⟩:=d;rcases tk with _|⟨mk,src⟩<;>rfl'
theorem ajL(d:Sc)(y:Int):qD (.tup [S "shl",vt 6,.int y]) t d lg=if(d.c8:Int).natAbs<2^1000/\ 0<=y/\ y<=1000000 then(if 0<=(d.c8:Int)*2^y.toNat/\ (0:Int)<=65535 then .ok (.int ((((d.c8:Int)*2^y.toNat).toNat&&&65535:Nat):Int)) (bX t d lg)else .bad)else .bad:=by
 obtain ⟨six,oc,l4,off,mark,c8,tk,aP⟩:=d;rcases tk with _|⟨mk,src⟩<;>rfl'
end
theorem aaR(ck:yY)(r:LV)(O:L)(k:QT):runK P ck (.con (.ref 405)) [.ref 14,.tup (S "or" ::r)] O k=ck (.con (.ref 398)) [.ref 14,.tup (S "or" ::r)] O k:=by rfl'
theorem ajM(ck:yY)(r:LV)(O:L)(k:QT):runK P ck (.con (.ref 405)) [.ref 14,.tup (S "shr" ::r)] O k=ck (.con (.ref 398)) [.ref 14,.tup (S "shr" ::r)] O k:=by rfl'
noncomputable def lM(e:V):LK:= [("scene",.ref 14),("e",e)]
noncomputable def vX(e tag y n:V):LK:= [("scene",.ref 14),("e",e),("tag",tag),("by",y),("n",n)]
theorem ajN(ck:yY)(tg:String)(x y:V)(O:L)(n c:KT)(q:QT):fm ((DU P ck 20).x kM.scope) (kM.body.take 1) (lM (.tup [S tg,x,y])) O n c q=ck (.con (.ref 405)) [.ref 14,x] O λv O=>n (vX (.tup [S tg,x,y]) (S tg) y v) O:=by rfl'
noncomputable def zG(n:Nat):V:=.tup [S "or",vt 1,.int (n % 65536:Nat)]
noncomputable abbrev wj(m:Nat)(q:QT):KT:=λl O=>cb eu m kM (kM.body.drop 1) l O (λG O=>q .none O) (λG O=>q .none O) q
theorem zh(m:Nat)(e:V)(O:L)(q:QT):runK P (cn eu m) (.con (.ref 398)) [.ref 14,e] O q=cb eu m kM (kM.body.take 1) (lM e) O (wj m q) (λG O=>q .none O) q:=by
 rw [i3 (l0:=lM e) (by rfl') (by rfl')];unfold cb
 conv=>lhs;rw [←iS 1 kM.body,kR]
section
variable(t:T9)(lg:LV)
theorem agW(d:Sc)(n:Nat)(k c:KT)(q:QT):cb eu 11 kM (kM.body.take 1) (lM (eC 15 n)) (bX t d lg) k c q=if d.six then k (vX (eC 15 n) (S "or") (.int (n % 256:Nat)) .none) (bX t d lg)else AG 8 6 (bX t d lg) λv=>k (vX (eC 15 n) (S "or") (.int (n % 256:Nat)) v) (bX t d lg):=by
 obtain ⟨six,oc,l4,off,mark,c8,tk,aP⟩:=d;rcases six<;>rcases tk with _|⟨mk,src⟩<;>rfl'
theorem Vq(d:Sc)(n:Nat)(q:QT):wj 11 q (vX (eC 15 n) (S "or") (.int (n % 256:Nat)) .none) (bX t d lg)=q .none (bX t d lg):=by
 obtain ⟨six,oc,l4,off,mark,c8,tk,aP⟩:=d;rcases tk with _|⟨mk,src⟩<;>rfl'
theorem agX(d:Sc)(n x:Nat)(q:QT):wj 11 q (vX (eC 15 n) (S "or") (.int (n % 256:Nat)) (.int x)) (bX t d lg)=q (.int ((x|||n % 256)&&&255:Nat)) (bX t d lg):=by
 obtain ⟨six,oc,l4,off,mark,c8,tk,aP⟩:=d;rcases tk with _|⟨mk,src⟩<;>rfl'
theorem agY(d:Sc)(hl:d.l4=1 \/d.l4=6 \/d.l4=17)(n:Nat)(k c:KT)(q:QT):cb eu 9 kM (kM.body.take 1) (lM (zG n)) (bX t d lg) k c q=if d.l4==6 then NW d 16 16 (bX t d lg) λv=>k (vX (zG n) (S "or") (.int (n % 65536:Nat)) v) (bX t d lg)else k (vX (zG n) (S "or") (.int (n % 65536:Nat)) .none) (bX t d lg):=by
 obtain ⟨six,oc,l4,off,mark,c8,tk,aP⟩:=d;dsimp only at hl;rcases hl with rfl|rfl|rfl<;>rcases tk with _|⟨mk,src⟩<;>rfl'
theorem Vr(d:Sc)(n:Nat)(q:QT):wj 9 q (vX (zG n) (S "or") (.int (n % 65536:Nat)) .none) (bX t d lg)=q .none (bX t d lg):=by
 obtain ⟨six,oc,l4,off,mark,c8,tk,aP⟩:=d;rcases tk with _|⟨mk,src⟩<;>rfl'
theorem agZ(d:Sc)(n x:Nat)(q:QT):wj 9 q (vX (zG n) (S "or") (.int (n % 65536:Nat)) (.int x)) (bX t d lg)=q (.int ((x|||n % 65536)&&&65535:Nat)) (bX t d lg):=by
 obtain ⟨six,oc,l4,off,mark,c8,tk,aP⟩:=d;rcases tk with _|⟨mk,src⟩<;>rfl'
end
theorem Vs(e:V)(y:Int)(O:L)(q:QT):wj 11 q (vX e (S "shr") (.int y) .none) O=q .none O:=by rfl'
theorem ag0(e:V)(y:Int)(O:L)(x:Nat)(q:QT):wj 11 q (vX e (S "shr") (.int y) (.int x)) O=if 0<=y then q (.int ((x:Int)/2^y.toNat)) O else .bad:=by rfl'
theorem ajO(t:T9)(lg:LV)(d:Sc)(n:Nat):qD (eC 15 n) t d lg=if d.six then .ok .none (bX t d lg)else AG 8 6 (bX t d lg) λv=>wj 11 .ok (vX (eC 15 n) (S "or") (.int (n % 256:Nat)) v) (bX t d lg):=by
 refine (aaR (cn eu 12) _ _ _).trans ?_;show runK P (cn eu 11) (.con (.ref 398)) [.ref 14,eC 15 n] (bX t d lg) .ok=_
 simp only [zh,agW,Vq]
theorem ajP(t:T9)(lg:LV)(d:Sc)(hl:d.l4=1 \/d.l4=6 \/d.l4=17)(n:Nat)(y:Int):qD (.tup [S "shr",zG n,.int y]) t d lg=if d.l4==6 then NW d 16 16 (bX t d lg) λv=>wj 9 (λw O=>wj 11 .ok (vX (.tup [S "shr",zG n,.int y]) (S "shr") (.int y) w) O) (vX (zG n) (S "or") (.int (n % 65536:Nat)) v) (bX t d lg)else .ok .none (bX t d lg):=by
 refine (ajM (cn eu 12) _ _ _).trans ?_;show runK P (cn eu 11) (.con (.ref 398)) [.ref 14,.tup [S "shr",zG n,.int y]] (bX t d lg) .ok=_
 rw [zh];refine (ajN (cn eu 11) "shr" (zG n) (.int y) _ _ _ _).trans ?_;refine (aaR (cn eu 10) _ _ _).trans ?_;show runK P (cn eu 9) (.con (.ref 398)) [.ref 14,zG n] (bX t d lg) _=_
 rw [zh,agY t lg d hl,Vr,Vs]
noncomputable def pQ(d:Sc)(a m:Nat):ON:=if d.off<0 then u else fq (8*d.off.toNat+a) m d.oc
noncomputable def ZF(w:Nat)(d:Sc):ON:= [fq 96 32 d.oc,pQ d 16 16,fq 8 6 d.oc,pQ d 96 4,fq 14 2 d.oc,U d.mark,U d.c8,d.tk.map (·.1),d.tk.bind (·.2),fq 64 128 d.oc,pQ d 0 16].getD w (pQ d 0 8)
noncomputable def HT(w n x:Nat):Nat:= [x,x,x,x,x,x,x,x,x,x,x,x,x&&&n,x^^^n,x*2^(n % 18) % 65536,x|||n % 256,(x|||n % 65536)/2^(n/65536 % 18)].getD w x
noncomputable def gV(w n:Nat)(d:Sc):ON:=if condB w d then(ZF (ja w) d).map (HT w n)else u
theorem GB(d:Sc)(a m:Nat)(h1:at'=8*a)(h2:many=8*m):fq at' many d.oc=(wN d a m).map numOf:=by
 subst h1;subst h2;unfold fq wN;rw [((I (λx=>(x+7)/8) (qb 8 a m).symm).trans (ux (kI 7) (a+m) 7):(8*a+8*m+7)/8=a+m)];by_cases q:a+m<=J d.oc
 ·have lt:numOf (cut a (a+m) d.oc)<2^(8*m):=gG (pO ((l7 q).trans (iN ..))) (bf (mO 2 8 m).symm)
  simp only [if_neg (dK q),if_pos q,Nat.mul_div_cancel_left _ (kI 7),uw,←qb,Ki,Nat.pow_zero,rO,iO lt]
  rfl
 ·rw [au (uv q),ax q]
  rfl
theorem AH(d:Sc)(h:at'/8=a)(h2:(at'+m+7)/8=a+1)(h3:8*(a+1) - at' - m=k):fq at' m d.oc=(wN d a 1).map λo=>numOf o/2^k % 2^m:=by
 unfold fq wN;rw [h2,h,h3];by_cases q:a+1<=J d.oc
 ·rw [ax (dK q),au q];rfl
 ·rw [au (uv q),ax q];rfl
theorem Vt(h:∀b,fq (8*b+at') m' d.oc=(wN d (b+a) m).map f):pQ d at' m'=(AD d a m).map f:=by
 unfold pQ AD;by_cases q:d.off<0
 ·rw [au q,ax λz=>rW.mpr z.1 q];rfl
 ·obtain ⟨b,e⟩:=iA (rW.mp q)
  rw [ax q,h,e];unfold wN;by_cases q2:b+a+m<=J d.oc
  ·exact I (mI f) ((au q2).trans (au #[bV b,mY q2]).symm)
  ·exact I (mI f) ((ax q2).trans (ax λz=>q2 (yG z.2)).symm)
theorem GC(d:Sc)(a m:Nat)(h1:a'=8*a)(h2:m'=8*m):pQ d a' m'=(AD d a m).map numOf:=Vt λb=>GB d (b+a) m ((I _ h1).trans (qb 8 b a).symm) h2
theorem PU(d:Sc):pQ d 96 4=(AD d 12 1).map λo=>numOf o/2^4 % 2^4:=
 Vt λb=>AH d (ux (kI 7) b 96) (ux (kI 7) b 107) ((uw ..).trans (Nat.add_sub_add_left (8*b) 104 100))
theorem Eb{α β:Type}{o:Option α}{f g:α->β}(h:∀x,o=U x->f x=g x):o.map f=o.map g:=by
 rcases o with _|x
 ·rfl
 ·exact I U (h x rfl)
theorem Ec{x:Option (U8)}{g h:Nat->Nat}(hl:∀o,x=U o->J o=1)(e:∀n,n<256->g n=h n)(lt:∀n,g n<=n):(x.map λo=>cA (g (numOf o)) 1).map numOf=x.map λo=>h (numOf o):=
 (xa ..).trans (Eb λo z=>(kr (.inl rfl) (gd (lt _) (pO (hl o z)))).trans (e _ (pO (hl o z))))
theorem wQ{l:Bool}{n s:Nat}(hs:s=1 \/s=2 \/s=4)(h:n<256^s):numOf (gc l (gc l (cA n s)))=n:=(I numOf (HO ..)).trans (kr hs h)
theorem mods:∀n,n<256->n/4=n/2^2 % 2^6/\ n/16=n/2^4 % 2^4/\ n % 4=n/2^0 % 2^2:=by decide+kernel
theorem ZG(w:Nat)(hw:w<12)(d:Sc)(hd:d.Ok):(su w d).map (Ea w d)=ZF w d:=
 Z8 (P:=λw=>(su w d).map (Ea w d)=ZF w d) hw (GB d 12 4 rfl rfl).symm (GC d 2 2 rfl rfl).symm ((Ec (λG=>tP) (λn h=>(mods n h).1) λn=>xT n 4).trans (AH d (a:=1) (k:=2) rfl rfl rfl).symm)
  ((Ec (λG=>wO) (λn h=>(mods n h).2.1) λn=>xT n 16).trans (PU d).symm) ((Ec (λG=>tP) (λn h=>(mods n h).2.2) λn=>Nat.mod_le n 4).trans (AH d (a:=1) (k:=0) rfl rfl rfl).symm)
  (I U (wQ (.inr (.inr rfl)) hd.mark)) (I U (wQ (.inr (.inl rfl)) hd.c8)) ((xa ..).trans (Eb λp e=>wQ (.inr (.inr rfl)) (hd.tk _ _ e).1))
  (by
   show(d.tk.bind _).map _=d.tk.bind _
   rcases e:d.tk with _|⟨mk,_|x⟩
   ·rfl
   ·rfl
   ·exact I U (kr (.inr (.inr rfl)) ((hd.tk _ _ e).2 _ rfl)))
  (GB d 8 16 rfl rfl).symm (GC d 0 2 rfl rfl).symm (GC d 0 1 rfl rfl).symm
theorem ada(w n:Nat)(hw:w<17)(hn:n<256^4)(d:Sc)(hd:d.Ok):valN w n d=gV w n d:=by
 unfold valN gV;rw [←ZG _ (vq hw) d hd];unfold AF;rw [xa,xa];refine I (λz=>if condB w d then z else u) (Eb λo e=>?_)
 refine S1 (P:=λw=>J o=bW (ja w)->Ea w d (Fy w n d.aP o)=HT w n (Ea (ja w) d o)) hw (λG=>rfl) (λG=>rfl) (λG=>rfl) (λG=>rfl) (λG=>rfl) (λG=>rfl) (λG=>rfl) (λG=>rfl) (λG=>rfl) (λG=>rfl) (λG=>rfl) (λG=>rfl)
  (λol=>kr (.inr (.inr rfl)) (gd CL (pO ol))) (λol=>wQ (.inr (.inr rfl)) (xS (n:=32) (Fz ol) hn)) (λol=>wQ (.inr (.inl rfl)) (dH _ (bF rfl)))
  (λol=>kr (.inl rfl) (uz (n:=8) (pO ol) (dH _ (bF rfl)))) (λol=>kr (.inr (.inl rfl)) (gd (xT _ _) (uz (n:=16) (pO ol) (dH _ (bF rfl))))) (D9 (vq hw) e)
theorem Vu:(bX t d lg)[10]? =U (.bu d.oc):=by
 obtain ⟨six,oc,l4,off,mark,c8,tk,aP⟩:=d;rcases tk with _|⟨mk,src⟩<;>rfl
theorem adb{b:Int}:(a==b)=decide (a=b):=rfl
theorem QL(e:fq a m b=U x):x<2^m:=bh ((IQ.mp e).2)▸dH _ (uy (kI 1))
section
variable{d:Sc}(hd:d.Ok)(jZ:d.off=40->d.l4=6)
include hd
theorem wR{z:Int}{a:Nat}(e:z=a)(h:(a,m)∈sG):AG z m (bX t d lg) k=k (cj (fq a m d.oc)):=by
 subst e;exact (I (kN.k · _) ((tM rfl).trans (tM (sS Vu)):Al [.ref 10,.int a,.int m] (bX t d lg)=_)).trans (au #[hd.oc,bV a,bV m,h])
include jZ
theorem Vv{a:Nat}(h20:(8*20+a,m)∈sG)(h4:(8*40+a,m)∈sG \/d.l4≠6):NW d a m (bX t d lg) k=k (cj (pQ d a m)):=by
 unfold pQ;by_cases q:d.off<0
 ·rw [au q];exact au (dC q)
 ·have hf:d.off=(20:Nat) \/(d.off=(40:Nat)/\ d.l4=6):=(hd.off.resolve_left λz=>q (z▸K3 0)).imp id λe=>#[e,jZ e]
  refine (ax λz=>q (fj z)).trans ((au (.inr (bF rfl))).trans ?_);rw [ax q];rcases hf with e|⟨e,e2⟩
  ·rw [e];exact wR hd (a:=8*20+a) rfl h20
  ·rw [e];exact wR hd (a:=8*40+a) rfl (h4.resolve_right λz=>z e2)
theorem ag1(t:T9)(lg:LV)(w n:Nat)(hw:w<17)(hn:n<256^4):∃g,qD (eC w n) t d lg= .ok (cj (gV w n d)) (bX t d lg++g):=by
 have hl:=hd.l4;have FD:∀{r:RV} {v:V},r= .ok v (bX t d lg)->∃g,r= .ok v (bX t d lg++g):=λh=>#[[],h.trans (I (Res.ok _) (cL _).symm)]
 have fin:∀{e:V} {c:Bool} {o:ON} {r:RV},(qD e t d lg=if c then r else .ok .none (bX t d lg))->r= .ok (cj o) (bX t d lg)->∃g,qD e t d lg= .ok (cj (if c then o else u)) (bX t d lg++g):=λ{e c o r} h k=>FD (by
  rw [h,k];rcases c<;>rfl)
 have six:∀{e:V} {o:ON} {r:RV},(qD e t d lg=if d.six then .ok .none (bX t d lg)else r)->r= .ok (cj o) (bX t d lg)->∃g,qD e t d lg= .ok (cj (if !d.six then o else u)) (bX t d lg++g):=λ{e o r} h k=>fin (r:=.ok (cj o) (bX t d lg)) (by
  rw [h,k];rcases d.six<;>rfl) rfl
 have dec:∀{a:Int},(d.l4==a)=decide (d.l4=a):=adb;have id':∀{o:ON},cj o=cj (o.map λx=>x):=λ{o}=>I cj xc.symm;have bit:∀{a m:Nat},(a,m)∈sG->AG a m (bX t d lg) (λv=>.ok v (bX t d lg))= .ok (cj ((fq a m d.oc).map λx=>x)) (bX t d lg):=λh=>(wR hd rfl h).trans (I (Res.ok · _) id');have trb:∀{a m:Nat},(8*20+a,m)∈sG->((8*40+a,m)∈sG \/d.l4≠6)->NW d a m (bX t d lg) (λv=>.ok v (bX t d lg))= .ok (cj ((pQ d a m).map λx=>x)) (bX t d lg):=λh k=>(Vv hd jZ h k).trans (I (Res.ok · _) id');have NX:∀{z:Int} {r r':RV},(if d.l4==z then r else r')=if decide (d.l4=z)then r else r':=λ{z r r'}=>I (λb:Bool=>if b then r else r') dec
 refine S1 (P:=λw=>∃g,qD (eC w n) t d lg= .ok (cj (gV w n d)) (bX t d lg++g)) hw
  (six (Ss t lg d 0 96 32 (.inl #[rfl,rfl,rfl])) (bit (by decide))) (fin ((Vo t lg d hl 1 16 16 (.inl #[rfl,rfl,rfl])).trans NX) (trb (by decide) (.inl (by decide)))) (six (Ss t lg d 2 8 6 (.inr (.inl #[rfl,rfl,rfl]))) (bit (by decide)))
  (fin ((Vo t lg d hl 3 96 4 (.inr #[rfl,rfl,rfl])).trans NX) (trb (by decide) (.inl (by decide)))) (six (Ss t lg d 4 14 2 (.inr (.inr #[rfl,rfl,rfl]))) (bit (by decide))) (FD (QK t lg d).1) (FD (QK t lg d).2)
  ((aaQ t lg d).1.imp λg e=>e.trans (I (Res.ok · _) id')) ((aaQ t lg d).2.imp λg e=>e.trans (I (Res.ok · _) id')) (fin (agV t lg d) (bit (by decide))) ?_ ?_ ?_ ?_ ?_ ?_ ?_
 ·by_cases q:d.l4=17
  ·exact fin (c:=decide (d.l4=17)) ((Vp t lg d hl).trans NX) (trb (by decide) (.inr λz=>nomatch z.symm.trans q))
  ·exact fin (c:=decide (d.l4=17)) (r:=.ok (cj ((pQ d 0 16).map λx=>x)) (bX t d lg)) ((Vp t lg d hl).trans (NX.trans (by rw [fy q];rfl))) rfl
 ·by_cases q:d.l4=1
  ·exact fin (c:=!d.six&&decide (d.l4=1)) (QJ t lg d hl) (trb (by decide) (.inr λz=>nomatch z.symm.trans q))
  ·exact fin (c:=!d.six&&decide (d.l4=1)) (r:=.ok (cj ((pQ d 0 8).map λx=>x)) (bX t d lg)) ((QJ t lg d hl).trans (by rw [dec,fy q,xg];rfl)) rfl
 ·refine six (ajJ t lg d n) ((wR hd (a:=96) (m:=32) rfl (by decide)).trans ?_)
  show _=Res.ok (cj ((fq 96 32 d.oc).map (HT 12 n))) _
  rcases fq 96 32 d.oc with _|x
  ·rfl
  ·exact au (c:=0<=(x:Int)/\ 0<=(n:Int)) (e:=.bad) #[bV x,bV n]
 ·exact FD ((ajK t lg d n).trans (I (λx:Nat=>Res.ok (V.int x) (bX t d lg)) (Bp (k:=32) (xS (n:=32) hd.mark hn))))
 ·have e1:((d.c8:Int)*2^((n % 18:Nat):Int).toNat)=((d.c8*2^(n % 18):Nat):Int):=by
   rw [mQ];norm_cast
  refine FD ((ajL t lg d ((n % 18:Nat):Int)).trans (Eq.trans (au #[gG hd.c8 (rN qd (aV rfl:16<=1000)),bV _,Iu (iP (dH n (bF rfl))) rfl]) (Eq.trans (au #[e1▸bV _,bV 65535]) ?_)));rw [e1];exact I (λx:Nat=>Res.ok (V.int x) (bX t d lg)) (mP _ 16)
 ·refine six (ajO t lg d n) ((wR hd (a:=8) (m:=6) rfl (by decide)).trans ?_)
  show _=Res.ok (cj ((fq 8 6 d.oc).map (HT 15 n))) _
  rcases e:fq 8 6 d.oc with _|x
  ·exact Vq t lg d n .ok
  ·exact (agX t lg d n x .ok).trans (I (λx:Nat=>Res.ok (V.int x) (bX t d lg)) (Bp (k:=8) (uz (n:=8) (gG (QL e) (aV rfl)) (dH _ (bF rfl)))))
 ·refine fin (c:=decide (d.l4=6)) (e:=.tup [S "shr",zG n,.int ((n/65536 % 18:Nat):Int)]) ((ajP t lg d hl n ((n/65536 % 18:Nat):Int)).trans NX) ((Vv hd jZ (a:=16) (m:=16) (by decide) (.inl (by decide))).trans ?_)
  show _=Res.ok (cj ((pQ d 16 16).map (HT 16 n))) _
  rcases e:pQ d 16 16 with _|x
  ·exact (Vr t lg d n _).trans (Vs _ _ _ .ok)
  ·
   have hx:x<2^16:=QL (IQ.mp e).2;refine (agZ t lg d n x _).trans ?_;rw [show(x|||n % 65536)&&&65535=x|||n % 65536 from Bp (k:=16) (uz (n:=16) hx (dH _ (bF rfl)))];refine (ag0 _ _ _ _ .ok).trans ((au (bV _)).trans ?_);rw [mQ];show _=Res.ok (V.int (((x|||n % 65536)/2^(n/65536 % 18):Nat):Int)) _
   norm_cast
end
noncomputable abbrev T9.hds(t:T9)(hs:LV):T9:={t with a8:=.list hs}
noncomputable abbrev wU(w:Nat)(n:Int)(t:T9):RV:=runK P (cn eu 12) (.con (.ref 681)) [.int w,.int n,.ref 7] t.l .ok
noncomputable def g3:L:= [.list [.int 5,.int 13],.list [.int 6,.int 14],.list [.int 7,.int 8]]
noncomputable def ajQ:List (Int×V):= [(0,.tup [S "ip",.int 96,.int 32]),(1,.tup [S "tcp",.int 16,.int 16]),(2,.tup [S "ip",.int 8,.int 6]),(3,.tup [S "tcp",.int 96,.int 4]),(4,.tup [S "ip",.int 14,.int 2]),(9,.tup [S "ip6",.int 64,.int 128]),(10,.tup [S "udp",.int 0,.int 16]),(11,.tup [S "icmp",.int 0,.int 8]),(12,.tup [S "ip",.int 96,.int 32]),(15,.tup [S "ip",.int 8,.int 6]),(16,.tup [S "tcp",.int 16,.int 16])]
noncomputable def g5:L:=g3++ [.fW ajQ,.list [S "ip",S "ip6"]]
noncomputable abbrev pR(hd:String)(beh:Int)(bits:Int)(wh bi:Int)(hs:LV)(k:V->RV):RV:=
 bc ((fw (S hd) hs).map (!·)) λc=>if c then k .none else if decide (bi<beh)then k .none else gM .Pow 2 (bi - beh) λp=>gM .FloorDiv wh p λq=>k (.int (q % bits))
section
variable(t:T9)(wh bi ki:Int)(hs:LV)(d:Sc)
noncomputable abbrev tF:T9:=(t.fct wh bi ki d).hds hs
theorem IF(w:Nat)(n:Int)(hd:String)(f b:Nat)(h:(w=0/\ hd= "ip" /\ f=96/\ b=32) \/(w=2/\ hd= "ip" /\ f=8/\ b=6) \/(w=4/\ hd= "ip" /\ f=14/\ b=2) \/(w=9/\ hd= "ip6" /\ f=64/\ b=128)):
  wU w n (tF t wh bi ki hs d)=pR hd (f+b:Nat) (2^b:Nat) wh bi hs λv=>.ok v ((tF t wh bi ki hs d).l++g5):=by
 rcases h with⟨rfl,rfl,rfl,rfl⟩|⟨rfl,rfl,rfl,rfl⟩|⟨rfl,rfl,rfl,rfl⟩|⟨rfl,rfl,rfl,rfl⟩<;>rfl'
theorem IG(w:Nat)(n:Int)(hd:String)(f b:Nat)(h:(w=1/\ hd= "tcp" /\ f=16/\ b=16) \/(w=3/\ hd= "tcp" /\ f=96/\ b=4) \/(w=10/\ hd= "udp" /\ f=0/\ b=16) \/(w=11/\ hd= "icmp" /\ f=0/\ b=8)):
  wU w n (tF t wh bi ki hs d)=pR hd ((f+b:Nat)+8*d.off) (2^b:Nat) wh bi hs λv=>.ok v ((tF t wh bi ki hs d).l++g5):=by
 rcases h with⟨rfl,rfl,rfl,rfl⟩|⟨rfl,rfl,rfl,rfl⟩|⟨rfl,rfl,rfl,rfl⟩|⟨rfl,rfl,rfl,rfl⟩<;>rfl'
theorem QM(n:Int):wU 5 n (tF t wh bi ki hs d)= .ok (.int d.mark) ((tF t wh bi ki hs d).l++ [.list [.int 5,.int 13]])/\ wU 6 n (tF t wh bi ki hs d)= .ok (.int d.c8) ((tF t wh bi ki hs d).l++ [.list [.int 5,.int 13],.list [.int 6,.int 14]]):=#[by rfl',by rfl']
theorem aaU(n:Int):wU 7 n (tF t wh bi ki hs d)= .ok (cj (d.tk.map (·.1))) ((tF t wh bi ki hs d).l++g3)/\ wU 8 n (tF t wh bi ki hs d)= .ok (cj (d.tk.bind (·.2))) ((tF t wh bi ki hs d).l++g3):=by
 obtain ⟨six,oc,l4,off,mark,c8,tk,aP⟩:=d;rcases tk with _|⟨mk,_|src⟩<;>exact #[by rfl',by rfl']
theorem ajR(n:Int):wU 12 n (tF t wh bi ki hs d)=pR "ip" 128 (2^32:Nat) wh bi hs λv=>match v with|.int x=>gM .BitAnd x n λz=>.ok (.int z) ((tF t wh bi ki hs d).l++g5)|_=>.ok .none ((tF t wh bi ki hs d).l++g5):=by rfl'
theorem ajS(n:Int):wU 13 n (tF t wh bi ki hs d)=gM .BitXor d.mark n λz=>.ok (.int z) ((tF t wh bi ki hs d).l++ [.list [.int 5,.int 13]]):=by rfl'
theorem ajT(n:Int):wU 14 n (tF t wh bi ki hs d)=gM .Pow 2 (n % 18) λp=>gM .Mult d.c8 p λz=>.ok (.int (z % 65536)) ((tF t wh bi ki hs d).l++ [.list [.int 5,.int 13],.list [.int 6,.int 14]]):=by rfl'
theorem ajU(n:Int):wU 15 n (tF t wh bi ki hs d)=pR "ip" 14 (2^6:Nat) wh bi hs λv=>match v with|.int x=>gM .BitOr x (n % 256) λz=>.ok (.int z) ((tF t wh bi ki hs d).l++g5)|_=>.ok .none ((tF t wh bi ki hs d).l++g5):=by rfl'
theorem ajV(n:Int):wU 16 n (tF t wh bi ki hs d)=pR "tcp" (32+8*d.off) (2^16:Nat) wh bi hs λv=>match v with|.int x=>gM .BitOr x (n % 65536) λz=>gM .Pow 2 (n/65536 % 18) λp=>gM .FloorDiv z p λy=>.ok (.int y) ((tF t wh bi ki hs d).l++g5)|_=>.ok .none ((tF t wh bi ki hs d).l++g5):=by rfl'
end
section
set_option exponentiation.threshold 2000
structure zi(d:Sc)(hs:LV):Prop where
 ip:fw (S "ip") hs=U (!d.six)
 ip6:fw (S "ip6") hs=U d.six
 tcp:fw (S "tcp") hs=U (decide (d.l4=6)&&decide (0<=d.off))
 udp:fw (S "udp") hs=U (decide (d.l4=17)&&decide (0<=d.off))
 ag2:fw (S "icmp") hs=U (!d.six&&decide (d.l4=1)&&decide (0<=d.off))
theorem NY:ao<(x+7)/8↔8*ao<x:=
 (Nat.le_div_iff_mul_le (kI 7)).trans (oy (ao+1) 8▸(Nat.add_le_add_iff_right (n:=7)))
theorem NZ{y:Nat}(h:y<=1000000){z:Int}(e:z=y):gM .Pow 2 z k=k ((2^y:Nat):Int):=
 e▸(au #[bF rfl,bV y,Iu h rfl]).trans (I k (Int.natCast_pow 2 y).symm)
theorem QN{x y:Nat}(h:0<y/\ y<2^1000):gM .FloorDiv (x:Int) (y:Int) k=k ((x/y:Nat):Int):=
 (au #[Int.natCast_pos.mpr h.1,h.2]).trans (I k (Int.natCast_ediv x y).symm)
theorem N1(hc:fw (S hd) hs=U c)(hl:J oc<=100)(hb:c=ai->beh=((a+m:Nat):Int))(h2:bits=((2^m:Nat):Int)):
  pR hd beh bits (numOf oc:Nat) ((8*(J oc):Nat):Int) hs k=k (cj (if c then fq a m oc else u)):=by
 subst h2;refine (I (λo:Option Bool=>bc (o.map (!·)) _) hc).trans ?_;induction c using dj with
 |false=>rfl
 |true=>
  rw [(hb rfl)];refine Eq.trans (b:=if decide (((8*(J oc):Nat):Int)<(a+m:Nat))then k .none else _) rfl ?_;by_cases q:J oc<(a+m+7)/8
  ·exact (au (dC (A5 (NY.mp q)))).trans (I (λo=>k (cj o)) (show u=fq a m oc from(au q).symm))
  ·have le:a+m<=8*J oc:=kh λz=>q (NY.mpr z)
   refine (ax λz=>dK le (Ir (fj z))).trans ((NZ (bt (si (lQ _ _) hl (aV rfl):8*J oc - (a+m)<=999) (aV rfl)) (C6 le).symm).trans ((QN #[uy qd,Kj (bF rfl) (jg (si (lQ _ _) hl (aV rfl):8*J oc - (a+m)<=999))]).trans (I k ?_)));exact (I (λx:Nat=>V.int x) (Sp oc a m (kh q))).trans (I cj (show _=fq a m oc from(ax q).symm))
section
variable{t:T9}{ki:Int}{hs:LV}{d:Sc}(hd:d.Ok)(hh:zi d hs)
noncomputable abbrev tG(t:T9)(ki:Int)(hs:LV)(d:Sc):T9:=tF t (numOf d.oc:Nat) ((8*(J d.oc):Nat):Int) ki hs d
theorem ag3:(if c&&decide (0<=d.off)then fq (8*d.off.toNat+a) m d.oc else u)=if c then pQ d a m else none:=by
 rcases c with _|_
 ·rfl
 ·
  unfold pQ;by_cases q:d.off<0
  ·exact (ax λz=>K2 q (fj z)).trans (au q).symm
  ·exact (au (dC (rW.mp q))).trans (ax q).symm
theorem ade(hf:f=(a+m:Nat))(h:0<=d.off):f+8*d.off=((8*d.off.toNat+a+m:Nat):Int):=by
 obtain ⟨n,e⟩:=iA h;rw [hf,e,rJ];exact C7 ..
include hd hh
theorem ag4(jZ:d.off=40->d.l4=6)(w n:Nat)(hw:w<17)(hn:n<256^4):∃g,wU w n (tG t ki hs d)= .ok (cj (gV w n d)) ((tG t ki hs d).l++g):=by
 have ipk:∀{sJ:String} {c:Bool} {a m:Nat} {k:V->RV},fw (S sJ) hs=U c->pR sJ (a+m:Nat) (2^m:Nat) (numOf d.oc:Nat) ((8*(J d.oc):Nat):Int) hs k=k (cj (if c then fq a m d.oc else u)):=λh=>N1 h hd.oc (λG=>rfl) rfl
 have ipv:∀{sJ:String} {c:Bool} {a m:Nat} {r:RV},fw (S sJ) hs=U c->r=pR sJ (a+m:Nat) (2^m:Nat) (numOf d.oc:Nat) ((8*(J d.oc):Nat):Int) hs (λv=>.ok v ((tG t ki hs d).l++g5))->∃g,r= .ok (cj (if c then(fq a m d.oc).map λx=>x else u)) ((tG t ki hs d).l++g):=
  λ{sJ c a m r} h e=>#[g5,e.trans ((ipk h).trans (I (λo=>Res.ok (cj (if c then o else u)) _) xc.symm))]
 have trk:∀{sJ:String} {c:Bool} {a m:Nat} {k:V->RV},fw (S sJ) hs=U (c&&decide (0<=d.off))->pR sJ ((a+m:Nat)+8*d.off) (2^m:Nat) (numOf d.oc:Nat) ((8*(J d.oc):Nat):Int) hs k=k (cj (if c then pQ d a m else u)):=
  λ{sJ c a m k} h=>(N1 h hd.oc (λq=>ade rfl (fj (fR.mp q).2)) rfl).trans (I (λo=>k (cj o)) ag3)
 have trv:∀{sJ:String} {c:Bool} {a m:Nat} {r:RV},fw (S sJ) hs=U (c&&decide (0<=d.off))->r=pR sJ ((a+m:Nat)+8*d.off) (2^m:Nat) (numOf d.oc:Nat) ((8*(J d.oc):Nat):Int) hs (λv=>.ok v ((tG t ki hs d).l++g5))->∃g,r= .ok (cj (if c then(pQ d a m).map λx=>x else u)) ((tG t ki hs d).l++g):=
  λ{sJ c a m r} h e=>#[g5,e.trans ((trk h).trans (I (λo=>Res.ok (cj (if c then o else u)) _) xc.symm))]
 have id':∀{o:ON},cj o=cj (o.map λx=>x):=λ{o}=>I cj xc.symm
 refine S1 (P:=λw=>∃g,wU w n (tG t ki hs d)= .ok (cj (gV w n d)) ((tG t ki hs d).l++g)) hw
  (ipv hh.ip (IF t _ _ ki hs d 0 n "ip" 96 32 (.inl #[rfl,rfl,rfl,rfl]))) (trv hh.tcp (IG t _ _ ki hs d 1 n "tcp" 16 16 (.inl #[rfl,rfl,rfl,rfl]))) (ipv hh.ip (IF t _ _ ki hs d 2 n "ip" 8 6 (.inr (.inl #[rfl,rfl,rfl,rfl])))) (trv hh.tcp (IG t _ _ ki hs d 3 n "tcp" 96 4 (.inr (.inl #[rfl,rfl,rfl,rfl]))))
  (ipv hh.ip (IF t _ _ ki hs d 4 n "ip" 14 2 (.inr (.inr (.inl #[rfl,rfl,rfl,rfl]))))) #[_,(QM t _ _ ki hs d n).1] #[_,(QM t _ _ ki hs d n).2] #[_,(aaU t _ _ ki hs d n).1.trans (I (Res.ok · _) id')] #[_,(aaU t _ _ ki hs d n).2.trans (I (Res.ok · _) id')]
  (ipv hh.ip6 (IF t _ _ ki hs d 9 n "ip6" 64 128 (.inr (.inr (.inr #[rfl,rfl,rfl,rfl]))))) (trv hh.udp (IG t _ _ ki hs d 10 n "udp" 0 16 (.inr (.inr (.inl #[rfl,rfl,rfl,rfl]))))) (trv hh.ag2 (IG t _ _ ki hs d 11 n "icmp" 0 8 (.inr (.inr (.inr #[rfl,rfl,rfl,rfl])))))
  #[g5,(ajR t _ _ ki hs d n).trans ((ipk (a:=96) (m:=32) hh.ip).trans ?_)] #[_,(ajS t _ _ ki hs d n).trans (au (c:=0<=(d.mark:Int)/\ 0<=(n:Int)) (e:=Res.bad) #[bV _,bV n])] #[_,(ajT t _ _ ki hs d n).trans ((NZ (y:=n % 18) (bt (iP (dH n (bF rfl))) (aV rfl)) rfl).trans (au (c:=(d.c8:Int).natAbs<2^64 \/((2^(n % 18):Nat):Int).natAbs<2^64) (e:=Res.bad) (.inl (gG hd.c8 (aV rfl)))))]
  #[g5,(ajU t _ _ ki hs d n).trans ((ipk (a:=8) (m:=6) hh.ip).trans ?_)] #[g5,(ajV t _ _ ki hs d n).trans ((trk (a:=16) (m:=16) hh.tcp).trans ?_)]
 ·show _=Res.ok (cj (if !d.six then(fq 96 32 d.oc).map (HT 12 n)else u)) _
  induction d.six using dj with
  |true=>rfl
  |false=>
   rcases fq 96 32 d.oc with _|x
   ·rfl
   ·exact au (c:=0<=(x:Int)/\ 0<=(n:Int)) (e:=.bad) #[bV x,bV n]
 ·show _=Res.ok (cj (if !d.six then(fq 8 6 d.oc).map (HT 15 n)else u)) _
  induction d.six using dj with
  |true=>rfl
  |false=>
   rcases fq 8 6 d.oc with _|x
   ·rfl
   ·exact au (c:=0<=(x:Int)/\ 0<=(n:Int) % 256) (e:=.bad) #[bV x,aai rfl]
 ·show _=Res.ok (cj (if decide (d.l4=6)then(pQ d 16 16).map (HT 16 n)else u)) _
  rcases decide (d.l4=6)with _|_
  ·rfl
  ·
   rcases pQ d 16 16 with _|x
   ·rfl
   ·
    have lo:n/65536 % 18<=18:=iP (dH _ (bF rfl));exact Eq.trans (b:=gM .Pow 2 ((n/65536 % 18:Nat):Int) λp=>gM .FloorDiv ((x|||n % 65536:Nat):Int) p λy=>Res.ok (.int y) ((tG t ki hs d).l++g5)) (au (c:=0<=(x:Int)/\ 0<=(n:Int) % 65536) (e:=.bad) #[bV x,aai rfl]) ((NZ (y:=n/65536 % 18) (bt lo (aV rfl)) rfl).trans (QN (x:=x|||n % 65536) #[uy qd,Kj (bF rfl) (gd lo (aV rfl))]))
end
end
noncomputable def kB:aH×LT:=kZ (dZ dz 1)
noncomputable abbrev zj(v:V)(l:LK)(O:L)(n:KT)(q:QT):RV:=dA eu 12 19 dz.scope kB v l O n q
noncomputable def mr(g:Nat)(r:Int)(lay:V)(k:Nat):LK:= [("scene",.ref 14),("regs",.ref g),("reg",.int r),("layout",lay),("numbers",.ref k)]
noncomputable def sH:Option (V×V)->LK
 |none=> []
 |some (a,b)=> [("size",a),("order",b)]
noncomputable abbrev my(t:T9)(d:Sc)(b:U8)(lg:LV)(nums:LV):L:=bL t d b lg++ [.list nums]
section
variable(t:T9)(d:Sc)(b:U8)(lg:LV)
theorem ag6(r:Int)(lay:V)(k c:KT)(q:QT):cb eu 12 dz (dz.body.take 1) [("scene",.ref 14),("regs",.ref (cF d)),("reg",.int r),("layout",lay)] (bL t d b lg) k c q=k (mr (cF d) r lay (cF d+2)) (my t d b lg []):=by
 obtain ⟨six,oc,l4,off,mark,c8,tk,aP⟩:=d;rcases tk with _|⟨mk,src⟩<;>rfl'
theorem ag7(g:Nat)(r:Int)(lay:LV)(k:Nat)(O:L)(n c:KT)(q:QT):(E eu 12 20).x dz.scope (mr g r (.tup lay) k) O ((dZ dz 1).getD nX) n c q=cR zj (It.tup lay).nx bE 0 (mr g r (.tup lay) k) O n q:=by rfl'
theorem adf(l:LK)(O:L)(n c:KT)(q:QT):cb eu 12 dz (dz.body.drop 1) l O n c q=(E eu 12 20).x dz.scope l O ((dZ dz 1).getD nX) (λl O=>cb eu 12 dz (dz.body.drop 2) l O n c q) c q:=by rfl'
theorem ag8(r:Int)(lay:V)(x:Option (V×V))(nums:LV)(n c:KT)(q:QT):cb eu 12 dz (dz.body.drop 2) (mr (cF d) r lay (cF d+2)++sH x) (my t d b lg nums) n c q=if(J nums)<=aR then q (.tup nums) (my t d b lg nums)else .bad:=by
 obtain ⟨six,oc,l4,off,mark,c8,tk,aP⟩:=d;rcases tk with _|⟨mk,src⟩<;>rcases x with _|⟨y,z⟩<;>rfl'
theorem ag9(r sz:Int)(lay:V)(x:Option (V×V))(nums:LV)(n:KT)(q:QT):zj (.tup [.int sz,S "big"]) (mr (cF d) r lay (cF d+2)++sH x) (my t d b lg nums) n q=
  n6 d r sz (my t d b lg nums) λg=>qT g λm=>if(J nums)<=aR then n (mr (cF d) (r+(sz+3)/4) lay (cF d+2)++sH (U (.int sz,S "big"))) (my t d b lg (nums++ [.int m]))else .bad:=by
 obtain ⟨six,oc,l4,off,mark,c8,tk,aP⟩:=d;rcases tk with _|⟨mk,src⟩<;>rcases x with _|⟨y,z⟩<;>rfl'
theorem adg(r sz:Int)(lay:V)(x:Option (V×V))(nums:LV)(n:KT)(q:QT):zj (.tup [.int sz,S "host"]) (mr (cF d) r lay (cF d+2)++sH x) (my t d b lg nums) n q=
  n6 d r sz (my t d b lg nums) λg=>if d.aP then(wJ [.bytes g] []).k λv G=>match v with
    |.bytes g=>qT g λm=>if(J nums)<=aR then n (mr (cF d) (r+(sz+3)/4) lay (cF d+2)++sH (U (.int sz,S "host"))) (my t d b lg (nums++ [.int m]))else .bad
    |_=>.bad
   else qT g λm=>if(J nums)<=aR then n (mr (cF d) (r+(sz+3)/4) lay (cF d+2)++sH (U (.int sz,S "host"))) (my t d b lg (nums++ [.int m]))else .bad:=by
 obtain ⟨six,oc,l4,off,mark,c8,tk,aP⟩:=d;rcases tk with _|⟨mk,src⟩<;>rcases x with _|⟨y,z⟩<;>rcases aP<;>rfl'
end
noncomputable def fits:NN->Nat->Prop
 | [],_=>True
 |(w,_)::r,s=>s+slots w<=16/\ fits r (s+slots w)
theorem HU{x:Nat}:cS xs++ [V.int x]=cS (xs++ [x]):=(oB (l₂:= [x])).symm
theorem QO(hw:w<17):bW w<=4*slots w/\ bW w<=100:=#[zM (g:=λw=>4*slots w) (by rfl') hw,zM (g:=λG=>100) (by rfl') hw]
theorem adh(h:(!aM&&FA w)=av):iu w aM= .tup [.int (bW w),S "big"]:=by
 induction aM using dj with
 |true=>rfl
 |false=>exact I (λs=>V.tup [.int (bW w),S s]) ((D3 w).resolve_right λe=>nomatch h.symm.trans (dX.mpr e))
theorem ZH(h:(!aM&&FA w)=ai):iu w aM= .tup [.int (bW w),S "host"]:=by
 induction aM using dj with
 |true=>exact nomatch h
 |false=>exact I (λs=>V.tup [.int (bW w),S s]) (dX.mp h)
section
variable{t:T9}{d:Sc}{b:U8}{lg:LV}
theorem kl_turn(hb:J b=64)(w:Nat)(hw:w<17)(aM:Bool)(s:Nat)(hs:s+slots w<=16)(lay:V)(x:Option (V×V))(nums:LN)(hn:J nums<=100):
  ∃x',∀n q,zj (iu w aM) (mr (cF d) s lay (cF d+2)++sH x) (my t d b lg (cS nums)) n q=n (mr (cF d) (s+slots w:Nat) lay (cF d+2)++sH x') (my t d b lg (cS (nums++ [vW d aM b w s]))):=by
 have l:4*s+bW w<=64:=bt (kG (QO hw).1 _) (aag hs rfl);have gl:J (gk b s (bW w))=bW w:=(l7 (bt l (bf hb.symm))).trans (iN ..)
 have fin:∀{o:U8} {n:KT} {X:LK},J o=bW w->vW d aM b w s=numOf o->
   (qT o λm=>if(J (cS nums))<=aR then n (mr (cF d) (s+((bW w:Int)+3)/4) lay (cF d+2)++X) (my t d b lg (cS nums++ [.int m]))else .bad)=n (mr (cF d) (s+slots w:Nat) lay (cF d+2)++X) (my t d b lg (cS (nums++ [vW d aM b w s]))):=λ{o n X} h e=>
  (QF (h▸(QO hw).2)).trans ((au (bt (bf (cQ _)) (bt hn (aV rfl)))).trans (I (λz=>n (mr (cF d) (s+slots w:Nat) lay (cF d+2)++X) (my t d b lg z)) (HU.trans (I (λz=>cS (nums++ [z])) e.symm))))
 rcases hh:(!aM&&FA w)with _|_
 ·
  exact #[U (.int (bW w),S "big"),λn q=>(I (λv=>zj v _ _ n q) (adh hh)).trans ((ag9 t d b lg s (bW w) lay x (cS nums) n q).trans ((D8 hb l).trans (fin gl (I numOf (ax λz=>jq (hh.symm.trans z))))))]
 ·
  refine #[U (.int (bW w),S "host"),λn q=>(I (λv=>zj v _ _ n q) (ZH hh)).trans ((adg t d b lg s (bW w) lay x (cS nums) n q).trans ((D8 hb l).trans ?_))];induction hl:d.aP using dj with
  |false=>exact (ax λz=>nomatch z).trans (fin gl ((I numOf (au hh)).trans (I (λl=>numOf (gc l _)) hl)))
  |true=>exact (au rfl).trans ((au ((FC hw (fR.mp hh).2).imp gl.trans gl.trans)).trans (fin (rT.trans gl) ((I numOf (au hh)).trans (I (λl=>numOf (gc l _)) hl))))
theorem adi(hb:J b=64)(aM:Bool)(ao:NN)(hL:∀p∈ao,p.1<17)(rest:NN):∀(i f s:Nat) (x:Option (V×V)) (nums:LN),ao.drop i=rest->fits rest s->J nums+J rest<=100->J rest<f->
  ∃x' s',∀n q,cR zj (It.tup (ao.map λp=>iu p.1 aM)).nx f i (mr (cF d) s (.tup (ao.map λp=>iu p.1 aM)) (cF d+2)++sH x) (my t d b lg (cS nums)) n q=
   n (mr (cF d) s' (.tup (ao.map λp=>iu p.1 aM)) (cF d+2)++sH x') (my t d b lg (cS (nums++reads d aM b rest s))):=by
 induction rest with
 |nil=>
  intro i f s x nums hx _ _ hf;obtain ⟨f,rfl⟩:=jx (gD hf);exact #[x,s,λn q=>(mE (I U (mv (l6 hx)))).trans (I (λz=>n _ (my t d b lg (cS z))) (cL nums).symm)]
 |cons p rest ih=>
  obtain ⟨w,m⟩:=p;intro i f s x nums hx wk hl hf;obtain ⟨f,rfl⟩:=jx (gD (gd (bp _) hf))
  exact (kl_turn hb w (hL (w,m) (u7 hx)) aM s wk.1 (.tup (ao.map λp=>iu p.1 aM)) x nums (bt (cg _ _) hl)).elim λx1 h1=>
   (ih (i+1) f (s+slots w) x1 (nums++ [vW d aM b w s]) (drop_tail hx) wk.2 (bt (bf (I (·+J rest) cx)) (zS hl)) (iM hf)).imp λx2 e=>e.imp λs2 h2 n q=>
    (nq (I U (mv (l6 hx)))).trans ((h1 _ q).trans ((h2 n q).trans (I (λz=>n _ (my t d b lg (cS z))) (cM ..))))
theorem Vw(ao:NN):∀s,J (reads d aM b ao s)=J ao:=by
 induction ao with
 |nil=>exact λG=>rfl
 |cons p r ih=>exact λs=>I jv (ih _)
theorem aha(hb:J b=64)(aM:Bool)(ao:NN)(hL:∀p∈ao,p.1<17)(wk:fits ao 0)(hl:J ao<=50):
  runK P (cn eu 12) (.con (.ref 510)) [.ref 14,.ref (cF d),.int 0,.tup (ao.map λp=>iu p.1 aM)] (bL t d b lg) .ok= .ok (.tup (cS (reads d aM b ao 0))) (my t d b lg (cS (reads d aM b ao 0))):=by
 refine bl λaG=>?_;refine (adi (t:=t) (d:=d) (lg:=lg) hb aM ao hL ao 0 bE 0 u [] rfl wk (bt (bf (kg _)) (bt hl (aV rfl))) (gd hl (bF rfl))).elim λx' hq=>hq.elim λs' h=>?_;refine aG ?_;refine (Bg 1 (i3 (by rfl') rfl) λn=>ag6 t d b lg 0 _ n _ _).trans ?_;refine (adf _ _ _ _ _).trans ?_;refine (ag7 _ _ _ _ _ _ _ _).trans ?_;refine (h _ _).trans ?_;exact (ag8 t d b lg _ _ x' _ _ _ _).trans (au (bt (bf ((cQ _).trans (Vw ao 0))) (bt hl (aV rfl))))
end
noncomputable abbrev Ed(xs:LV)(p ag:Int)(sz:LV)(K:LV->RV):RV:=(IE [.lst xs,.int p,.int ag,.ref 0] [.list sz]).k λv O=>match O with
 | [_,.list ds]=>K ds
 |_=>.bad
noncomputable def QP:LV:= [.int 3,.int 2,.int 3,.int 3,.int 5]
noncomputable def oY:LV:= [.int 17,.int 4294967296]
noncomputable def wD(ip aj aq:Bool)(place:Int):SV:= [("family",dT ip),("is_ahead",.bool aj),("place",.int place),("is_ranged",.bool aq)]
noncomputable def wV(k:Nat):List Int:=if k=0 then [5,1,2]else [13+17*16712176,16+17*196609,6]
noncomputable def lA0(xs:LV)(p k:Int):SV:= [("script",.lst xs),("place",.int p),("k",.int k),("world",.ref 0)]
noncomputable def Vx(xs:LV)(p k:Int)(us:V)(op nm sp me ma:V)(pa:Nat):SV:=lA0 xs p k++([("op",op),("name",nm),("span",sp),("meters",me),("many",ma),("usual",us),("parts",.ref pa),("number",.int 2)]:SV)
noncomputable def Vy(k:Nat):V:=.tup ((wV k).map .int)
noncomputable def u5(k:Nat):Int:=if k=0 then 79 else 57
noncomputable abbrev amf(wd:SV)(k:Nat)(d0 d1 d2 d3:LV):L:= [.dict wd,.list [.int 79,.int 57],.list QP,.list d0,.list [.tup [.int 5,.int 1,.int 2],.tup [.int (13+17*16712176),.int (16+17*196609),.int 6]],.list [.tup d1,.tup d2,.tup d3],.list oY,.list d1,.list oY,.list d2,.list oY,.list d3]
theorem ahb(wd:SV)(xs:LV)(p:Int)(k:Nat)(hk:k=0 \/k=1)(n c:KT)(q:QT):cb eu 12 cm (cm.body.take 4) (lA0 xs p k) [.dict wd] n c q=
  Ed xs p (u5 k) QP λd0=>Ed xs (p+1+0) ((wV k).getD 0 0) oY λd1=>Ed xs (p+1+1) ((wV k).getD 1 0) oY λd2=>Ed xs (p+1+2) ((wV k).getD 2 0) oY λd3=>
   n (Vx xs p k (Vy k) (d0.getD 0 .none) (d0.getD 1 .none) (d0.getD 2 .none) (d0.getD 3 .none) (d0.getD 4 .none) 5) (amf wd k d0 d1 d2 d3):=by
 rcases hk with rfl|rfl<;>rfl'
structure N2 where
 m1:MO
 m2:MO
 m3:MO
 m4:MO
 m6:MO
 m7:MO
 m8:MO
 m9:MO
 m10:MO
 m11:MO
noncomputable abbrev stM(wd:SV)(M:N2)(x0 x1 x2:V)(r:L):L:=.dict wd::M.m1::M.m2::M.m3::M.m4:: .list [x0,x1,x2]::M.m6::M.m7::M.m8::M.m9::M.m10::M.m11::r
noncomputable def n9:V:=.tup [.int 9,.int 0]
noncomputable abbrev chS(x0 x1:V)(r:L):L:=.list [x0]:: .list [x0,x1]:: .list [n9]:: .list [n9,n9,n9,n9]:: .list [x0]:: .list [n9]:: .list [n9,n9,n9,n9]:: .list [x0,n9,n9,n9,n9]:: .list [.ref 12,.ref 13,.ref 5,.ref 15,.ref 19]::r
noncomputable def GD:LV:= [S "add",S "update",S "delete"]
noncomputable def vw:LV:= [S "s",S "t"]
noncomputable def GF:LV:= [.int 0,.int 40,.int 1000]
noncomputable def ahc:V:=.tup [S "limit",.bool av,.int 4,S "second",.int 2,.bool av]
noncomputable def GG:LV:= [.tup [],.tup [.tup [S "counter",.int 0,.int 0]],.tup [.tup [S "quota",.bool av,.int 70,.int 0],ahc]]
noncomputable def pI(ma:Nat):Nat:=match ma with|0=>12|1=>13|2=>5|3=>15|_=>19
noncomputable def Vz(o nm tv iv pa bg:V):SV:= [("op",o),("name",nm),("timeout",tv),("inner",iv),("parts",pa),("is_big",bg)]
noncomputable abbrev N3(wd:SV)(M:N2)(x0 x1 x2:V)(D:SV)(g:L):L:=stM wd M x0 x1 x2 (chS x0 x1 (.list GD:: .list vw:: .list GF:: .dict D:: .list GG::g))
noncomputable abbrev HV(xs:LV)(p k:Int)(us:V)(op nm sp me ma:V)(pa:Nat):SV:=Vx xs p k us op nm sp me ma pa++([("about",.ref 24),("limit",ahc)]:SV)
theorem ahd(ip aj aq:Bool)(pl:Int)(M:N2)(x0 x1 x2:V)(xs:LV)(p k:Int)(us:V)(op nm sp me:Int)(ma:Nat)(hm:ma<5)(n c:KT)(q:QT):
  cb eu 12 cm ((cm.body.drop 4).take 6) (Vx xs p k us (.int op) (.int nm) (.int sp) (.int me) (.int ma) 5) (stM (wD ip aj aq pl) M x0 x1 x2 []) n c q=
  ng GD op λo=>ng vw nm λnv=>ng GF sp λtv=>ng GG me λiv=>
   if(nm==0)then n (HV xs p k us (.int op) (.int nm) (.int sp) (.int me) (.int ma) (pI ma)) (N3 (wD ip aj aq pl) M x0 x1 x2 (Vz o nv tv iv (.ref (pI ma)) (.bool aq)) [])
   else n (HV xs p k us (.int op) (.int nm) (.int sp) (.int me) (.int ma) (pI ma)) (N3 (wD ip aj aq pl) M x0 x1 x2 (Vz o nv tv iv (.ref (pI ma)) (.bool av)) []):=by
 match ma,hm with
 |0,_=>rfl'
 |1,_=>rfl'
 |2,_=>rfl'
 |3,_=>rfl'
 |4,_=>rfl'
 |m+5,h=>exact absurd h (dK (fx _ _))
noncomputable def amg:Option dW->aH×aH×bM
 |some (.Assign _ (.ListComp elt [#[t,_,_,_]] bQ _) _)=>(elt,t,bQ)
 |_=>(.Name mK #[0,0,0,0],.Name mK #[0,0,0,0],#[.function,[],av,av,[]])
noncomputable def VA:aH×aH×Scope:=amg (dZ cm 10)
noncomputable abbrev esB(l:LK)(v:V)(O:L)(k:QT):RV:=gr VA.2.2 VA.2.1 v O (vP VA.2.2 l) λl'=>(E eu 12 19).e (pg VA.2.2 cm.scope) l' O VA.1 k
theorem ajW(xs:LV)(p k:Int)(us op nm sp me ma:V)(pa:Nat)(O:L)(n c:KT)(q:QT):
  (E eu 12 20).x cm.scope (HV xs p k us op nm sp me ma pa) O ((dZ cm 10).getD nX) n c q=
  Hp O (.ref pa) λi=>gp (esB (HV xs p k us op nm sp me ma pa)) i.nx bE 0 O λys O=>n (HV xs p k us op nm sp me ma pa++([("es",.ref (J O))]:SV)) (O++ [.list ys]):=by rfl'
theorem adj(xs:LV)(p k:Int)(us op nm sp me ma:V)(pa:Nat)(w n:Int)(O:L)(K:QT):
  esB (HV xs p k us op nm sp me ma pa) (.tup [.int w,.int n]) O K=(Am [.int w,.int n,.int 0,.bool av] O).k λv O=>qP O v (.int 0) λv=>K v O:=by rfl'
theorem ahf(xs:LV)(p k:Int)(us op nm sp me ma:V)(pa e:Nat)(O:L)(q:QT):cb eu 12 cm (cm.body.drop 11) (HV xs p k us op nm sp me ma pa++([("es",.ref e)]:SV)) O (λG O=>q .none O) (λG O=>q .none O) q=
  ei (.builtin "len") [.ref e] O λn O=>bc (cmp O .Eq n (.int 1)) λc=>if c then qP O (.ref e) (.int 0) λv=>bc (setItem (.ref 24) (S "e") v O) λO=>q (.ref 24) O
   else ei (.type "tuple") [.ref e] O λv O=>bc (setItem (.ref 24) (S "e") (.tup [S "concat",v]) O) λO=>q (.ref 24) O:=by rfl'
theorem ZI(l:LK)(O:L)(q:QT):cb eu 12 cm (cm.body.drop 10) l O (λG O=>q .none O) (λG O=>q .none O) q=(E eu 12 20).x cm.scope l O ((dZ cm 10).getD nX) (λl O=>cb eu 12 cm (cm.body.drop 11) l O (λG O=>q .none O) (λG O=>q .none O) q) (λG O=>q .none O) q:=by rfl'
theorem VB(hp:∀g,(O++g)[p]? =U (.list xs))(hB:∀x∈xs,∀g,∃g',B x (O++g) .ok= .ok (f x) (O++g++g'))(rest:LV):
  ∀(i fuel:Nat) (g:L),xs.drop i=rest->J rest<fuel->∃g',∀k,gp B (It.list p).nx fuel i (O++g) k=k (rest.map f) (O++g'):=by
 induction rest with
 |nil=>exact λi fuel g hx hf=>match fuel,hf with
  |fuel+1,_=>#[g,λk=>Se (Nn (hp g) hx)]
 |cons x rest ih=>exact λi fuel g hx hf=>match fuel,hf with
  |fuel+1,hf=>(hB x (u7 hx) g).elim λg1 h1=>(ih (i+1) fuel (g++g1) (drop_tail hx) (iM hf)).imp λg2 h2 k=>(UL (Sd (hp g) hx) (h1.trans (I (Res.ok _) (cM ..)))).trans (h2 _)
theorem AI(hp:O[p]? =U (.list xs))(hl:J xs<=1000)(hB:∀x∈xs,∀g,∃g',B x (O++g) .ok= .ok (f x) (O++g++g')):
  ∃g',∀k,gp B (It.list p).nx bE 0 O k=k (xs.map f) (O++g'):=
 (VB (λg=>(eA (jj hp).1).trans hp) hB xs 0 bE [] rfl (jg hl)).imp λg' h k=>(I (gp B _ _ _ · k) (cL O).symm).trans (h k)
theorem len_list(h:O[i]? =U (.list xs))(hl:J xs<=aR):ei (.builtin "len") [.ref i] O k=k (.int (J xs)) O:=by
 show(match listAt O i with
   |some xs=>if(J xs)<=aR then k (.int (J xs)) O else .bad
   |.none=>match fY O i with
    |some xs=>if(J xs)<=aR then k (.int (J xs)) O else .bad
    |.none=>.bad)=_
 rw [jY h];exact au hl
theorem tuple_list(h:O[i]? =U (.list xs))(hl:J xs<=aR):ei (.type "tuple") [.ref i] O k=k (.tup xs) O:=by
 show(match listAt O i with
   |some xs=>if(J xs)<=aR then k (.tup xs) O else .bad
   |.none=>.bad)=_
 rw [jY h];exact au hl
theorem tQ{n:Nat}(h:xs[n]? =U v)(hn:n<1000000){z:Int}(e:z=n):ng xs z k=k v:=by
 subst e;unfold ng;exact (au #[bV n,qH (iP hn) rfl]).trans (I (bc · k) h)
theorem index_list{n:Nat}(h:O[i]? =U (.list xs))(h2:xs[n]? =U v)(hn:n<1000000){z:Int}(e:z=n):qP O (.ref i) (.int z) k=k v:=by
 show(match listAt O i with
  |some xs=>ng xs z k
  |.none=>match dictAt O i with
   |some kvs=>_
   |.none=>_)=_
 rw [jY h];exact tQ h2 hn e
theorem tR(h:∃s∈BJ,sz=s.map .int)(hp:0<=p)(hl:J xs<=1000)(hx:∀v∈xs,∃z:Int,v= .int z):Ed xs p ag sz K=K (oW sz (i5 xs p ag (kV sz))):= @au _ (oM _) #[h,hp,hl,hx] _ _ _
theorem ahg:∃s∈BJ,QP=s.map .int:=#[[3,2,3,3,5],by decide,rfl]
theorem N4:∃s∈BJ,oY=s.map .int:=#[[17,4294967296],by decide,rfl]
structure j9 where
 op:Nat
 nm:Nat
 sp:Nat
 me:Nat
 ma:Nat
 q0:Nat×Nat
 q1:Nat×Nat
 q2:Nat×Nat
structure j9.Ok(D:j9):Prop where
 op:D.op<3
 nm:D.nm<2
 sp:D.sp<3
 me:D.me<3
 ma:D.ma<5
 q0:D.q0.1<17/\ D.q0.2<256^4
 q1:D.q1.1<17/\ D.q1.2<256^4
 q2:D.q2.1<17/\ D.q2.2<256^4
noncomputable def j9.ps(D:j9):NN:= [[D.q0],[D.q0,D.q1],[D.q0,D.q1,D.q2],[(9,0),(9,0),(9,0),(9,0)]].getD D.ma [D.q0,(9,0),(9,0),(9,0),(9,0)]
noncomputable def Su:LV->V
 | [e]=>e
 |es=>.tup [S "concat",.tup es]
theorem AJ(h:J es≠1):Su es= .tup [S "concat",.tup es]:=by
 match es,h with
 | [],_=>rfl
 | [a],h=>exact absurd rfl h
 |a::b::r,_=>rfl
noncomputable def iH(ps:NN):V:=Su (ps.map λp=>eC p.1 p.2)
noncomputable def j9.ab(D:j9)(aq:Bool):Ab:=#[GD.getD D.op .none,vw.getD D.nm .none,GF.getD D.sp .none,GG.getD D.me .none,iH D.ps,decide (D.nm=0)&&aq]
noncomputable def pairOf(N:Int):Nat×Nat:=((N % 17).toNat,(N/17 % 4294967296).toNat)
noncomputable def gQ(xs:LV)(p:Int)(k:Nat):j9:=
 let N:=i5 xs p (u5 k) 270
 #[(N % 3).toNat,(N/3 % 2).toNat,(N/3/2 % 3).toNat,(N/3/2/3 % 3).toNat,(N/3/2/3/3 % 5).toNat,pairOf (i5 xs (p+1+0) ((wV k).getD 0 0) 73014444032),pairOf (i5 xs (p+1+1) ((wV k).getD 1 0) 73014444032),pairOf (i5 xs (p+1+2) ((wV k).getD 2 0) 73014444032)]
theorem GH(N:Int):(pairOf N).1<17/\ (pairOf N).2<256^4:=#[pT rfl rfl,pT rfl rfl]
theorem wW(xs:LV)(p:Int)(k:Nat):(gQ xs p k).Ok:=
 #[pT rfl rfl,pT rfl rfl,pT rfl rfl,pT rfl rfl,pT rfl rfl,GH _,GH _,GH _]
theorem adk{w n s:Nat}(hw:w<17):(Am [.int w,.int n,.int s,.bool l] O).k K=K (.tup [eC w n,S (jb w),.ref (J O),.int (bW w),S (eE w)]) (O++ [.list (eO w n s l)]):=
 au #[bV w,qH (lK hw) rfl,bV n,bV s]
noncomputable def eF:V->V
 |.tup [.int w,.int n]=>eC w.toNat n.toNat
 |_=>.none
theorem VC(ps:NN):(cO ps).map eF=ps.map λp=>eC p.1 p.2:=lU
theorem GI(N:Int):V.tup (oW oY N)= .tup [.int (pairOf N).1,.int (pairOf N).2]:=qF (λa b=>V.tup [.int a,.int b]) (tw rfl) (tw rfl)
theorem VD{P:Nat->NN->Prop}(D:j9)(a0:P 12 [D.q0])(a1:P 13 [D.q0,D.q1])(a2:P 5 [D.q0,D.q1,D.q2])(a3:P 15 [(9,0),(9,0),(9,0),(9,0)])(a4:P 19 [D.q0,(9,0),(9,0),(9,0),(9,0)]):P (pI D.ma) D.ps:=by
 unfold j9.ps
 match D.ma with
 |0=>exact a0
 |1=>exact a1
 |2=>exact a2
 |3=>exact a3
 |_+4=>exact a4
theorem Sv{D:j9}:(N3 wd M (.tup [.int D.q0.1,.int D.q0.2]) (.tup [.int D.q1.1,.int D.q1.2]) (.tup [.int D.q2.1,.int D.q2.2]) Dd g)[pI D.ma]? =U (.list (cO D.ps)):=
 VD (P:=λi ao=>(N3 wd M (.tup [.int D.q0.1,.int D.q0.2]) (.tup [.int D.q1.1,.int D.q1.2]) (.tup [.int D.q2.1,.int D.q2.2]) Dd g)[i]? =U (.list (cO ao))) D rfl rfl rfl rfl rfl
theorem nu{D:j9}(hD:D.Ok):(∀p∈D.ps,p.1<17/\ p.2<256^4)/\ (J D.ps)<=5/\ 0<J D.ps:=by
 have c:∀{p:Nat×Nat} {ao},p.1<17/\ p.2<256^4->(∀x∈ao,x.1<17/\ x.2<256^4)->∀x∈p::ao,x.1<17/\ x.2<256^4:=λh k=>gE.mpr #[h,k];have z:∀x∈([]:NN),x.1<17/\ x.2<256^4:=λG h=>nomatch h;have q9:((9,0):Nat×Nat).1<17/\ ((9,0):Nat×Nat).2<256^4:=#[bF rfl,bF rfl];exact VD (P:=λG ao=>(∀p∈ao,p.1<17/\ p.2<256^4)/\ (J ao)<=5/\ 0<J ao) D #[c hD.q0 z,aV rfl,bF rfl] #[c hD.q0 (c hD.q1 z),aV rfl,bF rfl] #[c hD.q0 (c hD.q1 (c hD.q2 z)),aV rfl,bF rfl] #[(c q9 (c q9 (c q9 (c q9 z)))),aV rfl,bF rfl] #[c hD.q0 (c q9 (c q9 (c q9 (c q9 z)))),aV rfl,bF rfl]
noncomputable def IH(xs:LV)(p:Int)(k:Nat):N2:=#[.list [.int 79,.int 57],.list QP,.list (oW QP (i5 xs p (u5 k) (kV QP))),.list [.tup [.int 5,.int 1,.int 2],.tup [.int (13+17*16712176),.int (16+17*196609),.int 6]],.list oY,.list (oW oY (i5 xs (p+1+0) ((wV k).getD 0 0) (kV oY))),.list oY,.list (oW oY (i5 xs (p+1+1) ((wV k).getD 1 0) (kV oY))),.list oY,.list (oW oY (i5 xs (p+1+2) ((wV k).getD 2 0) (kV oY)))]
noncomputable def pV(p:Nat×Nat):V:=.tup [.int p.1,.int p.2]
noncomputable def L4(xs:LV)(p:Int)(k:Nat)(D:j9):LK:=Vx xs p k (Vy k) (.int D.op) (.int D.nm) (.int D.sp) (.int D.me) (.int D.ma) 5
noncomputable def L9(xs:LV)(p:Int)(k:Nat)(D:j9):LK:=HV xs p k (Vy k) (.int D.op) (.int D.nm) (.int D.sp) (.int D.me) (.int D.ma) (pI D.ma)
noncomputable def sM(wd:SV)(M:N2)(D:j9):L:=stM wd M (pV D.q0) (pV D.q1) (pV D.q2) []
noncomputable def FE(wd:SV)(M:N2)(D:j9)(Dd:SV)(g:L):L:=N3 wd M (pV D.q0) (pV D.q1) (pV D.q2) Dd g
noncomputable def dD(D:j9)(aq:Bool):SV:=Vz (GD.getD D.op .none) (vw.getD D.nm .none) (GF.getD D.sp .none) (GG.getD D.me .none) (.ref (pI D.ma)) (.bool (decide (D.nm=0)&&aq))
theorem at_getD{ao:LV}(h:i<J ao):ao[i]? =U (ao.getD i .none):=by rw [CM,dS h];rfl
section
variable{ip aj aq:Bool}{pl:Int}{xs:LV}{p:Int}{k:Nat}(hk:k=0 \/k=1)(n c:KT)(q:QT)
include hk
theorem amh(hp:0<=p)(hl:J xs<=1000)(hx:∀v∈xs,∃z:Int,v= .int z):cb eu 12 cm (cm.body.take 4) (lA0 xs p k) [.dict (wD ip aj aq pl)] n c q=
  n (L4 xs p k (gQ xs p k)) (sM (wD ip aj aq pl) (IH xs p k) (gQ xs p k)):=
 (ahb _ xs p k hk n c q).trans ((tR ahg hp hl hx).trans ((tR N4 (Ro hp (Int.le_refl 0)) hl hx).trans ((tR N4 (Ro hp KW) hl hx).trans ((tR N4 (Ro hp (bV 2)) hl hx).trans
  ((aiH (λo nm sp me ma=>n (Vx xs p k (Vy k) (.int o) (.int nm) (.int sp) (.int me) (.int ma) 5) (stM (wD ip aj aq pl) (IH xs p k) (.tup (oW oY (i5 xs (p+1+0) ((wV k).getD 0 0) (kV oY)))) (.tup (oW oY (i5 xs (p+1+1) ((wV k).getD 1 0) (kV oY)))) (.tup (oW oY (i5 xs (p+1+2) ((wV k).getD 2 0) (kV oY)))) []))
   (tw rfl) (tw rfl) (tw rfl) (tw rfl) (tw rfl)).trans (Z9 (λx0 x1 x2=>n (L4 xs p k (gQ xs p k)) (stM (wD ip aj aq pl) (IH xs p k) x0 x1 x2 [])) (GI _) (GI _) (GI _)))))))
end
section
variable{ip aj aq:Bool}{pl:Int}{xs:LV}{p:Int}{k:Nat}{D:j9}(hD:D.Ok){M:N2}(n c:KT)(q:QT)
include hD
theorem ami:cb eu 12 cm ((cm.body.drop 4).take 6) (L4 xs p k D) (sM (wD ip aj aq pl) M D) n c q=n (L9 xs p k D) (FE (wD ip aj aq pl) M D (dD D aq) []):=by
 have lt:∀{i:Nat},i<5->i<1000000:=λh=>gG h (aV rfl)
 refine (ahd ip aj aq pl M _ _ _ xs p k (Vy k) D.op D.nm D.sp D.me D.ma hD.ma n c q).trans ((tQ (at_getD hD.op) (lt (gG hD.op (aV rfl))) rfl).trans ((tQ (at_getD hD.nm) (lt (gG hD.nm (aV rfl))) rfl).trans
  ((tQ (at_getD hD.sp) (lt (gG hD.sp (aV rfl))) rfl).trans ((tQ (at_getD hD.me) (lt (gG hD.me (aV rfl))) rfl).trans ?_))))
 by_cases h0:D.nm=0
 ·exact (au (dX.mpr (I qc h0))).trans (I (λb=>n (L9 xs p k D) (FE (wD ip aj aq pl) M D (Vz _ _ _ _ _ (.bool b)) [])) (I (·&&aq) (dC h0)).symm)
 ·exact (ax λz=>h0 (kK (dX.mp z))).trans (I (λb=>n (L9 xs p k D) (FE (wD ip aj aq pl) M D (Vz _ _ _ _ _ (.bool b)) [])) (I (·&&aq) (fy h0)).symm)
theorem amj:∃g',∀K,gp (esB (L9 xs p k D)) (It.list (pI D.ma)).nx bE 0 (FE (wD ip aj aq pl) M D Dd []) K=K ((cO D.ps).map eF) (FE (wD ip aj aq pl) M D Dd g'):=
 AI Sv (bt (bf (cQ _)) (bt (nu hD).2.1 (aV rfl))) λx hxm g=>by
  obtain ⟨w,hq,rfl⟩:=iR.mp hxm;exact #[[.list (eO w.1 w.2 0 av)],(adj xs p k _ _ _ _ _ _ _ w.1 w.2 _ .ok).trans (adk ((nu hD).1 w hq).1)]
theorem amk(hd:Dd=dD D aq)(q:QT):cb eu 12 cm (cm.body.drop 11) (L9 xs p k D++([("es",.ref (J (FE (wD ip aj aq pl) M D Dd g')))]:SV)) (FE (wD ip aj aq pl) M D Dd g'++ [.list ((cO D.ps).map eF)]) (λG O=>q .none O) (λG O=>q .none O) q=
  q (.ref 24) (FE (wD ip aj aq pl) M D (dD D aq++([("e",iH D.ps)]:SV)) (g'++ [.list ((cO D.ps).map eF)])):=by
 subst hd;have VE:J ((cO D.ps).map eF)=J D.ps:=(cQ _).trans (cQ _);refine (ahf ..).trans ((len_list ff (VE▸bt (nu hD).2.1 (aV rfl))).trans ?_);by_cases h1:J D.ps=1
 ·obtain ⟨pq,e1⟩:=CV.mp h1
  have e0:((cO D.ps).map eF)[0]? =U (iH D.ps):=by rw [(VC D.ps)];unfold iH;rw [e1];rfl
  exact (au (dX.mpr (I qc (VE.trans h1)))).trans (index_list ff e0 (bF rfl) rfl)
 ·refine (ax λz=>h1 (VE.symm.trans (kK (dX.mp z)))).trans ((tuple_list ff (VE▸bt (nu hD).2.1 (aV rfl))).trans ?_)
  have e2:iH D.ps= .tup [S "concat",.tup ((cO D.ps).map eF)]:=(I Su (VC D.ps).symm).trans (AJ λz=>h1 (VE.symm.trans z));rw [e2]
  rfl
end
theorem ahh(ip aj aq:Bool)(pl:Int)(xs:LV)(p:Int)(k:Nat)(hk:k=0 \/k=1)(hp:0<=p)(hl:J xs<=1000)(hx:∀v∈xs,∃z:Int,v= .int z):
  ∃aZ,runK P (cn eu 12) (.con (.ref 646)) [.lst xs,.int p,.int k,.ref 0] [.dict (wD ip aj aq pl)] .ok= .ok (.ref 24) aZ/\ aZ[0]? =U (.dict (wD ip aj aq pl))/\
   aZ[24]? =U (.dict (dR ((gQ xs p k).ab aq) (pI (gQ xs p k).ma)))/\ aZ[pI (gQ xs p k).ma]? =U (.list (cO (gQ xs p k).ps)):=by
 have split:∀{a b:LT} {l O n c q},cb eu 12 cm (a++b) l O n c q=cb eu 12 cm a l O (λl O=>cb eu 12 cm b l O n c q) c q:=kR;obtain ⟨g',tn⟩:=amj (wW xs p k);refine #[FE (wD ip aj aq pl) (IH xs p k) (gQ xs p k) (dD (gQ xs p k) aq++([("e",iH (gQ xs p k).ps)]:SV)) (g'++ [.list ((cO (gQ xs p k).ps).map eF)]),(i3 (D:=cm) (l0:=lA0 xs p k) (by rfl') rfl).trans ?_,rfl,rfl,Sv];exact (split (a:=cm.body.take 4)).trans ((amh hk _ _ _ hp hl hx).trans ((split (a:=(cm.body.drop 4).take 6)).trans ((ami (wW xs p k) _ _ _).trans ((ZI _ _ .ok).trans ((ajW xs p k _ _ _ _ _ _ _ _ _ _ _).trans ((y7 Sv).trans ((tn _).trans (amk (wW xs p k) rfl .ok))))))))
noncomputable def BK:LV:= [.int 6,.int 3,.int 4294967296]
noncomputable def lF0(xs:LV)(p ag:Int)(ip:Bool):SV:= [("script",.lst xs),("place",.int p),("usual",.int ag),("family",dT ip)]
noncomputable def QQ(xs:LV)(p ag:Int)(ip:Bool)(ki ta dg:V):SV:=lF0 xs p ag ip++([("kind",ki),("talk",ta),("digit",dg)]:SV)
noncomputable def vy(xs:LV)(p ag:Int)(ip:Bool)(ki:Nat)(ta dg:Int):SV:=QQ xs p ag ip (.int ki) (.int ta) (.int dg)++([("octets",.ref 2)]:SV)
theorem ahj(xs:LV)(p ag:Int)(ip:Bool)(n c:KT)(q:QT):cb eu 12 bZ (bZ.body.take 1) (lF0 xs p ag ip) [] n c q=
  Ed xs p ag BK λd=>n (QQ xs p ag ip (d.getD 0 .none) (d.getD 1 .none) (d.getD 2 .none)) [.list BK,.list d]:=by rfl'
noncomputable def wX(ip:Bool)(ki:Nat):Nat:=if ip&&ki==4 then 5 else ki
noncomputable def zm(ki:Nat):Int:=if ki=4 then 96 else 69
noncomputable abbrev nJ(m1:MO)(os:LV)(r:L):L:=.list BK::m1:: .list os::r
theorem adl(xs:LV)(p ag:Int)(ip:Bool)(ki:Nat)(hk:ki<6)(ta dg:Int)(m1:MO)(n c:KT)(q:QT):cb eu 12 bZ ((bZ.body.drop 1).take 2) (QQ xs p ag ip (.int ki) (.int ta) (.int dg)) [.list BK,m1] n c q=
  n (vy xs p ag ip (wX ip ki) ta dg) (nJ m1 [.int (zm (wX ip ki))] []):=by
 rcases ip with⟨⟩
 ·exact mV (f:=λki=>cb eu 12 bZ ((bZ.body.drop 1).take 2) (QQ xs p ag av (.int ki) (.int ta) (.int dg)) [.list BK,m1] n c q) (g:=λki=>n (vy xs p ag av (wX av ki) ta dg) (nJ m1 [.int (zm (wX av ki))] [])) (by rfl') hk
 ·exact mV (f:=λki=>cb eu 12 bZ ((bZ.body.drop 1).take 2) (QQ xs p ag ai (.int ki) (.int ta) (.int dg)) [.list BK,m1] n c q) (g:=λki=>n (vy xs p ag ai (wX ai ki) ta dg) (nJ m1 [.int (zm (wX ai ki))] [])) (by rfl') hk
noncomputable def jQ:LV:= [.int 40,.int 28,.int 30,.int 36,.int 60,.int 28]
noncomputable def qu(ki:Nat):Nat:=match ki with|0=>40|1=>28|2=>30|3=>36|4=>60|_=>28
noncomputable abbrev fB:aH×LT:=kZ (dZ bZ 3)
noncomputable abbrev fBody(v:V)(l:LK)(O:L)(n:KT)(q:QT):RV:=dA eu 12 19 bZ.scope fB v l O n q
theorem ahk(xs:LV)(p ag:Int)(ip:Bool)(ki:Nat)(hk:ki<6)(ta dg:Int)(m1:MO)(os:LV)(n c:KT)(q:QT):(E eu 12 20).x bZ.scope (vy xs p ag ip ki ta dg) (nJ m1 os []) ((dZ bZ 3).getD nX) n c q=
  cR fBody (It.ee 1 (qu ki:Nat)).nx bE 0 (vy xs p ag ip ki ta dg) (nJ m1 os [.list jQ]) n q:=by
 match ki,hk with
 |0,_|1,_|2,_|3,_|4,_|5,_=>rfl'
 |k+6,h=>exact absurd h (dK (fx _ _))
theorem ajX(l:LK)(O:L)(n c:KT)(q:QT):cb eu 12 bZ (bZ.body.drop 3) l O n c q=(E eu 12 20).x bZ.scope l O ((dZ bZ 3).getD nX) (λl O=>cb eu 12 bZ (bZ.body.drop 4) l O n c q) c q:=by rfl'
noncomputable def qZ(a:String)(x:Option V):SV:=match x with|none=> []|some v=> [(a,v)]
theorem adm(xs:LV)(p ag:Int)(ip:Bool)(ki:Nat)(ta dg:Int)(m1:MO)(os:LV)(k:Int)(x:Option V)(n:KT)(q:QT):fBody (.int k) (vy xs p ag ip ki ta dg++qZ "k" x) (nJ m1 os [.list jQ]) n q=
  gM .Mult k k λkk=>gM .Mult dg (kk+3*k+1) λz=>if(J os)<=aR then n (vy xs p ag ip ki ta dg++qZ "k" (U (.int k))) (nJ m1 (os++ [.int ((41+73*k+z) % 256)]) [.list jQ])else .bad:=by
 rcases x with _|y<;>rfl'
noncomputable def zH(xs:LV)(p ag:Int)(ip:Bool)(ki:Nat)(ta dg:Int)(k:V)(wh:Int):SV:=vy xs p ag ip ki ta dg++([("k",k),("whole",.int wh)]:SV)
noncomputable abbrev gB:aH×LT:=kZ (dZ bZ 5)
noncomputable abbrev FF(v:V)(l:LK)(O:L)(n:KT)(q:QT):RV:=dA eu 12 19 bZ.scope gB v l O n q
theorem ahl(xs:LV)(p ag:Int)(ip:Bool)(ki:Nat)(ta dg:Int)(m1:MO)(os:LV)(k:V)(n c:KT)(q:QT):cb eu 12 bZ ((bZ.body.drop 4).take 2) (vy xs p ag ip ki ta dg++qZ "k" (U k)) (nJ m1 os [.list jQ]) n c q=
  cR FF (It.list 2).nx bE 0 (zH xs p ag ip ki ta dg k 0) (nJ m1 os [.list jQ]) n q:=by rfl'
theorem adn(xs:LV)(p ag:Int)(ip:Bool)(ki:Nat)(ta dg:Int)(k:V)(wh o:Int)(O:L)(x:Option V)(n:KT)(q:QT):FF (.int o) (zH xs p ag ip ki ta dg k wh++qZ "octet" x) O n q=n (zH xs p ag ip ki ta dg k (256*wh+o)++qZ "octet" (U (.int o))) O:=by
 rcases x with _|y<;>rfl'
noncomputable def fD1(b:U8)(wh bi:Int)(ki:Nat):SV:= [("octets",.bytes b),("whole",.int wh),("bits",.int bi),("kind",.int ki)]
theorem ado(xs:LV)(p ag:Int)(ip:Bool)(ki:Nat)(ta dg:Int)(k:V)(wh:Int)(m1:MO)(os:LV)(o:V)(n c:KT)(q:QT):cb eu 12 bZ ((bZ.body.drop 6).take 1) (zH xs p ag ip ki ta dg k wh++qZ "octet" (U o)) (nJ m1 os [.list jQ]) n c q=
  bc (bytesOf os) λb=>if(J b)<=aR then(if(J os)<=aR then n (zH xs p ag ip ki ta dg k wh++(qZ "octet" (U o)++([("facts",.ref 4)]:SV))) (nJ m1 os [.list jQ,.dict (fD1 b wh (8*((J os):Int)) ki)])else .bad)else .bad:=by rfl'
noncomputable def fg(ki:Nat):LV:=match ki with|0=> [S "ip",S "tcp"]|1=> [S "ip",S "udp"]|2=> [S "ip",S "tcp"]|3=> [S "ip"]|4=> [S "ip6",S "tcp"]|_=> [S "ip",S "icmp"]
noncomputable def FG(ki:Nat):Int:=match ki with|0=>6|1=>17|2=>6|3=>6|4=>6|_=>1
noncomputable def zo(ki:Nat):Int:=match ki with|0=>20|1=>20|2=>20|3=> -1|4=>40|_=>20
noncomputable def HW(ta:Nat)(x s:Int):V:=match ta with|0=>.tup [.none,.none]|1=>.tup [.int x,.int s]|_=>.tup [.int 2712847316,.none]
noncomputable def fD2(b:U8)(wh bi:Int)(ki:Nat)(h:Nat)(mk ii:Int)(tk:V):SV:= [("octets",.bytes b),("whole",.int wh),("bits",.int bi),("kind",.int ki),("heads",.ref h),("l4",.int (FG ki)),("off",.int (zo ki)),("mark",.int mk),("iiftype",.int ii),("talk",tk)]
theorem ahn(xs:LV)(p ag:Int)(ip:Bool)(ki:Nat)(hk:ki<6)(ta:Nat)(ht:ta<3)(dg:Int)(k:V)(wh bi:Int)(m1:MO)(os:LV)(o:V)(b:U8):
  jm eu 12 bZ 7 (zH xs p ag ip ki ta dg k wh++(qZ "octet" (U o)++([("facts",.ref 4)]:SV))) (nJ m1 os [.list jQ,.dict (fD1 b wh bi ki)])=
  gM .Mult dg 2654435761 λz1=>gM .Mult dg 25173 λz2=>gM .Mult dg 2246822507 λz3=>gM .BitXor 2712847316 dg λz4=>
   .ok (.ref 4) (nJ m1 os [.list jQ,.dict (fD2 b wh bi ki (5+ki) ((z1+16909060) % 4294967296) ((z2+280) % 65536) (HW ta z4 ((z3+167772161) % 4294967296))),.list (fg 0),.list (fg 1),.list (fg 2),.list (fg 3),.list (fg 4),.list (fg 5),.list [.ref 5,.ref 6,.ref 7,.ref 8,.ref 9,.ref 10],
    .list [.int 6,.int 17,.int 6,.int 6,.int 6,.int 1],.list [.int 20,.int 20,.int 20,.int (-1),.int 40,.int 20],.list [HW 0 z4 0,HW 1 z4 ((z3+167772161) % 4294967296),HW 2 z4 0]]):=by
 match ki,hk,ta,ht with
 |0,_,0,_|1,_,0,_|2,_,0,_|3,_,0,_|4,_,0,_|5,_,0,_=>rfl'
 |0,_,1,_|1,_,1,_|2,_,1,_|3,_,1,_|4,_,1,_|5,_,1,_=>rfl'
 |0,_,2,_|1,_,2,_|2,_,2,_|3,_,2,_|4,_,2,_|5,_,2,_=>rfl'
 |k+6,h,_,_=>exact absurd h (dK (fx _ _))
 |_,_,t+3,h=>exact absurd h (dK (fx _ _))
noncomputable def ZJ(dg k:Nat):Nat:=(41+73*k+dg*(k*k+3*k+1)) % 256
noncomputable def ny(ki dg m:Nat):LN:=(zm ki).toNat::(cC m).map λi=>ZJ dg (i+1)
theorem AK:J (ny ki dg m)=m+1:=I jv ((cQ _).trans lV)
theorem Sw:ny ki dg (i+1)=ny ki dg i++ [ZJ dg (i+1)]:=I ((zm ki).toNat::·) ((I (ya λi=>ZJ dg (i+1)) List.range_succ).trans oB)
theorem VF{a b:Nat}(h:a<2^64 \/b<2^64):gM .Mult (a:Int) (b:Int) k=k ((a*b:Nat):Int):=
 (au (c:=(a:Int).natAbs<2^64 \/(b:Int).natAbs<2^64) h).trans (I k (Int.natCast_mul a b).symm)
theorem Bq{a b:Nat}(e:z=(b:Int))(h:a<2^64 \/b<2^64):gM .Mult (a:Int) z k=k ((a*b:Nat):Int):=e▸VF h
theorem wY(ki:Nat)(h:ki<6):1<qu ki/\ qu ki<=60:=#[zM (f:=λG=>2) (by rfl') h,zM (g:=λG=>60) (by rfl') h]
theorem aho(h:i+1<n):(It.ee 1 (n:Nat)).nx O i=U (U (.int ((i+1:Nat):Int))):=
 I U ((au (gG (Nat.lt_sub_of_add_lt h) (bf (K4 n 1).symm))).trans (I (λz=>U (V.int z)) (C7 1 i)))
theorem adp(h:n<=i+1):(It.ee 1 (n:Nat)).nx O i=U none:=I U (ax λz=>dK (Nat.sub_le_of_le_add h) (gG z (bf (K4 n 1))))
section
variable{xs:LV}{p ag:Int}{ip:Bool}{ki:Nat}{ta:Int}{dg:Nat}{m1:MO}
theorem adq(AL:ki<6)(N5:dg<2^32)(r:Nat):∀(i:Nat) (f:Nat) (x:Option V),i+r+1=qu ki->r<f->(r=0->∃v,x=U v)->
  ∃v,∀n q,cR fBody (It.ee 1 (qu ki:Nat)).nx f i (vy xs p ag ip ki ta dg++qZ "k" x) (nJ m1 (cS (ny ki dg i)) [.list jQ]) n q=
   n (vy xs p ag ip ki ta dg++qZ "k" (U v)) (nJ m1 (cS (ny ki dg (i+r))) [.list jQ]):=by
 induction r with
 |zero=>
  intro i f x hi hf hx;obtain ⟨f,rfl⟩:=jx (gD hf);obtain ⟨v,rfl⟩:=hx rfl;exact #[v,λn q=>mE (adp (bf hi.symm))]
 |succ r ih=>
  intro i f x hi hf _;obtain ⟨f,rfl⟩:=jx (gD (gd (bp _) hf))
  exact (ih (i+1) f (U (.int ((i+1:Nat):Int))) ((I (·+1) (kF i 1 r)).trans hi) (iM hf) λG=>#[_,rfl]).imp λv h1 n q=>
   (nq (aho (gG (jg (cg (i+1) r)) (bf ((I (·+1) (kF i 1 r)).trans hi))))).trans ((adm xs p ag ip ki ta dg m1 _ ((i+1:Nat):Int) x _ q).trans ((VF (.inl (gd (bt (iP (gG (jg (cg (i+1) r)) (bf ((I (·+1) (kF i 1 r)).trans hi)))) (wY ki AL).2) (bF rfl)))).trans ((Bq rfl (.inl (gG N5 (aV rfl)))).trans
    ((au (bt (bf ((cQ _).trans AK)) (bt (bt (iP (gG (jg (cg (i+1) r)) (bf ((I (·+1) (kF i 1 r)).trans hi)))) (wY ki AL).2) (aV rfl)))).trans ((I (λl=>cR fBody (It.ee 1 (qu ki:Nat)).nx f (i+1) (vy xs p ag ip ki ta dg++qZ "k" (U (.int ((i+1:Nat):Int)))) (nJ m1 l [.list jQ]) n q) ((HU).trans (I cS Sw.symm))).trans
     ((h1 n q).trans (I (λj=>n (vy xs p ag ip ki ta dg++qZ "k" (U v)) (nJ m1 (cS (ny ki dg j)) [.list jQ])) (aae rfl))))))))
end
theorem kS(i:Nat):cb t m D B l O n c q=cb t m D (B.take i) l O (λl O=>cb t m D (B.drop i) l O n c q) c q:=
 (I (λB=>cb t m D B l O n c q) (iS i B).symm).trans kR
theorem c6{P:Nat->Prop}(h:k<6)(a0:P 0)(a1:P 1)(a2:P 2)(a3:P 3)(a4:P 4)(a5:P 5):P k:=
 match e:k with
 |0=>a0|1=>a1|2=>a2|3=>a3|4=>a4|5=>a5
 |n+6=>absurd h (dK (fx 6 n))
noncomputable def jT(ki dg:Nat):U8:=(ny ki dg (qu ki - 1)).map (·.toUInt8)
theorem N6(ki dg m:Nat):∀x∈ny ki dg m,x<256:=gE.mpr #[by unfold zm;split<;>exact bF rfl,λx hx=>(iR.mp hx).elim λi z=>z.2▸dH _ (bF rfl)]
theorem VG(pre:U8)(o:UInt8):numOf (pre++ [o])=256*numOf pre+o.toNat:=CS.trans (I (·+o.toNat) (oy ..))
section
variable{xs:LV}{p ag:Int}{ip:Bool}{ki:Nat}{ta:Int}{dg:Nat}{m1:MO}
theorem ads(kv:V)(ns:LN)(wC:∀x∈ns,x<256)(rest:LN):∀(i f:Nat) (x:Option V),ns.drop i=rest->J rest<f->(rest= []->∃v,x=U v)->
  ∃o,∀n q,cR FF (It.list 2).nx f i (zH xs p ag ip ki ta dg kv (numOf ((ns.take i).map (·.toUInt8)):Nat)++qZ "octet" x) (nJ m1 (cS ns) [.list jQ]) n q=
   n (zH xs p ag ip ki ta dg kv (numOf (ns.map (·.toUInt8)):Nat)++qZ "octet" (U o)) (nJ m1 (cS ns) [.list jQ]):=by
 induction rest with
 |nil=>
  intro i f x hx hf h;obtain ⟨f,rfl⟩:=jx (gD hf);obtain ⟨o,rfl⟩:=h rfl;exact #[o,λn q=>(mE (Nn rfl (l6 hx))).trans (I (λl:LN=>n (zH xs p ag ip ki ta dg kv (numOf (l.map (·.toUInt8)):Nat)++qZ "octet" (U o)) _) (xV (C0.mp hx)))]
 |cons a rest ih=>
  intro i f x hx hf _;obtain ⟨f,rfl⟩:=jx (gD (gd (bp _) hf))
  have e2:256*numOf ((ns.take i).map (·.toUInt8))+a=numOf ((ns.take (i+1)).map (·.toUInt8)):=by
   simp only [List.take_add_one,mv hx,oB];exact ((VG _ _).trans (I (256*numOf ((ns.take i).map (·.toUInt8))+·) ((dY a).trans (iO (wC a (u7 hx)))))).symm
  exact (ih (i+1) f (U (.int (a:Nat))) (drop_tail hx) (iM hf) λG=>#[_,rfl]).imp λo h1 n q=>
   (nq (Sd rfl (l6 hx))).trans ((adn xs p ag ip ki ta dg kv (numOf ((ns.take i).map (·.toUInt8)):Nat) (a:Nat) (nJ m1 (cS ns) [.list jQ]) x (λl O=>cR FF (It.list 2).nx f (i+1) l O n q) q).trans ((I (λm:Nat=>cR FF (It.list 2).nx f (i+1) (zH xs p ag ip ki ta dg kv (m:Int)++qZ "octet" (U (.int (a:Nat)))) (nJ m1 (cS ns) [.list jQ]) n q) e2).trans (h1 n q)))
end
structure gR where
 ki:Nat
 ta:Nat
 dg:Nat
structure gR.Ok(F:gR)(ip:Bool):Prop where
 ki:F.ki<6
 ta:F.ta<3
 dg:F.dg<2^32
 ip:ip=ai->F.ki≠4
noncomputable def gR.sc(F:gR)(aP:Bool):Sc:=⟨decide (F.ki=4),jT F.ki F.dg,FG F.ki,zo F.ki,(F.dg*2654435761+16909060) % 4294967296,(F.dg*25173+280) % 65536,
 match F.ta with|0=>u|1=>U (2712847316^^^F.dg,U ((F.dg*2246822507+167772161) % 4294967296))|_=>U (2712847316,u),aP⟩
noncomputable def gR.dict(F:gR)(h:Nat):SV:=fD2 (jT F.ki F.dg) (numOf (jT F.ki F.dg):Nat) ((8*(J (jT F.ki F.dg)):Nat):Int) F.ki h ((F.dg*2654435761+16909060) % 4294967296:Nat) ((F.dg*25173+280) % 65536:Nat) (HW F.ta (2712847316^^^F.dg:Nat) ((F.dg*2246822507+167772161) % 4294967296:Nat))
noncomputable def fL(xs:LV)(p ag:Int)(ip:Bool):gR:=
 let N:=i5 xs p ag 77309411328
 #[wX ip (N % 6).toNat,(N/6 % 3).toNat,(N/6/3 % 4294967296).toNat]
theorem VH(h:x<6):wX ip x<6/\ (ip=ai->wX ip x≠4):=by
 rcases ip with _|_
 ·exact #[h,λe=>nomatch e]
 ·exact c6 (P:=λx=>wX ai x<6/\ (ai=ai->wX ai x≠4)) h (by decide) (by decide) (by decide) (by decide) (by decide) (by decide)
theorem FH(xs:LV)(p ag:Int)(ip:Bool):(fL xs p ag ip).Ok ip:=
 #[(VH (pT rfl rfl:(i5 xs p ag 77309411328 % 6).toNat<6)).1,pT rfl rfl,pT rfl rfl,(VH (pT rfl rfl:(i5 xs p ag 77309411328 % 6).toNat<6)).2]
theorem Ee(ki dg:Nat)(h:ki<6):J (jT ki dg)=qu ki:=(cQ _).trans (AK.trans (Kk (iP (wY ki h).1)))
theorem adt{a b:Nat}(e:z=(a:Int)):gM .BitXor z (b:Int) k=k ((a^^^b:Nat):Int):=e▸au (c:=0<=(a:Int)/\ 0<=(b:Int)) (e:=Res.bad) #[bV a,bV b]
theorem ajY(hk:ki<6){e:MO}:(a::b::c::d::e:: .list (fg 0):: .list (fg 1):: .list (fg 2):: .list (fg 3):: .list (fg 4):: .list (fg 5)::r)[5+ki]? =U (.list (fg ki)):=
 c6 (P:=λki=>(a::b::c::d::e:: .list (fg 0):: .list (fg 1):: .list (fg 2):: .list (fg 3):: .list (fg 4):: .list (fg 5)::r)[5+ki]? =U (.list (fg ki))) hk rfl rfl rfl rfl rfl rfl
theorem ahp:∃s∈BJ,BK=s.map .int:=#[[6,3,4294967296],by decide,rfl]
theorem ZK(ki:Nat):((zm ki).toNat:Int)=zm ki:=by unfold zm;split<;>rfl
theorem ahq(xs:LV)(p ag:Int)(ip:Bool)(hp:0<=p)(hl:J xs<=1000)(hx:∀v∈xs,∃z:Int,v= .int z):
  ∃aZ,runK P (cn eu 12) (.con (.ref 667)) [.lst xs,.int p,.int ag,dT ip] [] .ok= .ok (.ref 4) aZ/\ aZ[4]? =U (.dict ((fL xs p ag ip).dict (5+(fL xs p ag ip).ki)))/\ aZ[5+(fL xs p ag ip).ki]? =U (.list (fg (fL xs p ag ip).ki)):=by
 have hF:=FH xs p ag ip;have o2:(fL xs p ag ip).dg=(i5 xs p ag 77309411328/6/3 % 4294967296).toNat:=rfl;have o0:wX ip (i5 xs p ag 77309411328 % 6).toNat=(fL xs p ag ip).ki:=rfl;have o1:(fL xs p ag ip).ta=(i5 xs p ag 77309411328/6 % 3).toNat:=rfl;generalize fL xs p ag ip=F at*;obtain ⟨ki,ta,dg⟩:=F;obtain ⟨AL,hta,N5,pP⟩:=hF;dsimp only at o0 o1 o2 AL hta N5 pP⊢
 let m1:MO:=.list (oW BK (i5 xs p ag (kV BK)))
 have hlen:=wY ki AL
 have pre:∀n c q,cb eu 12 bZ (bZ.body.take 3) (lF0 xs p ag ip) [] n c q=n (vy xs p ag ip ki ta dg) (nJ m1 (cS (ny ki dg 0)) []):=λn c q=>
  (kS 1).trans ((ahj xs p ag ip _ _ _).trans ((tR ahp hp hl hx).trans
   ((Z9 (λa b d=>cb eu 12 bZ ((bZ.body.drop 1).take 2) (QQ xs p ag ip (.int a) (.int b) (.int d)) [.list BK,m1] n c q) (tw (N:=i5 xs p ag 77309411328) rfl) (Rh o1 rfl) (Rh o2 rfl)).trans
    ((adl xs p ag ip (i5 xs p ag 77309411328 % 6).toNat (pT rfl rfl) ta dg m1 _ _ _).trans (o0▸I (λz=>n (vy xs p ag ip (wX ip (i5 xs p ag 77309411328 % 6).toNat) ta dg) (nJ m1 [.int z] [])) (ZK _).symm)))))
 refine bl λaG=>?_;obtain ⟨kv,lp⟩:=adq AL N5 (qu ki - 1) 0 bE u ((I (·+1) (kg _)).trans (Kk (iP hlen.1))) (gd (Kl hlen.2 1) (bF rfl)) λz=>absurd z (gD (Nat.sub_pos_of_lt hlen.1));rw [kg]at lp;obtain ⟨o,gl⟩:=ads kv (ny ki dg (qu ki - 1)) (N6 ki dg _) _ 0 bE u rfl (gd (bf AK) (gd (mM (Kl hlen.2 1)) (bF rfl))) (λe=>nomatch e);refine aG ?_
 exact ⟨_,(i3 (by rfl') rfl).trans ((kS 3).trans ((pre _ _ _).trans ((ajX _ _ _ _ _).trans ((ahk xs p ag ip ki AL ta dg m1 _ _ _ _).trans ((lp _ _).trans ((kS 2).trans ((ahl xs p ag ip ki ta dg m1 _ kv _ _ _).trans ((gl _ _).trans ((kS 1).trans
  ((ado xs p ag ip ki ta dg kv _ m1 _ o _ _ _).trans ((I (bc · _) (Ak (N6 ki dg _))).trans ((au ((Ee ki dg AL)▸bt hlen.2 (aV rfl):J (jT ki dg)<=aR)).trans ((au (((cQ _).trans (cQ _).symm:J (cS (ny ki dg (qu ki - 1)))=J (jT ki dg))▸((Ee ki dg AL)▸bt hlen.2 (aV rfl):J (jT ki dg)<=aR))).trans
   (Eq.trans (b:=jm eu 12 bZ 7 (zH xs p ag ip ki ta dg kv (numOf (jT ki dg):Nat)++(qZ "octet" (U o)++([("facts",.ref 4)]:SV))) (nJ m1 (cS (ny ki dg (qu ki - 1))) [.list jQ,.dict (fD1 (jT ki dg) (numOf (jT ki dg):Nat) (8*(((J (jT ki dg)):Nat):Int)) ki)])) (I (λn:Nat=>jm eu 12 bZ 7 (zH xs p ag ip ki ta dg kv (numOf (jT ki dg):Nat)++(qZ "octet" (U o)++([("facts",.ref 4)]:SV))) (nJ m1 (cS (ny ki dg (qu ki - 1))) [.list jQ,.dict (fD1 (jT ki dg) (numOf (jT ki dg):Nat) (8*(n:Int)) ki)])) ((cQ _).trans (cQ _).symm:J (cS (ny ki dg (qu ki - 1)))=J (jT ki dg)))
    ((ahn xs p ag ip ki AL ta hta dg kv (numOf (jT ki dg):Nat) (8*(((J (jT ki dg)):Nat):Int)) m1 (cS (ny ki dg (qu ki - 1))) o (jT ki dg)).trans ((Bq rfl (.inl (gG N5 (aV rfl)))).trans ((Bq rfl (.inl (gG N5 (aV rfl)))).trans ((Bq rfl (.inl (gG N5 (aV rfl)))).trans (adt rfl))))))))))))))))))),rfl,ajY AL⟩
theorem aml:4294967296=256^4:=by rfl
theorem ajZ(h:dg<2^32):2712847316^^^dg<256^4:=xS (bF rfl) h
section
variable{F:gR}{ip:Bool}(h:F.Ok ip)(l:Bool)
include h
theorem aj0(e:(F.sc l).tk=U (mk,src)):mk<256^4/\ ∀x,src=U x->x<256^4:=by
 obtain ⟨ki,ta,dg⟩:=F
 match ta,e with
 |0,e=>exact dG e
 |1,e=>exact #[Eq.subst (motive:=(·<256^4)) (I DI (bh e)) (ajZ h.dg),λx hx=>bh ((I DJ (bh e)).trans hx)▸gG (dH _ (kI _)) (bf aml)]
 |_+2,e=>exact #[Eq.subst (motive:=(·<256^4)) (I DI (bh e)) (bF rfl:2712847316<256^4),λx hx=>nomatch(I DJ (bh e)).trans hx]
theorem aj1:(F.sc l).Ok where
 oc:=aah (Ee F.ki F.dg h.ki) (bt (wY F.ki h.ki).2 (aV rfl))
 mark:=dH _ (bF rfl)
 c8:=dH _ (bF rfl)
 tk:=λG G=>aj0 h l
 l4:=c6 (P:=λk=>FG k=1 \/FG k=6 \/FG k=17) h.ki (.inr (.inl rfl)) (.inr (.inr rfl)) (.inr (.inl rfl)) (.inr (.inl rfl)) (.inr (.inl rfl)) (.inl rfl)
 off:=c6 (P:=λk=>zo k= -1 \/zo k=20 \/zo k=40) h.ki (.inr (.inl rfl)) (.inr (.inl rfl)) (.inr (.inl rfl)) (.inl rfl) (.inr (.inr rfl)) (.inr (.inl rfl))
theorem aj2:(F.sc l).off=40->(F.sc l).l4=6:=c6 (P:=λk=>zo k=40->FG k=6) h.ki (λG=>rfl) (λe=>absurd e (by decide)) (λG=>rfl) (λG=>rfl) (λG=>rfl) λe=>absurd e (by decide)
theorem ahr:ip=ai->(F.sc l).six=false:=λe=>fy (h.ip e)
theorem ZL:zi (F.sc l) (fg F.ki)where
 ip:=mV (f:=λk=>fw (S "ip") (fg k)) (g:=λk=>U (!decide (k=4))) (by rfl') h.ki
 ip6:=mV (f:=λk=>fw (S "ip6") (fg k)) (g:=λk=>U (decide (k=4))) (by rfl') h.ki
 tcp:=mV (f:=λk=>fw (S "tcp") (fg k)) (g:=λk=>U (decide (FG k=6)&&decide (0<=zo k))) (by rfl') h.ki
 udp:=mV (f:=λk=>fw (S "udp") (fg k)) (g:=λk=>U (decide (FG k=17)&&decide (0<=zo k))) (by rfl') h.ki
 ag2:=mV (f:=λk=>fw (S "icmp") (fg k)) (g:=λk=>U (!decide (k=4)&&decide (FG k=1)&&decide (0<=zo k))) (by rfl') h.ki
theorem adu:F.dict 8=agC (numOf (F.sc l).oc:Nat) ((8*(F.sc l).oc.length:Nat):Int) F.ki (F.sc l):=by
 obtain ⟨ki,ta,dg⟩:=F
 match ta with
 |0|1|_+2=>rfl
theorem adv:(F.sc l).six=decide ((F.ki:Int)=4):=by
 show decide (F.ki=4)=_
 by_cases q:F.ki=4
 ·rw [q];rfl
 ·exact (fy q).trans (fy λz=>q (kK z)).symm
end
noncomputable def fu:V->L->LN:=λG G=> []
noncomputable def rR:LV->L->LN:=λargs G=>match args with
 |_:: .ref r::_=>cC (r+2)
 |_=> []
noncomputable def jA:LV->L->LN:=λargs G=>match args with
 | [_,_,_,.ref w]=> [w]
 |_=> []
noncomputable def kP(x:aF):V->L->LN:=λv O=>match v with
 |.ref i=>(match O[i]? with
  |some (.dict kvs)=>(match look x kvs with
   |some (.ref p)=> [p,i]
   |_=> [])
  |_=> [])
 |_=> []
noncomputable def hN(a:ay)(js:LV->L->LN)(ks:V->L->LN):Spec:=e9 (i4 eu 12 a js ks)
noncomputable def T6:eR:=λa=>
 if a=257 then U (hN 257 (λG G=>cC 7) fu)
 else if a=524 then U (hN 524 rR fu)
 else if a=531 then U (hN 531 rR fu)
 else if a=538 then U (hN 538 rR fu)
 else if a=545 then U (hN 545 rR fu)
 else if a=559 then U (hN 559 rR fu)
 else if a=566 then U (hN 566 rR fu)
 else if a=573 then U (hN 573 rR fu)
 else if a=510 then U (hN 510 rR fu)
 else if a=405 then U (hN 405 (λG G=>cC 27) fu)
 else if a=681 then U (hN 681 (λG G=>cC 9) fu)
 else if a=646 then U (hN 646 jA (kP "parts"))
 else if a=667 then U (hN 667 (λG G=> []) (kP "heads"))
 else eu a
theorem gJ{t':eR}{S:Spec}{Q:ay->Spec->Prop}(h1:Q b S)(h2:∀a S',t' a=U S'->Q a S'):∀a S',(if a=b then U S else t' a)=U S'->Q a S':=λa S' h=>by
 by_cases e:a=b
 ·rw [au e]at h
  obtain rfl:=bh h;rw [e];exact h1
 ·rw [ax e]at h
  exact h2 a S' h
theorem aj3:Good 105 T6:=good_add agy (by decide) 12
 (gJ (.inr λargs O hb G G=>dV args O hb)<|gJ (.inr λargs O hb G G=>dV args O hb)<|gJ (.inr λargs O hb G G=>dV args O hb)<|gJ (.inr λargs O hb G G=>dV args O hb)<|
  gJ (.inr λargs O hb G G=>dV args O hb)<|gJ (.inr λargs O hb G G=>dV args O hb)<|gJ (.inr λargs O hb G G=>dV args O hb)<|gJ (.inr λargs O hb G G=>dV args O hb)<|
  gJ (.inr λargs O hb G G=>dV args O hb)<|gJ (.inr λargs O hb G G=>dV args O hb)<|gJ (.inr λargs O hb G G=>dV args O hb)<|gJ (.inr λargs O hb G G=>dV args O hb)<|
  gJ (.inr λargs O hb G G=>dV args O hb) λG G h=>.inl h)
theorem VI(h:n<=m)(q:pG n o):pG m o:=by
 rcases o<;>first|exact fp h _ q|trivial
theorem Cl.mono(h:n<=m):∀{p:L},Cl n p->Cl m p
 | [],_=>trivial
 |_::_,q=>#[VI h q.1,Cl.mono h q.2]
theorem N7{kvs:SV}(h:(kvs.map (·.2)).all (lj 5)=ai):bH n (kvs.map (·.2)):=fp (bp _) _ (pn h)
theorem wm:(iE.map (·.2)).all (lj 5)=true:=by rfl'
theorem fM(h:i<n):eh n (.ref i):=h
theorem jd(h1:bH 0 (fl.map (·.2)))(h2:bH 0 xs)(h3:bH 0 (kn.map (·.2))):Cl 7 (bB ip aO fl xs kn []):=
 #[N7 wm,#[fM (by decide),tv,tv,tv,fM (by decide),fM (by decide),fM (by decide),fM (by decide),fM (by decide),tv],fp (bp _) _ h2,tv,fp (bp _) _ h3,tv,fp (bp _) _ h1,tv]
theorem adw:∀s:ON,eh n (aaJ s)
 |none=>#[tv,tv,tv,tv,tv,tv,tv]
 |some _=>#[tv,tv,tv,tv,tv,tv,tv]
theorem zp(hn:26<=n)(ho:o+1<n)(htk:eh n tk)(ht:Cl n t.l)(hl:bH 0 lg)(hr:Cl n r):Cl n (AA t d o tk lg r):=by
 refine bl λaG=>?_;refine ht.elim λh0 hq=>hq.elim λh1 hq=>hq.elim λh2 hq=>hq.elim λh3 hq=>?_;refine aG ?_;have lt:∀{i},i<26->i<n:=λh=>gG h hn
 exact ⟨h0,h1,h2,h3,hq.1,hq.2.1,hq.2.2.1,hq.2.2.2.1,hq.2.2.2.2.1,#[fM (lt (by decide)),fM (lt (by decide)),tv,tv,tv,tv,fM (lt (by decide)),tv],tv,tv,#[tv,tv,tv,tv,tv,tv,tv,tv,tv,tv],N7 wm,
  #[fM (lt (by decide)),tv,tv,htk,tv,tv,tv,fM (lt (by decide)),fM (lt (by decide)),fM (lt (by decide)),fM (Nat.lt_of_succ_lt ho),fM (lt (by decide)),fM ho,fM (lt (by decide)),tv,fM (lt (by decide)),fM (lt (by decide)),tv,fM (lt (by decide)),tv],
  trivial,tv,tv,tv,tv,tv,fp (bp _) _ hl,tv,tv,hr⟩
theorem tL:bH n (vn.map (·.2)):=#[tv,tv,tv,tv]
theorem FI:bH n (NM.map (·.2)):=#[tv,tv,tv,tv,tv,tv,tv,tv,tv]
theorem GJ:bH n (Fu.map (·.2)):=#[tv,tv,tv,tv]
theorem QR(mk:Nat)(src:ON):bH n ((Sl mk src).map (·.2)):=#[tv,adw src,#[tv,tv,tv,tv,tv,tv,tv],tv,tv,tv,tv,tv,tv,tv,tv,tv]
theorem vz(t:T9)(d:Sc)(b:U8)(lg:LV):J (bL t d b lg)=cF d+2:=by
 obtain ⟨six,oc,l4,off,mark,c8,tk,aP⟩:=d;rcases tk with _|⟨mk,src⟩<;>rfl
theorem N8(t:T9)(d:Sc)(lg:LV):J (bX t d lg)=27:=by
 obtain ⟨six,oc,l4,off,mark,c8,tk,aP⟩:=d;rcases tk with _|⟨mk,src⟩<;>rfl
theorem tS(ht:Cl 9 t.l)(hl:bH 0 lg):Cl (cF d+2) (bL t d b lg):=by
 obtain ⟨six,oc,l4,off,mark,c8,tk,aP⟩:=d;rcases tk with _|⟨mk,src⟩
 ·exact zp (n:=29) (by decide) (by decide) trivial (ht.mono (by decide)) hl #[tL,FI,GJ,#[(show 28<29 by decide),tv],tv,tv]
 ·exact zp (n:=30) (by decide) (by decide) (fM (by decide)) (ht.mono (by decide)) hl #[QR mk src,tL,FI,GJ,#[(show 29<30 by decide),tv],tv,tv]
theorem Br(ht:Cl 9 t.l)(hl:bH 0 lg):Cl 27 (bX t d lg):=by
 obtain ⟨six,oc,l4,off,mark,c8,tk,aP⟩:=d;rcases tk with _|⟨mk,src⟩
 ·exact zp (by decide) (by decide) trivial (ht.mono (by decide)) hl #[tL,FI,GJ,tv]
 ·exact zp (by decide) (by decide) (fM (by decide)) (ht.mono (by decide)) hl #[QR mk src,tL,FI,tv]
theorem ahs(t:T9)(d:Sc)(b:U8)(lg:LV):∃r,∀lg,bL t d b lg=bX t d lg++r:=by
 obtain ⟨six,oc,l4,off,mark,c8,tk,aP⟩:=d;rcases tk with _|⟨mk,src⟩
 ·exact #[[eG 28,.bu b],λG=>rfl]
 ·exact #[[.dict Fu,eG 29,.bu b],λG=>rfl]
theorem adx(w n:Nat)(hw:w<17)(hn:n<2^32)(l ip:Bool)(fl:SV)(xs:LV)(kn:SN)(aY:Nat)(g:L)(h1:J xs<=800)(h2:J kn<=800)(nd:(kn.map (·.1)).Nodup)(sc:bH 0 xs)(hf:bH 0 (fl.map (·.2))):
  hN 257 (λG G=>cC 7) fu [.ref 1,.int aY,eC w n] (bB ip (b5 l) fl xs (aT kn) g)= .yes .none (bB ip (b5 l) fl (xs++(bR aY (bY w ip) kn).1++eO w n aY l) (aT (bR aY (bY w ip) kn).2) g):=by
 exact nQ (p:=bB ip (b5 l) fl xs (aT kn) []) (p':=bB ip (b5 l) fl (xs++(bR aY (bY w ip) kn).1++eO w n aY l) (aT (bR aY (bY w ip) kn).2) []) rfl rfl rfl
  (jd hf sc (kT kn)) (jd hf (gI (gI sc (Ao aY _ _)) (pn (tD w n aY l hw))) (kT _)) #[(show 1<7 by decide),tv,cT (bp _) _ (ni 5 _ (Bh w n hw)),tv] (ajx w n hw hn l ip fl xs kn aY h1 h2 nd sc) trivial
theorem N9:∀(ao:NN) (aM:Bool),bH n (ao.map λp=>iu p.1 aM)
 | [],_=>trivial
 |_::r,aM=>#[#[tv,tv,tv],N9 r aM]
section
variable{t:T9}{d:Sc}{b:U8}{lg:LV}(g:L)(ht:Cl 9 t.l)(hl:bH 0 lg)
include ht hl
theorem step_eq(h:Step d a row b v b')(hr:bH 0 row)(hv:eh 0 v):
  hN a rR fu [.ref 14,.ref (cF d),.tup row,.none] (bL t d b lg++g)= .yes v (bL t d b' lg++g):=by
 refine bl λaG=>?_;refine (h t lg).elim λe run=>?_;refine aG ?_;have l:=vz t d b lg
 have VJ:14<cF d+2:=by
  have:27<=cF d:=by unfold cF;split<;>decide
  exact (jg (A3 this (cg _ _)))
 exact nQ (by simp only [l];rfl) rfl (by simp only [l,vz]) (by rw [l];exact tS ht hl) (by rw [l];exact tS ht hl)
  (by rw [l];exact #[VJ,(show cF d<cF d+2 by exact (jg (cg _ _))),fp (bp _) _ hr,tv,tv]) run (by rw [l];exact cT (bp _) _ hv)
theorem aj4(hb:J b=64)(aM:Bool)(ao:NN)(hL:∀p∈ao,p.1<17)(wk:fits ao 0)(VK:J ao<=50):
  hN 510 rR fu [.ref 14,.ref (cF d),.int 0,.tup (ao.map λp=>iu p.1 aM)] (bL t d b lg++g)= .yes (.tup (cS (reads d aM b ao 0))) (bL t d b lg++g):=by
 have l:=vz t d b lg
 have sc2:∀(ns:LN) n,bH n (cS ns):=λns n=>qC λv hv=>by
  unfold cS at hv;obtain ⟨x,_,rfl⟩:=iR.mp hv;exact #[x,rfl]
 have VJ:14<cF d+2:=by
  have:27<=cF d:=by unfold cF;split<;>decide
  exact (jg (A3 this (cg _ _)))
 exact nQ (by rw [l];rfl) rfl rfl (by rw [l];exact tS ht hl) (by rw [l];exact tS ht hl)
  (by rw [l];exact #[VJ,(show cF d<cF d+2 by exact (jg (cg _ _))),tv,(λn=>N9 ao aM:∀n,bH n (ao.map λp=>iu p.1 aM)) _,tv]) (aha hb aM ao hL wk VK) (sc2 _ _)
theorem val_eq(hd:d.Ok)(jZ:d.off=40->d.l4=6)(w n:Nat)(hw:w<17)(hn:n<256^4):
  hN 405 (λG G=>cC 27) fu [.ref 14,eC w n] (bX t d lg++g)= .yes (cj (gV w n d)) (bX t d lg++g):=by
 refine bl λaG=>?_;refine (ag1 hd jZ t lg w n hw hn).elim λe run=>?_;refine aG ?_;have l:=N8 t d lg
 exact nQ (by rw [l];rfl) rfl rfl (by rw [l];exact Br ht hl) (by rw [l];exact Br ht hl)
  (by rw [l];exact #[fM (by decide),cT (bp _) _ (ni 5 _ (Bh w n hw)),tv]) run (tN _)
end
theorem aj5(g:L)(ht:Cl 9 (tG t ki hs d).l)(hd:d.Ok)(hh:zi d hs)(jZ:d.off=40->d.l4=6)(w n:Nat)(hw:w<17)(hn:n<256^4):
  hN 681 (λG G=>cC 9) fu [.int w,.int n,.ref 7] ((tG t ki hs d).l++g)= .yes (cj (gV w n d)) ((tG t ki hs d).l++g):=by
 refine (ag4 (t:=t) (ki:=ki) hd hh jZ w n hw hn).elim λe run=>?_;exact nQ rfl rfl rfl ht ht #[tv,tv,(show 7<9 by decide),tv] run (tN _)
theorem Bs(xs:LV)(h:bH n xs):∀i,eh n (xs.getD i .none):=by
 induction xs with
 |nil=>exact λG=>trivial
 |cons x r ih=>exact λi=>match i with
  |0=>h.1
  |i+1=>ih h.2 i
theorem Sx{ps:NN}(h:∀p∈ps,p.1<17):bH n (ps.map λp=>eC p.1 p.2):=by
 induction ps with
 |nil=>trivial
 |cons p r ih=>exact #[cT (bp _) _ (ni 5 _ (Bh p.1 p.2 (h p cY))),ih λq hq=>h q (cZ _ hq)]
theorem GK(h:bH n es):eh n (Su es):=by
 match es,h with
 | [],_=>exact #[tv,tv,tv]
 | [a],h=>exact h.1
 |a::b::r,h=>exact #[tv,h,tv]
theorem mz{D:j9}(h:D.Ok)(aq:Bool):(D.ab aq).Pure:=
 ⟨Bs GD #[tv,tv,tv,tv] _,Bs vw #[tv,tv,tv] _,Bs GF #[tv,tv,tv,tv] _,
  Bs GG #[tv,#[#[tv,tv,tv,tv],tv],#[#[tv,tv,tv,tv,tv],#[tv,tv,tv,tv,tv,tv,tv],tv],tv] _,
  GK (Sx λp hp=>((nu h).1 p hp).1)⟩
theorem aa0(ma:Nat):1<=pI ma/\ pI ma≠24:=by
 unfold pI
 split<;>decide
theorem ZM(hA:A.Pure)(hp:D p):qY D (.dict (dR A p)):=
 #[nG _ hA.1,nG _ hA.2.1,nG _ hA.2.2.1,nG _ hA.2.2.2.1,hp,tv,nG _ hA.2.2.2.2,tv]
theorem aa1(ip aj aq:Bool)(pl:Int):bH n ((wD ip aj aq pl).map (·.2)):=#[tv,tv,tv,tv,tv]
theorem aa2{x:aF}{O:L}{i p:Nat}{kvs:SV}(h:O[i]? =U (.dict kvs))(l:look x kvs=U (.ref p)):kP x (.ref i) O= [p,i]:=by
 unfold kP;dsimp only;rw [h];dsimp only;rw [l]
theorem Pa(ip aj aq:Bool)(pl:Int)(xs:LV)(p:Int)(k:Nat)(hk:k=0 \/k=1)(hp:0<=p)(hl:J xs<=1000)(hx:∀v∈xs,∃z:Int,v= .int z)(O:L)(w:Nat)(hw:O[w]? =U (.dict (wD ip aj aq pl))):
  hN 646 jA (kP "parts") [.lst xs,.int p,.int k,.ref w] O= .yes (.ref (J O+1)) (O++ [.list (cO (gQ xs p k).ps),.dict (dR ((gQ xs p k).ab aq) (J O))]):=by
 refine bl λaG=>?_;refine (ahh ip aj aq pl xs p k hk hp hl hx).elim λaZ hq=>hq.elim λrun hq=>hq.elim λh0 hq=>hq.elim λh24 hpI=>?_;refine aG ?_;have hA:=mz (wW xs p k) aq;generalize gQ xs p k=D at*;generalize D.ab aq=A at*;have sx:∀{n},bH n xs:=λ{n}=>qC hx
 exact NB (js:= [w]) (as:= [.lst xs,.int p,.int k,.ref 0]) (Os:= [.dict (wD ip aj aq pl)]) rfl
  {nd:=gf.mpr #[iT,jy],len:=rfl
   obj:=BI #[aa1 ..,hw.trans (I (λd=>U (MO.dict d)) (qA (aa1 ..)).symm)]
   ar:=I (λl=> [V.lst l,.int p,.int k,.ref w]) (eP sx).symm
   sa:=#[sx,tv,tv,(bF rfl:0<1),tv]} (Nx run) (aa2 h24 rfl) (aa0 D.ma).1 (aV rfl) (aa0 D.ma).2.symm
  (λi hi=>CG.mp hi▸h0) hpI h24 (qR _ (gq _)) (ZM hA (.inr cY)) (I MO.list (eP (gq _))) (λe=>I MO.dict ((mF hA).trans (I (dR A) e)))
theorem ahu{b:U8}{wh bi:Int}{ki h:Nat}{mk ii:Int}{tk:V}(ht:eh 0 tk){D:Nat->Prop}(hp:D h):qY D (.dict (fD2 b wh bi ki h mk ii tk)):=
 #[tv,tv,tv,tv,hp,tv,tv,tv,tv,nG _ ht,tv]
theorem AM(ta:Nat)(x s:Int):eh 0 (HW ta x s):=by
 unfold HW
 split<;>exact #[tv,tv,tv]
theorem AN{F:gR}:i0 g (F.dict h)=F.dict (g h):=by
 show [(_,V.bytes _),(_,V.int _),(_,V.int _),(_,V.int _),(_,V.ref (g h)),(_,V.int _),(_,V.int _),(_,V.int _),(_,V.int _),(_,en g (HW _ _ _))]=_
 rw [u6 (AM _ _ _)]
 rfl
theorem oZ{n:Nat}(ki:Nat):bH n (fg ki):=by
 unfold fg
 split<;>first|exact #[tv,tv,tv]|exact #[tv,tv]
theorem facts_eq(xs:LV)(p ag:Int)(ip:Bool)(hp:0<=p)(hl:J xs<=1000)(hx:∀v∈xs,∃z:Int,v= .int z)(O:L):
  hN 667 (λG G=> []) (kP "heads") [.lst xs,.int p,.int ag,dT ip] O= .yes (.ref (J O+1)) (O++ [.list (fg (fL xs p ag ip).ki),.dict ((fL xs p ag ip).dict (J O))]):=by
 refine bl λaG=>?_;refine (ahq xs p ag ip hp hl hx).elim λaZ hq=>hq.elim λrun hq=>hq.elim λh4 h5=>?_;refine aG ?_;generalize fL xs p ag ip=F at*;have sx:∀{n},bH n xs:=λ{n}=>qC hx
 exact NB (js:= []) (as:= [.lst xs,.int p,.int ag,dT ip]) rfl {nd:=jy,len:=rfl,obj:=λi m e=>(dG e),ar:=I (λl=> [V.lst l,.int p,.int ag,dT ip]) (eP sx).symm,sa:=#[sx,tv,tv,tv,tv]}
  (Nx run) (aa2 h4 rfl) (bp _) (bp _) (lN (Nat.lt_of_succ_le (cg 5 F.ki))) (λi hi=>(nomatch hi)) h5 h4 (qR _ (oZ _)) (ahu (AM _ _ _) (.inr cY)) (I MO.list (eP (oZ _))) (λe=>I MO.dict (AN.trans (I F.dict e)))
noncomputable def lL(aY:Int)(e:V)(aM:Bool)(a:Int):SV:= [("rowing",.ref 1),("reg",.int aY),("e",e),("is_big",.bool aM),("layout",.ref 7),("at",.int a)]
noncomputable def mj(x:Option (V×V×V)):SV:=match x with|none=> []|some (a,b,c)=> [("one",a),("size",b),("order",c)]
noncomputable abbrev pb:aH×LT:=kZ (dZ cf 2)
noncomputable abbrev AO(v:V)(O:L)(l:LK)(k:LK->RV):RV:=gr cf.scope pb.1 v O l k
noncomputable abbrev FJ(B:LT)(l:LK)(O:L)(n c:KT)(q:QT):RV:=fm ((E T6 5 19).x cf.scope) B l O n c q
noncomputable abbrev VL(aY:Int)(e:V)(O:L)(K:L->RV):RV:=(hN 257 (λG G=>cC 7) fu [.ref 1,.int aY,e] O).k λv O=>match v with|.none=>K O|_=>.bad
theorem ahv(w n:Nat)(hw:w<17)(ip:Bool)(aO:String)(fl:SV)(xs:LV)(kn:SV)(lay:LV)(g:L)(aY:Int)(e:V)(aM:Bool)(s:Nat)(x:Option (V×V×V))(k c:KT)(q:QT):
  (AO (eC w n) (bB ip aO fl xs kn (.list lay::g)) (lL aY e aM s++mj x) λl=>FJ (pb.2.take 4) l (bB ip aO fl xs kn (.list lay::g)) k c q)=
  if decide ((16:Int)<(s:Int)+((bW w:Int)+3)/4)then .exc (S "a key of more than 16 slots") (bB ip aO fl xs kn (.list lay::g))else
   VL s (eC w n) (bB ip aO fl xs kn (.list lay::g)) λO=>k (lL aY e aM s++mj (U (eC w n,.int (bW w),S (eE w)))) O:=by
 rcases x with _|⟨a,b,c'⟩
 ·exact mV (f:=λw=>(AO (eC w n) (bB ip aO fl xs kn (.list lay::g)) (lL aY e aM s++mj u) λl=>FJ (pb.2.take 4) l (bB ip aO fl xs kn (.list lay::g)) k c q)) (g:=λw=>if decide ((16:Int)<(s:Int)+((bW w:Int)+3)/4)then .exc (S "a key of more than 16 slots") (bB ip aO fl xs kn (.list lay::g))else VL s (eC w n) (bB ip aO fl xs kn (.list lay::g)) λO=>k (lL aY e aM s++mj (U (eC w n,.int (bW w),S (eE w)))) O) (by rfl') hw
 ·exact mV (f:=λw=>(AO (eC w n) (bB ip aO fl xs kn (.list lay::g)) (lL aY e aM s++mj (U (a,b,c'))) λl=>FJ (pb.2.take 4) l (bB ip aO fl xs kn (.list lay::g)) k c q)) (g:=λw=>if decide ((16:Int)<(s:Int)+((bW w:Int)+3)/4)then .exc (S "a key of more than 16 slots") (bB ip aO fl xs kn (.list lay::g))else VL s (eC w n) (bB ip aO fl xs kn (.list lay::g)) λO=>k (lL aY e aM s++mj (U (eC w n,.int (bW w),S (eE w)))) O) (by rfl') hw
theorem amm(ip:Bool)(aO:String)(fl:SV)(xs:LV)(kn:SV)(lay:LV)(g:L)(aY:Int)(e:V)(aM:Bool)(s:Int)(one:V)(sz:Int)(k c:KT)(q:QT):
  FJ (pb.2.drop 4) (lL aY e aM s++mj (U (one,.int sz,S "big"))) (bB ip aO fl xs kn (.list lay::g)) k c q=
  if(J lay)<=aR then k (lL aY e aM (s+(sz+3)/4)++mj (U (one,.int sz,S "big"))) (bB ip aO fl xs kn (.list (lay++ [.tup [.int sz,S "big"]])::g))else .bad:=by
 rcases aM<;>rfl'
theorem ahw(ip:Bool)(aO:String)(fl:SV)(xs:LV)(kn:SV)(lay:LV)(g:L)(aY:Int)(e:V)(aM:Bool)(s:Int)(one:V)(sz:Int)(k c:KT)(q:QT):
  FJ (pb.2.drop 4) (lL aY e aM s++mj (U (one,.int sz,S "host"))) (bB ip aO fl xs kn (.list lay::g)) k c q=
  if aM then(if(J xs)<=aR then(if(J lay)<=aR then k (lL aY e aM (s+(sz+3)/4)++mj (U (one,.int sz,S "big"))) (bB ip aO fl (xs++ [.tup [S "byteorder",.int s,.int s,.int sz]]) kn (.list (lay++ [.tup [.int sz,S "big"]])::g))else .bad)else .bad)
  else(if(J lay)<=aR then k (lL aY e aM (s+(sz+3)/4)++mj (U (one,.int sz,S "host"))) (bB ip aO fl xs kn (.list (lay++ [.tup [.int sz,S "host"]])::g))else .bad):=by
 rcases aM<;>rfl'
theorem ahx(ip:Bool)(aO:String)(fl:SV)(xs:LV)(kn:SV)(aY:Int)(e:V)(aM:Bool)(k c:KT)(q:QT):
  cb T6 5 cf (cf.body.take 2) [("rowing",.ref 1),("reg",.int aY),("e",e),("is_big",.bool aM)] (bB ip aO fl xs kn []) k c q=k (lL aY e aM aY) (bB ip aO fl xs kn [.list []]):=by rfl'
theorem ady(w n:Nat)(hw:w<17)(aY:Int)(aM:Bool)(a:Int)(O:L)(n' c:KT)(q:QT):(E T6 5 20).x cf.scope (lL aY (eC w n) aM a) O ((dZ cf 2).getD nX) n' c q=
  cR (dA T6 5 19 cf.scope pb) (It.tup [eC w n]).nx bE 0 (lL aY (eC w n) aM a) O n' q:=by
 exact mV (f:=λw=>(E T6 5 20).x cf.scope (lL aY (eC w n) aM a) O ((dZ cf 2).getD nX) n' c q) (g:=λw=>cR (dA T6 5 19 cf.scope pb) (It.tup [eC w n]).nx bE 0 (lL aY (eC w n) aM a) O n' q) (by rfl') hw
theorem adz(es:LV)(aY:Int)(aM:Bool)(a:Int)(O:L)(n' c:KT)(q:QT):(E T6 5 20).x cf.scope (lL aY (.tup [S "concat",.tup es]) aM a) O ((dZ cf 2).getD nX) n' c q=
  cR (dA T6 5 19 cf.scope pb) (It.tup es).nx bE 0 (lL aY (.tup [S "concat",.tup es]) aM a) O n' q:=by rfl'
theorem adA(l:LK)(O:L)(n c:KT)(q:QT):cb T6 5 cf (cf.body.drop 2) l O n c q=(E T6 5 20).x cf.scope l O ((dZ cf 2).getD nX) (λl O=>cb T6 5 cf (cf.body.drop 3) l O n c q) c q:=by rfl'
theorem ahy(ip:Bool)(aO:String)(fl:SV)(xs:LV)(kn:SV)(lay:LV)(aY:Int)(e:V)(aM:Bool)(a:Int)(x:Option (V×V×V))(n c:KT)(q:QT):
  cb T6 5 cf (cf.body.drop 3) (lL aY e aM a++mj x) (bB ip aO fl xs kn [.list lay]) n c q=if(J lay)<=aR then q (.tup lay) (bB ip aO fl xs kn [.list lay])else .bad:=by
 rcases x with _|⟨a,b,c⟩<;>rfl'
noncomputable def zq:V:=S "a key of more than 16 slots"
theorem HY(aY:Nat)(xs:List (Bool×Nat)):∀(kn:SN),(kn.map (·.1)).Nodup->((bR aY xs kn).2.map (·.1)).Nodup:=by
 induction xs with
 |nil=>exact λG h=>h
 |cons p r ih=>exact λkn h=>ih _ (Fn h)
theorem ahz(h:hN 257 (λG G=>cC 7) fu [.ref 1,.int aY,e] O= .yes .none aZ):VL aY e O K=K aZ:=by
 unfold VL;rw [h]
 rfl
theorem Pb(i:Nat)(B:LT):fm f B l O n c q=fm f (B.take i) l O (λl O=>fm f (B.drop i) l O n c q) c q:=
 (I (λB=>fm f B l O n c q) (iS i B).symm).trans kR
section
variable(l ip:Bool)(fl:SV)(hf':bH 0 (fl.map (·.2)))(aY:Int)(e:V)(aM:Bool)
include hf'
theorem adB(w n:Nat)(hw:w<17)(hn:n<256^4)(xs:LV)(kn:SN)(lay:LV)(s:Nat)(x:Option (V×V×V))(h1:J xs<=790)(h2:J kn<=800)(nd:(kn.map (·.1)).Nodup)(sc:bH 0 xs)(s7:J lay<=100)(hs:s+slots w<=16):
  ∃x',∀k q,dA T6 5 19 cf.scope pb (eC w n) (lL aY e aM s++mj x) (bB ip (b5 l) fl xs (aT kn) [.list lay]) k q=
   k (lL aY e aM (s+slots w:Nat)++mj x') (bB ip (b5 l) fl (xs++f9 ip l aM w n s kn) (aT (bR s (bY w ip) kn).2) [.list (lay++ [iu w aM])]):=by
 have er:((s:Int)+((bW w:Int)+3)/4)=((s+slots w:Nat):Int):=rfl
 let xs':=xs++(bR s (bY w ip) kn).1++eO w n s l
 have nil:xs'=xs'++ []:=(cL xs').symm
 let BL:=aT (bR s (bY w ip) kn).2
 have st:∀{o:String},eE w=o->∀k q,dA T6 5 19 cf.scope pb (eC w n) (lL aY e aM s++mj x) (bB ip (b5 l) fl xs (aT kn) [.list lay]) k q=
   FJ (pb.2.drop 4) (lL aY e aM s++mj (U (eC w n,.int (bW w),S o))) (bB ip (b5 l) fl xs' BL [.list lay]) k k q:=λho k q=>
  (I (AO (eC w n) _ _) (funext λl=>Pb 4 pb.2)).trans ((ahv w n hw ip (b5 l) fl xs (aT kn) lay [] aY e aM s x (λl O=>FJ (pb.2.drop 4) l O k k q) k q).trans ((ax λz=>dK hs (Ir (fj z))).trans
   ((ahz (adx w n hw hn l ip fl xs kn s [.list lay] (bt h1 (aV rfl)) h2 nd sc hf')).trans (I (λo=>FJ (pb.2.drop 4) (lL aY e aM s++mj (U (eC w n,.int (bW w),S o))) (bB ip (b5 l) fl xs' BL [.list lay]) k k q) ho))))
 have close:∀{o:String} {r:LV},nt w s aM=r->(if aM then "big" else eE w)=o->
   (∀k q,dA T6 5 19 cf.scope pb (eC w n) (lL aY e aM s++mj x) (bB ip (b5 l) fl xs (aT kn) [.list lay]) k q=k (lL aY e aM (s+((bW w:Int)+3)/4)++mj (U (eC w n,.int (bW w),S o))) (bB ip (b5 l) fl (xs'++r) BL [.list (lay++ [.tup [.int (bW w),S o]])]))->
   ∃x',∀k q,dA T6 5 19 cf.scope pb (eC w n) (lL aY e aM s++mj x) (bB ip (b5 l) fl xs (aT kn) [.list lay]) k q=k (lL aY e aM (s+slots w:Nat)++mj x') (bB ip (b5 l) fl (xs++f9 ip l aM w n s kn) BL [.list (lay++ [iu w aM])]):=λ{o r} hr ho h=>
  #[_,λk q=>(h k q).trans (qF (λy z=>k (lL aY e aM (s+slots w:Nat)++mj (U (eC w n,.int (bW w),S o))) (bB ip (b5 l) fl y BL [.list (lay++ [z])])) (hr▸((cM xs _ _).symm.trans (I (·++nt w s aM) (cM xs _ _).symm):xs++f9 ip l aM w n s kn=xs'++nt w s aM).symm) (UP ho).symm)]
 rcases D3 w with ho|ho
 ·have z:∀b,(b&&(eE w== "host"))=false:=λb=>by rw [ho];rcases b<;>rfl
  exact close (ax λy=>jq ((z aM).symm.trans y)) (by rw [ho];exact ite_self _) λk q=>(st ho k q).trans ((amm ..).trans ((au (bt s7 (aV rfl))).trans (I (λy=>k _ (bB ip (b5 l) fl y BL _)) nil)))
 ·rcases aM with _|_
  ·exact close rfl ho λk q=>(st ho k q).trans ((ahw ..).trans ((ax rg).trans ((au (bt s7 (aV rfl))).trans (I (λy=>k _ (bB ip (b5 l) fl y BL _)) nil))))
  ·exact close (o:= "big") (au (dX.mpr ho)) rfl λk q=>(st ho k q).trans ((ahw ..).trans ((au rfl).trans ((au (bt (bf (cx.trans (I (·+_) cx))) (Rj h1 (Az s w ip kn) (ll w n s l hw) (aV rfl)):J xs'<=aR)).trans (au (bt s7 (aV rfl))))))
theorem adC(w n:Nat)(hw:w<17)(xs:LV)(kn:SN)(lay:LV)(s:Nat)(x:Option (V×V×V))(hs:¬s+slots w<=16)(k:KT)(q:QT):
  dA T6 5 19 cf.scope pb (eC w n) (lL aY e aM s++mj x) (bB ip (b5 l) fl xs (aT kn) [.list lay]) k q= .exc zq (bB ip (b5 l) fl xs (aT kn) [.list lay]):=
 (I (AO (eC w n) _ _) (funext λl=>Pb 4 pb.2)).trans ((ahv w n hw ip (b5 l) fl xs (aT kn) lay [] aY e aM s x (λl O=>FJ (pb.2.drop 4) l O k k q) k q).trans (au (dC (A5 (uv hs)))))
noncomputable abbrev lkL(ao:NN)(f i:Nat)(l:LK)(O:L)(k:KT)(q:QT):RV:=cR (dA T6 5 19 cf.scope pb) (It.tup (ao.map λp=>eC p.1 p.2)).nx f i l O k q
noncomputable def aj6(ao:NN)(f i s:Nat)(x:Option (V×V×V))(O:L)(xs lay:LV)(z:D4):Prop:=match z.ok with
 |true=>∃x' s',∀k q,lkL ao f i (lL aY e aM s++mj x) O k q=k (lL aY e aM (s':Nat)++mj x') (bB ip (b5 l) fl (xs++z.rows) (aT z.kn) [.list (lay++z.lay)])
 |false=>∃vd,∀k q,lkL ao f i (lL aY e aM s++mj x) O k q= .exc zq (bB ip (b5 l) fl (xs++z.rows) (aT z.kn) [.list vd])
theorem adD(ao:NN)(hL:∀p∈ao,p.1<17/\ p.2<256^4)(rest:NN):∀(i f s:Nat) (x:Option (V×V×V)) (xs:LV) (kn:SN) (lay:LV),ao.drop i=rest->J xs+9*J rest<=780->J kn+2*J rest<=780->(kn.map (·.1)).Nodup->bH 0 xs->J lay+J rest<=90->J rest<f->
  aj6 l ip fl aY e aM ao f i s x (bB ip (b5 l) fl xs (aT kn) [.list lay]) xs lay (bx ip l aM rest s kn):=by
 induction rest with
 |nil=>
  intro i f s x xs kn lay hx _ _ _ _ _ hf;obtain ⟨f,rfl⟩:=jx (gD hf);exact #[x,s,λk q=>(mE (I U (mv (l6 hx)))).trans (qF (λy z=>k (lL aY e aM s++mj x) (bB ip (b5 l) fl y (aT kn) [.list z])) (cL xs).symm (cL lay).symm)]
 |cons p rest ih=>
  obtain ⟨w,n⟩:=p;intro i f s x xs kn lay hx h1 h2 nd sc s7 hf;obtain ⟨f,rfl⟩:=jx (gD (gd (bp _) hf));have hw:=hL (w,n) (u7 hx);have step:∀{l':LK} {O:L} {k:KT} {q:QT},lkL ao (f+1) i l' O k q=dA T6 5 19 cf.scope pb (eC w n) l' O (λl O=>lkL ao f (i+1) l O k q) q:=nq (I U (mv (l6 hx)));by_cases ho:s+slots w<=16
  ·obtain ⟨x1,t1⟩:=adB l ip fl hf' aY e aM w n hw.1 hw.2 xs kn lay s x (nV h1 (aV rfl)) (nV h2 (aV rfl)) nd sc (nV s7 (aV rfl)) ho
   have k:=ih (i+1) f (s+slots w) x1 (xs++f9 ip l aM w n s kn) (bR s (bY w ip) kn).2 (lay++ [iu w aM]) (drop_tail hx) (bt (bf (I (·+9*J rest) cx)) (Iq h1 (D5 hw.1))) (Rg h2 (pz s (bY w ip) kn).2 (ik w ip).2) (HY s _ _ nd)
    (gI sc (BH ip l aM w n s kn hw.1)) (bt (bf (I (·+J rest) cx)) (zS s7)) (iM hf)
   rw [vS ho rfl];generalize bx ip l aM rest (s+slots w) (bR s (bY w ip) kn).2=z at k;obtain ⟨zr,zl,zk,_|_⟩:=z
   ·exact k.imp λvd e1 k q=>step.trans ((t1 _ q).trans ((e1 k q).trans (I (λy=>Res.exc zq (bB ip (b5 l) fl y (aT zk) [.list vd])) (cM xs _ _))))
   ·exact k.imp λx2 y=>y.imp λs2 e1 k q=>step.trans ((t1 _ q).trans ((e1 k q).trans (qF (λy z=>k (lL aY e aM (s2:Nat)++mj x2) (bB ip (b5 l) fl y (aT zk) [.list z])) (cM xs _ _) (cM lay _ _))))
  ·rw [tE ho]
   exact #[lay,λk q=>step.trans ((adC l ip fl hf' aY e aM w n hw.1 xs kn lay s x ho _ q).trans (I (λy=>Res.exc zq (bB ip (b5 l) fl y (aT kn) [.list lay])) (cL xs).symm))]
end
theorem ahA(l ip:Bool)(fl:SV)(hf:bH 0 (fl.map (·.2)))(aM:Bool)(ps:NN)(jI:∀p∈ps,p.1<17/\ p.2<256^4)(h0:0<J ps)(h5:J ps<=5)(xs:LV)(kn:SN)(h1:J xs<=700)(h2:J kn<=700)(nd:(kn.map (·.1)).Nodup)(sc:bH 0 xs):
  match(bx ip l aM ps 0 kn).ok with
  |true=>runK P (cn T6 5) (.con (.ref 271)) [.ref 1,.int 0,iH ps,.bool aM] (bB ip (b5 l) fl xs (aT kn) []) .ok= .ok (.tup (bx ip l aM ps 0 kn).lay) (bB ip (b5 l) fl (xs++(bx ip l aM ps 0 kn).rows) (aT (bx ip l aM ps 0 kn).kn) [.list (bx ip l aM ps 0 kn).lay])
  |false=>∃vd,runK P (cn T6 5) (.con (.ref 271)) [.ref 1,.int 0,iH ps,.bool aM] (bB ip (b5 l) fl xs (aT kn) []) .ok= .exc zq (bB ip (b5 l) fl (xs++(bx ip l aM ps 0 kn).rows) (aT (bx ip l aM ps 0 kn).kn) [.list vd]):=by
 have st:runK P (cn T6 5) (.con (.ref 271)) [.ref 1,.int 0,iH ps,.bool aM] (bB ip (b5 l) fl xs (aT kn) []) .ok=
   cR (dA T6 5 19 cf.scope pb) (It.tup (ps.map λp=>eC p.1 p.2)).nx bE 0 (lL 0 (iH ps) aM 0) (bB ip (b5 l) fl xs (aT kn) [.list []]) (λl O=>cb T6 5 cf (cf.body.drop 3) l O (λG O=>.ok .none O) (λG O=>.ok .none O) .ok) .ok:=by
  refine (i3 (by rfl') rfl).trans ((kS 2).trans ((ahx ip (b5 l) fl xs (aT kn) 0 (iH ps) aM _ _ _).trans ((adA _ _ _ _ _).trans ?_)));by_cases h:J ps=1
  ·obtain ⟨⟨w,n⟩,rfl⟩:=CV.mp h
   exact ady w n (jI (w,n) cY).1 0 aM 0 _ _ _ _
  ·rw [show iH ps= .tup [S "concat",.tup (ps.map λp=>eC p.1 p.2)]from AJ λz=>h ((cQ _).symm.trans z)]
   exact adz _ 0 aM 0 _ _ _ _
 have len:=jP ip l aM ps 0 kn λp hp=>(jI p hp).1;have lp:=adD l ip fl hf 0 (iH ps) aM ps jI ps 0 bE 0 u xs kn [] rfl (A4 h1 h5 (aV rfl)) (A4 h2 h5 (aV rfl)) nd sc (Iv h5 (aV rfl)) (gd h5 (bF rfl));generalize bx ip l aM ps 0 kn=z at*;obtain ⟨zr,zl,zk,_|_⟩:=z
 ·exact lp.imp λvd t=>st.trans (t _ _)
 ·exact lp.elim λx' y=>y.elim λs' t=>st.trans ((t _ _).trans ((ahy ip (b5 l) fl _ _ _ 0 (iH ps) aM s' x' _ _ _).trans (au (bt len.2 (bt h5 (aV rfl))))))
noncomputable def n7(e:V):SV:= [("scene",.ref 14),("e",e),("numbers",.ref 27)]
noncomputable def tj(x:Option (V×V)):SV:=match x with|none=> []|some (a,b)=> [("component",a),("n",b)]
noncomputable abbrev q8:aH×LT:=kZ (dZ cw 1)
noncomputable abbrev stK(t:T9)(d:Sc)(lg:LV)(nums:LV):L:=bX t d lg++ [.list nums]
noncomputable abbrev vlA(e:V)(O:L)(K:QT):RV:=(hN 405 (λG G=>cC 27) fu [.ref 14,e] O).k K
section
variable(t:T9)(d:Sc)(lg:LV)(e:V)
theorem ahC(k c:KT)(q:QT):cb T6 5 cw (cw.body.take 1) [("scene",.ref 14),("e",e)] (bX t d lg) k c q=k (n7 e) (stK t d lg []):=by
 obtain ⟨six,oc,l4,off,mark,c8,tk,aP⟩:=d;rcases tk with _|⟨mk,src⟩<;>rfl'
theorem adE(l:LK)(O:L)(n c:KT)(q:QT):cb T6 5 cw (cw.body.drop 1) l O n c q=(E T6 5 20).x cw.scope l O ((dZ cw 1).getD nX) (λl O=>cb T6 5 cw (cw.body.drop 2) l O n c q) c q:=by rfl'
theorem adF(w n:Nat)(hw:w<17)(O:L)(n' c:KT)(q:QT):(E T6 5 20).x cw.scope (n7 (eC w n)) O ((dZ cw 1).getD nX) n' c q=cR (dA T6 5 19 cw.scope q8) (It.tup [eC w n]).nx bE 0 (n7 (eC w n)) O n' q:=mV (f:=λw=>(E T6 5 20).x cw.scope (n7 (eC w n)) O ((dZ cw 1).getD nX) n' c q) (g:=λw=>cR (dA T6 5 19 cw.scope q8) (It.tup [eC w n]).nx bE 0 (n7 (eC w n)) O n' q) (by rfl') hw
theorem adG(es:LV)(O:L)(n' c:KT)(q:QT):(E T6 5 20).x cw.scope (n7 (.tup [S "concat",.tup es])) O ((dZ cw 1).getD nX) n' c q=cR (dA T6 5 19 cw.scope q8) (It.tup es).nx bE 0 (n7 (.tup [S "concat",.tup es])) O n' q:=by rfl'
theorem aj7(v:V)(x:Option (V×V))(O:L)(K k:KT)(q:QT):(gr cw.scope q8.1 v O (n7 e++tj x) λl=>fm ((E T6 5 19).x cw.scope) (q8.2.take 1) l O K k q)=vlA v O λn O=>K (n7 e++tj (U (v,n))) O:=by
 rcases x with _|⟨a,b⟩<;>rfl'
theorem adH(v:V)(O:L)(k:KT)(q:QT):fm ((E T6 5 19).x cw.scope) (q8.2.drop 1) (n7 e++tj (U (v,.none))) O k k q=q .none O:=by rfl'
theorem ahD(v:V)(x:Int)(nums:LV)(k:KT)(q:QT):fm ((E T6 5 19).x cw.scope) (q8.2.drop 1) (n7 e++tj (U (v,.int x))) (stK t d lg nums) k k q=if(J nums)<=aR then k (n7 e++tj (U (v,.int x))) (stK t d lg (nums++ [.int x]))else .bad:=by
 obtain ⟨six,oc,l4,off,mark,c8,tk,aP⟩:=d;rcases tk with _|⟨mk,src⟩<;>rfl'
theorem ahE(x:Option (V×V))(nums:LV)(n c:KT)(q:QT):cb T6 5 cw (cw.body.drop 2) (n7 e++tj x) (stK t d lg nums) n c q=if(J nums)<=aR then q (.tup nums) (stK t d lg nums)else .bad:=by
 obtain ⟨six,oc,l4,off,mark,c8,tk,aP⟩:=d;rcases tk with _|⟨mk,src⟩<;>rcases x with _|⟨a,b⟩<;>rfl'
theorem ZN(b:U8)(op nm tm inner:V)(lay:LV)(pl:Int):runK P (cn T6 5) (.con (.ref 688)) [.ref 14,.ref (cF d),.tup [S "dynset",op,.int 0,.tup lay,nm,tm,.int pl,inner],.none] (bL t d b lg) .ok=
  (hN 510 rR fu [.ref 14,.ref (cF d),.int 0,.tup lay] (bL t d b lg)).k λv O=>Bb .append 21 [.tup [op,nm,v,tm,.int pl,inner]] O λw O=>match w with|.none=>.ok .none O|_=>.bad:=by
 obtain ⟨six,oc,l4,off,mark,c8,tk,aP⟩:=d;rcases tk with _|⟨mk,src⟩<;>rfl'
end
noncomputable def zt(os:List (ON)):V:=if u∈os then .none else .tup (os.map cj)
section
variable{t:T9}{d:Sc}{lg:LV}(ht:Cl 9 t.l)(hl:bH 0 lg)(hd:d.Ok)(jZ:d.off=40->d.l4=6)(e:V)
include ht hl hd jZ
theorem adI(w n:Nat)(hw:w<17)(hn:n<256^4)(nums:LV)(hnl:J nums<=100)(x:Option (V×V)):∃x',∀k q,dA T6 5 19 cw.scope q8 (eC w n) (n7 e++tj x) (stK t d lg nums) k q=
  match gV w n d with
  |none=>q .none (stK t d lg nums)
  |some v=>k (n7 e++tj x') (stK t d lg (nums++ [.int v])):=by
 refine #[U (eC w n,cj (gV w n d)),λk q=>?_]
 have e1:dA T6 5 19 cw.scope q8 (eC w n) (n7 e++tj x) (stK t d lg nums) k q=gr cw.scope q8.1 (eC w n) (stK t d lg nums) (n7 e++tj x) λl=>fm ((E T6 5 19).x cw.scope) (q8.2.take 1) l (stK t d lg nums) (λl O=>fm ((E T6 5 19).x cw.scope) (q8.2.drop 1) l O k k q) k q:=by
  refine I (gr cw.scope q8.1 (eC w n) (stK t d lg nums) (n7 e++tj x)) (funext λl=>?_)
  conv=>lhs;rw [←iS 1 q8.2,kR]
 have e2:∀K,gr cw.scope q8.1 (eC w n) (stK t d lg nums) (n7 e++tj x) (λl=>fm ((E T6 5 19).x cw.scope) (q8.2.take 1) l (stK t d lg nums) K k q)=K (n7 e++tj (U (eC w n,cj (gV w n d)))) (stK t d lg nums):=λK=>by
  refine Eq.trans ?_ (show vlA (eC w n) (stK t d lg nums) (λn' O=>K (n7 e++tj (U (eC w n,n'))) O)=_ from by
   rw [show vlA (eC w n) (stK t d lg nums) _=_ from I (λa:kN=>a.k _) (val_eq [.list nums] ht hl hd jZ w n hw hn)]
   rfl)
  exact aj7 e (eC w n) x (stK t d lg nums) K k q
 simp -iota only [e1,e2];induction gV w n d using aK with
 |none=>exact adH e _ _ k q
 |some v=>
  refine (ahD t d lg e _ v nums k q).trans ?_;rw [au (by unfold aR;exact (bt hnl (aV rfl)))]
  rfl
theorem QS(ao:NN)(hL:∀p∈ao,p.1<17/\ p.2<256^4):∀(rest:NN) (i f:Nat) (x:Option (V×V)) (pre:List (ON)),ao.drop i=rest->J pre+J rest<=90->J rest<f->
  ∃x' ns,∀k q,cR (dA T6 5 19 cw.scope q8) (It.tup (ao.map λp=>eC p.1 p.2)).nx f i (n7 e++tj x) (stK t d lg (pre.map cj)) k q=
   if u∈rest.map (λp=>gV p.1 p.2 d)then q .none (stK t d lg ns)else k (n7 e++tj x') (stK t d lg ((pre++rest.map (λp=>gV p.1 p.2 d)).map cj))
 |rest,i,0,x,pre,_,_,hfu=>absurd hfu (iQ _)
 | [],i,f+1,x,pre,hx,_,_=>⟨x,[],λk q=>by
  have e1:(It.tup (ao.map λp=>eC p.1 p.2)).nx (stK t d lg (pre.map cj)) i=U none:=by
   show U (ao.map λp=>eC p.1 p.2)[i]? =U u
   rw [lS (by rw [cQ];exact C0.mp hx)]
  rw [k9];rw [e1,ax (by simp -iota),CP,cL]⟩
 |(w,n)::rest,i,f+1,x,pre,hx,TH,hfu=>by
  have hi:ao[i]? =U (w,n):=by
   have:=I (·[0]?) hx
   simpa -iota using this
  have e1:∀O,(It.tup (ao.map λp=>eC p.1 p.2)).nx O i=U (U (eC w n)):=λO=>by
   show U (ao.map λp=>eC p.1 p.2)[i]? =_
   simp -iota only [rU,hi]
   rfl
  simp -iota only [oA]at TH hfu;obtain ⟨x1,t1⟩:=adI ht hl hd jZ e w n (hL (w,n) (uA hi)).1 (hL (w,n) (uA hi)).2 (pre.map cj) (by rw [cQ];exact (nV TH (aV rfl))) x;induction hv:gV w n d using aK with
  |none=>
   refine #[u,pre.map cj,λk q=>?_];rw [k9];rw [e1];refine (t1 _ q).trans ?_;rw [hv,au (by simp -iota [hv])]
  |some v=>
   obtain ⟨x2,ns,t2⟩:=QS ao hL rest (i+1) f x1 (pre++ [U v]) (by rw [←oD,hx];rfl) (by simp -iota only [cx,rS];exact (zS TH)) (iM hfu);refine #[x2,ns,λk q=>?_]
   conv=>lhs;rw [k9]
   rw [e1];refine (t1 _ q).trans ?_;rw [hv];dsimp only;have ea:pre.map cj++ [V.int (v:Nat)]=(pre++ [U v]).map cj:=by simp -iota only [oB];rfl
   rw [ea];refine (t2 k q).trans ?_;rw [iU,hv,cM];by_cases hn:u∈rest.map (λp=>gV p.1 p.2 d)
   ·rw [au hn,au (cZ _ hn)]
   ·rw [ax hn,ax (by simpa -iota using hn)]
    rfl
theorem ahF(ps:NN)(jI:∀p∈ps,p.1<17/\ p.2<256^4)(h5:J ps<=5):∃g,runK P (cn T6 5) (.con (.ref 412)) [.ref 14,iH ps] (bX t d lg) .ok= .ok (zt (ps.map λp=>gV p.1 p.2 d)) (bX t d lg++g):=by
 have st:runK P (cn T6 5) (.con (.ref 412)) [.ref 14,iH ps] (bX t d lg) .ok=
   cR (dA T6 5 19 cw.scope q8) (It.tup (ps.map λp=>eC p.1 p.2)).nx bE 0 (n7 (iH ps)) (stK t d lg []) (λl O=>cb T6 5 cw (cw.body.drop 2) l O (λG O=>.ok .none O) (λG O=>.ok .none O) .ok) .ok:=by
  refine (i3 (D:=cw) (l0:= [("scene",.ref 14),("e",iH ps)]) (by rfl') rfl).trans ?_;refine (kS 1).trans ?_;refine (ahC t d lg (iH ps) _ _ _).trans ?_;refine (adE _ _ _ _ _).trans ?_;by_cases h:J ps=1
  ·match ps,h,jI with
   | [(w,n)],_,jI=>exact adF w n (jI (w,n) (cY ..)).1 _ _ _ _
  ·have:iH ps= .tup [S "concat",.tup (ps.map λp=>eC p.1 p.2)]:=AJ (by rw [cQ];exact h)
   rw [this];exact adG _ _ _ _ _
 obtain ⟨x',ns,lp⟩:=QS ht hl hd jZ (iH ps) ps jI ps 0 bE u [] rfl (by simp -iota only [CQ];exact (Iv h5 (aV rfl))) (by unfold bE;exact (gd h5 (bF rfl)));have e:=st.trans (lp _ _);unfold zt;by_cases hn:u∈ps.map (λp=>gV p.1 p.2 d)
 ·rw [au hn]at e⊢
  exact #[_,e]
 ·rw [ax hn]at e⊢
  refine #[[.list ((ps.map λp=>gV p.1 p.2 d).map cj)],e.trans ?_];simp -iota only [uE];refine (ahE t d lg (iH ps) x' _ _ _ .ok).trans ?_;rw [au (by unfold aR;simp -iota only [cQ];exact (bt h5 (aV rfl)))]
end
noncomputable def wo(a:ay)(js:LV->L->LN)(ks:V->L->LN):Spec:=e9 (i4 T6 5 a js ks)
noncomputable def r7:LV->L->LN:=λG G=>cC 7
noncomputable def r27:LV->L->LN:=λG G=>cC 27
noncomputable def T7:eR:=λa=>
 if a=271 then U (wo 271 r7 fu)
 else if a=412 then U (wo 412 r27 fu)
 else if a=688 then U (wo 688 rR fu)
 else T6 a
theorem aj8:Good 123 T7:=good_add aj3 (by decide) 5
 (gJ (.inr λargs O hb G G=>dV args O hb)<|gJ (.inr λargs O hb G G=>dV args O hb)<|gJ (.inr λargs O hb G G=>dV args O hb) λG G h=>.inl h)
theorem HZ(ip l aM:Bool):∀(ps:NN) (s:Nat) (kn:SN),(kn.map (·.1)).Nodup->((bx ip l aM ps s kn).kn.map (·.1)).Nodup
 | [],_,_,h=>h
 |(w,n)::r,s,kn,h=>by
  rw [vb];by_cases ho:s+slots w<=16
  ·rw [au ho];exact HZ ip l aM r _ _ (HY s _ _ h)
  ·rw [ax ho];exact h
theorem aj9(l ip:Bool)(fl:SV)(hf:bH 0 (fl.map (·.2)))(aM:Bool)(ps:NN)(jI:∀p∈ps,p.1<17/\ p.2<256^4)(h0:0<J ps)(h5:J ps<=5)(xs:LV)(kn:SN)(h1:J xs<=700)(h2:J kn<=700)(nd:(kn.map (·.1)).Nodup)(sc:bH 0 xs)(g:L):
  wo 271 r7 fu [.ref 1,.int 0,iH ps,.bool aM] (bB ip (b5 l) fl xs (aT kn) g)=
  if(bx ip l aM ps 0 kn).ok then .yes (.tup (bx ip l aM ps 0 kn).lay) (bB ip (b5 l) fl (xs++(bx ip l aM ps 0 kn).rows) (aT (bx ip l aM ps 0 kn).kn) g)
  else .exc zq (bB ip (b5 l) fl (xs++(bx ip l aM ps 0 kn).rows) (aT (bx ip l aM ps 0 kn).kn) g):=by
 have run:=ahA l ip fl hf aM ps jI h0 h5 xs kn h1 h2 nd sc;have s1:=(iF ip l aM ps 0 kn λp hp=>(jI p hp).1).1;have se:eh 7 (iH ps):=GK (Sx λp hp=>(jI p hp).1);induction qO:(bx ip l aM ps 0 kn).ok using dj with
 |true=>
  rw [qO]at run;rw [au rfl]
  exact nQ (p:=bB ip (b5 l) fl xs (aT kn) []) (p':=bB ip (b5 l) fl (xs++(bx ip l aM ps 0 kn).rows) (aT (bx ip l aM ps 0 kn).kn) []) rfl rfl rfl
   (jd hf sc (kT kn)) (jd hf (gI sc s1) (kT _)) #[(show 1<7 by decide),tv,se,tv,tv] run (fp (bp _) _ ((iF ip l aM ps 0 kn λp hp=>(jI p hp).1).2))
 |false=>
  simp -iota only [qO]at run;refine run.elim λvd run=>?_;rw [ax (by decide)]
  exact Qv (p:=bB ip (b5 l) fl xs (aT kn) []) (p':=bB ip (b5 l) fl (xs++(bx ip l aM ps 0 kn).rows) (aT (bx ip l aM ps 0 kn).kn) []) rfl rfl rfl
   (jd hf sc (kT kn)) (jd hf (gI sc s1) (kT _)) #[(show 1<7 by decide),tv,se,tv,tv] run trivial
theorem n8:(kN.yes v O).k K=K v O:=rfl
theorem adJ(os:List (ON)):eh n (zt os):=by
 unfold zt
 split
 ·trivial
 ·induction os with
  |nil=>trivial
  |cons o r ih=>exact #[tN o,ih (λh=>by rename_i q;exact q (cZ _ h))]
section
variable{t:T9}{d:Sc}{b:U8}{lg:LV}(g:L)(ht:Cl 9 t.l)(hl:bH 0 lg)
include ht hl
theorem aka(hd:d.Ok)(jZ:d.off=40->d.l4=6)(ps:NN)(jI:∀p∈ps,p.1<17/\ p.2<256^4)(h5:J ps<=5):
  wo 412 r27 fu [.ref 14,iH ps] (bX t d lg++g)= .yes (zt (ps.map λp=>gV p.1 p.2 d)) (bX t d lg++g):=by
 refine (ahF ht hl hd jZ ps jI h5).elim λe run=>?_;have l:=N8 t d lg
 exact nQ (by rw [l];rfl) rfl rfl (by rw [l];exact Br ht hl) (by rw [l];exact Br ht hl)
  (by rw [l];exact #[fM (by decide),GK (Sx λp hp=>(jI p hp).1),tv]) run (adJ _)
theorem QU:(bL t d b lg)[21]? =U (.list lg)/\ ∀lg',(bL t d b lg).set 21 (.list lg')=bL t d b lg':=by
 obtain ⟨six,oc,l4,off,mark,c8,tk,aP⟩:=d;rcases tk with _|⟨mk,src⟩<;>exact #[rfl,λG=>rfl]
theorem adK(A:Ab)(hA:A.Pure)(hb:J b=64)(aM:Bool)(ao:NN)(hL:∀p∈ao,p.1<17)(wk:fits ao 0)(VK:J ao<=50)(pl:Int)(BM:J lg<=100):
  wo 688 rR fu [.ref 14,.ref (cF d),mq A (ao.map λp=>iu p.1 aM) pl,.none] (bL t d b lg++g)= .yes .none (bL t d b (lg++ [.tup [A.op,A.nm,.tup (cS (reads d aM b ao 0)),A.tm,.int pl,A.inner]])++g):=by
 have l:=vz t d b lg
 have sc2:∀(ns:LN) n,bH n (cS ns):=λns n=>qC λv hv=>by
  unfold cS at hv;obtain ⟨x,_,rfl⟩:=iR.mp hv;exact #[x,rfl]
 have VJ:14<cF d+2:=by
  have:27<=cF d:=by unfold cF;split<;>decide
  exact (jg (A3 this (cg _ _)))
 have run:runK P (cn T6 5) (.con (.ref 688)) [.ref 14,.ref (cF d),mq A (ao.map λp=>iu p.1 aM) pl,.none] (bL t d b lg) .ok= .ok .none (bL t d b (lg++ [.tup [A.op,A.nm,.tup (cS (reads d aM b ao 0)),A.tm,.int pl,A.inner]])):=by
  have ke:=aj4 (d:=d) [] ht hl hb aM ao hL wk VK;refine (ZN t d lg b A.op A.nm A.tm A.inner _ pl).trans ?_;rw [cL]at ke;simp -iota only [ke,n8];unfold Bb;dsimp only;rw [jY (QU ht hl).1,gj,au (by unfold aR;exact (bt BM (aV rfl))),(QU ht hl).2]
 exact nQ (S:=i4 T6 5 688 rR fu) (args:= [.ref 14,.ref (cF d),mq A (ao.map λp=>iu p.1 aM) pl,.none]) (v:=.none) (p':=bL t d b (lg++ [.tup [A.op,A.nm,.tup (cS (reads d aM b ao 0)),A.tm,.int pl,A.inner]])) (by rw [l];rfl) rfl (by simp -iota only [l,vz]) (by rw [l];exact tS ht hl) (by rw [l];exact tS ht (gI hl #[#[hA.1,hA.2.1,sc2 _ _,hA.2.2.1,tv,hA.2.2.2.1,tv],tv]))
  (by rw [l];exact #[VJ,(show cF d<cF d+2 by exact (jg (cg _ _))),#[tv,cT (bp _) _ hA.1,tv,N9 ao aM,cT (bp _) _ hA.2.1,cT (bp _) _ hA.2.2.1,tv,cT (bp _) _ hA.2.2.2.1,tv],tv,tv]) (by rw [cL];exact run) trivial
end
noncomputable def lH0(l:Bool):SV:= [("world",.ref 0),("rows",.ref 6),("facts",.ref 7),("order",S (b5 l))]
noncomputable def lH(d:Sc)(ve:V):SV:=lH0 d.aP++([("scene",.ref 14),("regs",.ref (cF d)),("verdict",ve)]:SV)
noncomputable def zeros:U8:=kj 64 0
theorem ahI(t:T9)(wh bi:Int)(ki:Nat)(hk:ki<6)(d:Sc)(hd:d.six=decide (ki=4))(k c:KT)(q:QT):
  cb T7 8 bo (bo.body.take 3) (lH0 d.aP) (t.fct wh bi ki d).l k c q=if(J d.oc)<=1000 then k (lH d .none) (bL (t.fct wh bi ki d) d zeros [])else .bad:=by
 obtain ⟨six,oc,l4,off,mark,c8,tk,aP⟩:=d;subst hd
 match ki,tk,hk with
 |0,u,_|1,u,_|2,u,_|3,u,_|4,u,_|5,u,_=>rfl'
 |0,U (mk,u),_|1,U (mk,u),_|2,U (mk,u),_|3,U (mk,u),_|4,U (mk,u),_|5,U (mk,u),_=>rfl'
 |0,U (mk,U src),_|1,U (mk,U src),_|2,U (mk,U src),_|3,U (mk,U src),_|4,U (mk,U src),_|5,U (mk,U src),_=>rfl'
 |k+6,_,h=>exact absurd h (dK (fx _ _))
noncomputable def FK(x:Option (V×Option V)):SV:=match x with|none=> []|some (r,u)=> [("row",r)]|some (r,U o)=> [("row",r),("op",o)]
noncomputable abbrev khT:aH×LT:=kZ (dZ bo 3)
noncomputable abbrev wZ(v:V)(l:LK)(O:L)(n:KT)(q:QT):RV:=dA T7 8 19 bo.scope khT v l O n q
theorem akb(t:T9)(d:Sc)(b:U8)(lg:LV)(nm:String)(a:ay)(ho:zF nm a)(rest:LV)(x:Option (V×V))(n:KT)(q:QT):
  wZ (.tup (S nm::rest)) (lH d .none++FK (x.map λp=>(p.1,U p.2))) (bL t d b lg) n q=(hN a rR fu [.ref 14,.ref (cF d),.tup (S nm::rest),.none] (bL t d b lg)).k λv O=>n (lH d v++FK (U (.tup (S nm::rest),U (.con (.ref a))))) O:=by
 obtain ⟨six,oc,l4,off,mark,c8,tk,aP⟩:=d;rcases tk with _|⟨mk,src⟩<;>rcases x with _|⟨y,z⟩<;>cases ho<;>rfl'
theorem adL(t:T9)(d:Sc)(b:U8)(lg:LV)(rest:LV)(x:Option (V×V))(n:KT)(q:QT):
  wZ (.tup (S "dynset" ::rest)) (lH d .none++FK (x.map λp=>(p.1,U p.2))) (bL t d b lg) n q=(wo 688 rR fu [.ref 14,.ref (cF d),.tup (S "dynset" ::rest),.none] (bL t d b lg)).k λv O=>n (lH d v++FK (U (.tup (S "dynset" ::rest),U (.con (.ref 688))))) O:=by
 obtain ⟨six,oc,l4,off,mark,c8,tk,aP⟩:=d;rcases tk with _|⟨mk,src⟩<;>rcases x with _|⟨y,z⟩<;>rfl'
theorem ahJ(d:Sc)(v r o:V)(O:L)(n:KT)(q:QT):wZ v (lH d jF++FK (U (r,U o))) O n q=n (lH d jF++FK (U (v,U o))) O:=by rfl'
theorem ahK(d:Sc)(v:V)(O:L)(xs:LV)(h:O[6]? =U (.list xs))(n c:KT)(q:QT):(E T7 8 20).x bo.scope (lH d v) O ((dZ bo 3).getD nX) n c q=cR wZ (It.list 6).nx bE 0 (lH d v) O n q:=by
 have:(E T7 8 20).x bo.scope (lH d v) O ((dZ bo 3).getD nX) n c q=Hp O (.ref 6) λi=>cR wZ i.nx bE 0 (lH d v) O n q:=by rfl'
 simp only [this,y7 h]
theorem adM(l:LK)(O:L)(n c:KT)(q:QT):cb T7 8 bo (bo.body.drop 3) l O n c q=(E T7 8 20).x bo.scope l O ((dZ bo 3).getD nX) (λl O=>cb T7 8 bo (bo.body.drop 4) l O n c q) c q:=by rfl'
theorem vA:(bL t d b lg)[6]? =U t.a6:=by
 obtain ⟨six,oc,l4,off,mark,c8,tk,aP⟩:=d;rcases tk with _|⟨mk,src⟩<;>rfl
noncomputable abbrev FL(x:Option (V×V)):SV:=FK (x.map λp=>(p.1,U p.2))
noncomputable abbrev VM(f i:Nat)(l:LK)(O:L)(n:KT)(q:QT):RV:=cR wZ (It.list 6).nx f i l O n q
theorem Pc(h:O[6]? =U (.list rows))(hx:rows.drop i=row::rest):(It.list 6).nx O i=U (U row):=(Bj h i).trans (I U (mv hx))
theorem VN(h:O[6]? =U (.list rows))(hx:rows.drop i= []):(It.list 6).nx O i=U none:=(Bj h i).trans (I U (mv hx))
theorem adN(h:bH 0 rows):∀{i:Nat} {row:V} {rest:LV},rows.drop i=row::rest->eh 0 row:=by
 induction rows with
 |nil=>exact λ{i _ _} e=>nomatch(CN).symm.trans e
 |cons a r ih=>exact λ{i _ _} e=>match i with
  |0=>(uL e).1▸h.1
  |i+1=>ih h.2 e
noncomputable def Lp(t:T9)(d:Sc)(rows:LV)(x:Option (V×V))(rest:LV)(b:U8)(lg:LV)(v:V)(VO:LV):Prop:=∀(i f:Nat),rows.drop i=rest->J rest<f->
 ∃x' b',∀n q,VM f i (lH d .none++FL x) (bL t d b lg) n q=n (lH d v++FL (U x')) (bL t d b' VO)
section
variable{t:T9}{d:Sc}{lg:LV}(ht:Cl 9 t.l){rows:LV}(h6:t.a6= .list rows)(hr:bH 0 rows)
include ht h6 hr
theorem adO(d:Sc)(o:V)(rest:LV):∀(i f:Nat) (r:V) (b:U8) (lg:LV),rows.drop i=rest->J rest<f->∃r',∀n q,VM f i (lH d jF++FK (U (r,U o))) (bL t d b lg) n q=n (lH d jF++FK (U (r',U o))) (bL t d b lg):=by
 have e6:∀{b lg},(bL t d b lg)[6]? =U (.list rows):=λ{b lg}=>vA.trans (I U h6);induction rest with
 |nil=>exact λi f r b lg hx hf=>match f,hf with
  |f+1,_=>#[r,λn q=>mE (VN e6 hx)]
 |cons row rest ih=>exact λi f r b lg hx hf=>match f,hf with
  |f+1,hf=>(ih (i+1) f row b lg (drop_tail hx) (iM hf)).imp λr' h n q=>(nq (Pc e6 hx)).trans ((ahJ d row r o _ _ q).trans (h n q))
variable(hl:bH 0 lg)
include hl
theorem GL(ho:zF nm a)(hs:Step d a (S nm::rest) b v b')(hv:eh 0 v)(x:Option (V×V))(hx:rows.drop i= .tup (S nm::rest)::more)(n:KT)(q:QT):
  VM (f+1) i (lH d .none++FL x) (bL t d b lg) n q=VM f (i+1) (lH d v++FL (U (.tup (S nm::rest),.con (.ref a)))) (bL t d b' lg) n q:=by
 have e:=step_eq [] ht hl hs (adN hr hx) hv;simp only [cL,cL]at e;refine (nq (Pc (vA.trans (I U h6)) hx)).trans ((akb t d b lg nm a ho rest x _ q).trans ?_);simp only [e,n8];rfl
theorem Lp.runs(h:Runs d seg b b'):∀{x},(∀x',Lp t d rows x' rest b' lg v VO)->Lp t d rows x (seg++rest) b lg v VO:=by
 induction h with
 |nil b=>exact λk=>k _
 |cons ho hs _ ih=>exact λ{x} k i f hx hf=>match f,hf with
  |f+1,hf=>(ih k (i+1) f (drop_tail hx) (iM hf)).imp λx' z=>z.imp λb' e n q=>(GL ht h6 hr hl ho hs trivial x hx n q).trans (e n q)
theorem Lp.breaks(h:iJ d seg b):∀{x},Lp t d rows x (seg++rest) b lg jF lg:=by
 induction h with
 |here ho hs=>exact λ{x} i f hx hf=>match f,hf with
  |f+1,hf=>(adO ht h6 hr d (.con (.ref _)) _ (i+1) f _ _ lg (drop_tail hx) (iM hf)).elim λr' e=>#[(r',_),_,λn q=>(GL ht h6 hr hl ho hs #[tv,tv,tv] x hx n q).trans (e n q)]
 |cons ho hs _ ih=>exact λ{x} i f hx hf=>match f,hf with
  |f+1,hf=>(ih (i+1) f (drop_tail hx) (iM hf)).imp λx' z=>z.imp λb' e n q=>(GL ht h6 hr hl ho hs trivial x hx n q).trans (e n q)
theorem Lp.done:Lp t d rows (U x) [] b lg .none lg:=λi f hx hf=>match f,hf with
 |f+1,_=>#[x,b,λn q=>mE (VN (vA.trans (I U h6)) hx)]
theorem Lp.told(A:Ab)(hA:A.Pure)(hb:J b=64)(aM:Bool)(ao:NN)(hL:∀p∈ao,p.1<17)(wk:fits ao 0)(VK:J ao<=50)(pl:Int)(BM:J lg<=100)(s7:lay=ao.map λp=>iu p.1 aM)
  (k:∀x',Lp t d rows (U x') rest b (lg++ [.tup [A.op,A.nm,.tup (cS (reads d aM b ao 0)),A.tm,.int pl,A.inner]]) v VO):Lp t d rows x (mq A lay pl::rest) b lg v VO:=λi f hx hf=>match f,hf with
 |f+1,hf=>by
  subst s7;have e:=adK (d:=d) [] ht hl A hA hb aM ao hL wk VK pl BM;simp only [cL,cL]at e;refine (k (mq A (ao.map λp=>iu p.1 aM) pl,.con (.ref 688)) (i+1) f (drop_tail hx) (iM hf)).imp λx' z=>z.imp λb' e2 n q=>(nq (Pc (vA.trans (I U h6)) hx)).trans ((adL t d b lg _ x _ q).trans ?_);simp only [show wo 688 rR fu [.ref 14,.ref (cF d),.tup (S "dynset" ::_),.none] (bL t d b lg)=_ from e,n8];exact e2 n q
end
noncomputable def ahL(ip aj aq:Bool)(pl:Int):SV:=wD ip aj aq pl++([("dynsets",.ref 1)]:SV)
structure Wd where
 ip:Bool
 aj:Bool
 aq:Bool
 pl:Int
 A0:Ab
 A1:Ab
 mA:NN
 nK:NN
noncomputable def Wd.t(W:Wd)(rows:LV):T9:=#[.dict (ahL W.ip W.aj W.aq W.pl),.list [.ref 2,.ref 3],.dict (dR W.A0 4),.dict (dR W.A1 5),.list (cO W.mA),.list (cO W.nK),.list rows,.list [],.list []]
noncomputable abbrev tH(W:Wd)(rows:LV)(wh bi ki:Int)(hs:LV)(d:Sc):T9:=tF (W.t rows) wh bi ki hs d
noncomputable def Pd(d:Sc)(ve:V)(x:V×V)(du:V):SV:=lH d ve++(FL (U x)++([("due",du),("log",.ref (cF d+2))]:SV))
section
variable(W:Wd)(rows:LV)(wh bi ki:Int)(hs:LV)(d:Sc)(b:U8)(lg:LV)
theorem ahM(ve:V)(x:V×V)(k c:KT)(q:QT):cb T7 8 bo ((bo.body.drop 4).take 2) (lH d ve++FL (U x)) (bL (tH W rows wh bi ki hs d) d b lg) k c q=
  if W.aj then(if !(d.l4==6)then k (Pd d ve x jF) (bL (tH W rows wh bi ki hs d) d b lg++ [.list []])else k (Pd d ve x .none) (bL (tH W rows wh bi ki hs d) d b lg++ [.list []]))else k (Pd d ve x .none) (bL (tH W rows wh bi ki hs d) d b lg++ [.list []]):=by
 obtain ⟨six,oc,l4,off,mark,c8,tk,aP⟩:=d;rcases tk with _|⟨mk,src⟩<;>rfl'
noncomputable abbrev mG:aH×LT:=kZ (dZ bo 6)
noncomputable def amn:Option dW->aH×aH×bM
 |some (.Assign _ (.Call _ [.ListComp elt [#[t,_,_,_]] bQ _] _ _) _)=>(elt,t,bQ)
 |_=>(.Name mK #[0,0,0,0],.Name mK #[0,0,0,0],#[.function,[],av,av,[]])
noncomputable abbrev VQ:aH×aH×Scope:=amn mG.2[1]?
noncomputable abbrev kvB(l:LK)(v:V)(O:L)(k:QT):RV:=gr VQ.2.2 VQ.2.1 v O (vP VQ.2.2 l) λl'=>(E T7 8 16).e (pg VQ.2.2 bo.scope) l' O VQ.1 k
noncomputable def tlD(x:Option (V×V×V)):SV:=match x with|none=> []|some (a,b,c)=> [("k",a),("about",b),("key",c)]
noncomputable def nM(d:Sc)(ve:V)(x:V×V)(du:V)(y:Option (V×V×V)):SV:=Pd d ve x du++tlD y
noncomputable def lDk(d:Sc)(ve:V)(x:V×V)(du:V)(kk:V)(ab:V)(y:Option V):SV:=Pd d ve x du++(([("k",kk),("about",ab)]:SV)++(match y with|none=>([]:SV)|some v=>([("key",v)]:SV)))
noncomputable abbrev tu(B:LT)(l:LK)(O:L)(n c:KT)(q:QT):RV:=fm ((E T7 8 19).x bo.scope) B l O n c q
theorem amo(ve:V)(x:V×V)(du:V)(y:Option (V×V×V))(kk:Nat)(hk:kk=0 \/kk=1)(r:L)(k c:KT)(q:QT):
  (gr bo.scope mG.1 (.int kk) ((tH W rows wh bi ki hs d).l++r) (nM d ve x du y) λl=>tu (mG.2.take 2) l ((tH W rows wh bi ki hs d).l++r) k c q)=
  gp (kvB (lDk d ve x du (.int kk) (.ref (2+kk)) (y.map λz=>z.2.2))) (It.list (4+kk)).nx bE 0 ((tH W rows wh bi ki hs d).l++r) λys O=>ei (.type "tuple") [.ref (J O)] (O++ [.list ys]) λv O=>k (nM d ve x du (U (.int kk,.ref (2+kk),v))) O:=by
 rcases y with _|⟨y2,z2,z3⟩<;>rcases hk with rfl|rfl<;>rfl'
theorem adP(ve:V)(x:V×V)(du kk ab:V)(y:Option V)(w n:Int)(O:L)(K:QT):kvB (lDk d ve x du kk ab y) (.tup [.int w,.int n]) O K=(hN 681 (λG G=>cC 9) fu [.int w,.int n,.ref 7] O).k K:=by
 rcases y with _|z3<;>rfl'
noncomputable def Wd.A(W:Wd)(kk:Nat):Ab:=if kk=0 then W.A0 else W.A1
theorem amq(ve:V)(x:V×V)(du:V)(kk:Nat)(hk:kk=0 \/kk=1)(ys:LV)(r:L)(k c:KT)(q:QT):
  tu ((mG.2.drop 2).take 1) (nM d ve x du (U (.int kk,.ref (2+kk),.tup ys))) ((tH W rows wh bi ki hs d).l++r) k c q=
  (wo 412 r27 fu [.ref 14,(W.A kk).e] ((tH W rows wh bi ki hs d).l++r)).k λv O=>bc (fw .none ys) λc=>if c then bc (cmp O .NotEq v .none) λe=>if e then q (.bool av) O else k (nM d ve x du (U (.int kk,.ref (2+kk),.tup ys))) O
   else bc (cmp O .NotEq v (.tup ys)) λe=>if e then q (.bool av) O else k (nM d ve x du (U (.int kk,.ref (2+kk),.tup ys))) O:=by
 rcases hk with rfl|rfl<;>rfl'
theorem akc(ve:V)(x:V×V)(kv ab:V)(ys:LV)(O:L)(k c:KT)(q:QT):tu ((mG.2.drop 3).take 1) (nM d ve x .none (U (kv,ab,.tup ys))) O k c q=
  bc (fw .none ys) λc=>if c then k (nM d ve x jF (U (kv,ab,.tup ys))) O else k (nM d ve x .none (U (kv,ab,.tup ys))) O:=by rfl'
theorem akd(ve:V)(x:V×V)(kv ab key:V)(O:L)(k c:KT)(q:QT):tu (mG.2.drop 3) (nM d ve x jF (U (kv,ab,key))) O k c q=k (nM d ve x jF (U (kv,ab,key))) O:=by rfl'
theorem ake(ve:V)(x:V×V)(kv ab key:V)(O:L)(k c:KT)(q:QT):tu (mG.2.drop 4) (nM d ve x jF (U (kv,ab,key))) O k c q=k (nM d ve x jF (U (kv,ab,key))) O:=by rfl'
noncomputable def GN(A:Ab)(key:V)(pl:Int):V:=.tup [A.op,A.nm,key,A.tm,.int pl,A.inner]
theorem amr(ve:V)(x:V×V)(kk:Nat)(hk:kk=0 \/kk=1)(key:V)(i8:LV)(g:L)(k c:KT)(q:QT):
  tu (mG.2.drop 4) (nM d ve x .none (U (.int kk,.ref (2+kk),key))) (bL (tH W rows wh bi ki hs d) d b lg++(.list i8::g)) k c q=
  if(J i8)<=aR then k (nM d ve x .none (U (.int kk,.ref (2+kk),key))) (bL (tH W rows wh bi ki hs d) d b lg++(.list (i8++ [GN (W.A kk) key (W.pl+kk)])::g))else .bad:=by
 obtain ⟨six,oc,l4,off,mark,c8,tk,aP⟩:=d;rcases tk with _|⟨mk,src⟩<;>rcases hk with rfl|rfl<;>rfl'
theorem ahP(ve:V)(x:V×V)(du:V)(O:L)(n c:KT)(q:QT):cb T7 8 bo (bo.body.drop 6) (Pd d ve x du) O n c q=
  cR (dA T7 8 19 bo.scope mG) (It.ee 0 2).nx bE 0 (nM d ve x du u) O (λl O=>cb T7 8 bo (bo.body.drop 7) l O n c q) q:=by rfl'
theorem ahQ(ve:V)(hv:ve= .none \/ve=jF)(x:V×V)(y:V×V×V)(i8:LV)(g:L)(n c:KT)(q:QT):
  cb T7 8 bo (bo.body.drop 7) (nM d ve x ve (U y)) (bL (tH W rows wh bi ki hs d) d b lg++(.list i8::g)) n c q=bc (allEq eqv lg i8) λc=>q (.bool c) (bL (tH W rows wh bi ki hs d) d b lg++(.list i8::g)):=by
 obtain ⟨six,oc,l4,off,mark,c8,tk,aP⟩:=d;rcases hv with rfl|rfl<;>rcases tk with _|⟨mk,src⟩<;>rfl'
end
theorem any_none:∀os:List (ON),fw .none (os.map cj)=U (decide (u∈os))
 | []=>rfl
 |none::r=>by
  show(match U ai,fw .none (r.map cj)with|some a,U b=>U (a||b)|_,_=>u)=_
  rw [any_none r];simp
 |some v::r=>by
  show(match U av,fw .none (r.map cj)with|some a,U b=>U (a||b)|_,_=>u)=_
  rw [any_none r];simp
theorem pA:∀{xs:LV},(∀x∈xs,f x x=U ai)->allEq f xs xs=U ai
 | [],_=>rfl
 |x::r,h=>by
  rw [abr];rw [h x (cY ..),pA λy hy=>h y (cZ _ hy)]
  rfl
theorem GO(n:Nat)(x:Int):tc (n+1) (.int x) (.int x)=U true:=by
 show U (x==x)=_
 simp
theorem Pe(n:Nat){os:List (ON)}(h:u∉os):tc (n+2) (.tup (os.map cj)) (.tup (os.map cj))=U true:=by
 refine pA λx hx=>?_;obtain ⟨o,ho,rfl⟩:=iR.mp hx;induction o using aK with
 |none=>exact absurd ho h
 |some v=>exact GO n v
theorem adQ(O:L)(os:List (ON)):(if decide (u∈os)then cmp O .NotEq (zt os) .none else cmp O .NotEq (zt os) (.tup (os.map cj)))=U false:=by
 unfold zt;by_cases h:u∈os
 ·rw [au h,dC h,au rfl]
  rfl
 ·rw [ax h,fy h,ax (by decide)]
  show(tc 8 (.tup (os.map cj)) (.tup (os.map cj))).map (!·)=_
  simp only [Pe 6 h]
  rfl
noncomputable def Wd.ps(W:Wd)(kk:Nat):NN:=if kk=0 then W.mA else W.nK
structure Wd.Ok(W:Wd):Prop where
 ps:∀kk,kk=0 \/kk=1->(∀p∈W.ps kk,p.1<17/\ p.2<256^4)/\ (J (W.ps kk))<=5/\ (W.A kk).e=iH (W.ps kk)/\ (W.A kk).Pure
theorem II(W:Wd)(hW:W.Ok)(hr:bH 0 rows)(hh:bH 0 hs)(d:Sc):Cl 9 (tH W rows wh bi ki hs d).l:=by
 have ab:∀{A:Ab} (h:A.Pure) {p:Nat},p<9->pG 9 (.dict (dR A p)):=λ{A} h {p} hp=>
  #[cT (bp _) _ h.1,cT (bp _) _ h.2.1,cT (bp _) _ h.2.2.1,cT (bp _) _ h.2.2.2.1,hp,tv,cT (bp _) _ h.2.2.2.2,tv]
 have tk:eh 9 (Sm d.tk):=by
  unfold Sm
  split<;>exact #[tv,tv,tv]
 exact ⟨#[tv,tv,tv,tv,(show 1<9 by decide),tv],#[(show 2<9 by decide),(show 3<9 by decide),tv],ab ((hW.ps 0 (.inl rfl)).2.2.2) (by decide),ab ((hW.ps 1 (.inr rfl)).2.2.2) (by decide),fp (bp _) _ (gq _),fp (bp _) _ (gq _),fp (bp _) _ hr,
  #[tv,tv,tv,tv,(show 8<9 by decide),tv,tv,tv,tv,tk,tv],fp (bp _) _ hh,tv⟩
theorem VR(t:T9)(d:Sc)(b:U8)(lg:LV):∃r,bL t d b lg=t.l++r:=by
 obtain ⟨six,oc,l4,off,mark,c8,tk,aP⟩:=d;rcases tk with _|⟨mk,src⟩
 ·exact #[_,rfl]
 ·exact #[_,rfl]
noncomputable def vF(d:Sc):V->V
 |.tup [.int w,.int n]=>cj (gV w.toNat n.toNat d)
 |_=>.none
theorem ahR(d:Sc)(ps:NN):(cO ps).map (vF d)=(ps.map λp=>gV p.1 p.2 d).map cj:=by
 unfold cO;simp only [lU,lU]
 rfl
section
variable{W:Wd}(hW:W.Ok){rows:LV}(hr:bH 0 rows){ki:Int}{hs:LV}(nD:bH 0 hs){d:Sc}(hd:d.Ok)(jZ:d.off=40->d.l4=6)(hh:zi d hs)
noncomputable abbrev tJ(W:Wd)(rows:LV)(ki:Int)(hs:LV)(d:Sc):T9:=tH W rows (numOf d.oc:Nat) ((8*(J d.oc):Nat):Int) ki hs d
noncomputable abbrev nN(W:Wd)(rows:LV)(ki:Int)(hs:LV)(d:Sc)(b:U8)(lg i8:LV)(g:L):L:=bL (tJ W rows ki hs d) d b lg++(.list i8::g)
include hW hr nD hd jZ hh
theorem ahS(b:U8)(lg:LV)(BM:bH 0 lg)(i8:LV)(g:L)(ve:V)(x:V×V)(du:V)(y:Option (V×V×V))(kk:Nat)(hk:kk=0 \/kk=1):
  ∃g',∀n q,dA T7 8 19 bo.scope mG (.int kk) (nM d ve x du y) (nN W rows ki hs d b lg i8 g) n q=
   tu (mG.2.drop 3) (nM d ve x du (U (.int kk,.ref (2+kk),.tup (((W.ps kk).map λp=>gV p.1 p.2 d).map cj)))) (nN W rows ki hs d b lg i8 g') n n q:=by
 obtain ⟨p1,p2,p3,p4⟩:=hW.ps kk hk;have ht:Cl 9 (tJ W rows ki hs d).l:=II W hW hr nD d;obtain ⟨r0,er⟩:=VR (tJ W rows ki hs d) d b lg;obtain ⟨r1,er1⟩:=ahs (tJ W rows ki hs d) d b lg
 have hp:(nN W rows ki hs d b lg i8 g)[4+kk]? =U (.list (cO (W.ps kk))):=by
  unfold nN;rw [er,cM];rcases hk with rfl|rfl<;>rfl
 have hvl:J (cO (W.ps kk))<=1000:=by unfold cO;rw [cQ];exact (bt p2 (aV rfl))
 obtain ⟨g1,tn⟩:=AI (B:=kvB (lDk d ve x du (.int kk) (.ref (2+kk)) (y.map λz=>z.2.2))) (f:=vF d) hp hvl (λv hv gg=>by
  unfold cO at hv;obtain ⟨⟨w,n⟩,hq,rfl⟩:=iR.mp hv;have hw:=p1 (w,n) hq;refine #[[],(adP d ve x du (.int kk) _ _ w n _ .ok).trans ?_];have e:=aj5 (t:=W.t rows) (ki:=ki) (hs:=hs) (d:=d) (r0++(.list i8::g)++gg) ht hd hh jZ w n hw.1 hw.2
  have es:nN W rows ki hs d b lg i8 g++gg=(tG (W.t rows) ki hs d).l++(r0++(.list i8::g)++gg):=by
   unfold nN;rw [er];simp only [cM]
  rw [es,e,n8,cL]
  rfl)
 have hys:(cO (W.ps kk)).map (vF d)=((W.ps kk).map λp=>gV p.1 p.2 d).map cj:=ahR d _
 let ys:LV:=((W.ps kk).map λp=>gV p.1 p.2 d).map cj
 refine #[g++g1++ [.list ys],λn q=>?_]
 have cut:dA T7 8 19 bo.scope mG (.int kk) (nM d ve x du y) (nN W rows ki hs d b lg i8 g) n q=
   (gr bo.scope mG.1 (.int kk) (nN W rows ki hs d b lg i8 g) (nM d ve x du y) λl=>tu (mG.2.take 2) l (nN W rows ki hs d b lg i8 g) (λl O=>tu ((mG.2.drop 2).take 1) l O (λl O=>tu (mG.2.drop 3) l O n n q) n q) n q):=by
  refine I (gr bo.scope mG.1 (.int kk) (nN W rows ki hs d b lg i8 g) (nM d ve x du y)) (funext λl=>?_)
  conv=>lhs;rw [←iS 2 mG.2,kR,←iS 1 (mG.2.drop 2)]
  unfold tu
  congr 1
 have es:nN W rows ki hs d b lg i8 g=(tJ W rows ki hs d).l++(r0++(.list i8::g)):=by
  unfold nN;rw [er];simp only [cM]
 have es2:nN W rows ki hs d b lg i8 g++g1++ [.list ys]=nN W rows ki hs d b lg i8 (g++g1++ [.list ys]):=by
  unfold nN;simp only [cM,C1]
 have es3:nN W rows ki hs d b lg i8 (g++g1++ [.list ys])=(tJ W rows ki hs d).l++(r0++(.list i8::(g++g1++ [.list ys]))):=by
  unfold nN;rw [er];simp only [cM]
 have es4:nN W rows ki hs d b lg i8 (g++g1++ [.list ys])=bX (tJ W rows ki hs d) d lg++(r1++(.list i8::(g++g1++ [.list ys]))):=by
  unfold nN;rw [er1 lg];simp only [cM]
 rw [cut]
 conv=>lhs;rw [es]
 refine (amo W rows _ _ ki hs d ve x du y kk hk _ _ n q).trans ?_;rw [←es];refine (tn _).trans ?_;rw [hys,tuple_list ff (by unfold aR;simp only [cQ];exact (bt p2 (aV rfl)))];show tu ((mG.2.drop 2).take 1) _ (nN W rows ki hs d b lg i8 g++g1++ [.list ys]) _ _ _=_
 rw [es2,es3];refine (amq W rows _ _ ki hs d ve x du kk hk ys _ _ n q).trans ?_;rw [←es3,es4,p3,aka (t:=tJ W rows ki hs d) (d:=d) (lg:=lg) _ ht BM hd jZ (W.ps kk) p1 p2,n8];rw [show fw .none ys=_ from any_none _,gj];have ck:=adQ (bX (tJ W rows ki hs d) d lg++(r1++(.list i8::(g++g1++ [.list ys])))) ((W.ps kk).map λp=>gV p.1 p.2 d);by_cases hn:u∈(W.ps kk).map λp=>gV p.1 p.2 d
 ·rw [dC hn,au rfl]at ck⊢
  rw [ck,gj,ax (by decide)]
 ·rw [fy hn,ax (by decide)]at ck⊢
  rw [show cmp _ .NotEq (zt _) (.tup ys)=_ from ck,gj,ax (by decide)]
end
noncomputable def w0(br:Bool):V:=if br then jF else .none
noncomputable def wq(d:Sc)(ps:NN):List (ON):=ps.map λp=>gV p.1 p.2 d
noncomputable def ZO(W:Wd)(d:Sc)(kk:Nat):V:=GN (W.A kk) (.tup ((wq d (W.ps kk)).map cj)) (W.pl+kk)
noncomputable def vB(W:Wd)(d:Sc)(kk:Nat)(br:Bool):Bool:=br||decide (u∈wq d (W.ps kk))
noncomputable def sX(W:Wd)(d:Sc)(kk:Nat)(br:Bool)(lg:LV):LV:=if vB W d kk br then lg else lg++ [ZO W d kk]
section
variable{W:Wd}(hW:W.Ok){rows:LV}(hr:bH 0 rows){ki:Int}{hs:LV}(nD:bH 0 hs){d:Sc}(hd:d.Ok)(jZ:d.off=40->d.l4=6)(hh:zi d hs)
include hW hr nD hd jZ hh
theorem QV(b:U8)(lg:LV)(BM:bH 0 lg)(i8:LV)(h2:J i8<=10)(g:L)(ve:V)(x:V×V)(br:Bool)(y:Option (V×V×V))(kk:Nat)(hk:kk=0 \/kk=1):
  ∃y' g',∀n q,dA T7 8 19 bo.scope mG (.int kk) (nM d ve x (w0 br) y) (nN W rows ki hs d b lg i8 g) n q=
   n (nM d ve x (w0 (vB W d kk br)) (U y')) (nN W rows ki hs d b lg (sX W d kk br i8) g'):=by
 obtain ⟨g',tp⟩:=ahS hW hr nD hd jZ hh b lg BM i8 g ve x (w0 br) y kk hk;refine #[(.int kk,.ref (2+kk),.tup (((W.ps kk).map λp=>gV p.1 p.2 d).map cj)),g',λn q=>(tp n q).trans ?_];unfold sX vB;induction br using dj with
 |true=>exact akd d ve x _ _ _ _ n n q
 |false=>
  have cut:∀l O,tu (mG.2.drop 3) l O n n q=tu ((mG.2.drop 3).take 1) l O (λl O=>tu (mG.2.drop 4) l O n n q) n q:=λl O=>by
   unfold tu
   conv=>lhs;rw [←iS 1 (mG.2.drop 3),kR]
   rfl
  rw [cut];refine (akc d ve x _ _ _ _ _ n q).trans ?_;simp only [any_none,gj];by_cases hn:u∈wq d (W.ps kk)
  ·have vK:u∈(W.ps kk).map λp=>gV p.1 p.2 d:=hn
   rw [dC vK,au rfl,dC hn];exact ake d ve x _ _ _ _ n n q
  ·have vK:u∉(W.ps kk).map λp=>gV p.1 p.2 d:=hn
   rw [fy vK,ax (by decide),fy hn];refine (amr W rows _ _ ki hs d b lg ve x kk hk _ i8 g' n n q).trans ?_;rw [au (by unfold aR;exact (bt h2 (aV rfl)))]
   rfl
theorem adR(b:U8)(lg:LV)(BM:bH 0 lg)(ve:V)(x:V×V)(br:Bool):∃y' g',∀n q,cR (dA T7 8 19 bo.scope mG) (It.ee 0 2).nx bE 0 (nM d ve x (w0 br) u) (nN W rows ki hs d b lg [] []) n q=
  n (nM d ve x (w0 (vB W d 1 (vB W d 0 br))) (U y')) (nN W rows ki hs d b lg (sX W d 1 (vB W d 0 br) (sX W d 0 br [])) g'):=by
 refine bl λaG=>?_;obtain ⟨y1,g1,t1⟩:=QV hW hr nD hd jZ hh b lg BM [] (bp _) [] ve x br u 0 (.inl rfl);obtain ⟨y2,g2,t2⟩:=QV hW hr nD hd jZ hh b lg BM (sX W d 0 br []) (by unfold sX;split<;>simp) g1 ve x (vB W d 0 br) (U y1) 1 (.inr rfl);refine aG ?_;refine #[y2,g2,λn q=>?_];unfold bE
 conv=>lhs;rw [k9]
 refine (t1 _ q).trans ?_
 conv=>lhs;rw [k9]
 refine (t2 _ q).trans ?_
 conv=>lhs;rw [k9]
 rfl
end
noncomputable def hH(a:Bool):SN:=if a then [("meta l4proto",6)]else []
noncomputable def gK(a:Bool):LV:=if a then [.tup [S "meta",.int 0,S "l4proto",.int 1,S "big"],.tup [S "cmp",S "==",.int 0,.bytes [6]]]else []
noncomputable def Wd.z0(W:Wd)(l:Bool):D4:=bx W.ip l W.A0.aM W.mA 0 (hH W.aj)
noncomputable def Wd.z1(W:Wd)(l:Bool):D4:=bx W.ip l W.A1.aM W.nK 0 (W.z0 l).kn
noncomputable def Wd.rows(W:Wd)(l:Bool):LV:=gK W.aj++((W.z0 l).rows++(mq W.A0 (W.z0 l).lay W.pl::((W.z1 l).rows++ [mq W.A1 (W.z1 l).lay (W.pl+1)])))
theorem qE(ip l aM:Bool):∀(ps:NN) (s:Nat) (kn:SN),(bx ip l aM ps s kn).ok=ai->fits ps s/\ (bx ip l aM ps s kn).lay=ps.map λp=>iu p.1 aM
 | [],_,_,_=>#[tv,rfl]
 |(w,n)::r,s,kn,ok=>by
  rw [vb]at ok⊢;by_cases ho:s+slots w<=16
  ·rw [au ho]at ok⊢
   refine (qE ip l aM r (s+slots w) _ ok).elim λh1 h2=>?_;exact #[#[ho,h1],by show iu w aM::_=_;rw [h2];rfl]
  ·rw [ax ho]at ok
   exact nomatch ok
theorem QW(hA:A.Pure)(h:bH 0 lay)(pl:Int):eh 0 (mq A lay pl):=#[tv,hA.1,tv,h,hA.2.1,hA.2.2.1,tv,hA.2.2.2.1,tv]
theorem AQ(a:Bool):bH 0 (gK a):=by
 rcases a with⟨⟩
 ·trivial
 ·exact #[#[tv,tv,tv,tv,tv,tv],#[tv,tv,tv,tv,tv],tv]
theorem Bt{W:Wd}(hW:W.Ok)(l:Bool):bH 0 (W.rows l):=by
 have h0:=iF W.ip l W.A0.aM W.mA 0 (hH W.aj) λp hp=>((hW.ps 0 (.inl rfl)).1 p hp).1;have h1:=iF W.ip l W.A1.aM W.nK 0 (W.z0 l).kn λp hp=>((hW.ps 1 (.inr rfl)).1 p hp).1;exact gI (AQ _) (gI h0.1 #[QW (hW.ps 0 (.inl rfl)).2.2.2 h0.2 _,gI h1.1 #[QW (hW.ps 1 (.inr rfl)).2.2.2 h1.2 _,tv]])
theorem Bu(d:Sc):vp d []:=λnf m e=>by exact dG e
theorem QX(h:∀p∈ps,p.1<17/\ p.2<256^4)(hd:d.Ok):ps.map (λp=>valN p.1 p.2 d)=wq d ps:=by
 unfold wq
 apply rV
 intro p hp;exact ada p.1 p.2 (h p hp).1 (h p hp).2 d hd
theorem Pf{os:List (ON)}(h:os=ns.map U):cS ns=os.map cj:=by
 subst h;unfold cS;simp only [lU]
 rfl
noncomputable def BN(W:Wd)(d:Sc):Bool:=W.aj&&!decide (d.l4=6)
noncomputable def H0(W:Wd)(d:Sc):Bool:=vB W d 1 (vB W d 0 (BN W d))
noncomputable def vY(W:Wd)(d:Sc):LV:=sX W d 1 (vB W d 0 (BN W d)) (sX W d 0 (BN W d) [])
theorem Sy(os:List (ON)):bH 0 (os.map cj):=by
 induction os with
 |nil=>trivial
 |cons o r ih=>exact #[tN o,ih]
theorem VS(hA:A.Pure){os:List (ON)}:bH 0 [GN A (.tup (os.map cj)) pl]:=#[#[hA.1,hA.2.1,Sy _,hA.2.2.1,tv,hA.2.2.2.1,tv],tv]
section
variable{W:Wd}(hW:W.Ok){ki:Int}{hs:LV}(nD:bH 0 hs){d:Sc}(hd:d.Ok)(pP:W.ip=ai->d.six=av)(qV:(W.z0 d.aP).ok=ai)(sY:(W.z1 d.aP).ok=ai)
include hW nD hd pP qV sY
theorem H3:(BN W d=ai->iJ d (gK W.aj) zeros)/\ (BN W d=av->∃b1,Runs d (gK W.aj) zeros b1/\ (J b1)=64/\ vp d (hH W.aj)):=by
 unfold BN;induction ha:W.aj using dj with
 |false=>exact #[nofun,λG=>#[zeros,.nil _,(C2),Bu d]]
 |true=>
  by_cases e:d.l4=6
  ·exact #[λh=>(nomatch(dC e▸h:(ai&&!true)=ai)),λG=>((ze (s:=0) hd (C2) rfl (aV rfl) av 6 (bF rfl) (Bu d)).1 ((l4n d 6).mpr e)).imp λb1 z=>#[z.1,z.2.1,(Bu d).set ((l4n d 6).mpr e)]]
  ·exact #[λG=>(ze (s:=0) hd (C2) rfl (aV rfl) av 6 (bF rfl) (Bu d)).2 λz=>e ((l4n d 6).mp z),λh=>nomatch(fy e▸h:(ai&&!false)=av)]
theorem akf:Lp (tJ W (W.rows d.aP) ki hs d) d (W.rows d.aP) u (W.rows d.aP) zeros [] (w0 (H0 W d)) (vY W d):=by
 have h6:(tJ W (W.rows d.aP) ki hs d).a6= .list (W.rows d.aP):=rfl;have hr:=Bt hW d.aP;have ht:Cl 9 (tJ W (W.rows d.aP) ki hs d).l:=II W hW hr nD d;have P0:=hW.ps 0 (.inl rfl);have P1:=hW.ps 1 (.inr rfl);have Au:bH 0 ([]:LV):=trivial;have pl0:W.pl+((0:Nat):Int)=W.pl:=Int.add_zero _;unfold H0 vY;induction h0:BN W d using dj with
 |true=>exact Lp.breaks ht h6 hr Au ((H3 hW nD hd pP qV sY).1 h0)
 |false=>
  refine bl λaG=>?_;refine ((H3 hW nD hd pP qV sY).2 h0).elim λb1 hq=>hq.elim λr1 hq=>hq.elim λl1 k1=>?_;refine aG ?_;have pr0:=HS hd W.ip pP W.A0.aM W.mA 0 b1 (hH W.aj) P0.1 l1 k1 qV;rw [QX (ps:=W.mA) P0.1 hd]at pr0;refine Lp.runs ht h6 hr Au r1 λx1=>?_;by_cases hn0:u∈wq d W.mA
  ·have Pg:vB W d 0 av=true:=dC hn0
   unfold sX;rw [Pg];exact Lp.breaks ht h6 hr Au (pr0.1 hn0)
  ·have Pg:vB W d 0 av=false:=fy hn0
   refine (pr0.2 hn0).elim λb2 hq=>?_;have R2:=hq.1;have pr1:=HS hd W.ip pP W.A1.aM W.nK 0 b2 (W.z0 d.aP).kn P1.1 R2.len R2.kn sY;rw [QX (ps:=W.nK) P1.1 hd]at pr1
   have lg0:sX W d 0 av []= [GN W.A0 (.tup ((wq d W.mA).map cj)) W.pl]:=by
    unfold sX ZO;rw [Pg,pl0];rfl
   simp only [lg0,Pg];refine Lp.runs ht h6 hr Au R2.run λx2=>Lp.told ht h6 hr Au W.A0 P0.2.2.2 R2.len W.A0.aM W.mA (λp hp=>(P0.1 p hp).1) (qE W.ip d.aP W.A0.aM W.mA 0 (hH W.aj) qV).1 ((λh=>bt h (aV rfl)) P0.2.1) W.pl (bp _) (qE W.ip d.aP W.A0.aM W.mA 0 (hH W.aj) qV).2 λx3=>?_;have sc1:=VS P0.2.2.2 (os:=wq d W.mA) (pl:=W.pl);rw [Pf hq.2];by_cases hn1:u∈wq d W.nK
   ·have x2b:vB W d 1 av=true:=dC hn1
    unfold sX;rw [x2b];exact Lp.breaks ht h6 hr sc1 (pr1.1 hn1)
   ·have x2b:vB W d 1 av=false:=fy hn1
    refine (pr1.2 hn1).elim λb3 hq=>?_;refine Lp.runs ht h6 hr sc1 hq.1.run λx4=>Lp.told ht h6 hr sc1 W.A1 P1.2.2.2 hq.1.len W.A1.aM W.nK (λp hp=>(P1.1 p hp).1) (qE W.ip d.aP W.A1.aM W.nK 0 (W.z0 d.aP).kn sY).1 ((λh=>bt h (aV rfl)) P1.2.1) (W.pl+1) (aV rfl) (qE W.ip d.aP W.A1.aM W.nK 0 (W.z0 d.aP).kn sY).2 λx5=>?_;unfold sX ZO;rw [Pf hq.2,x2b];exact Lp.done ht h6 hr (gI sc1 (VS P1.2.2.2))
theorem Sz:∃x' b',J b'=J b'/\ ∀n q,VM bE 0 (lH d .none++FL u) (bL (tJ W (W.rows d.aP) ki hs d) d zeros []) n q=n (lH d (w0 (H0 W d))++FL (U x')) (bL (tJ W (W.rows d.aP) ki hs d) d b' (vY W d)):=by
 have al:J (gK W.aj)<=2:=by unfold gK;rcases W.aj<;>exact aV rfl
 exact (akf hW nD hd pP qV sY 0 bE rfl (gd (vm al (vm (si (jP W.ip d.aP W.A0.aM W.mA 0 (hH W.aj) λp hp=>((hW.ps 0 (.inl rfl)).1 p hp).1).1 (hW.ps 0 (.inl rfl)).2.1 (aV rfl:9*5<=45)) (mM (vm (si (jP W.ip d.aP W.A1.aM W.nK 0 (W.z0 d.aP).kn λp hp=>((hW.ps 1 (.inr rfl)).1 p hp).1).1 (hW.ps 1 (.inr rfl)).2.1 (aV rfl:9*5<=45)) (ez 1))))) (bF rfl))).imp λx z=>z.imp λb e=>#[rfl,e]
end
structure Ph(A:Ab):Prop where
 op:tc 7 A.op A.op=U ai
 nm:tc 7 A.nm A.nm=U ai
 tm:tc 7 A.tm A.tm=U ai
 inner:tc 7 A.inner A.inner=U ai
theorem ahW(h:Ph A){os:List (ON)}(ho:u∉os)(pl:Int):eqv (GN A (.tup (os.map cj)) pl) (GN A (.tup (os.map cj)) pl)=U true:=by
 refine pA λx hx=>?_;simp only [eU,iT,or_false]at hx;rcases hx with rfl|rfl|rfl|rfl|rfl|rfl
 ·exact h.op
 ·exact h.nm
 ·exact Pe 5 ho
 ·exact h.tm
 ·exact GO 6 pl
 ·exact h.inner
section
variable{W:Wd}(hW:W.Ok)(hE:∀kk,kk=0 \/kk=1->Ph (W.A kk)){ki:Nat}(hk:ki<6){hs:LV}(nD:bH 0 hs){d:Sc}(hd:d.Ok)(h6:d.six=decide (ki=4))(jZ:d.off=40->d.l4=6)(hh:zi d hs)(pP:W.ip=ai->d.six=av)(qV:(W.z0 d.aP).ok=ai)(sY:(W.z1 d.aP).ok=ai)
include hW hE hk nD hd h6 jZ hh pP qV sY
theorem ahX:allEq eqv (vY W d) (vY W d)=U true:=by
 refine pA λx hx=>?_
 have step:∀(kk:Nat) (BO:kk=0 \/kk=1) (br:Bool) (lg:LV),(∀x∈lg,eqv x x=U ai)->∀x∈sX W d kk br lg,eqv x x=U true:=λkk BO br lg h x hx=>by
  unfold sX vB at hx;by_cases hn:u∈wq d (W.ps kk)
  ·rw [dC hn,tV,au rfl]at hx
   exact h x hx
  ·rw [fy hn,tU]at hx
   induction br using dj with
   |true=>exact h x hx
   |false=>
    rw [ax (by decide)]at hx;rcases Kz.mp hx with hx|hx
    ·exact h x hx
    ·rw [iV.mp hx]
     exact ahW (hE kk BO) hn _
 exact step 1 (.inr rfl) _ _ (step 0 (.inl rfl) _ [] (λy hy=>absurd hy iT)) x hx
theorem ahY:bH 0 (vY W d):=by
 have Sy:∀os:List (ON),bH 0 (os.map cj):=λos=>by
  induction os with
  |nil=>trivial
  |cons o r ih=>exact #[tN o,ih]
 have step:∀(kk:Nat) (BO:kk=0 \/kk=1) (br:Bool) (lg:LV),bH 0 lg->bH 0 (sX W d kk br lg):=λkk BO br lg h=>by
  have hp:=(hW.ps kk BO).2.2.2;unfold sX
  split
  ·exact h
  ·exact gI h #[#[hp.1,hp.2.1,Sy _,hp.2.2.1,tv,hp.2.2.2.1,tv],tv]
 exact step 1 (.inr rfl) _ _ (step 0 (.inl rfl) _ _ trivial)
theorem ahZ:∃g,runK P (cn T7 8) (.con (.ref 700)) [.ref 0,.ref 6,.ref 7,S (b5 d.aP)] (tJ W (W.rows d.aP) ki hs d).l .ok= .ok (.bool ai) ((tJ W (W.rows d.aP) ki hs d).l++g):=by
 refine bl λaG=>?_;refine (Sz (ki:=(ki:Int)) hW nD hd pP qV sY).elim λx hq=>hq.elim λb' hq=>?_;have mc:=hq.2;refine (adR (ki:=(ki:Int)) hW (Bt hW d.aP) nD hd jZ hh b' (vY W d) (ahY hW hE hk nD hd h6 jZ hh pP qV sY) (w0 (H0 W d)) x (BN W d)).elim λy' hq=>hq.elim λg' kl=>?_
 have due:∀k c q,cb T7 8 bo ((bo.body.drop 4).take 2) (lH d (w0 (H0 W d))++FL (U x)) (bL (tJ W (W.rows d.aP) ki hs d) d b' (vY W d)) k c q=k (Pd d (w0 (H0 W d)) x (w0 (BN W d))) (nN W (W.rows d.aP) ki hs d b' (vY W d) [] []):=λk c q=>by
  refine (ahM W (W.rows d.aP) _ _ ki hs d b' (vY W d) (w0 (H0 W d)) x k c q).trans ?_;unfold BN;by_cases h:d.l4=6
  ·rw [dC h,show(d.l4==6)=ai from by rw [h];rfl]
   rcases W.aj<;>rfl
  ·rw [fy h,show(d.l4==6)=av from ql.mpr h]
   rcases W.aj<;>rfl
 obtain ⟨r,er⟩:=VR (tJ W (W.rows d.aP) ki hs d) d b' (vY W d);refine aG ?_;refine #[r++(.list (vY W d)::g'),?_];refine (i3 (D:=bo) (l0:=lH0 d.aP) (by rfl') rfl).trans ?_;refine (kS 3).trans ?_;refine (ahI (W.t (W.rows d.aP)|>.hds hs) _ _ ki hk d h6 _ _ _).trans ?_;rw [au (by have:=hd.oc;exact (bt this (aV rfl)))];refine (adM _ _ _ _ _).trans ?_;refine (ahK d .none _ (W.rows d.aP) vA _ _ _).trans ?_;refine (mc _ _).trans ?_;refine (kS 2).trans ?_;refine (due _ _ _).trans ?_;rw [oD];refine (ahP d _ x _ _ _ _ _).trans ?_;refine (kl _ _).trans ?_;refine (ahQ W (W.rows d.aP) _ _ ki hs d b' (vY W d) _ (by unfold w0;cases H0 W d;exact .inl rfl;exact .inr rfl) x y' (vY W d) g' _ _ _).trans ?_;simp only [ahX hW hE hk nD hd h6 jZ hh pP qV sY,gj];unfold tJ at er⊢;rw [er,cM]
end
noncomputable def lr(r:Bool):SV:= [("s",.tup (if r then [S "dynamic",S "interval"]else [S "dynamic"]))]
noncomputable def qw(op nm e tm inner:V):V:=.tup [S "dynset",op,nm,e,tm,inner]
noncomputable def lMd(st:V)(pl:Int):SV:= [("rowing",.ref 1),("statement",st),("place",.int pl)]
noncomputable def ZP(st op nm e tm inner lay:V)(pl:Int):SV:=lMd st pl++([("tag",S "dynset"),("op",op),("name",nm),("e",e),("timeout",tm),("inner",inner),("layout",lay)]:SV)
theorem ah1(ip:Bool)(aO:String)(r:Bool)(xs:LV)(kn:SV)(op e tm inner:V)(n:Nat)(hn:n<2)(pl:Int)(k c:KT)(q:QT):
  cb T7 8 nE (nE.body.take 2) (lMd (qw op (vw.getD n .none) e tm inner) pl) (bB ip aO (lr r) xs kn []) k c q=
  (wo 271 r7 fu [.ref 1,.int 0,e,.bool (decide (n=0)&&r)] (bB ip aO (lr r) xs kn [])).k λv O=>k (ZP (qw op (vw.getD n .none) e tm inner) op (vw.getD n .none) e tm inner v pl) O:=by
 match n,hn,r with
 |0,_,ai|0,_,av|1,_,ai|1,_,av=>rfl'
 |n+2,h,_=>exact absurd h (dK (fx _ _))
theorem adS(ip:Bool)(aO:String)(fl:SV)(xs:LV)(kn:SV)(st op nm e tm inner:V)(lay:LV)(pl:Int)(n c:KT)(q:QT):
  cb T7 8 nE (nE.body.drop 2) (ZP st op nm e tm inner (.tup lay) pl) (bB ip aO fl xs kn []) n c q=if(J xs)<=aR then n (ZP st op nm e tm inner (.tup lay) pl) (bB ip aO fl (xs++ [.tup [S "dynset",op,.int 0,.tup lay,nm,tm,.int pl,inner]]) kn [])else .bad:=by rfl'
theorem zu(r:Bool):bH 0 ((lr r).map (·.2)):=by
 rcases r with⟨⟩
 ·exact #[#[tv,tv],tv]
 ·exact #[#[tv,tv,tv],tv]
theorem aa8:(kN.exc v O).k K= .exc v O:=rfl
section
variable(l ip r:Bool){A:Ab}(n:Nat)(hn:n<2)(Ue:A.nm=vw.getD n .none)(ah2:A.aM=(decide (n=0)&&r))(ps:NN)(he:A.e=iH ps)(jI:∀p∈ps,p.1<17/\ p.2<256^4)(h0:0<J ps)(h5:J ps<=5)(xs:LV)(kn:SN)(h1:J xs<=700)(h2:J kn<=700)(nd:(kn.map (·.1)).Nodup)(sc:bH 0 xs)(pl:Int)
include hn Ue ah2 he jI h0 h5 h1 h2 nd sc
theorem ah3:runK P (cn T7 8) (.con (.ref 285)) [.ref 1,qw A.op A.nm A.e A.tm A.inner,.int pl] (bB ip (b5 l) (lr r) xs (aT kn) []) .ok=
  if(bx ip l A.aM ps 0 kn).ok then .ok .none (bB ip (b5 l) (lr r) (xs++dk A pl (bx ip l A.aM ps 0 kn)) (aT (bx ip l A.aM ps 0 kn).kn) [])
  else .exc zq (bB ip (b5 l) (lr r) (xs++dk A pl (bx ip l A.aM ps 0 kn)) (aT (bx ip l A.aM ps 0 kn).kn) []):=by
 refine (i3 (D:=nE) (l0:=lMd (qw A.op A.nm A.e A.tm A.inner) pl) (by rfl') rfl).trans ?_;refine (kS 2).trans ?_;rw [Ue];refine (ah1 ip (b5 l) r xs (aT kn) A.op A.e A.tm A.inner n hn pl _ _ _).trans ?_;rw [←ah2,he,aj9 l ip (lr r) (zu r) A.aM ps jI h0 h5 xs kn h1 h2 nd sc []];unfold dk;induction qO:(bx ip l A.aM ps 0 kn).ok using dj with
 |true=>
  rw [au rfl,au rfl,au rfl,n8];refine (adS ip (b5 l) (lr r) _ _ _ _ _ _ _ _ _ pl _ _ _).trans ?_;rw [au (by rw [cx];unfold aR;exact (aiL (jP ip l A.aM ps 0 kn λp hp=>(jI p hp).1).1 h5 h1 (aV rfl))),cM,←Ue]
  rfl
 |false=>
  rw [ax (by decide),ax (by decide),ax (by decide),aa8]
end
noncomputable def rf(x:aF)(kvs:SV):Nat:=match look x kvs with
 |some (.ref i)=>i
 |_=>0
noncomputable def FN:LV->L->LN:=λargs O=>match args with
 | [.ref w,.ref r,.ref f,_]=>(match O[w]?,O[f]? with
  |some (.dict W),U (.dict F)=>(match O[rf "dynsets" W]? with
   |some (.list [.ref a,.ref b])=>(match O[a]?,O[b]? with
    |some (.dict A),U (.dict B)=> [w,rf "dynsets" W,a,b,rf "parts" A,rf "parts" B,r,f,rf "heads" F]
    |_,_=> [])
   |_=> [])
  |_,_=> [])
 |_=> []
noncomputable def T8:eR:=λa=>
 if a=285 then U (e9 (i4 T7 8 285 r7 fu))
 else if a=700 then U (e9 (i4 T7 8 700 FN fu))
 else T7 a
theorem akg:Good 150 T8:=good_add aj8 (by decide) 8
 (gJ (.inr λargs O hb G G=>dV args O hb)<|gJ (.inr λargs O hb G G=>dV args O hb) λG G h=>.inl h)
noncomputable abbrev SA:Spec:=e9 (i4 T7 8 285 r7 fu)
theorem VT{A:Ab}(hA:A.Pure):eh n (qw A.op A.nm A.e A.tm A.inner):=
 #[tv,cT (bp _) _ hA.1,cT (bp _) _ hA.2.1,cT (bp _) _ hA.2.2.2.2,cT (bp _) _ hA.2.2.1,cT (bp _) _ hA.2.2.2.1,tv]
structure Pj(l ip r:Bool)(A:Ab)(n:Nat)(ps:NN)(xs:LV)(kn:SN):Prop where
 pure:A.Pure
 hn:n<2
 nm:A.nm=vw.getD n .none
 aM:A.aM=(decide (n=0)&&r)
 he:A.e=iH ps
 jI:∀p∈ps,p.1<17/\ p.2<256^4
 p0:0<J ps
 p5:J ps<=5
 hxs:J xs<=700
 FO:J kn<=700
 nd:(kn.map (·.1)).Nodup
 sc:bH 0 xs
theorem akh(h:Pj l ip r A n ps xs kn)(pl:Int)(g:L):
  SA [.ref 1,qw A.op A.nm A.e A.tm A.inner,.int pl] (bB ip (b5 l) (lr r) xs (aT kn) g)=
  if(bx ip l A.aM ps 0 kn).ok then .yes .none (bB ip (b5 l) (lr r) (xs++dk A pl (bx ip l A.aM ps 0 kn)) (aT (bx ip l A.aM ps 0 kn).kn) g)
  else .exc zq (bB ip (b5 l) (lr r) (xs++dk A pl (bx ip l A.aM ps 0 kn)) (aT (bx ip l A.aM ps 0 kn).kn) g):=by
 have run:=ah3 l ip r n h.hn h.nm h.aM ps h.he h.jI h.p0 h.p5 xs kn h.hxs h.FO h.nd h.sc pl;have s1:=(iF ip l A.aM ps 0 kn λp hp=>(h.jI p hp).1).1;induction qO:(bx ip l A.aM ps 0 kn).ok using dj with
 |true=>
  rw [qO]at run;exact nQ (p:=bB ip (b5 l) (lr r) xs (aT kn) []) (p':=bB ip (b5 l) (lr r) (xs++dk A pl (bx ip l A.aM ps 0 kn)) (aT (bx ip l A.aM ps 0 kn).kn) []) rfl rfl rfl (jd (zu r) h.sc (kT kn)) (jd (zu r) (gI h.sc (pN h.pure pl s1 ((iF ip l A.aM ps 0 kn λp hp=>(h.jI p hp).1).2))) (kT _)) (#[(show 1<7 by decide),VT h.pure,tv,tv]:bH 7 [.ref 1,qw A.op A.nm A.e A.tm A.inner,.int pl]) run trivial
 |false=>
  rw [qO]at run;exact Qv (p:=bB ip (b5 l) (lr r) xs (aT kn) []) (p':=bB ip (b5 l) (lr r) (xs++dk A pl (bx ip l A.aM ps 0 kn)) (aT (bx ip l A.aM ps 0 kn).kn) []) rfl rfl rfl (jd (zu r) h.sc (kT kn)) (jd (zu r) (gI h.sc (pN h.pure pl s1 ((iF ip l A.aM ps 0 kn λp hp=>(h.jI p hp).1).2))) (kT _)) (#[(show 1<7 by decide),VT h.pure,tv,tv]:bH 7 [.ref 1,qw A.op A.nm A.e A.tm A.inner,.int pl]) run trivial
noncomputable abbrev QY(pl kk:Int):SV:= [("rowing",.ref 1),("about",.ref 7),("place",.int pl),("k",.int kk)]
noncomputable def wt(A:Ab)(pl kk:Int):SV:=QY pl kk++([("statement",qw A.op A.nm A.e A.tm A.inner)]:SV)
noncomputable def BP(i:Nat):Stmt:=(dZ c9 i).getD nX
noncomputable def GP:LT:=match BP 1 with
 |.Try b _ _ _ _=>b
 |_=> []
noncomputable abbrev nA(ip:Bool)(aO:String)(fl:SV)(xs:LV)(kn:SV)(A:Ab)(ps:NN)(g:L):L:=bB ip aO fl xs kn (.dict (dR A 8):: .list (cO ps)::g)
theorem adT:c9.body= [BP 0,BP 1,BP 2]:=by rfl'
theorem ams(c:Ht)(A:Ab)(ps:NN)(pl kk:Int)(ip:Bool)(aO:String)(fl:SV)(xs:LV)(kn:SV):
  (gn P c 20).x c9.scope (bA (QY pl kk)) (nA ip aO fl xs kn A ps []) (BP 0)= .ok (.next,upd "statement" (qw A.op A.nm A.e A.tm A.inner) (bA (QY pl kk))) (nA ip aO fl xs kn A ps []):=by rfl'
theorem amt(c:Ht)(A:Ab)(pl kk:Int)(O:L):(gn P c 20).x c9.scope (bA (wt A pl kk)) O (BP 1)=(match mf ((gn P c 19).x c9.scope) GP (bA (wt A pl kk)) O with
  |.ok a O=>.ok a O
  |.exc v O=>if yA v then .bad else .ok (.ret v,λG=>.none) O
  |.bad=>.bad):=by rfl'
theorem amu(c:Ht)(ao:Loc)(O:L):(gn P c 20).x c9.scope ao O (BP 2)= .ok (.ret (S ""),ao) O:=by rfl'
theorem adU(A:Ab)(ps:NN)(pl:Int)(ip:Bool)(aO:String)(fl:SV)(xs:LV)(kn:SV)(n c:KT)(q:QT):
  fm ((E T8 3 19).x c9.scope) GP (wt A pl 0) (nA ip aO fl xs kn A ps []) n c q=(SA [.ref 1,qw A.op A.nm A.e A.tm A.inner,.int pl] (nA ip aO fl xs kn A ps [])).k λv O=>match v with|.none=>n (wt A pl 0) O|_=>.bad:=by rfl'
theorem adV(A:Ab)(ps:NN)(pl:Int)(ip:Bool)(aO:String)(fl:SV)(xs:LV)(kn:SV)(n c:KT)(q:QT):
  fm ((E T8 3 19).x c9.scope) GP (wt A pl 1) (nA ip aO fl xs kn A ps []) n c q=(SA [.ref 1,qw A.op A.nm A.e A.tm A.inner,.int pl] (nA ip aO fl xs kn A ps [.dict [("dynset",.con (.ref 285))]])).k λv O=>match v with|.none=>n (wt A pl 1++([("maker",.con (.ref 285))]:SV)) O|_=>.bad:=by rfl'
theorem aa9:HX ((E T8 3 19).x c9.scope) ((gn P (inl T8 3) 19).x c9.scope):=λl O s n c q F h1 h2 h3=>(Ah (Ai T8 3) 19).x h1 h2 h3
theorem ah4{ss:LT}(h:fm ((E T8 3 19).x c9.scope) ss l O (λG O=>.ok .none O) (λG G=>.bad) (λG G=>.bad)= .ok .none aZ):∃l',mf ((gn P (inl T8 3) 19).x c9.scope) ss (bA l) O= .ok (.next,l') aZ:=by
 have z:=wG aa9 (ss:=ss) (l:=l) (O:=O) (n:=λG O=>.ok .none O) (F:=λa O=>match a.1 with|.next=>.ok .none O|_=>.bad) (λG G=>le.refl _) (λG G=>le.bad) (λG G G=>le.bad);rw [h]at z;have z:=z (by intro y;cases y);induction e:mf ((gn P (inl T8 3) 19).x c9.scope) ss (bA l) O using Res.casesOn with
 |ok a dO=>
  obtain ⟨fl,l'⟩:=a;rw [e]at z;induction fl using fz.casesOn with
  |next=>rcases z with⟨⟩;exact #[l',rfl]
  |cont=>obtain ⟨⟩:=z
  |ret v=>obtain ⟨⟩:=z
 |exc v dO=>rw [e]at z;exact nomatch z
 |bad=>rw [e]at z;exact nomatch z
theorem adW{ss:LT}(h:fm ((E T8 3 19).x c9.scope) ss l O (λG O=>.ok .none O) (λG G=>.bad) (λG G=>.bad)= .exc v aZ):mf ((gn P (inl T8 3) 19).x c9.scope) ss (bA l) O= .exc v aZ:=by
 have z:=wG aa9 (ss:=ss) (l:=l) (O:=O) (n:=λG O=>.ok .none O) (F:=λa O=>match a.1 with|.next=>.ok .none O|_=>.bad) (λG G=>le.refl _) (λG G=>le.bad) (λG G G=>le.bad);rw [h]at z;have z:=z (by intro y;cases y);induction e:mf ((gn P (inl T8 3) 19).x c9.scope) ss (bA l) O using Res.casesOn with
 |ok a dO=>
  obtain ⟨fl,l'⟩:=a;rw [e]at z;rcases fl<;>obtain ⟨⟩:=z
 |exc v1 dO=>rw [e]at z;rcases z with⟨⟩;rfl
 |bad=>rw [e]at z;cases z
theorem Ef:mf f (s::r) l O=(f l O s).bind λa O=>match a with
  |(.next,l)=>mf f r l O
  |(fl,l)=>.ok (fl,l) O:=rfl
theorem adX(A:Ab)(ps:NN)(pl kk:Int)(ip:Bool)(aO:String)(fl:SV)(xs:LV)(kn:SV):
  fk P (gn P (inl T8 3) deep) (.con (.ref 660)) [.ref 1,.ref 7,.int pl,.int kk] (nA ip aO fl xs kn A ps [])=
  (match mf ((gn P (inl T8 3) 19).x c9.scope) GP (bA (wt A pl kk)) (nA ip aO fl xs kn A ps [])with
  |.ok a O=>.ok (match a.1 with|.ret v=>v|.next=>S "" |.cont=>.none) O
  |.exc v O=>if yA v then .bad else .ok v O
  |.bad=>.bad):=by
 have hl:upd "statement" (qw A.op A.nm A.e A.tm A.inner) (bA (QY pl kk))=bA (wt A pl kk):=by
  rw [←Hq]
  rfl
 unfold fk;dsimp only;rw [(by rfl':P.fn 660=U c9)];dsimp only;rw [(Fb (by rfl):bindArgs c9.params c9.dflt [.ref 1,.ref 7,.int pl,.int kk]=U (bA (QY pl kk)))];dsimp only;rw [adT];rw [Ef];rw [show deep=20 from rfl,ams (inl T8 3) A ps pl kk ip aO fl xs kn];show(Res.bind (mf ((gn P (inl T8 3) 20).x c9.scope) [BP 1,BP 2] (upd "statement" (qw A.op A.nm A.e A.tm A.inner) (bA (QY pl kk))) (nA ip aO fl xs kn A ps [])) _)=_
 rw [hl];simp -iota only [Ef];rw [amt];induction mf ((gn P (inl T8 3) 19).x c9.scope) GP (bA (wt A pl kk)) (nA ip aO fl xs kn A ps [])using Res.casesOn with
 |ok a O=>
  obtain ⟨f,l'⟩:=a;induction f using fz.casesOn with
  |next=>
   show(Res.bind (mf ((gn P (inl T8 3) 20).x c9.scope) [BP 2] l' O) _)=_
   simp -iota only [Ef];rw [amu]
   rfl
  |cont=>rfl
  |ret v=>rfl
 |exc v O=>
  by_cases h:yA v=ai
  ·simp only [h];rfl
  ·simp only [h];rfl
 |bad=>rfl
noncomputable def s9(ok:Bool):V:=if ok then S "" else zq
theorem ah5(h:Pj l ip r A n ps xs kn)(pl:Int)(kk:Nat)(hk:kk=0 \/kk=1):
  ∃g,fk P (gn P (inl T8 3) deep) (.con (.ref 660)) [.ref 1,.ref 7,.int pl,.int kk] (nA ip (b5 l) (lr r) xs (aT kn) A ps [])=
   .ok (s9 (bx ip l A.aM ps 0 kn).ok) (nA ip (b5 l) (lr r) (xs++dk A pl (bx ip l A.aM ps 0 kn)) (aT (bx ip l A.aM ps 0 kn).kn) A ps g):=by
 have tr:∃g lF,∀n c q,fm ((E T8 3 19).x c9.scope) GP (wt A pl kk) (nA ip (b5 l) (lr r) xs (aT kn) A ps []) n c q=
   (SA [.ref 1,qw A.op A.nm A.e A.tm A.inner,.int pl] (nA ip (b5 l) (lr r) xs (aT kn) A ps g)).k λv O=>match v with|.none=>n lF O|_=>.bad:=by
  rcases hk with rfl|rfl
  ·exact #[[],_,λn c q=>adU A ps pl ip (b5 l) (lr r) xs (aT kn) n c q]
  ·exact #[[.dict [("dynset",.con (.ref 285))]],_,λn c q=>adV A ps pl ip (b5 l) (lr r) xs (aT kn) n c q]
 obtain ⟨g,lF,tr⟩:=tr;refine #[g,?_];have te:=tr (λG O=>.ok .none O) (λG G=>.bad) (λG G=>.bad);simp -iota only [adX];simp -iota only [akh h pl]at te;unfold s9;induction qO:(bx ip l A.aM ps 0 kn).ok using dj with
 |true=>
  rw [qO,au rfl,n8]at te;refine (ah4 te).elim λl' e=>?_;rw [e]
  rfl
 |false=>
  rw [qO,ax (by decide),aa8]at te;rw [adW te]
  rfl
noncomputable def jM:LV->L->LN:=λargs O=>match args with
 | [.ref r,.ref a,_,_]=>(match O[r]?,O[a]? with
  |some (.inst _ kvs),U (.dict D)=> [rf "fields" kvs,r,rf "rows" kvs,rf "sets" kvs,rf "known" kvs,rf "makers" kvs,rf "flags" kvs,a,rf "parts" D]
  |_,_=> [])
 |_=> []
noncomputable def Pk:Sel:=#[jM,fu,λas Os=>fk P (gn P (inl T8 3) deep) (.con (.ref 660)) as Os]
noncomputable def mH:eR:=λa=>if a=660 then U (e9 Pk)else T8 a
theorem aki:Good 162 mH:=good_add akg (by decide) 3
 (gJ (.inr λargs O hb G G=>Nw (λG G G e=>e) args O hb) λG G h=>.inl h)
theorem aba(h:Pj l ip r A n ps xs kn)(sc:bH 0 xs'):Cl 9 (nA ip (b5 l) (lr r) xs' (aT BL) A ps []):=by
 have hA:=h.pure;refine bl λaG=>?_;refine (Cl.mono (show 7<=9 by decide) (jd (ip:=ip) (aO:=b5 l) (zu r) sc (kT BL))).elim λc0 hq=>hq.elim λc1 hq=>hq.elim λc2 hq=>hq.elim λc3 hq=>?_;refine aG ?_;exact #[c0,c1,c2,c3,hq.1,hq.2.1,hq.2.2.1,#[cT (bp _) _ hA.1,cT (bp _) _ hA.2.1,cT (bp _) _ hA.2.2.1,cT (bp _) _ hA.2.2.2.1,(show 8<9 by decide),tv,cT (bp _) _ hA.2.2.2.2,tv],fp (bp _) _ (gq ps),tv]
theorem akj(h:Pj l ip r A n ps xs kn)(pl:Int)(kk:Nat)(hk:kk=0 \/kk=1)
  (qS:jM args O= [j0,j1,j2,j3,j4,j5,j6,j7,j8]) (at':nY [j0,j1,j2,j3,j4,j5,j6,j7,j8] args O [.ref 1,.ref 7,.int pl,.int kk] (nA ip (b5 l) (lr r) xs (aT kn) A ps [])):
  e9 Pk args O= .yes (s9 (bx ip l A.aM ps 0 kn).ok) ((O.set j2 (.list (xs++dk A pl (bx ip l A.aM ps 0 kn)))).set j4 (.dict (aT (bx ip l A.aM ps 0 kn).kn))):=by
 refine bl λaG=>?_;refine (ah5 h pl kk hk).elim λg run=>?_;refine (iF ip l A.aM ps 0 kn λp hp=>(h.jI p hp).1).elim λs1 s2=>?_;refine aG ?_;have sx:bH 0 (xs++dk A pl (bx ip l A.aM ps 0 kn)):=gI h.sc (pN h.pure pl s1 s2);generalize hz:bx ip l A.aM ps 0 kn=z at*
 let ae:= [j0,j1,j2,j3,j4,j5,j6,j7,j8]
 have wy:eh 9 (s9 z.ok)/\ en (jS ae) (s9 z.ok)=s9 z.ok:=by unfold s9;rcases z.ok<;>exact #[tv,rfl]
 have inj:∀i (k:Nat),i<9->k<9->i≠k->jS ae k≠jS ae i:=λi k h9 hk h e=>h (UU at'.nd i k h9 hk e.symm);have keep:∀{a:Nat},j2≠a->j4≠a->((O.set j2 (.list (xs++dk A pl z))).set j4 (.dict (aT z.kn)))[a]? =O[a]? :=λh2 h4=>(km h4).trans (km h2)
 refine (Gy (js:=ae) (dc:=(O.set j2 (.list (xs++dk A pl z))).set j4 (.dict (aT z.kn))) qS rfl at' run (oz.trans oz) (λi hi=>?_)
  (λi G hn=>keep (λe=>hn (e▸uA (i:=2) rfl)) λe=>hn (e▸uA (i:=4) rfl)) wy.1).trans (I (kN.yes · _) wy.2)
 have zJ:i<J (nA ip (b5 l) (lr r) (xs++dk A pl z) (aT z.kn) A ps []):=hi;refine #[_,(eA zJ).trans (dS zJ),(aba h sx).at (dS zJ),?_];by_cases h2:i=2
 ·subst h2
  exact (km (inj 2 4 (bF rfl) (bF rfl) (by decide))).trans ((uB ((jj (at'.obj 2 _ rfl).2).1)).trans (I (λl=>U (MO.list l)) (eP sx).symm))
 ·by_cases h4:i=4
  ·subst h4
   exact (uB (oz.symm▸((jj (at'.obj 4 _ rfl).2).1))).trans (I (λl=>U (MO.dict l)) (qA (kT _)).symm)
  ·have e:(nA ip (b5 l) (lr r) xs (aT kn) A ps [])[i]? =U _:=(((km (l:=(nA ip (b5 l) (lr r) xs (aT kn) A ps []).set 2 (.list (xs++dk A pl z))) (bP h4)).trans (km (bP h2))).symm).trans (dS zJ)
   exact (keep (inj i 2 hi (bF rfl) h2) (inj i 4 hi (bF rfl) h4)).trans (at'.obj i _ e).2
theorem akk{W:Wd}(hW:W.Ok)(hE:∀kk,kk=0 \/kk=1->Ph (W.A kk)){ki:Nat}(hk:ki<6)(nD:bH 0 hs)(hd:d.Ok)(h6:d.six=decide (ki=4))(jZ:d.off=40->d.l4=6)(hh:zi d hs)(pP:W.ip=ai->d.six=av)(qV:(W.z0 d.aP).ok=ai)(sY:(W.z1 d.aP).ok=ai)
 (qS:FN args O=js) (h9:J js=9) (at':nY js args O [.ref 0,.ref 6,.ref 7,S (b5 d.aP)] (tJ W (W.rows d.aP) ki hs d).l):
  e9 (i4 T7 8 700 FN fu) args O= .yes (.bool ai) O:=by
 refine (ahZ hW hE hk nD hd h6 jZ hh pP qV sY).elim λg run=>?_;have c:=II W hW (Bt hW d.aP) (wh:=(numOf d.oc:Nat)) (bi:=((8*(J d.oc):Nat):Int)) (ki:=ki) nD d;refine Gy (S:=i4 T7 8 700 FN fu) qS rfl at' run rfl (λi hi=>?_) (λG G G=>rfl) trivial;have zJ:i<(tJ W (W.rows d.aP) ki hs d).l.length:=at'.len.symm▸hi;exact #[_,(eA zJ).trans (dS zJ),(at'.obj i _ (dS zJ)).1,(at'.obj i _ (dS zJ)).2]
structure F3 where
 f0:SV
 f1:SV
 f2:SV
 h0:LV
 h1:LV
 h2:LV
noncomputable abbrev cH(W:Wd)(F:F3)(r:L):L:=.dict (ahL W.ip W.aj W.aq W.pl):: .list [.ref 2,.ref 3]:: .dict (dR W.A0 4):: .dict (dR W.A1 5):: .list (cO W.mA):: .list (cO W.nK):: .list [.ref 7,.ref 8,.ref 9]:: .dict F.f0:: .dict F.f1:: .dict F.f2:: .list F.h0:: .list F.h1:: .list F.h2::r
noncomputable def sy(ip l:Bool)(rr kk:Nat):SV:= [("fields",.ref 13),("family",dT ip),("order",S (b5 l)),("prefix",S "__set"),("rows",.ref rr),("sets",.ref 16),("known",.ref kk),("makers",.ref 18),("flags",.ref 20)]
noncomputable def Pl(a:Bool):Nat:=if a then 25 else 15
noncomputable def Pm(a:Bool):Nat:=if a then 27 else 17
noncomputable def rwO(a:Bool):Nat:=if a then 23 else 21
noncomputable def H4(a:Bool):Nat:=if a then 26 else 22
noncomputable abbrev fN(W:Wd)(l:Bool)(X Y:LV)(K ao:SV)(g:L):L:=match W.aj with
 |false=>.dict iE:: .inst 183 (sy W.ip l 15 17):: .list X:: .dict []:: .dict K:: .dict []:: .dict []:: .dict (lr W.aq):: .list Y:: .dict ao::g
 |true=>.dict iE:: .inst 183 (sy W.ip l 25 27):: .list []:: .dict []:: .dict []:: .dict []:: .dict []:: .dict (lr W.aq):: .list []:: .dict []:: .list Y:: .list []:: .list X:: .dict ao:: .dict K::g
noncomputable def lO0(l:Bool):SV:= [("world",.ref 0),("packets",.ref 6),("order",S (b5 l))]
noncomputable def lO(a l:Bool)(g9:V)(ok:Bool):SV:=lO0 l++([("rowing",.ref 14),("rows",g9),("known",.ref (H4 a)),("is_roomy",.bool ok)]:SV)
theorem ah8(W:Wd)(F:F3)(l:Bool)(k c:KT)(q:QT):cb mH 5 aW (aW.body.take 6) (lO0 l) (cH W F []) k c q=
  k (lO W.aj l (.ref (rwO W.aj)) ai) (cH W F (fN W l (gK W.aj) (gK W.aj) (aT (hH W.aj)) (aT (hH W.aj)) [])):=by
 obtain ⟨ip,aj,aq,pl,A0,A1,mA,nK⟩:=W;rcases aj<;>rcases aq<;>rfl'
noncomputable abbrev BQ:aH×LT:=kZ (dZ aW 6)
noncomputable def amv:LT->LT
 |.If _ b _ _::_=>b
 |_=> []
noncomputable def BR:LT:=amv BQ.2
noncomputable abbrev FP(B:LT)(l:LK)(O:L)(n c:KT)(q:QT):RV:=fm ((E mH 5 18).x aW.scope) B l O n c q
noncomputable def oe(x:Option (V×V×V×V)):SV:=match x with|none=> []|some (k,a,m,w)=> [("k",k),("about",a),("more",m),("why",w)]
noncomputable def lOk(a l:Bool)(g9:V)(ok:Bool)(kk:Nat)(x:Option (V×V×V×V)):SV:=lO a l g9 ok++(match x with|none=>([("k",.int kk),("about",.ref (2+kk))]:SV)|some (_,_,m,w)=>([("k",.int kk),("about",.ref (2+kk)),("more",m),("why",w)]:SV))
theorem adY(v:V)(a l:Bool)(g9:V)(x:Option (V×V×V×V))(O:L)(n:KT)(q:QT):dA mH 5 19 aW.scope BQ v (lO a l g9 ai++oe x) O n q=(gr aW.scope BQ.1 v O (lO a l g9 ai++oe x) λl=>FP BR l O n n q):=by
 rcases x with _|⟨b,c,d,e⟩<;>rfl'
theorem ZQ(v:V)(a l:Bool)(g9:V)(k' b c d:V)(O:L)(n:KT)(q:QT):dA mH 5 19 aW.scope BQ v (lO a l g9 av++oe (U (k',b,c,d))) O n q=n (lO a l g9 av++oe (U (v,b,c,d))) O:=by rfl'
theorem amw(W:Wd)(F:F3)(l:Bool)(g9:V)(kk:Nat)(hk:kk=0 \/kk=1)(x:Option (V×V×V×V))(r:L)(k c:KT)(q:QT):
  (gr aW.scope BQ.1 (.int kk) (cH W F r) (lO W.aj l g9 ai++oe x) λl=>FP (BR.take 2) l (cH W F r) k c q)=
  (As [.ref (2+kk),.int (W.pl+kk),.ref (H4 W.aj),dT W.ip,.bool l] (cH W F r)).k λv O=>bc (jk O v) λvs=>sq aW.scope ["more", "is_roomy"] vs (lOk W.aj l g9 ai kk x) λl=>k l O:=by
 rcases hk with rfl|rfl<;>rcases x with _|⟨b,c,d,e⟩<;>rcases l<;>rfl'
noncomputable def lP(a l:Bool)(g9:V)(ok:Bool)(kk:Nat)(m:V)(w:Option V):SV:=lO a l g9 ok++((([("k",.int kk),("about",.ref (2+kk)),("more",m)]:SV))++(match w with|none=>([]:SV)|some w=>([("why",w)]:SV)))
theorem akl(a l:Bool)(g9:V)(ok:Bool)(kk:Nat)(m:V)(x:Option (V×V×V×V))(K:LK->RV):sq aW.scope ["more", "is_roomy"] [m,.bool ok] (lOk a l g9 ai kk x) K=K (lP a l g9 ok kk m (x.map λy=>y.2.2.2)):=by
 rcases x with _|⟨b,c,d,e⟩<;>rfl'
theorem amx(a l:Bool)(r m:Nat)(ok:Bool)(kk:Nat)(w:Option V)(O:L)(k c:KT)(q:QT):FP ((BR.drop 2).take 2) (lP a l (.ref r) ok kk (.ref m) w) O k c q=
  pC .Add (.ref r) (.ref m) O λv O=>k (lO a l v ok++oe (U (.int kk,.ref (2+kk),.ref m,s9 ok))) O:=by
 rcases w with _|w<;>rcases ok<;>rfl'
theorem amy(W:Wd)(F:F3)(l:Bool)(rv:V)(ok:Bool)(kk:Nat)(m w:V)(r:L)(k c:KT)(q:QT):FP (BR.drop 4) (lO W.aj l rv ok++oe (U (.int kk,.ref (2+kk),m,w))) (cH W F r) k c q=
  (e9 Pk [.ref 14,.ref (2+kk),.int (W.pl+kk),.int kk] (cH W F r)).k λv O=>bc (cmp O .NotEq v w) λc=>if c then q (.bool av) O else k (lO W.aj l rv ok++oe (U (.int kk,.ref (2+kk),m,w))) O:=by rfl'
theorem ah9(a l:Bool)(rv:V)(O:L)(n c:KT)(q:QT):cb mH 5 aW (aW.body.drop 6) (lO a l rv ai) O n c q=
  cR (dA mH 5 19 aW.scope BQ) (It.ee 0 2).nx bE 0 (lO a l rv ai) O (λl O=>cb mH 5 aW (aW.body.drop 7) l O n c q) q:=by rfl'
theorem amz(W:Wd)(F:F3)(l:Bool)(rr kk g9:Nat)(ok:Bool)(x:V×V×V×V)(r:L)(k c:KT)(q:QT):
  cb mH 5 aW ((aW.body.drop 7).take 1) (lO W.aj l (.ref g9) ok++oe (U x)) (cH W F (.dict iE:: .inst 183 (sy W.ip l rr kk)::r)) k c q=
  bc (cmp (cH W F (.dict iE:: .inst 183 (sy W.ip l rr kk)::r)) .NotEq (.ref rr) (.ref g9)) λc1=>if c1 then q (.bool av) (cH W F (.dict iE:: .inst 183 (sy W.ip l rr kk)::r))else
  bc (cmp (cH W F (.dict iE:: .inst 183 (sy W.ip l rr kk)::r)) .NotEq (.ref kk) (.ref (H4 W.aj))) λc2=>if c2 then q (.bool av) (cH W F (.dict iE:: .inst 183 (sy W.ip l rr kk)::r))else
  bc (cmp (cH W F (.dict iE:: .inst 183 (sy W.ip l rr kk)::r)++ [.dict []]) .NotEq (.ref 16) (.ref (J (cH W F (.dict iE:: .inst 183 (sy W.ip l rr kk)::r))))) λc3=>if c3 then q (.bool av) (cH W F (.dict iE:: .inst 183 (sy W.ip l rr kk)::r)++ [.dict []])else
   k (lO W.aj l (.ref g9) ok++oe (U x)) (cH W F (.dict iE:: .inst 183 (sy W.ip l rr kk)::r)++ [.dict []]):=by rfl'
theorem akm(a l:Bool)(rv:V)(x:V×V×V×V)(O:L)(n c:KT)(q:QT):cb mH 5 aW (aW.body.drop 8) (lO a l rv av++oe (U x)) O n c q=q (.bool ai) O:=by rfl'
noncomputable def amA:Option dW->aH×aH×bM
 |some (.Return (U (.BoolOp _ [_,.Compare _ _ [.ListComp elt [#[t,_,_,_]] bQ _] _] _)) _)=>(elt,t,bQ)
 |_=>(.Name mK #[0,0,0,0],.Name mK #[0,0,0,0],#[.function,[],av,av,[]])
noncomputable abbrev VU:aH×aH×Scope:=amA (dZ aW 8)
noncomputable abbrev ohB(l:LK)(v:V)(O:L)(k:QT):RV:=gr VU.2.2 VU.2.1 v O (vP VU.2.2 l) λl'=>(E mH 5 16).e (pg VU.2.2 aW.scope) l' O VU.1 k
theorem akn(W:Wd)(F:F3)(a l:Bool)(rv:V)(x:V×V×V×V)(r:L)(n c:KT)(q:QT):cb mH 5 aW (aW.body.drop 8) (lO a l rv ai++oe (U x)) (cH W F r) n c q=
  gp (ohB (lO a l rv ai++oe (U x))) (It.list 6).nx bE 0 (cH W F r) λys O=>bc (cmp (O++ [.list ys]) .NotIn (.bool av) (.ref (J O))) λc=>q (.bool c) (O++ [.list ys]):=by rfl'
theorem adZ(a l:Bool)(rv:V)(x:V×V×V×V)(v:V)(O:L)(K:QT):ohB (lO a l rv ai++oe (U x)) v O K=(e9 (i4 T7 8 700 FN fu) [.ref 0,rv,v,S (b5 l)] O).k K:=by rfl'
noncomputable def mB:Nat->V->Bool
 |0,_=>av
 |n+1,.tup xs=>xs.all (mB n)
 |_+1,.none=>ai
 |_+1,.bool _=>ai
 |_+1,.int _=>ai
 |_+1,.str _=>ai
 |_+1,.bytes _=>ai
 |_+1,_=>av
theorem vC(n:Nat):∀(v:V),mB n v=ai->tc n v v=U true:=by
 induction n with
 |zero=>exact λG h=>jq h
 |succ n ih=>
  intro v h;induction v using V.casesOn with
  |tup xs=>exact pA λx hx=>ih x (jh.mp (h) x hx)
  |none=>rfl
  |bool b=>exact I U (sf b)
  |int i=>exact I U (sf i)
  |str s=>exact I U (sf s)
  |bytes b=>exact I U (sf b)
  |_=>exact jq h
noncomputable def pH(xs:LV):Prop:=xs.all (mB 8)=ai
theorem pd(h:pH xs)(k:pH ys):pH (xs++ys):=by
 unfold pH at*;simp -iota only [List.all_append,h,k];rfl
theorem ad0(h:pH xs):allEq eqv xs xs=U true:=pA λx hx=>vC 8 x (jh.mp h x hx)
theorem PV(w n s:Nat)(l:Bool)(h:w<17):pH (eO w n s l):=by
 match w,h with
 |0,_|1,_|2,_|3,_|4,_|5,_|6,_|7,_|8,_|9,_|10,_|11,_|12,_|13,_|14,_|15,_|16,_=>rfl
 |w+17,h=>exact absurd h (dK (fx _ _))
theorem AR(slot:Nat):∀(xs:List (Bool×Nat)) (kn:SN),pH (bR slot xs kn).1
 | [],_=>rfl
 |(nf,m)::r,kn=>by
  rw [Np];refine pd ?_ (AR slot r _);unfold f7
  split<;>rfl
theorem GQ(ip l aM:Bool)(w n slot:Nat)(kn:SN)(hw:w<17):pH (f9 ip l aM w n slot kn):=by
 unfold f9;refine pd (pd (AR slot _ _) (PV w n slot l hw)) ?_;unfold nt
 split<;>rfl
theorem H5:∀(ps:NN) (aM:Bool),(ps.map λp=>iu p.1 aM).all (mB 6)=ai
 | [],_=>rfl
 |p::r,aM=>by
  simp -iota only [iU,lR,H5 r aM]
  rfl
theorem zv(ip l aM:Bool):∀(ps:NN) (slot:Nat) (kn:SN),(∀p∈ps,p.1<17)->pH (bx ip l aM ps slot kn).rows
 | [],_,_,_=>rfl
 |(w,n)::r,slot,kn,h=>by
  rw [vb];by_cases ho:slot+slots w<=16
  ·rw [au ho]
   exact pd (GQ ip l aM w n slot kn (h (w,n) (cY ..))) (zv ip l aM r _ _ λp hp=>h p (cZ _ hp))
  ·rw [ax ho];rfl
structure Pn(A:Ab):Prop where
 op:mB 7 A.op=ai
 nm:mB 7 A.nm=ai
 tm:mB 7 A.tm=ai
 inner:mB 7 A.inner=ai
theorem Pn.eq(h:Pn A):Ph A:=#[vC 7 _ h.op,vC 7 _ h.nm,vC 7 _ h.tm,vC 7 _ h.inner]
theorem GU(hA:Pn A)(ip l:Bool)(ps:NN)(kn:SN)(h:∀p∈ps,p.1<17)(pl:Int):pH (dk A pl (bx ip l A.aM ps 0 kn)):=by
 unfold dk;induction qO:(bx ip l A.aM ps 0 kn).ok using dj with
 |false=>exact (zv ip l A.aM ps 0 kn h)
 |true=>
  rw [au rfl];refine pd (zv ip l A.aM ps 0 kn h) ?_;rw [(qE ip l A.aM ps 0 kn qO).2];unfold mq pH;have e8:∀xs,mB 8 (.tup xs)=xs.all (mB 7):=λG=>rfl;simp -iota only [lR,List.all_nil,IT,e8,hA.op,hA.nm,hA.tm,hA.inner];show(ai&&(ai&&(ai&&(List.all _ (mB 6)&&(ai&&(ai&&ai))))))=ai
  rw [H5]
  rfl
theorem qW:∀(xs:LV) (i:Nat),xs.all (mB (n+1))=ai->mB (n+1) (xs.getD i .none)=ai
 | [],_,_=>rfl
 |x::r,0,h=>by simp -iota only [lR,iK]at h;exact h.1
 |x::r,i+1,h=>by simp -iota only [lR,iK]at h;exact qW r i h.2
theorem vZ(D:j9)(r:Bool):Pn (D.ab r):=#[qW GD _ rfl,qW vw _ rfl,qW GF _ rfl,qW GG _ rfl]
theorem QZ:∀{kn:SN} {k:aF} {v:Nat},(kn.map (·.1)).Nodup->(k,v)∈kn->look k (aT kn)=U (.int v)
 | [],_,_,_,h=>by cases h
 |(y,n)::r,k,v,nd,h=>by
  show(if y=k then U (V.int n)else look k (aT r))=_
  rcases eU.mp h with e|h
  ·cases e
   exact au rfl
  ·rw [ax λe=>(gf.mp nd).1 (iR.mpr #[(k,v),h,e.symm])]
   exact QZ (gf.mp nd).2 h
theorem Q0(nd:(kn.map (·.1)).Nodup):∀(r:SN),(∀p∈r,p∈kn)->DM (aT kn) (aT r)=U ai
 | [],_=>rfl
 |(k,v)::r,h=>by
  show(match look k (aT kn)with|some w=>(match eqv (.int v) w,DM (aT kn) (aT r)with|some a,U b=>U (a&&b)|_,_=>u)|none=>u)=_
  simp -iota only [QZ nd (h (k,v) (cY ..)),Q0 nd r λp hp=>h p (cZ _ hp)];show(match eqv (.int v) (.int v),U ai with|some a,U b=>U (a&&b)|_,_=>u)=_
  simp -iota only [show eqv (.int (v:Int)) (.int (v:Int))=U ai from GO 7 v]
  rfl
noncomputable def mkW(ip aj aq:Bool)(pl:Int)(D0 D1:j9):Wd:=#[ip,aj,aq,pl,D0.ab aq,D1.ab aq,D0.ps,D1.ps]
section
variable{ip aj aq:Bool}{pl:Int}{D0 D1:j9}(h0:D0.Ok)(h1:D1.Ok)
include h0 h1
theorem SD:(mkW ip aj aq pl D0 D1).Ok:=⟨λkk hk=>by
 rcases hk with rfl|rfl
 ·exact #[(nu h0).1,(nu h0).2.1,rfl,mz h0 aq]
 ·exact #[(nu h1).1,(nu h1).2.1,rfl,mz h1 aq]⟩
noncomputable def j9.of(D0 D1:j9)(kk:Nat):j9:=if kk=0 then D0 else D1
theorem abc(l:Bool)(kk:Nat)(hk:kk=0 \/kk=1)(a:J xs<=700)(b:J kn<=700)(c:(kn.map (·.1)).Nodup)(e:bH 0 xs):Pj l ip aq ((mkW ip aj aq pl D0 D1).A kk) (j9.of D0 D1 kk).nm ((mkW ip aj aq pl D0 D1).ps kk) xs kn:=by
 rcases hk with rfl|rfl
 ·exact #[mz h0 aq,h0.nm,rfl,rfl,rfl,(nu h0).1,(nu h0).2.2,(nu h0).2.1,a,b,c,e]
 ·exact #[mz h1 aq,h1.nm,rfl,rfl,rfl,(nu h1).1,(nu h1).2.2,(nu h1).2.1,a,b,c,e]
end
theorem at9{Q:Nat->MO->Prop}(z: [a,b,c,d,e,f,g,h,j][i]? =U m)(h0:Q 0 a)(h1:Q 1 b)(h2:Q 2 c)(h3:Q 3 d)(h4:Q 4 e)(h5:Q 5 f)(h6:Q 6 g)(h7:Q 7 h)(h8:Q 8 j):Q i m:=
 match i with
 |0=>bh z▸h0
 |1=>bh z▸h1
 |2=>bh z▸h2
 |3=>bh z▸h3
 |4=>bh z▸h4
 |5=>bh z▸h5
 |6=>bh z▸h6
 |7=>bh z▸h7
 |8=>bh z▸h8
 |_+9=>nomatch z
structure amB(W:Wd)(l:Bool)(X:LV)(K ao:SV)(O:L):Prop where
 fi:O[13]? =U (.dict iE)
 ro:O[14]? =U (.inst 183 (sy W.ip l (Pl W.aj) (Pm W.aj)))
 xs:O[Pl W.aj]? =U (.list X)
 se:O[16]? =U (.dict [])
 kn:O[Pm W.aj]? =U (.dict K)
 ma:O[18]? =U (.dict [])
 fl:O[20]? =U (.dict (lr W.aq))
 kw:O[H4 W.aj]? =U (.dict ao)
theorem SG(W:Wd)(F:F3)(l:Bool)(X Y:LV)(K ao:SV)(g:L):amB W l X K ao (cH W F (fN W l X Y K ao g)):=by
 obtain ⟨ip,aj,aq,pl,A0,A1,mA,nK⟩:=W;rcases aj<;>exact #[rfl,rfl,rfl,rfl,rfl,rfl,rfl,rfl]
theorem aia(W:Wd)(F:F3)(l:Bool)(X Y:LV)(K ao L':SV)(g:L)(m:MO):(cH W F (fN W l X Y K ao g)).set (H4 W.aj) (.dict L')++ [m]=cH W F (fN W l X Y K L' (g++ [m])):=by
 obtain ⟨ip,aj,aq,pl,A0,A1,mA,nK⟩:=W;rcases aj<;>rfl
theorem ad1(W:Wd)(F:F3)(l:Bool)(X Y X':LV)(K ao K':SV)(g:L):((cH W F (fN W l X Y K ao g)).set (Pl W.aj) (.list X')).set (Pm W.aj) (.dict K')=cH W F (fN W l X' Y K' ao g):=by
 obtain ⟨ip,aj,aq,pl,A0,A1,mA,nK⟩:=W;rcases aj<;>rfl
theorem abd(W:Wd)(F:F3)(r:L)(hk:kk=0 \/kk=1):(cH W F r)[2+kk]? =U (.dict (dR (W.A kk) (4+kk)))/\ (cH W F r)[4+kk]? =U (.list (cO (W.ps kk))):=by
 rcases hk with rfl|rfl<;>exact #[rfl,rfl]
section
variable{ip aj aq:Bool}{pl:Int}{D0 D1:j9}(h0:D0.Ok)(h1:D1.Ok)(F:F3)(l:Bool)
noncomputable abbrev W2(ip aj aq:Bool)(pl:Int)(D0 D1:j9):Wd:=mkW ip aj aq pl D0 D1
noncomputable abbrev zK(W:Wd)(l:Bool)(kk:Nat)(kn:SN):D4:=bx W.ip l (W.A kk).aM (W.ps kk) 0 kn
noncomputable abbrev iI(W:Wd)(l:Bool)(kk:Nat)(kn:SN):LV:=dk (W.A kk) (W.pl+kk) (zK W l kk kn)
include h0 h1
theorem ad2(kk:Nat)(hk:kk=0 \/kk=1)(X Y:LV)(kn:SN)(FO:J kn<=50)(g:L):
  As [.ref (2+kk),.int (pl+kk),.ref (H4 aj),dT ip,.bool l] (cH (W2 ip aj aq pl D0 D1) F (fN (W2 ip aj aq pl D0 D1) l X Y (aT kn) (aT kn) g))=
  .yes (.tup [.ref (J (cH (W2 ip aj aq pl D0 D1) F (fN (W2 ip aj aq pl D0 D1) l X Y (aT kn) (aT kn) g))),.bool (zK (W2 ip aj aq pl D0 D1) l kk kn).ok])
   (cH (W2 ip aj aq pl D0 D1) F (fN (W2 ip aj aq pl D0 D1) l X Y (aT kn) (aT (zK (W2 ip aj aq pl D0 D1) l kk kn).kn) (g++ [.list (iI (W2 ip aj aq pl D0 D1) l kk kn)]))):=by
 have p:=(SD (ip:=ip) (aj:=aj) (aq:=aq) (pl:=pl) h0 h1).ps kk hk;have k:=abd (W2 ip aj aq pl D0 D1) F (fN (W2 ip aj aq pl D0 D1) l X Y (aT kn) (aT kn) g) hk
 exact (acL (d:=#[(W2 ip aj aq pl D0 D1).A kk,4+kk,(W2 ip aj aq pl D0 D1).ps kk,kn]) #[k.1,k.2,(SG (W2 ip aj aq pl D0 D1) F l X Y (aT kn) (aT kn) g).kw,λq hq=>(p.1 q hq).1,bt p.2.1 (aV rfl),bt FO (aV rfl),p.2.2.2,by rcases hk with rfl|rfl<;>rcases aj<;>exact lN (bF rfl)] (pl+kk) ip l).trans
  (I (kN.yes _) (aia (W2 ip aj aq pl D0 D1) F l X Y _ _ _ g _))
noncomputable def jsM(a:Bool)(kk:Nat):LN:= [13,14,Pl a,16,Pm a,18,20,2+kk,4+kk]
theorem ad3(kk:Nat)(hk:kk=0 \/kk=1)(X Y:LV)(kn K':SN)(hX:J X<=700)(FO:J kn<=700)(nd:(kn.map (·.1)).Nodup)(sc:bH 0 X)(g:L):
  e9 Pk [.ref 14,.ref (2+kk),.int (pl+kk),.int kk] (cH (W2 ip aj aq pl D0 D1) F (fN (W2 ip aj aq pl D0 D1) l X Y (aT kn) (aT K') g))=
  .yes (s9 (zK (W2 ip aj aq pl D0 D1) l kk kn).ok) (cH (W2 ip aj aq pl D0 D1) F (fN (W2 ip aj aq pl D0 D1) l (X++iI (W2 ip aj aq pl D0 D1) l kk kn) Y (aT (zK (W2 ip aj aq pl D0 D1) l kk kn).kn) (aT K') g)):=by
 have md:=abc (ip:=ip) (aj:=aj) (aq:=aq) (pl:=pl) h0 h1 l kk hk hX FO nd sc;have T:=SG (W2 ip aj aq pl D0 D1) F l X Y (aT kn) (aT K') g;have k:=abd (W2 ip aj aq pl D0 D1) F (fN (W2 ip aj aq pl D0 D1) l X Y (aT kn) (aT K') g) hk
 have qS:jM [.ref 14,.ref (2+kk),.int (pl+kk),.int kk] (cH (W2 ip aj aq pl D0 D1) F (fN (W2 ip aj aq pl D0 D1) l X Y (aT kn) (aT K') g))=jsM aj kk:=by
  rcases hk with rfl|rfl<;>rcases aj<;>rfl
 have c:=aba md (xs':=X) (BL:=kn) sc;have mo:∀{α:Type} {f:α->MO} {a b:α},b=a->U (f a)=U (f b):=λ{α f a b} h=>I (λx=>U (f x)) h.symm
 exact (akj md (pl+kk) kk hk qS
  {nd:=by rcases hk with rfl|rfl<;>rcases aj<;>decide
   len:=rfl
   obj:=λi m e=>⟨c.at e,at9 (Q:=λi m=>(cH (W2 ip aj aq pl D0 D1) F (fN (W2 ip aj aq pl D0 D1) l X Y (aT kn) (aT K') g))[jS (jsM aj kk) i]? =U (fE (jS (jsM aj kk)) m)) e (T.fi.trans (mo (f:=MO.dict) (qA (pn wm)))) T.ro (T.xs.trans (mo (f:=MO.list) (eP sc))) T.se (T.kn.trans (mo (f:=MO.dict) (qA (kT kn)))) T.ma (T.fl.trans (mo (f:=MO.dict) (qA (zu aq))))
    (k.1.trans (mo (f:=MO.dict) (mF (g:=jS (jsM aj kk)) (p:=8) md.pure))) (k.2.trans (mo (f:=MO.list) (eP (gq _))))⟩
   ar:=rfl
   sa:=#[(bF rfl:1<9),(bF rfl:7<9),tv,tv,tv]}).trans (I (kN.yes _) (ad1 (W2 ip aj aq pl D0 D1) F l X Y _ _ _ _ g))
end
noncomputable def bO(a:Bool):Nat:=if a then 28 else 23
theorem Bv(W:Wd)(F:F3)(l:Bool)(X Y:LV)(K ao:SV)(g:L):∃p:L,J p=bO W.aj/\ ∀g,cH W F (fN W l X Y K ao g)=p++g:=by
 obtain ⟨ip,aj,aq,pl,A0,A1,mA,nK⟩:=W;rcases aj with⟨⟩
 ·exact #[cH #[ip,av,aq,pl,A0,A1,mA,nK] F (fN #[ip,av,aq,pl,A0,A1,mA,nK] l X Y K ao []),rfl,λg=>rfl]
 ·exact #[cH #[ip,ai,aq,pl,A0,A1,mA,nK] F (fN #[ip,ai,aq,pl,A0,A1,mA,nK] l X Y K ao []),rfl,λg=>rfl]
theorem GV(W:Wd)(F:F3)(l:Bool)(X Y:LV)(K ao:SV)(g:L):J (cH W F (fN W l X Y K ao g))=bO W.aj+J g:=by
 refine bl λaG=>?_;refine (Bv W F l X Y K ao g).elim λp hq=>hq.elim λh1 h2=>?_;refine aG ?_;simp only [h2,cx,h1]
theorem VV(W:Wd)(F:F3)(l:Bool)(X Y:LV)(K ao:SV)(g g':L)(m:MO):(cH W F (fN W l X Y K ao (g++m::g')))[bO W.aj+J g]? =U m:=by
 refine bl λaG=>?_;refine (Bv W F l X Y K ao g).elim λp hq=>hq.elim λh1 h2=>?_;refine aG ?_;rw [h2,ji (by rw [h1];exact cg _ _),h1,iN,ji (ez _),Ki]
 rfl
section
variable{ip aj aq:Bool}{pl:Int}{D0 D1:j9}(h0:D0.Ok)(h1:D1.Ok)(F:F3)(l:Bool)
include h0 h1
theorem Q1(kk:Nat)(hk:kk=0 \/kk=1)(x:Option (V×V×V×V))(X Y:LV)(kn:SN)(g9:Nat)(g:L)(hX:J X<=300)(FO:J kn<=50)(nd:(kn.map (·.1)).Nodup)(sc:bH 0 X)
  (hrw:∀X' K K' g',(cH (W2 ip aj aq pl D0 D1) F (fN (W2 ip aj aq pl D0 D1) l X' Y K K' (g++g')))[g9]? =U (.list X)):
  ∃x' g' rn,(∀n q,dA mH 5 19 aW.scope BQ (.int kk) (lO aj l (.ref g9) ai++oe x) (cH (W2 ip aj aq pl D0 D1) F (fN (W2 ip aj aq pl D0 D1) l X Y (aT kn) (aT kn) g)) n q=
   n (lO aj l (.ref rn) (zK (W2 ip aj aq pl D0 D1) l kk kn).ok++oe (U x')) (cH (W2 ip aj aq pl D0 D1) F (fN (W2 ip aj aq pl D0 D1) l (X++iI (W2 ip aj aq pl D0 D1) l kk kn) Y (aT (zK (W2 ip aj aq pl D0 D1) l kk kn).kn) (aT (zK (W2 ip aj aq pl D0 D1) l kk kn).kn) g')))/\
   bO aj<=rn/\ (∀X' K K' VW,(cH (W2 ip aj aq pl D0 D1) F (fN (W2 ip aj aq pl D0 D1) l X' Y K K' (g'++VW)))[rn]? =U (.list (X++iI (W2 ip aj aq pl D0 D1) l kk kn))):=by
 have made:=λg2=>ad3 (ip:=ip) (aj:=aj) (aq:=aq) (pl:=pl) h0 h1 F l kk hk X Y kn (zK (W2 ip aj aq pl D0 D1) l kk kn).kn (bt hX (aV rfl)) (bt FO (aV rfl)) nd sc g2;have want:=ad2 (ip:=ip) (aj:=aj) (aq:=aq) (pl:=pl) h0 h1 F l kk hk X Y kn FO g;have md:=abc (ip:=ip) (aj:=aj) (aq:=aq) (pl:=pl) h0 h1 l kk hk (bt hX (aV rfl)) (bt FO (aV rfl)) nd sc
 have ml:J (iI (W2 ip aj aq pl D0 D1) l kk kn)<=46:=by
  unfold iI dk
  split
  ·simp only [cx,rS]
   exact (mM (si (jP ip l ((W2 ip aj aq pl D0 D1).A kk).aM ((W2 ip aj aq pl D0 D1).ps kk) 0 kn λp hp=>(md.jI p hp).1).1 (md.p5) (aV rfl)))
  ·exact (si (jP ip l ((W2 ip aj aq pl D0 D1).A kk).aM ((W2 ip aj aq pl D0 D1).ps kk) 0 kn λp hp=>(md.jI p hp).1).1 (md.p5) (aV rfl))
 generalize zK (W2 ip aj aq pl D0 D1) l kk kn=z at*;generalize iI (W2 ip aj aq pl D0 D1) l kk kn=more at*;have L1:=GV (W2 ip aj aq pl D0 D1) F l X Y (aT kn) (aT z.kn) (g++ [.list more])
 have atm:(cH (W2 ip aj aq pl D0 D1) F (fN (W2 ip aj aq pl D0 D1) l X Y (aT kn) (aT z.kn) (g++ [.list more])))[J (cH (W2 ip aj aq pl D0 D1) F (fN (W2 ip aj aq pl D0 D1) l X Y (aT kn) (aT kn) g))]? =U (.list more):=by
  rw [(GV (W2 ip aj aq pl D0 D1) F l X Y (aT kn) (aT kn) g)];exact VV (W2 ip aj aq pl D0 D1) F l X Y (aT kn) (aT z.kn) g [] (.list more)
 refine ⟨(.int kk,.ref (2+kk),.ref (J (cH (W2 ip aj aq pl D0 D1) F (fN (W2 ip aj aq pl D0 D1) l X Y (aT kn) (aT kn) g))),s9 z.ok),g++ [.list more]++ [.list (X++more)],
  (J (cH (W2 ip aj aq pl D0 D1) F (fN (W2 ip aj aq pl D0 D1) l X Y (aT kn) (aT z.kn) (g++ [.list more])))),λn q=>?_,by simp only [L1];exact cg _ _,λX' K K' VW=>?_⟩
 ·refine (adY (.int kk) aj l (.ref g9) x _ n q).trans ?_
  have cut:(gr aW.scope BQ.1 (.int kk) (cH (W2 ip aj aq pl D0 D1) F (fN (W2 ip aj aq pl D0 D1) l X Y (aT kn) (aT kn) g)) (lO aj l (.ref g9) ai++oe x) λl'=>FP BR l' (cH (W2 ip aj aq pl D0 D1) F (fN (W2 ip aj aq pl D0 D1) l X Y (aT kn) (aT kn) g)) n n q)=
    (gr aW.scope BQ.1 (.int kk) (cH (W2 ip aj aq pl D0 D1) F (fN (W2 ip aj aq pl D0 D1) l X Y (aT kn) (aT kn) g)) (lO aj l (.ref g9) ai++oe x) λl'=>FP (BR.take 2) l' (cH (W2 ip aj aq pl D0 D1) F (fN (W2 ip aj aq pl D0 D1) l X Y (aT kn) (aT kn) g)) (λl O=>FP ((BR.drop 2).take 2) l O (λl O=>FP (BR.drop 4) l O n n q) n q) n q):=by
   refine I (gr _ _ _ _ _) (funext λl'=>?_);unfold FP
   conv=>lhs;rw [←iS 2 BR,kR,←iS 2 (BR.drop 2)]
   congr 1
  have e1:cH (W2 ip aj aq pl D0 D1) F (fN (W2 ip aj aq pl D0 D1) l X Y (aT kn) (aT z.kn) (g++ [.list more]))++ [MO.list (X++more)]=cH (W2 ip aj aq pl D0 D1) F (fN (W2 ip aj aq pl D0 D1) l X Y (aT kn) (aT z.kn) (g++ [.list more]++ [.list (X++more)])):=by
   obtain ⟨p,_,hp⟩:=Bv (W2 ip aj aq pl D0 D1) F l X Y (aT kn) (aT z.kn) g;simp only [hp,hp,cM]
  rw [cut];refine (amw (W2 ip aj aq pl D0 D1) F l (.ref g9) kk hk x _ _ n q).trans ?_;simp only [show As [.ref (2+kk),.int ((W2 ip aj aq pl D0 D1).pl+kk),.ref (H4 (W2 ip aj aq pl D0 D1).aj),dT (W2 ip aj aq pl D0 D1).ip,.bool l] _=_ from want,n8];show bc (U [V.ref _,V.bool z.ok]) _=_
  simp only [gj];refine (akl aj l (.ref g9) z.ok kk _ x _).trans ?_;refine (amx aj l g9 _ z.ok kk _ _ _ n q).trans ?_;rw [oV (hrw X (aT kn) (aT z.kn) [.list more]) atm (Ep hX ml (aV rfl))];rw [e1];refine (amy (W2 ip aj aq pl D0 D1) F l _ z.ok kk _ _ _ n n q).trans ?_;simp only [show e9 Pk [.ref 14,.ref (2+kk),.int ((W2 ip aj aq pl D0 D1).pl+kk),.int kk] _=_ from made _,n8];rw [show cmp _ .NotEq (s9 z.ok) (s9 z.ok)=U av by rcases z.ok<;>rfl,gj,ax (by decide)]
  rfl
 ·rw [L1]
  have:=VV (W2 ip aj aq pl D0 D1) F l X' Y K K' (g++ [.list more]) VW (.list (X++more));rw [(by simp:g++ [MO.list more]++ [MO.list (X++more)]++VW=(g++ [MO.list more])++MO.list (X++more)::VW)];exact this
end
theorem VX(hi:O[i]? =U (.list X))(hj:O[j]? =U (.list X))(ne:i≠j)(h:pH X):cmp O .NotEq (.ref i) (.ref j)=U false:=by
 refine I (mI (!·)) (show G4 O (.ref i) (.ref j)=U ai from ?_);unfold G4;dsimp only [dw];rw [ax ne,jY hi,jY hj];exact ad0 h
theorem H6(hi:O[i]? =U (.dict (aT kn)))(hj:O[j]? =U (.dict (aT kn)))(ne:i≠j)(nd:(kn.map (·.1)).Nodup):cmp O .NotEq (.ref i) (.ref j)=U false:=by
 refine I (mI (!·)) (show G4 O (.ref i) (.ref j)=U ai from ?_);unfold G4;dsimp only [dw];rw [ax ne,PR hi,Hu hi,Hu hj];exact (au rfl).trans (Q0 nd kn λG h=>h)
theorem nd9(hi:i<3)(H7:13<=rn): [0,1,2,3,4,5,rn,7+i,10+i].Nodup:=
 (List.perm_middle).nodup_iff.mpr (gf.mpr #[λz=>dK H7 (((by decide:∀i,i<3->([0,1,2,3,4,5]++ [7+i,10+i]).Nodup/\ ∀x∈ [0,1,2,3,4,5]++ [7+i,10+i],x<13) i hi).2 rn z),((by decide:∀i,i<3->([0,1,2,3,4,5]++ [7+i,10+i]).Nodup/\ ∀x∈ [0,1,2,3,4,5]++ [7+i,10+i],x<13) i hi).1])
theorem ako(a:Bool):Pl a<bO a:=by rcases a<;>decide
theorem akp(a:Bool):Pm a≠H4 a:=by rcases a<;>decide
theorem b16(a:Bool):16<bO a:=by rcases a<;>exact bF rfl
theorem akq(W:Wd)(F:F3)(l:Bool)(X Y:LV)(kn:SN)(g:L)(rn:Nat)(H7:bO W.aj<=rn)(hX:(cH W F (fN W l X Y (aT kn) (aT kn) g))[rn]? =U (.list X))(hp:pH X)(nd:(kn.map (·.1)).Nodup)(ok:Bool)(x:V×V×V×V)(k c:KT)(q:QT):
  cb mH 5 aW ((aW.body.drop 7).take 1) (lO W.aj l (.ref rn) ok++oe (U x)) (cH W F (fN W l X Y (aT kn) (aT kn) g)) k c q=k (lO W.aj l (.ref rn) ok++oe (U x)) (cH W F (fN W l X Y (aT kn) (aT kn) (g++ [.dict []]))):=by
 have amC:∃r,cH W F (fN W l X Y (aT kn) (aT kn) g)=cH W F (.dict iE:: .inst 183 (sy W.ip l (Pl W.aj) (Pm W.aj))::r):=by
  obtain ⟨ip,aj,aq,pl,A0,A1,mA,nK⟩:=W;rcases aj<;>exact #[_,rfl]
 have T:=SG W F l X Y (aT kn) (aT kn) g
 have c3:cmp (cH W F (fN W l X Y (aT kn) (aT kn) g)++ [.dict []]) .NotEq (.ref 16) (.ref (J (cH W F (fN W l X Y (aT kn) (aT kn) g))))=U false:=
  H6 (kn:= []) (nF T.se) ff (lN (gG (b16 W.aj) (bt (cg _ _) (bf (GV W F l X Y (aT kn) (aT kn) g).symm)))) jy
 have c1:=VX T.xs hX (lN (gG (ako W.aj) H7)) hp;have c2:=H6 T.kn T.kw (akp _) nd
 have ap:cH W F (fN W l X Y (aT kn) (aT kn) g)++ [.dict []]=cH W F (fN W l X Y (aT kn) (aT kn) (g++ [.dict []])):=
  (Bv W F l X Y (aT kn) (aT kn) g).elim λp z=>(I (·++ [.dict []]) (z.2 g)).trans ((cM ..).trans (z.2 _).symm)
 refine Eq.trans ?_ (I (k _) ap);clear ap hX T;obtain ⟨r,er⟩:=amC;generalize cH W F (fN W l X Y (aT kn) (aT kn) g)=O at*;subst er;exact (amz W F l (Pl W.aj) (Pm W.aj) rn ok x r k c q).trans ((qt c1).trans ((ax rg).trans ((qt c2).trans ((ax rg).trans ((qt c3).trans (ax rg))))))
noncomputable def iG(F0 F1 F2:gR):F3:=#[F0.dict 10,F1.dict 11,F2.dict 12,fg F0.ki,fg F1.ki,fg F2.ki]
noncomputable def gR.of(F0 F1 F2:gR)(i:Nat):gR:=if i=0 then F0 else if i=1 then F1 else F2
theorem aib(W:Wd)(F0 F1 F2:gR)(r:L)(hi:i<3):(cH W (iG F0 F1 F2) r)[7+i]? =U (.dict ((gR.of F0 F1 F2 i).dict (10+i)))/\ (cH W (iG F0 F1 F2) r)[10+i]? =U (.list (fg (gR.of F0 F1 F2 i).ki)):=by
 match i,hi with
 |0,_=>exact #[I (λF:gR=>U (MO.dict (F.dict 10))) (rfl),I (λF:gR=>U (MO.list (fg F.ki))) (rfl)]
 |1,_=>exact #[I (λF:gR=>U (MO.dict (F.dict 11))) (rfl),I (λF:gR=>U (MO.list (fg F.ki))) (rfl)]
 |2,_=>exact #[I (λF:gR=>U (MO.dict (F.dict 12))) (rfl),I (λF:gR=>U (MO.list (fg F.ki))) (rfl)]
 |i+3,h=>exact absurd h (dK (fx _ _))
section
variable{ip aj aq:Bool}{pl:Int}{D0 D1:j9}(h0:D0.Ok)(h1:D1.Ok){F0 F1 F2:gR}(hF:∀i,i<3->(gR.of F0 F1 F2 i).Ok ip)(l:Bool)(qV:((W2 ip aj aq pl D0 D1).z0 l).ok=ai)(sY:((W2 ip aj aq pl D0 D1).z1 l).ok=ai)
include h0 h1 hF qV sY
theorem ad4(i:Nat)(hi:i<3)(rn:Nat)(H7:13<=rn)(r:L)(hr:(cH (W2 ip aj aq pl D0 D1) (iG F0 F1 F2) r)[rn]? =U (.list ((W2 ip aj aq pl D0 D1).rows l))):
  e9 (i4 T7 8 700 FN fu) [.ref 0,.ref rn,.ref (7+i),S (b5 l)] (cH (W2 ip aj aq pl D0 D1) (iG F0 F1 F2) r)= .yes (.bool ai) (cH (W2 ip aj aq pl D0 D1) (iG F0 F1 F2) r):=by
 have mo:∀{α:Type} {f:α->MO} {a b:α},b=a->U (f a)=U (f b):=λ{α f a b} h=>I (λx=>U (f x)) h.symm;have Po:=hF i hi;have hW:=SD (ip:=ip) (aj:=aj) (aq:=aq) (pl:=pl) h0 h1
 have hE:∀kk,kk=0 \/kk=1->Ph ((W2 ip aj aq pl D0 D1).A kk):=λkk hk=>by
  rcases hk with rfl|rfl
  ·exact (vZ D0 aq).eq
  ·exact (vZ D1 aq).eq
 have rs:=Bt hW l;obtain ⟨fd,hd⟩:=aib (W2 ip aj aq pl D0 D1) F0 F1 F2 r hi
 have qS:FN [.ref 0,.ref rn,.ref (7+i),S (b5 l)] (cH (W2 ip aj aq pl D0 D1) (iG F0 F1 F2) r)= [0,1,2,3,4,5,rn,7+i,10+i]:=by
  unfold FN;dsimp only;rw [fd]
  rfl
 have six:=adv Po l;refine akk (W:=W2 ip aj aq pl D0 D1) hW hE Po.ki (oZ _) (aj1 Po l) rfl (aj2 Po l) (ZL Po l) (ahr Po l) qV sY qS rfl ?_
 let ae:= [0,1,2,3,4,5,rn,7+i,10+i]
 exact ⟨nd9 hi H7,rfl,λj m e=>⟨(II (W2 ip aj aq pl D0 D1) hW rs (wh:=(numOf ((gR.of F0 F1 F2 i).sc l).oc:Nat)) (bi:=((8*((gR.of F0 F1 F2 i).sc l).oc.length:Nat):Int)) (ki:=((gR.of F0 F1 F2 i).ki:Int)) (oZ (gR.of F0 F1 F2 i).ki) ((gR.of F0 F1 F2 i).sc l)).at e,at9 (Q:=λi m=>(cH (W2 ip aj aq pl D0 D1) (iG F0 F1 F2) r)[jS ae i]? =U (fE (jS ae) m)) e rfl rfl (mo (mF (mz h0 aq))) (mo (mF (mz h1 aq))) (mo (eP (gq D0.ps))) (mo (eP (gq D1.ps)))
  (hr.trans (mo (eP rs))) (fd.trans (mo ((I (i0 (jS ae)) (adu Po l)).symm.trans AN))) (hd.trans (mo (eP (oZ _))))⟩,rfl,#[(bF rfl:0<9),(bF rfl:6<9),(bF rfl:7<9),tv,tv]⟩
end
theorem FQ(a:Bool):((hH a).map (·.1)).Nodup:=by rcases a<;>decide
theorem Q2(a:Bool):J (hH a)<=1:=by rcases a<;>decide
theorem AS(a:Bool):pH (gK a):=by rcases a<;>rfl
theorem FR(a:Bool):J (gK a)<=2:=by rcases a<;>decide
theorem any_true(n:Nat):fw (.bool av) (kj n (V.bool ai))=U false:=by
 induction n with
 |zero=>rfl
 |succ n ih=>
  simp -iota only [List.replicate_succ];show(match Bw (.bool ai) (.bool av),fw (.bool av) (kj n (V.bool ai))with|some a,U b=>U (a||b)|_,_=>u)=_
  simp -iota only [ih]
  rfl
theorem H8(ip l aM:Bool):∀(ps:NN) (s:Nat) (kn:SN),(bx ip l aM ps s kn).kn.length<=J kn+2*J ps
 | [],_,_=>by show _<=_;exact cg _ _
 |(w,n)::r,s,kn=>by
  rw [vb];by_cases ho:s+slots w<=16
  ·rw [au ho]
   have a:=H8 ip l aM r (s+slots w) (bR s (bY w ip) kn).2;have b:=(pz s (bY w ip) kn).2;have c:=(ik w ip).2;simp -iota only [oA]
   lia
  ·rw [ax ho];exact cg _ _
section
variable{ip aj aq:Bool}{pl:Int}{D0 D1:j9}(h0:D0.Ok)(h1:D1.Ok){F0 F1 F2:gR}(hF:∀i,i<3->(gR.of F0 F1 F2 i).Ok ip)(l:Bool)
include h0 h1 hF
theorem VY(ok:Bool)(X Y:LV)(kn:SN)(rn:Nat)(g:L)(x:V×V×V×V)(H7:bO aj<=rn)
  (hX:∀X' K K' g',(cH (W2 ip aj aq pl D0 D1) (iG F0 F1 F2) (fN (W2 ip aj aq pl D0 D1) l X' Y K K' (g++g')))[rn]? =U (.list X)) (hp:pH X) (nd:(kn.map (·.1)).Nodup)
  (qO:ok=ai->((W2 ip aj aq pl D0 D1).z0 l).ok=ai/\ ((W2 ip aj aq pl D0 D1).z1 l).ok=ai/\ X=(W2 ip aj aq pl D0 D1).rows l):
  ∃r,cb mH 5 aW (aW.body.drop 7) (lO aj l (.ref rn) ok++oe (U x)) (cH (W2 ip aj aq pl D0 D1) (iG F0 F1 F2) (fN (W2 ip aj aq pl D0 D1) l X Y (aT kn) (aT kn) g)) (λG O=>.ok .none O) (λG O=>.ok .none O) .ok=
   .ok (.bool ai) (cH (W2 ip aj aq pl D0 D1) (iG F0 F1 F2) r):=by
 have hX0:=hX X (aT kn) (aT kn) [];rw [cL]at hX0
 have st:cb mH 5 aW (aW.body.drop 7) (lO aj l (.ref rn) ok++oe (U x)) (cH (W2 ip aj aq pl D0 D1) (iG F0 F1 F2) (fN (W2 ip aj aq pl D0 D1) l X Y (aT kn) (aT kn) g)) (λG O=>.ok .none O) (λG O=>.ok .none O) .ok=
   cb mH 5 aW (aW.body.drop 8) (lO aj l (.ref rn) ok++oe (U x)) (cH (W2 ip aj aq pl D0 D1) (iG F0 F1 F2) (fN (W2 ip aj aq pl D0 D1) l X Y (aT kn) (aT kn) (g++ [.dict []]))) (λG O=>.ok .none O) (λG O=>.ok .none O) .ok:=by
  refine (kS 1).trans ?_;refine (akq (W2 ip aj aq pl D0 D1) (iG F0 F1 F2) l X Y kn g rn H7 hX0 hp nd ok x _ _ _).trans ?_;rw [oD]
  rfl
 rw [st];induction ok using dj with
 |false=>exact #[_,akm aj l (.ref rn) x _ _ _ .ok]
 |true=>
  have qV:=(qO rfl).1;have hX1:=hX X (aT kn) (aT kn) [.dict []];have eX:=(qO rfl).2.2;have b13:13<=rn:=bt (by unfold bO;split<;>decide) H7;rw [eX]at hX1;generalize hr:(fN (W2 ip aj aq pl D0 D1) l X Y (aT kn) (aT kn) (g++ [.dict []]))=r at*;rw [←eX,hr,eX]at hX1
  obtain ⟨g',tn⟩:=AI (f:=λG=>.bool ai) (rfl:(cH (W2 ip aj aq pl D0 D1) (iG F0 F1 F2) r)[6]? =U (.list [.ref 7,.ref 8,.ref 9])) (by decide) (λv hv gg=>by
   have hv':∃i,i<3/\ v= .ref (7+i):=by
    simp -iota only [eU,iT,or_false]at hv;rcases hv with rfl|rfl|rfl
    ·exact #[0,by decide,rfl]
    ·exact #[1,by decide,rfl]
    ·exact #[2,by decide,rfl]
   obtain ⟨i,hi,rfl⟩:=hv'
   have e:=ad4 h0 h1 hF l qV ((qO rfl).2.1) i hi rn b13 (r++gg) (by
    have:cH (W2 ip aj aq pl D0 D1) (iG F0 F1 F2) (r++gg)=cH (W2 ip aj aq pl D0 D1) (iG F0 F1 F2) r++gg:=rfl;rw [this,eA (jj hX1).1];exact hX1)
   refine #[[],(adZ aj l (.ref rn) x (.ref (7+i)) _ .ok).trans ?_];simp -iota only [show e9 (i4 T7 8 700 FN fu) [.ref 0,.ref rn,.ref (7+i),S (b5 l)] (cH (W2 ip aj aq pl D0 D1) (iG F0 F1 F2) r++gg)=_ from e,n8,cL]
   rfl)
  refine #[r++(g'++ [.list [.bool ai,.bool ai,.bool ai]]),?_]
  have ci:cmp (cH (W2 ip aj aq pl D0 D1) (iG F0 F1 F2) r++g'++ [MO.list [.bool ai,.bool ai,.bool ai]]) .NotIn (.bool av) (.ref (J (cH (W2 ip aj aq pl D0 D1) (iG F0 F1 F2) r++g')))=U true:=by
   show(Ei _ _ _).map (!·)=_
   unfold Ei;dsimp only [pe,dw];rw [jY ff];dsimp only;rw [show fw (.bool av) [V.bool ai,.bool ai,.bool ai]=U av from any_true 3]
   rfl
  refine (akn (W2 ip aj aq pl D0 D1) (iG F0 F1 F2) aj l (.ref rn) x r _ _ _).trans ?_;refine (tn _).trans ?_;show bc (cmp (cH (W2 ip aj aq pl D0 D1) (iG F0 F1 F2) r++g'++ [MO.list [.bool ai,.bool ai,.bool ai]]) .NotIn (.bool av) _) _=_
  rw [ci,gj,cM]
  rfl
end
theorem ZR(W:Wd)(l:Bool)(h0:(W.z0 l).ok=ai)(h1:(W.z1 l).ok=ai):gK W.aj++iI W l 0 (hH W.aj)++iI W l 1 (zK W l 0 (hH W.aj)).kn=W.rows l:=by
 have e0:iI W l 0 (hH W.aj)=(W.z0 l).rows++ [mq W.A0 (W.z0 l).lay W.pl]:=by
  unfold iI dk;rw [au (show(zK W l 0 (hH W.aj)).ok=ai from h0)];show(W.z0 l).rows++ [mq W.A0 (W.z0 l).lay (W.pl+((0:Nat):Int))]=_
  rw [show W.pl+((0:Nat):Int)=W.pl by lia]
 have e1:iI W l 1 (zK W l 0 (hH W.aj)).kn=(W.z1 l).rows++ [mq W.A1 (W.z1 l).lay (W.pl+1)]:=by
  unfold iI dk;rw [au (show(zK W l 1 (zK W l 0 (hH W.aj)).kn).ok=ai from h1)]
  rfl
 simp only [e0,e1];unfold Wd.rows;simp only [cM,C1,uE]
section
variable{ip aj aq:Bool}{pl:Int}{D0 D1:j9}(h0:D0.Ok)(h1:D1.Ok){F0 F1 F2:gR}(hF:∀i,i<3->(gR.of F0 F1 F2 i).Ok ip)(l:Bool)
include h0 h1 hF
theorem aic:∃r,runK P (cn mH 5) (.con (.ref 705)) [.ref 0,.ref 6,S (b5 l)] (cH (W2 ip aj aq pl D0 D1) (iG F0 F1 F2) []) .ok= .ok (.bool ai) (cH (W2 ip aj aq pl D0 D1) (iG F0 F1 F2) r):=by
 obtain ⟨x1,g1,r1,t1,b1,BI⟩:=Q1 (ip:=ip) (aj:=aj) (aq:=aq) (pl:=pl) h0 h1 (iG F0 F1 F2) l 0 (.inl rfl) u (gK aj) (gK aj) (hH aj) (rwO aj) [] (by exact (bt (FR aj) (aV rfl))) (by exact (bt (Q2 aj) (aV rfl))) (FQ aj) (AQ aj) (λX' K K' g'=>by rcases aj<;>rfl)
 let W:=W2 ip aj aq pl D0 D1
 have hW:=SD (ip:=ip) (aj:=aj) (aq:=aq) (pl:=pl) h0 h1
 have nR:∀(kk:Nat),kk=0 \/kk=1->∀kn,bH 0 (iI W l kk kn)/\ pH (iI W l kk kn)/\ (J (iI W l kk kn))<=46/\ (zK W l kk kn).kn.length<=J kn+10/\ ((kn.map (·.1)).Nodup->((zK W l kk kn).kn.map (·.1)).Nodup):=λkk hk kn=>by
  have p1:=(hW.ps kk hk).1;have p2:=(hW.ps kk hk).2.1;have p3:=(hW.ps kk hk).2.2.1;have p4:=(hW.ps kk hk).2.2.2;have kl:=H8 ip l (W.A kk).aM (W.ps kk) 0 kn
  have w7:Pn (W.A kk):=by
   rcases hk with rfl|rfl
   ·exact vZ D0 aq
   ·exact vZ D1 aq
  refine #[pN p4 _ (iF ip l (W.A kk).aM (W.ps kk) 0 kn λp hp=>(p1 p hp).1).1 (iF ip l (W.A kk).aM (W.ps kk) 0 kn λp hp=>(p1 p hp).1).2,GU w7 ip l (W.ps kk) kn (λp hp=>(p1 p hp).1) _,?_,?_,λnd=>HZ ip l _ _ _ _ nd]
  ·unfold iI dk
   split
   ·simp only [cx,rS]
    show(bx ip l (W.A kk).aM (W.ps kk) 0 kn).rows.length+1<=46
    exact (mM (si (jP ip l (W.A kk).aM (W.ps kk) 0 kn λp hp=>(p1 p hp).1).1 (p2) (aV rfl)))
   ·show(bx ip l (W.A kk).aM (W.ps kk) 0 kn).rows.length<=46
    exact (si (jP ip l (W.A kk).aM (W.ps kk) 0 kn λp hp=>(p1 p hp).1).1 (p2) (aV rfl))
  ·show(bx ip l (W.A kk).aM (W.ps kk) 0 kn).kn.length<=_
   lia
 refine bl λaG=>?_;have m1:=(nR 0 (.inl rfl) (hH aj)).1;have m2:=(nR 0 (.inl rfl) (hH aj)).2.1;have m3:=(nR 0 (.inl rfl) (hH aj)).2.2.1;have m4:=(nR 0 (.inl rfl) (hH aj)).2.2.2.1;have m5:=(nR 0 (.inl rfl) (hH aj)).2.2.2.2;have n1:=(nR 1 (.inr rfl) (zK W l 0 (hH aj)).kn).1;have n2:=(nR 1 (.inr rfl) (zK W l 0 (hH aj)).kn).2.1;have n3:=(nR 1 (.inr rfl) (zK W l 0 (hH aj)).kn).2.2.1;have n4:=(nR 1 (.inr rfl) (zK W l 0 (hH aj)).kn).2.2.2.1;have n5:=(nR 1 (.inr rfl) (zK W l 0 (hH aj)).kn).2.2.2.2;refine aG ?_
 have pre:runK P (cn mH 5) (.con (.ref 705)) [.ref 0,.ref 6,S (b5 l)] (cH W (iG F0 F1 F2) []) .ok=
   cR (dA mH 5 19 aW.scope BQ) (It.ee 0 2).nx 1000 1 (lO aj l (.ref r1) (zK W l 0 (hH aj)).ok++oe (U x1)) (cH W (iG F0 F1 F2) (fN W l (gK aj++iI W l 0 (hH aj)) (gK aj) (aT (zK W l 0 (hH aj)).kn) (aT (zK W l 0 (hH aj)).kn) g1))
    (λl' O=>cb mH 5 aW (aW.body.drop 7) l' O (λG O=>.ok .none O) (λG O=>.ok .none O) .ok) .ok:=by
  refine (i3 (D:=aW) (l0:=lO0 l) (by rfl') rfl).trans ?_;refine (kS 6).trans ?_;refine (ah8 W (iG F0 F1 F2) l _ _ _).trans ?_;refine (ah9 aj l (.ref (rwO aj)) _ _ _ _).trans ?_;unfold bE
  conv=>lhs;unfold cR
  exact t1 _ _
 have pre:=pre;induction SH:(zK W l 0 (hH aj)).ok using dj with
 |false=>
  obtain ⟨x1a,Pg,x1c,x1d⟩:=x1;rw [SH]at pre;refine bl λaG=>?_;obtain ⟨r,e⟩:=VY (ip:=ip) (aj:=aj) (aq:=aq) (pl:=pl) h0 h1 hF l av (gK aj++iI W l 0 (hH aj)) (gK aj) (zK W l 0 (hH aj)).kn r1 g1 (.int 1,Pg,x1c,x1d) b1 BI (pd (AS aj) m2) (m5 (FQ aj)) (λe=>by exact nomatch e);refine aG ?_;refine #[r,pre.trans ?_]
  conv=>lhs;unfold cR
  refine (ZQ (.int 1) aj l (.ref r1) x1a Pg x1c x1d _ _ _).trans ?_
  conv=>lhs;unfold cR
  exact e
 |true=>
  rw [SH]at pre;obtain ⟨x2,g2,r2,t2,b2,at2⟩:=Q1 (ip:=ip) (aj:=aj) (aq:=aq) (pl:=pl) h0 h1 (iG F0 F1 F2) l 1 (.inr rfl) (U x1) (gK aj++iI W l 0 (hH aj)) (gK aj) (zK W l 0 (hH aj)).kn r1 g1 (by rw [cx];exact (Ep (FR aj) m3 (aV rfl))) (by exact (iP (gd m4 (gd (lJ (Q2 aj) _) (bF rfl))))) (m5 (FQ aj)) (gI (AQ aj) m1) BI
  obtain ⟨r,e⟩:=VY (ip:=ip) (aj:=aj) (aq:=aq) (pl:=pl) h0 h1 hF l (zK W l 1 (zK W l 0 (hH aj)).kn).ok (gK aj++iI W l 0 (hH aj)++iI W l 1 (zK W l 0 (hH aj)).kn) (gK aj) (zK W l 1 (zK W l 0 (hH aj)).kn).kn r2 g2 x2 b2 at2 (pd (pd (AS aj) m2) n2) (n5 (m5 (FQ aj)))
   (λe=>#[SH,e,ZR W l SH e])
  refine #[r,pre.trans ?_]
  conv=>lhs;unfold cR
  refine (t2 _ _).trans ?_
  conv=>lhs;unfold cR
  exact e
end
noncomputable def jO:LV->L->LN:=λG G=> [3,8,5,7,4,6,18,11,14,17,10,13,16]
noncomputable def k6:eR:=λa=>if a=705 then U (e9 (i4 mH 5 705 jO fu))else mH a
theorem aid:Good 180 k6:=good_add aki (by decide) 5
 (gJ (.inr λargs O hb G G=>dV args O hb) λG G h=>.inl h)
noncomputable def Q3:LV:= [.int 2,.int 2,.int 4,.int 2]
noncomputable def lV0(xs:LV):SV:= [("script",.lst xs)]
noncomputable def lV1(xs:LV)(fa ah pl ra:V):SV:=lV0 xs++([("family",fa),("ahead",ah),("place",pl),("ranged",ra)]:SV)
noncomputable def zL(xs:LV)(fa ah pl ra:V):SV:=lV1 xs fa ah pl ra++([("world",.ref 3)]:SV)
theorem amD(xs:LV)(k c:KT)(q:QT):cb k6 6 gN (gN.body.take 1) (lV0 xs) [] k c q=Ed xs 0 24 Q3 λd=>k (lV1 xs (d.getD 0 .none) (d.getD 1 .none) (d.getD 2 .none) (d.getD 3 .none)) [.list Q3,.list d]:=by rfl'
theorem amE(xs:LV)(fa ah pl ra:Int)(m0 m1:MO)(k c:KT)(q:QT):cb k6 6 gN ((gN.body.drop 1).take 1) (lV1 xs (.int fa) (.int ah) (.int pl) (.int ra)) [m0,m1] k c q=
  ng [S "inet",S "ip"] fa λfv=>k (zL xs (.int fa) (.int ah) (.int pl) (.int ra)) [m0,m1,.list [S "inet",S "ip"],.dict [("family",fv),("is_ahead",.bool (ah==1)),("place",.int pl),("is_ranged",.bool (ra==1))]]:=by rfl'
noncomputable def aih:Option dW->aH×aH×bM
 |some (.Assign _ (.ListComp elt [#[t,_,_,_]] bQ _) _)=>(elt,t,bQ)
 |_=>(.Name mK #[0,0,0,0],.Name mK #[0,0,0,0],#[.function,[],av,av,[]])
noncomputable abbrev VZ:aH×aH×Scope:=aih (dZ gN 2)
noncomputable abbrev abB(l:LK)(v:V)(O:L)(k:QT):RV:=gr VZ.2.2 VZ.2.1 v O (vP VZ.2.2 l) λl'=>(E k6 6 18).e (pg VZ.2.2 gN.scope) l' O VZ.1 k
theorem amF(xs:LV)(fa ah pl ra:V)(O:L)(k c:KT)(q:QT):cb k6 6 gN ((gN.body.drop 2).take 1) (zL xs fa ah pl ra) O k c q=
  gp (abB (zL xs fa ah pl ra)) (It.ee 0 2).nx bE 0 O λys O=>bc (setItem (.ref 3) (S "dynsets") (.ref (J O)) (O++ [.list ys])) λO=>k (zL xs fa ah pl ra) O:=by rfl'
theorem Q4(xs:LV)(fa ah pl ra:V)(kk:Int)(O:L)(K:QT):abB (zL xs fa ah pl ra) (.int kk) O K=(hN 646 jA (kP "parts") [.lst xs,.int (1+4*kk),.int kk,.ref 3] O).k K:=by rfl'
noncomputable abbrev V0:aH×aH×Scope:=aih (dZ gN 3)
noncomputable abbrev fcB(l:LK)(v:V)(O:L)(k:QT):RV:=gr V0.2.2 V0.2.1 v O (vP V0.2.2 l) λl'=>(E k6 6 19).e (pg V0.2.2 gN.scope) l' O V0.1 k
noncomputable def H9(xs:LV)(fa ah pl ra:V)(p:Nat):SV:=zL xs fa ah pl ra++([("packets",.ref p)]:SV)
theorem amG(xs:LV)(fa ah pl ra:V)(O:L)(k c:KT)(q:QT):cb k6 6 gN ((gN.body.drop 3).take 1) (zL xs fa ah pl ra) O k c q=
  gp (fcB (zL xs fa ah pl ra)) (It.ee 0 3).nx bE 0 O λys O=>k (H9 xs fa ah pl ra (J O)) (O++ [.list ys]):=by rfl'
noncomputable def w8:LV:= [.int 6,.int 1,.int 9]
theorem ad5(xs:LV)(fa ah pl ra:V)(kk:Int)(m0 m1 m2:MO)(fv a b c:V)(dy:V)(r:L)(K:QT):
  fcB (zL xs fa ah pl ra) (.int kk) (m0::m1::m2:: .dict [("family",fv),("is_ahead",a),("place",b),("is_ranged",c),("dynsets",dy)]::r) K=
  qP (m0::m1::m2:: .dict [("family",fv),("is_ahead",a),("place",b),("is_ranged",c),("dynsets",dy)]::r++ [.list w8]) (.ref (J (m0::m1::m2:: .dict [("family",fv),("is_ahead",a),("place",b),("is_ranged",c),("dynsets",dy)]::r))) (.int kk) λag=>
   (hN 667 (λG G=> []) (kP "heads") [.lst xs,.int (9+kk),ag,fv] (m0::m1::m2:: .dict [("family",fv),("is_ahead",a),("place",b),("is_ranged",c),("dynsets",dy)]::r++ [.list w8])).k K:=by rfl'
noncomputable abbrev orT:aH×LT:=kZ (dZ gN 4)
noncomputable def tlV(x:Option V):SV:=match x with|none=> []|some v=> [("order",v)]
theorem amH(xs:LV)(fa ah pl ra:V)(p:Nat)(O:L)(n c:KT)(q:QT):cb k6 6 gN (gN.body.drop 4) (H9 xs fa ah pl ra p) O n c q=
  Hp (O++ [.list [S "little",S "big"]]) (.ref (J O)) λi=>cR (dA k6 6 19 gN.scope orT) i.nx bE 0 (H9 xs fa ah pl ra p) (O++ [.list [S "little",S "big"]]) (λl O=>cb k6 6 gN (gN.body.drop 5) l O n c q) q:=by rfl'
theorem ad6(xs:LV)(fa ah pl ra:V)(p:Nat)(x:Option V)(v:V)(O:L)(n:KT)(q:QT):dA k6 6 19 gN.scope orT v (H9 xs fa ah pl ra p++tlV x) O n q=
  (e9 (i4 mH 5 705 jO fu) [.ref 3,.ref p,v] O).k λw O=>match w with|.bool b=>if !b then q (.bool av) O else n (H9 xs fa ah pl ra p++tlV (U v)) O|_=>.bad:=by
 rcases x with _|x<;>rfl'
theorem amI(l:LK)(O:L)(n c:KT)(q:QT):cb k6 6 gN (gN.body.drop 5) l O n c q=q (.bool ai) O:=by rfl'
theorem aik(h0:B (.int 0) O .ok= .ok a dO)(h1:B (.int 1) dO .ok= .ok b hZ)(k:LV->L->RV):gp B (It.ee 0 2).nx bE 0 O k=k [a,b] hZ:=by
 unfold bE;rw [oS];rw [show(It.ee 0 2).nx O 0=U (U (.int 0))from rfl];dsimp only;rw [h0];dsimp only;rw [oS];rw [show(It.ee 0 2).nx dO (0+1)=U (U (.int 1))from rfl];dsimp only;rw [h1];dsimp only;rw [oS];exact rfl
theorem ail(h0:B (.int 0) O .ok= .ok a dO)(h1:B (.int 1) dO .ok= .ok b hZ)(h2:B (.int 2) hZ .ok= .ok c z6)(k:LV->L->RV):gp B (It.ee 0 3).nx bE 0 O k=k [a,b,c] z6:=by
 unfold bE;rw [oS];rw [show(It.ee 0 3).nx O 0=U (U (.int 0))from rfl];dsimp only;rw [h0];dsimp only;rw [oS];rw [show(It.ee 0 3).nx dO (0+1)=U (U (.int 1))from rfl];dsimp only;rw [h1];dsimp only;rw [oS];rw [show(It.ee 0 3).nx hZ (0+1+1)=U (U (.int 2))from rfl];dsimp only;rw [h2];dsimp only;rw [oS];exact rfl
noncomputable abbrev Ac(W:Wd)(F0 F1 F2:gR)(m0 m1 m2:MO)(r:L):L:=
 m0::m1::m2:: .dict (wD W.ip W.aj W.aq W.pl++([("dynsets",.ref 8)]:SV)):: .list (cO W.mA):: .dict (dR W.A0 4):: .list (cO W.nK):: .dict (dR W.A1 6):: .list [.ref 5,.ref 7]::
 .list w8:: .list (fg F0.ki):: .dict (F0.dict 10):: .list w8:: .list (fg F1.ki):: .dict (F1.dict 13):: .list w8:: .list (fg F2.ki):: .dict (F2.dict 16):: .list [.ref 11,.ref 14,.ref 17]::r
theorem amJ(h0:D0.Ok)(h1:D1.Ok)(F0 F1 F2:gR):Cl 13 (cH (W2 ip aj aq pl D0 D1) (iG F0 F1 F2) []):=by
 have ab:∀{A:Ab} (h:A.Pure) {p:Nat},p<13->pG 13 (.dict (dR A p)):=λ{A} h {p} hp=>
  #[cT (bp _) _ h.1,cT (bp _) _ h.2.1,cT (bp _) _ h.2.2.1,cT (bp _) _ h.2.2.2.1,hp,tv,cT (bp _) _ h.2.2.2.2,tv]
 exact ⟨#[tv,tv,tv,tv,(show 1<13 by decide),tv],#[(show 2<13 by decide),(show 3<13 by decide),tv],ab (mz h0 aq) (by decide),ab (mz h1 aq) (by decide),fp (bp _) _ (gq _),fp (bp _) _ (gq _),
  #[(show 7<13 by decide),(show 8<13 by decide),(show 9<13 by decide),tv],(λF {p} hp=>#[tv,tv,tv,tv,hp,tv,tv,tv,tv,cT (bp _) _ (AM _ _ _),tv]:∀(F:gR) {p:Nat},p<13->pG 13 (.dict (F.dict p))) F0 (by decide),(λF {p} hp=>#[tv,tv,tv,tv,hp,tv,tv,tv,tv,cT (bp _) _ (AM _ _ _),tv]:∀(F:gR) {p:Nat},p<13->pG 13 (.dict (F.dict p))) F1 (by decide),(λF {p} hp=>#[tv,tv,tv,tv,hp,tv,tv,tv,tv,cT (bp _) _ (AM _ _ _),tv]:∀(F:gR) {p:Nat},p<13->pG 13 (.dict (F.dict p))) F2 (by decide),oZ _,oZ _,oZ _,tv⟩
noncomputable def jL:LN:= [3,8,5,7,4,6,18,11,14,17,10,13,16]
theorem ZS:jS jL 10=10/\ jS jL 11=13/\ jS jL 12=16:=#[rfl,rfl,rfl]
theorem akr(W:Wd)(a0:W.A0.Pure)(a1:W.A1.Pure)(F0 F1 F2:gR)(m0 m1 m2:MO)(r:L):∀(i:Nat) (m:MO),(cH W (iG F0 F1 F2) [])[i]? =U m->(Ac W F0 F1 F2 m0 m1 m2 r)[jS jL i]? =U (fE (jS jL) m)
 |0,m,e=>by obtain rfl:=bh e;rfl
 |1,m,e=>by obtain rfl:=bh e;rfl
 |2,m,e=>by
  obtain rfl:=bh e;show U (MO.dict (dR W.A0 4))=U (MO.dict (i0 _ (dR W.A0 4)))
  rw [mF a0];rfl
 |3,m,e=>by
  obtain rfl:=bh e;show U (MO.dict (dR W.A1 6))=U (MO.dict (i0 _ (dR W.A1 5)))
  rw [mF a1];rfl
 |4,m,e=>by
  obtain rfl:=bh e;show U (MO.list (cO W.mA))=U (MO.list (fP _ (cO W.mA)))
  rw [eP (gq _)]
 |5,m,e=>by
  obtain rfl:=bh e;show U (MO.list (cO W.nK))=U (MO.list (fP _ (cO W.nK)))
  rw [eP (gq _)]
 |6,m,e=>by obtain rfl:=bh e;rfl
 |7,m,e=>by
  obtain rfl:=bh e;show U (MO.dict (F0.dict 10))=U (MO.dict (i0 _ (F0.dict 10)))
  rw [AN,ZS.1]
 |8,m,e=>by
  obtain rfl:=bh e;show U (MO.dict (F1.dict 13))=U (MO.dict (i0 _ (F1.dict 11)))
  rw [AN,ZS.2.1]
 |9,m,e=>by
  obtain rfl:=bh e;show U (MO.dict (F2.dict 16))=U (MO.dict (i0 _ (F2.dict 12)))
  rw [AN,ZS.2.2]
 |10,m,e=>by
  obtain rfl:=bh e;show U (MO.list (fg F0.ki))=U (MO.list (fP _ (fg F0.ki)))
  rw [eP (oZ _)]
 |11,m,e=>by
  obtain rfl:=bh e;show U (MO.list (fg F1.ki))=U (MO.list (fP _ (fg F1.ki)))
  rw [eP (oZ _)]
 |12,m,e=>by
  obtain rfl:=bh e;show U (MO.list (fg F2.ki))=U (MO.list (fP _ (fg F2.ki)))
  rw [eP (oZ _)]
 |i+13,m,e=>nomatch(show(u:Option MO)=U m from e)
section
variable{ip aj aq:Bool}{pl:Int}{D0 D1:j9}(h0:D0.Ok)(h1:D1.Ok){F0 F1 F2:gR}(hF:∀i,i<3->(gR.of F0 F1 F2 i).Ok ip)(l:Bool)
include h0 h1 hF
theorem aks(m0 m1 m2:MO)(r:L):e9 (i4 mH 5 705 jO fu) [.ref 3,.ref 18,S (b5 l)] (Ac (W2 ip aj aq pl D0 D1) F0 F1 F2 m0 m1 m2 r)= .yes (.bool ai) (Ac (W2 ip aj aq pl D0 D1) F0 F1 F2 m0 m1 m2 r):=by
 refine bl λaG=>?_;refine (aic (aj:=aj) (aq:=aq) (pl:=pl) h0 h1 hF l).elim λg run=>?_;refine aG ?_
 have at':nY jL [.ref 3,.ref 18,S (b5 l)] (Ac (W2 ip aj aq pl D0 D1) F0 F1 F2 m0 m1 m2 r) [.ref 0,.ref 6,S (b5 l)] (cH (W2 ip aj aq pl D0 D1) (iG F0 F1 F2) []):=by
  refine #[by decide,rfl,λi m e=>#[(amJ h0 h1 F0 F1 F2).at e,akr (W2 ip aj aq pl D0 D1) (mz h0 aq) (mz h1 aq) F0 F1 F2 m0 m1 m2 r i m e],rfl,#[(show 0<13 by decide),(show 6<13 by decide),tv,tv]]
 have run':(i4 mH 5 705 jO fu).run [.ref 0,.ref 6,S (b5 l)] (cH (W2 ip aj aq pl D0 D1) (iG F0 F1 F2) [])= .ok (.bool ai) (cH (W2 ip aj aq pl D0 D1) (iG F0 F1 F2) g):=by
  unfold i4;dsimp only;exact run
 clear run;refine Gy (js:=jL) rfl rfl at' run' rfl (λi hi=>?_) (λG G G=>rfl) trivial;have zJ:i<J (cH (W2 ip aj aq pl D0 D1) (iG F0 F1 F2) []):=by simp only [at'.len];exact hi
 obtain ⟨m,e⟩:∃m,(cH (W2 ip aj aq pl D0 D1) (iG F0 F1 F2) [])[i]? =U m:=#[_,dS zJ]
 have e2:(cH (W2 ip aj aq pl D0 D1) (iG F0 F1 F2) g)[i]? =U m:=by
  have:cH (W2 ip aj aq pl D0 D1) (iG F0 F1 F2) g=cH (W2 ip aj aq pl D0 D1) (iG F0 F1 F2) []++g:=rfl;rw [this,eA zJ];exact e
 exact #[m,e2,(at'.obj i m e).1,(at'.obj i m e).2]
end
theorem aim:∃s∈BJ,Q3=s.map .int:=#[[2,2,4,2],by decide,rfl]
theorem ain{b:Int}:(a==b)=decide (a=b):=by
 by_cases h:a=b
 ·subst h;simp -iota
 ·simp -iota only [decide_eq_false h];exact ql.mpr h
section
variable{xs:LV}(hl:J xs<=1000)(hx:∀v∈xs,∃z:Int,v= .int z)
include hl hx
theorem SI(fa ah w7 ra:V)(m0 m1 m2:MO)(ip aj aq:Bool)(pl:Int)(k:LV->L->RV):
  gp (abB (zL xs fa ah w7 ra)) (It.ee 0 2).nx bE 0 [m0,m1,m2,.dict (wD ip aj aq pl)] k=
  k [.ref 5,.ref 7] [m0,m1,m2,.dict (wD ip aj aq pl),.list (cO (gQ xs (1+4*0) 0).ps),.dict (dR ((gQ xs (1+4*0) 0).ab aq) 4),.list (cO (gQ xs (1+4*1) 1).ps),.dict (dR ((gQ xs (1+4*1) 1).ab aq) 6)]:=by
 refine aik (dO:= [m0,m1,m2,.dict (wD ip aj aq pl),.list (cO (gQ xs (1+4*0) 0).ps),.dict (dR ((gQ xs (1+4*0) 0).ab aq) 4)]) ?_ ?_ k
 ·refine (Q4 xs fa ah w7 ra 0 _ .ok).trans ?_
  simp -iota only [show hN 646 jA (kP "parts") [.lst xs,.int (1+4*0),.int 0,.ref 3] [m0,m1,m2,.dict (wD ip aj aq pl)]=_ from Pa ip aj aq pl xs (1+4*0) 0 (.inl rfl) (by decide) hl hx _ 3 rfl,n8]
  rfl
 ·refine (Q4 xs fa ah w7 ra 1 _ .ok).trans ?_
  simp -iota only [show hN 646 jA (kP "parts") [.lst xs,.int (1+4*1),.int 1,.ref 3] [m0,m1,m2,.dict (wD ip aj aq pl),.list (cO (gQ xs (1+4*0) 0).ps),.dict (dR ((gQ xs (1+4*0) 0).ab aq) 4)]=_ from Pa ip aj aq pl xs (1+4*1) 1 (.inr rfl) (by decide) hl hx _ 3 rfl,n8]
  rfl
theorem Eg(fa ah w7 ra:V)(kk:Nat)(hk:kk<3)(ag:Int)(hu:w8[kk]? =U (.int ag))(m0 m1 m2:MO)(ip aj aq:Bool)(pl:Int)(dy:V)(r:L):
  fcB (zL xs fa ah w7 ra) (.int kk) (m0::m1::m2:: .dict (wD ip aj aq pl++([("dynsets",dy)]:SV))::r) .ok=
  .ok (.ref (r.length+6)) (m0::m1::m2:: .dict (wD ip aj aq pl++([("dynsets",dy)]:SV))::(r++ [.list w8,.list (fg (fL xs (9+kk) ag ip).ki),.dict ((fL xs (9+kk) ag ip).dict (r.length+5))])):=by
 refine (ad5 xs fa ah w7 ra kk m0 m1 m2 (dT ip) (.bool aj) (.int pl) (.bool aq) dy r .ok).trans ?_;simp -iota only [index_list ff hu (gG hk (aV rfl)) rfl,facts_eq xs (9+kk) ag ip (Rn (by decide) (bV _)) hl hx,n8];simp -iota only [cx,oA,CQ,cM,C1,uE];rw [show r.length+(0+1)+1+1+1+1+1=r.length+6 from rfl,show r.length+(0+1)+1+1+1+1=r.length+5 from rfl]
 rfl
theorem V1(fa ah w7 ra:V)(m0 m1 m2:MO)(ip aj aq:Bool)(pl:Int)(dy:V)(r:L)(hr:r.length=5)(k:LV->L->RV):
  gp (fcB (zL xs fa ah w7 ra)) (It.ee 0 3).nx bE 0 (m0::m1::m2:: .dict (wD ip aj aq pl++([("dynsets",dy)]:SV))::r) k=
  k [.ref 11,.ref 14,.ref 17] (m0::m1::m2:: .dict (wD ip aj aq pl++([("dynsets",dy)]:SV))::(r++ [.list w8,.list (fg (fL xs (9+(0:Nat)) 6 ip).ki),.dict ((fL xs (9+(0:Nat)) 6 ip).dict 10)]++ [.list w8,.list (fg (fL xs (9+(1:Nat)) 1 ip).ki),.dict ((fL xs (9+(1:Nat)) 1 ip).dict 13)]++ [.list w8,.list (fg (fL xs (9+(2:Nat)) 9 ip).ki),.dict ((fL xs (9+(2:Nat)) 9 ip).dict 16)])):=by
 have e2:=Eg hl hx fa ah w7 ra 2 (by decide) 9 rfl m0 m1 m2 ip aj aq pl dy (r++ [.list w8,.list (fg (fL xs (9+(0:Nat)) 6 ip).ki),.dict ((fL xs (9+(0:Nat)) 6 ip).dict 10)]++ [.list w8,.list (fg (fL xs (9+(1:Nat)) 1 ip).ki),.dict ((fL xs (9+(1:Nat)) 1 ip).dict 13)]);have e0:=Eg hl hx fa ah w7 ra 0 (by decide) 6 rfl m0 m1 m2 ip aj aq pl dy r;rw [hr]at e0;have e1:=Eg hl hx fa ah w7 ra 1 (by decide) 1 rfl m0 m1 m2 ip aj aq pl dy (r++ [.list w8,.list (fg (fL xs (9+(0:Nat)) 6 ip).ki),.dict ((fL xs (9+(0:Nat)) 6 ip).dict 10)]);rw [cx,hr]at e1;simp -iota only [cx,cx,hr]at e2;exact ail e0 e1 e2 k
theorem ad7:∃O,runK P (cn k6 6) (.con (.ref 710)) [.lst xs] [] .ok= .ok (.bool ai) O:=by
 let N:=i5 xs 0 24 32
 let ip:Bool:=decide (N % 2=1)
 let aj:Bool:=decide (N/2 % 2=1)
 let pl:Int:=N/2/2 % 4
 let aq:Bool:=decide (N/2/2/4 % 2=1)
 let D0:=gQ xs (1+4*0) 0
 let D1:=gQ xs (1+4*1) 1
 let F0:=fL xs (9+(0:Nat)) 6 ip
 let F1:=fL xs (9+(1:Nat)) 1 ip
 let F2:=fL xs (9+(2:Nat)) 9 ip
 have h0:D0.Ok:=wW xs _ 0;have h1:D1.Ok:=wW xs _ 1
 have hF:∀i,i<3->(gR.of F0 F1 F2 i).Ok ip:=λi hi=>by
  match i,hi with
  |0,_=>exact FH xs _ 6 ip
  |1,_=>exact FH xs _ 1 ip
  |2,_=>exact FH xs _ 9 ip
  |i+3,h=>exact absurd h (dK (fx _ _))
 let m0:MO:=.list Q3
 let m1:MO:=.list (oW Q3 (i5 xs 0 24 (kV Q3)))
 let m2:MO:=.list [S "inet",S "ip"]
 have cV:([S "inet",S "ip"]:LV)[(N % 2).toNat]? =U (dT ip):=by
  have:N % 2=0 \/N % 2=1:=by lia
  show _=U (dT (decide (N % 2=1)))
  rcases this with e|e<;>rw [e]<;>rfl
 have st:runK P (cn k6 6) (.con (.ref 710)) [.lst xs] [] .ok=cb k6 6 gN (gN.body.drop 4) (H9 xs (.int (N % 2)) (.int (N/2 % 2)) (.int pl) (.int (N/2/2/4 % 2)) 18) (Ac (W2 ip aj aq pl D0 D1) F0 F1 F2 m0 m1 m2 []) (λG O=>.ok .none O) (λG O=>.ok .none O) .ok:=by
  refine (i3 (D:=gN) (l0:=lV0 xs) (by rfl') rfl).trans ?_;refine (kS 1).trans ?_;refine (amD xs _ _ _).trans ?_;rw [tR aim (by decide) hl hx];refine (kS 1).trans ?_;refine (amE xs (N % 2) (N/2 % 2) pl (N/2/2/4 % 2) m0 m1 _ _ _).trans ?_;rw [tQ cV (by lia) (Rh rfl rfl),oD,ain,ain];refine (kS 1).trans ?_;refine (amF xs _ _ _ _ _ _ _ _).trans ?_;refine (SI hl hx _ _ _ _ m0 m1 m2 ip aj aq pl _).trans ?_;simp -iota only [gj,oD];refine (kS 1).trans ?_;refine (amG xs _ _ _ _ _ _ _ _).trans ?_;refine (V1 hl hx _ _ _ _ m0 m1 m2 ip aj aq pl (.ref 8) [.list (cO D0.ps),.dict (dR (D0.ab aq) 4),.list (cO D1.ps),.dict (dR (D1.ab aq) 6),.list [.ref 5,.ref 7]] rfl _).trans ?_;simp -iota only [oD]
  rfl
 have tr:∀(l:Bool) (x:Option V) n q,dA k6 6 19 gN.scope orT (S (b5 l)) (H9 xs (.int (N % 2)) (.int (N/2 % 2)) (.int pl) (.int (N/2/2/4 % 2)) 18++tlV x) (Ac (W2 ip aj aq pl D0 D1) F0 F1 F2 m0 m1 m2 [.list [S "little",S "big"]]) n q=
   n (H9 xs (.int (N % 2)) (.int (N/2 % 2)) (.int pl) (.int (N/2/2/4 % 2)) 18++tlV (U (S (b5 l)))) (Ac (W2 ip aj aq pl D0 D1) F0 F1 F2 m0 m1 m2 [.list [S "little",S "big"]]):=λl x n q=>by
  refine (ad6 xs _ _ _ _ 18 x _ _ n q).trans ?_;simp -iota only [aks (pl:=pl) h0 h1 hF l m0 m1 m2 [.list [S "little",S "big"]],n8]
  rfl
 refine #[Ac (W2 ip aj aq pl D0 D1) F0 F1 F2 m0 m1 m2 [.list [S "little",S "big"]],st.trans ?_];refine (amH xs _ _ _ _ 18 _ _ _ _).trans ?_;rw [y7 ff];unfold bE
 conv=>lhs;rw [k9]
 refine (tr ai u _ _).trans ?_
 conv=>lhs;rw [k9]
 refine (tr av _ _ _).trans ?_
 conv=>lhs;rw [k9]
 exact amI _ _ _ _ .ok
end
noncomputable def ZT:eR:=λa=>if a=710 then U (e9 (i4 k6 6 710 (λG G=> []) fu))else k6 a
theorem aio:Good 201 ZT:=good_add aid (by decide) 6
 (gJ (.inr λargs O hb G G=>dV args O hb) λG G h=>.inl h)
theorem V2(ns:List Int)(h:J ns<=63):∃O,nW ZT (.con (.ref 710)) [.lst (ns.map .int)] []= .ok (.bool ai) O:=by
 have hx:∀v∈ns.map V.int,∃z:Int,v= .int z:=λv hv=>by
  obtain ⟨z,_,rfl⟩:=iR.mp hv;exact #[z,rfl]
 obtain ⟨g,run⟩:=ad7 (by rw [cQ];exact (bt h (aV rfl))) hx
 have run':(i4 k6 6 710 (λG G=> []) fu).run [.lst (ns.map .int)] []= .ok (.bool ai) ([]++g):=by
  unfold i4;exact run
 have e:e9 (i4 k6 6 710 (λG G=> []) fu) [.lst (ns.map .int)] ([]++ [])= .yes (.bool ai) ([]++ []):=
  nQ rfl rfl rfl trivial trivial #[qC hx,tv] run' trivial
 refine #[[],?_];show(e9 (i4 k6 6 710 (λG G=> []) fu) [.lst (ns.map .int)] []).k .ok=_
 rw [show e9 (i4 k6 6 710 (λG G=> []) fu) [.lst (ns.map .int)] []=_ from e]
 rfl
section
open PyProof.Rows Builtin
structure EC where
 nm:aF
 q:aF
 bs:LU
 hd:Bool
 sn:LR
 sub:LU
 ab:Bool
 col:Option Bool
 dd:OA
 k0:OV
 k1:OV
 k2:OV
 k3:OV
 k5:OV
structure fO(h:aQ)(C N:ay)(bm:LU)(B newId initId:String)(bmB:LU):Prop where
 facts:ExcBaseFacts B newId initId bmB
 hasB:bm.contains (.type B)=ai
 base:bm.contains (.type "BaseException")=ai
 noA:bm.contains (.type "AttributeError")=av
 noN:bm.contains (.type "NameError")=av
 obj:∃x:EC,h.get? C=U (B4 x.nm x.q C N x.bs bm x.hd x.sn x.sub x.ab x.col x.dd x.k0 x.k1 x.k2 x.k3 x.k5 newId)
section
variable{prog:gW}{w:cP}{A:bk}{R:jt->aA->Prop}{h:aQ}{g:Array rE}{d:uj}{t:Nat}{os:lI}{C N:ay}{bm bmB:LU}{B newId initId:String}
theorem fO.SJ(K:fO h C N bm B newId initId bmB):(gF C::bm).contains (.type B)=true:=by simp only [ye,K.hasB,tV]
theorem fO.akt(K:fO h C N bm B newId initId bmB):(gF C::bm).contains (.type "BaseException")=true:=by simp only [ye,K.base,tV]
theorem fO.amK(K:fO h C N bm B newId initId bmB):(gF C::bm).contains (.type "AttributeError")=false:=(ye ..).trans (K.noA▸rfl)
theorem fO.amL(K:fO h C N bm B newId initId bmB):(gF C::bm).contains (.type "NameError")=false:=(ye ..).trans (K.noN▸rfl)
theorem fO.check{M:gz}{E:VP}(K:fO h C N bm B newId initId bmB){rest:LU}{Q:Unit->aA->Prop}(hq:Q () #[h,g,d,t,os]):aN M A (lE newId #[.ref C::rest,[]]) Q E #[h,g,d,t,os]:=by
 refine K.obj.elim λx hC=>?_;have F:=K.facts;have aoz:=F.noStar;rw [lE,F.newKind,F.newSplit,F.newRow]
 repeat(first|refine p9 hC ?_|(refine xI hC ?_;rw [K.SJ])|refine wpAny_staticBase_exc hC ?_|refine wpAny_madeBy_exc hC ?_|rw [bne_self_eq_false,lu,if_false]|wp_step)
 exact hq
theorem fO.new(K:fO h C N bm B newId initId bmB)
  (hq:R (.ok (.ret (.ref (h.objs.size+1)))) #[(h.push {cls:=.type "tuple",data:=.seq rest.toArray}).push {cls:=.ref C,data:=.fields (CR [.ref h.objs.size,.none,.none,.none,.bool av,.none])},g,d,t,os]) (abi:J rest<=gy):
  oq (aJ prog w) A (.builtin newId #[.ref C::rest,[]]) R #[h,g,d,t,os]:=by
 refine bl λaG=>?_;refine K.obj.elim λx hC=>?_;refine aG ?_;have F:=K.facts;have aoA:=F.ends;refine codeAny_builtinAt F.entry ?_;unfold eT.«BaseException.__new__»;refine JK ?_;refine JK (PySem.wpAt_stack λp below=>JL ?_)
 wp_walk
 refine JL ?_;rw [F.owner]
 repeat(first|with_reducible refine wpAny_madeHere_exc F.canon hC ?_|with_reducible refine p9 hC ?_|(with_reducible refine xI hC ?_;first|rw [K.SJ]|rw [K.amK]|rw [K.amL])|wp_step)
 show R _ _
 rw [K6];exact hq
theorem fO.keeps(K:fO h C N bm B newId initId bmB)(k:∀b o,h.get? b=U o->h'.get? b=U o):fO h' C N bm B newId initId bmB:=#[K.facts,K.hasB,K.base,K.noA,K.noN,K.obj.imp λG e=>k _ _ e]
end
end
section
open PyProof.Rows Builtin
noncomputable abbrev AU(rest:LU):Obj:={cls:=.type "tuple",data:=.seq rest.toArray}
noncomputable abbrev pS(C t:ay):Obj:={cls:=.ref C,data:=.fields (CR [.ref t,.none,.none,.none,.bool av,.none])}
section
variable{prog:gW}{w:cP}{A:bk}{R:jt->aA->Prop}{h:aQ}{g:Array rE}{d:uj}{t:Nat}{os:lI}{C N:ay}{bm bmB:LU}{B newId initId:String}
structure sA(M:gz)(h:aQ)(C:ay)(newId:String)(init:az):Prop where
 obj:∃oc od cd sl,h.get? C=U #[oc,od,.cls cd,sl]/\ cd.mro.isEmpty=av
 made:dM M h (Bind.madeBy (.ref C)) (U newId)
 self:dM M h (om (.ref C) (.ref C)) ai
 call:dM M h (uh (.ref C) "__call__") (U (.builtin "type.__call__"))
 typ:dM M h (xH (.ref C) (.type "type")) ai
 ini:dM M h (d9 (.ref C) "__init__") (U init)
 bind:∀self,dM M h (t4 init self) (init,[self])
theorem ZU(K:fO h C N bm B newId initId bmB)(Y:sA (aJ prog w) h C newId init)(abi:J rest<=gy)
  (hq:oq (aJ prog w) (A.under (.builtin "type.__call__" #[.ref C::rest,[]])) (.call init #[.ref (h.objs.size+1)::rest,[]]) (InitBack (h.objs.size+1) R) #[(h.push (AU rest)).push (pS C h.objs.size),g,d,t,os]):
  oq (aJ prog w) A (.call (.ref C) #[rest,[]]) R #[h,g,d,t,os]:=by
 refine bl λaG=>?_;obtain ⟨⟨oc,od,cd,sl,hC,e4⟩,made,self,call,typ,hi,hb⟩:=Y;have hm:dM (aJ prog w) h (xx (.ref C)) cd.mro:=((lY hC).andThen .now).andThen .now;refine aG ?_;refine xt ?_;refine nd_load hC ?_;show aN _ _ (yx (.ref C) _) _ _ _
 unfold yx;refine aB (call.at ?_);dsimp only;simp only [tc_bind];refine aB (aX (aB (aX ?_)));refine aX (a:=LQ (.call (.builtin "type.__call__") #[.ref C::rest,[]])) (And.intro rfl ?_);refine codeAny_call_builtin_at (yw _ (by decide+kernel)) JJ (C8 tc_kind tc_split typ (tc_args _ _ _) ?_);unfold eT.«type.__call__»
 repeat(first|simp only [e4,lu,if_false]|with_reducible refine ot ?_|lk)
 refine codeAny_call_builtin_code (yw _ K.facts.quiet) (K.check ?_);refine K.new ?_ abi;have k:∀b o,h.get? b=U o->((h.push (AU rest)).push (pS C h.objs.size)).get? b=U o:=λb o e=>c7 _ (c7 _ e);have t1:dM (aJ prog w) ((h.push (AU rest)).push (pS C h.objs.size)) (lC (.ref (h.objs.size+1))) (.ref C):=(lY (by heap_get)).andThen .now;have s1:=self.keeps k;have i1:=hi.keeps k;have b1:=(hb (.ref (h.objs.size+1))).keeps k;show aN _ _ _ _ _ _
 unfold xH ug uh
 repeat(first|with_reducible refine ot ?_|lk)
 refine Jt hq λr s' z=>?_;rcases r with e|(v|_|_|_)<;>first|exact z|exact z.elim|skip
 obtain ⟨rfl,z⟩:=z;exact aX (aX z)
end
end
section
open PyProof.Rows Builtin Builtin.ObjectAttr
section
variable{prog:gW}{w:cP}{A:bk}{E:VP}{s:aA}{C x:ay}{vs:Array az}{sl:Array (OV)}{l:LU}{name:aF}{v:az}
structure jG(M:gz)(h:aQ)(C:ay)(name:aF):Prop where
 cls:∃oc od cd sl,h.get? C=U #[oc,od,.cls cd,sl]/\ cd.hasDict=ai
 mro:∃l,dM M h (xx (.ref C)) l/\ ∀self,refuseLoop self "__setattr__" l=pure ()
 none:dM M h (d9 (.ref C) name) .none
 slot:dM M h (d9 (.ref C) "__setattr__") (U (.builtin "object.__setattr__"))
 sub:dM M h (om (.ref C) (.type "object")) ai
theorem jG.keeps(Y:jG M h C name)(k:∀b o,h.get? b=U o->h'.get? b=U o):jG M h' C name:=by
 refine bl λaG=>?_;obtain ⟨⟨oc,od,cd,sl,e,f⟩,⟨l,m1,m2⟩,n,s,b⟩:=Y;refine aG ?_;exact #[#[oc,od,cd,sl,k _ _ e,f],#[l,m1.keeps k,m2],n.keeps k,s.keeps k,b.keeps k]
theorem ad8(Y:jG (aJ prog w) s.heap C name)(hx:s.heap.get? x=U #[.ref C,od,.fields vs,sl])
  (hd:(od=u/\ ∀y,m y=u) \/∃d,od=U d/\ d≠x/\ s.heap.Ns1 d m) (hw:Within (λy=>if y=name then U v else m y) ns) (hl:J ns<=100)
  (hq:∀h' d tk,(od=u->d=s.heap.objs.size)->(∀d',od=U d'->d'=d)->h'.get? x=U #[.ref C,U d,.fields vs,sl]->h'.Ns1 d (λy=>if y=name then U v else m y)->
   (∀b o,b≠x->b≠d->s.heap.get? b=U o->h'.get? b=U o)->Q (.done (.ret .none)) {s with heap:=h',toks:=tk}):
  aN (aJ prog w) A (eT.«object.__setattr__» #[[.ref x,.str name tk,v],[]]) Q E s:=by
 refine bl λaG=>?_;obtain ⟨⟨oc,od',cd,sl',hC,Ug⟩,⟨l,hm,hr⟩,hn,hs,_⟩:=Y
 have fin:∀{s':aA} {d:ay},s'.heap.Ns1 d m->(∀h',h'.Ns1 d (λy=>if y=name then U v else m y)->iW d s'.heap h'->Q (.done (.ret .none)) {s' with heap:=h',toks:=s'.toks+1})->
   aN (aJ prog w) A (storeInDict d (.str name tk) name v) Q E s':=by
  intro s' d N k;unfold storeInDict;refine aB (aX (aB (wpAny_nsSet1 N λh' N' mh=>?_)));refine bl λaG=>?_;obtain ⟨o,es,ep,e,de,hz⟩:=N'.count hw;refine aG ?_;refine aB (Jq e (by rw [de];exact ax (by rw [lA];exact (dK (A3 (Iv hz hl) (aV rfl))))) (aX (k h' N' mh)))
 refine aG ?_;simp -iota only [osa_eq,refuse_eq];refine aB (aB (((lY hx).andThen .now:dM (aJ prog w) s.heap (lC (.ref x)) (.ref C)).here (aB (hm.here ?_))));simp -iota only [hr];refine aX (aB (((lY hx).andThen .now:dM (aJ prog w) s.heap (lC (.ref x)) (.ref C)).here (aB (hn.here ?_))));refine aB (aX ?_);unfold storeInOwnDict;refine aB (aX ?_);rw [ax (by simp -iota)];refine aB ?_;unfold ownDictForStores instanceDict;refine aB (wpAny_loadPart hx ?_);dsimp only;refine aB (aB (lB hC (aX ?_)));rw [Ug];simp -iota only [IX,lu,if_false];rcases hd with⟨rfl,hm0⟩|⟨d,rfl,vG,N⟩
 ·rw [ax (by simp -iota [typeHasDict])]
  refine aB (Jw ?_);have hx1:(s.heap.push {cls:=.type "dict",data:=.dict #[]}).get? x=U #[.ref C,u,.fields vs,sl]:=c7 _ hx;refine aB (Jp hx1 (aX ?_));have vG:s.heap.objs.size≠x:=gD (mR hx);have z8:∀b,b≠x->((s.heap.push {cls:=.type "dict",data:=.dict #[]}).update x λo=>{o with dict:=U s.heap.objs.size}).get? b=(s.heap.push {cls:=.type "dict",data:=.dict #[]}).get? b:=λb hb=>oE _ _ (bP hb);have N0:(s.heap.push {cls:=.type "dict",data:=.dict #[]}).Ns1 s.heap.objs.size λG=>none:=LS (LW s.heap (.type "dict"))
  have N:((s.heap.push {cls:=.type "dict",data:=.dict #[]}).update x λo=>{o with dict:=U s.heap.objs.size}).Ns1 s.heap.objs.size m:=by
   simp -iota only [show m=λG=>u from funext hm0];exact N0.at λo e=>(z8 _ vG).trans e
  refine fin N λh' N' mh=>hq h' _ _ (λG=>rfl) (λd' z=>dG z) ((mh.2 x (bP vG)).trans (mS (λo:fh=>{o with dict:=U s.heap.objs.size}) hx1 rfl)) N' λb o nx nd e=>(mh.2 b nd).trans ((z8 b nx).trans (c7 _ e))
 ·refine aX ?_
  exact fin N λh' N' mh=>hq h' d _ (λz=>nomatch z) (λd' z=>(bh z).symm) ((mh.2 x (bP vG)).trans hx) N' λb o nx nd e=>(mh.2 b nd).trans e
theorem BS(Y:jG (aJ prog w) s.heap C name)(hx:s.heap.get? x=U #[.ref C,od,.fields vs,sl])
  (hd:(od=u/\ ∀y,m y=u) \/∃d,od=U d/\ d≠x/\ s.heap.Ns1 d m) (hw:Within (λy=>if y=name then U v else m y) ns) (hl:J ns<=100)
  (hq:∀h' d tk,(od=u->d=s.heap.objs.size)->(∀d',od=U d'->d'=d)->h'.get? x=U #[.ref C,U d,.fields vs,sl]->h'.Ns1 d (λy=>if y=name then U v else m y)->
   (∀b o,b≠x->b≠d->s.heap.get? b=U o->h'.get? b=U o)->Q () {s with heap:=h',toks:=tk}):
  aN (aJ prog w) A (xl (.ref x) name v) Q E s:=by
 have SF:=Ly;unfold xl;refine aB (xm ?_);unfold ug uh;refine aB (aB (aB (((lY hx).andThen .now:dM (aJ prog w) s.heap (lC (.ref x)) (.ref C)) _ _ _ _ (λG G e=>e) (Y.slot _ _ _ _ (λG G e=>e) ?_))));refine gY (aB ?_);rw [SF.slot.bind];refine aX (aB (ot (Cu SF.slot.plain SF.entry (@C8 (aJ prog w) _ _ {s with toks:=s.toks+1} "object.__setattr__" "object" "__setattr__" (.ref x) [.str name s.toks,v] [] _ SF.kind SF.split (((lY hx).andThen .now:dM (aJ prog w) s.heap (lC (.ref x)) (.ref C)).andThen Y.sub) (SF.args (.ref x) (.str name s.toks) v) ?_))));refine ad8 (s:={s with toks:=s.toks+1}) Y hx hd hw hl λh' d tk q1 q2 q3 q4 q5=>?_;exact aX (aX (hq h' d tk q1 q2 q3 q4 q5))
end
end
section
open PyProof.Rows Builtin Builtin.ObjectAttr
section
variable{prog:gW}{w:cP}{A:bk}{E:VP}{h:aQ}{g:Array rE}{d:uj}{t:Nat}{os:lI}{C N x:ay}{bm bmB:LU}{B newId initId:String}{od:OA}{vs:Array az}{sl:Array (OV)}{ag:az}
theorem fO.checkInit(K:fO h C N bm B newId initId bmB)(hx:h.get? x=U #[.ref C,od,.fields vs,sl])(hq:Q () #[h,g,d,t,os]):aN M A (lE initId #[.ref x::rest,[]]) Q E #[h,g,d,t,os]:=by
 refine bl λaG=>?_;refine K.obj.elim λy hC=>?_;refine aG ?_;have F:=K.facts;have aoq:=F.noStar;simp only [lE,F.initKind,F.initSplit,F.initRow]
 repeat(first|with_reducible refine p9 hx ?_|with_reducible refine p9 hC ?_|(with_reducible refine xI hC ?_;rw [K.SJ])|wp_step)
 refine wpAny_onRaise ?_
 rw [show∀(a b:String) (n:Nat),Bind.check #[.positional, "*",B,.self,[#["args",.varPos,av]]] a b n (ya (λx=>x.fst) ({pos:=gF x::rest}:rq).kw)=pure ()from
  λa b n=>check_star_args _ _ _ _ _ _]
 exact aX hq
theorem fO.ZV(K:fO h C N bm B newId initId bmB)(hx:h.get? x=U #[.ref C,od,.fields vs,sl])(h0:0<vs.size)
  (hq:∀h',h'.get? x=U #[.ref C,od,.fields (vs.setIfInBounds 0 (.ref h.objs.size)),sl]->(∀b o,b≠x->h.get? b=U o->h'.get? b=U o)->Q .none #[h',g,d,t,os]):
  aN (aJ prog w) A (call (.builtin initId) [.ref x,ag]) Q E #[h,g,d,t,os]:=by
 refine ot (Cu K.facts.init.plain K.facts.initEntry (K.checkInit hx ?_));unfold eT.«BaseException.__init__»;refine aB (I7 ?_ (by simp only [lA];show 1<=_;exact (aV rfl)));unfold Xy;refine aB (aB (gC (c7 {cls:=.type "tuple",data:=.seq [ag].toArray} hx) rfl (x:=vs[0]) (by simp [h0]) (aB (rD (c7 {cls:=.type "tuple",data:=.seq [ag].toArray} hx) rfl h0 ?_))))
 have fin:aN (aJ prog w) A.in1 (ret gh) (λfin s'=>match fin with
   |.done f=>(match(Except.ok f:jt)with|.ok (.ret v)=>Q v s'|.ok _=>False|.error e=>E e s')
   |.again c'=>c'.quiet=ai/\ oq (aJ prog w) A c' (λr s'=>match r with|.ok (.ret v)=>Q v s'|.ok _=>False|.error e=>E e s') s') (λe s'=>E e s')
   #[(h.push {cls:=.type "tuple",data:=.seq [ag].toArray}).update x (iY (·.setIfInBounds 0 (gF h.objs.size))),g,d,t,os]:=
  aX (hq _ (mS (iY (·.setIfInBounds 0 (gF h.objs.size))) (c7 {cls:=.type "tuple",data:=.seq [ag].toArray} hx) rfl) λb o nb e=>(oE _ _ (bP nb)).trans (c7 _ e))
 split
 ·exact Cd fin
 ·exact aX fin
end
end
section
open PyProof.Rows Builtin Builtin.ObjectAttr
section
variable{prog:gW}{w:cP}{A:bk}{E:VP}{s:aA}{x ao:ay}{m mg mb:aF->OV}{env:aU}{name:aF}{v ag:az}
theorem sC(hk:env.scope.kind= .function)(N:s.heap.Ns env.locals m)(hl:env.kindOf n=U .local)(hv:m n=U v)(h:Q v s)(hd:(n==("__debug__" :aF))=av):
  aN M A (eval (.Name n pos) env) Q E s:=xJ (B8 hk hl N hv h) hd
theorem SK(hk:env.scope.kind= .function)(hl:env.kindOf n=U .globalImplicit)(g1:s.heap.Ns env.globals mg)(h0:mg n=u)(g2:s.heap.Ns env.builtins mb)(hv:mb n=U v)(h:Q v s)(hd:(n==("__debug__" :aF))=av):
  aN M A (eval (.Name n pos) env) Q E s:=by
 refine xJ ?_ hd;rw [yq hk hl];exact LC g1 h0 g2 hv h
theorem amM:lC (.type "Exception")=pure (.type "type"):=by rfl'
theorem amN:findCls [] (.type "Exception") (.type "type") "__init__" =U (.val (.builtin "Exception.__init__")):=by rfl'
theorem ad9(N:h.Ns ao m):Fr {objs:= #[]} ao h m:=#[N,λb o e=>by simp [Heap.get?]at e,bp _]
theorem aea:oN [] h:=λa o e=>dG e
theorem V3(pU:p2.endLine=p5.line)(hk:env.scope.kind= .function)(N:s.heap.Ns env.locals m)(l1:env.kindOf "self" =U .local)(l2:env.kindOf "why" =U .local)(l3:env.kindOf "Exception" =U .globalImplicit)
  (v1:m "self" =U ag) (v2:m "why" =U v) (g1:s.heap.Ns env.globals mg) (h0:mg "Exception" =u) (g2:s.heap.Ns env.builtins mb) (hv:mb "Exception" =U (.type "Exception"))
  (h:∀tk,aN (aJ prog w) A (call (.builtin "Exception.__init__") [ag,v]) Q E {s with toks:=tk}):
  aN (aJ prog w) A (eval (.Call (.Attribute (.Name "Exception" p1) "__init__" p2) [.Name "self" p3,.Name "why" p4] [] p5) env) Q E s:=by
 rw [Jf,tx rfl];refine aB (SK hk l3 g1 h0 g2 hv ?_ rfl);refine aB (kE ?_);have Mw:rz ai (.Name "Exception" p1) env p2 p5=pure p5:=by unfold rz;simp [pU]
 unfold t8;refine aB (gY ?_);refine method_type (K:= []) (T:= "Exception") (name:= "__init__") (ad9 N) aea amM (by decide+kernel) amN rfl ?_;refine aB (cX Mw ?_);refine Calls.callWith_builtin rfl (LD ?_);refine DC (sC hk N l1 v1 ?_ rfl);refine DC (sC hk N l2 v2 ?_ rfl);exact LF (h _)
end
end
section
open PyProof.Rows Builtin Builtin.ObjectAttr
noncomputable def AV(ag v:az):List (aF×az):= [(aE "self",ag),(aE "why",v)]
noncomputable def Q5:List (aF×lG):= [(aE "self",.local),(aE "why",.local),(aE "Exception",.globalImplicit)]
theorem Pp:((AV ag v).map (·.1)).Nodup:=(by decide: [aE "self",aE "why"].Nodup)
inductive V4:LT->Prop where
 |mk (p1 p2 p3 p4 p5 p6 q1 q2 q3 q4 r1 r2 r3 r4 r5:bz) (k:Nat) (h:p2.endLine=p5.line):V4 [.Expr (.Call (.Attribute (.Name "Exception" p1) "__init__" p2) [.Name "self" p3,.Name "why" p4] [] p5) p6,.Assign [.Attribute (.Name "self" q1) "why" q2] (.Name "why" q3) q4,
   .Assign [.Attribute (.Name "self" r1) "at" r2] (.UnaryOp .USub (.Constant (.int 1) k r3) r4) r5]
structure aip(H:aQ)(f:ay)(o:fh)(fd:oi)(b:LT):Prop where
 at_:H.get? f=U o
 func:o.data= .func fd
 Tc:fd.closure= []
 glob:fd.globals=ew
 blt:fd.builtins=jr
 code:H.CodeRec fd.code fd.qualname
 kind:fd.scope.kind= .function
 cor:fd.scope.isCoroutine=av
 gen:fd.scope.isGenerator=av
 bind:∀ag v,uk fd #[[ag,v],[]]=pure (AV ag v)
 names:fd.scope.names=Q5
 body:fd.body= .stmts b
 shape:V4 b
noncomputable def Pq(H:aQ)(f:ay):Prop:=∃o fd b,aip H f o fd b
section
variable{prog:gW}{w:cP}{A:bk}{E:VP}{s:aA}{x ao:ay}{m mg mb:aF->OV}{env:aU}{name:aF}{v ag:az}
theorem FT(hc:swapsWith e (U (.Attribute (.Name "self" p1) a p2)) p3.line env=pure av)(hs:ui [.Attribute (.Name "self" p1) a p2] e env=pure u)
  (h:aN M A (eval e env) (λv s=>aN M A (eval (.Name "self" p1) env) (λo s=>aN M A (xl o a v) (λG s=>Q .next s) E s) E s) E s):
  aN M A (exec (.Assign [.Attribute (.Name "self" p1) a p2] e p3) env) Q E s:=by
 simp -iota only [Ct];refine aB (kE ?_);show aN _ _ (swapsWith e (U (.Attribute (.Name "self" p1) a p2)) p3.line env>>=_) _ _ s
 rw [hc];show aN _ _ (eval e env>>=λv=>ui [.Attribute (.Name "self" p1) a p2] e env>>=λsw=>Cs env v sw ((ow [.Attribute (.Name "self" p1) a p2] env).map (·.2))) _ _ s
 rw [hs];refine aB (wpAny_mono h (λv s1 q=>?_) λG G q=>q);show aN _ _ (kD (.Attribute (.Name "self" p1) a p2) env v>>=λG=>pure r9) _ _ s1
 simp -iota only [JG];refine aB (aB (gY (wpAny_mono q (λo s2 q=>?_) λG G q=>q)));refine aB (kE (aB (gY (wpAny_mono q (λG s3 q=>?_) λG G q=>q))));exact I0 (aX q)
variable{R:jt->aA->Prop}{H:aQ}{C N f:ay}{bm bmB:LU}
theorem V5(af:Pq H f)(hk:∀b o,H.get? b=U o->s.heap.get? b=U o)(Rw:H.NoLimit)(RW:A.depth<BY)(K:fO H C N bm "Exception" "Exception.__new__" "Exception.__init__" bmB)
  (y1:jG (aJ prog w) H C "why") (y2:jG (aJ prog w) H C "at") (g1:H.Ns ew mg) (h0:mg "Exception" =u) (g2:H.Ns jr mb) (hv:mb "Exception" =U (.type "Exception"))
 (hx:s.heap.get? x=U (pS C t)) (fresh:H.get? x=u)
  (hq:∀h' d m tk t',s.heap.get? d=u->h'.get? x=U #[.ref C,U d,(pS C t').data, #[]]->h'.Ns d m->m "why" =U v->(∀b o,b≠x->s.heap.get? b=U o->h'.get? b=U o)->R (.ok (.ret .none)) {s with heap:=h',toks:=tk}):
  oq (aJ prog w) A (.call (.ref f) #[[.ref x,v],[]]) R s:=by
 refine bl λaG=>?_;obtain ⟨o,fd,b,ae⟩:=af;refine aG ?_;refine codeAny_call_cells RW (hk _ _ ae.at_) ae.func (Rw.keeps hk) ?_ ae.body (ae.bind _ _) ae.Tc ?_ (λcN X=>?_) ae.cor ae.gen ae.kind
 ·obtain ⟨c',oc,vs,tq,hc,hoc,Ug,hq⟩:=ae.code
  exact #[c',oc,vs,tq,hc,hk _ _ hoc,Ug,hq]
 ·intro y hy
  refine .inl ?_;rw [ae.names];rcases eU.mp hy with rfl|hy
  ·rfl
  ·rcases eU.mp hy with rfl|hy
   ·rfl
   ·exact nomatch hy
 generalize he:callEnvC fd s.heap.objs.size f=env at X;have ek:env.scope.kind= .function:=by rw [←he];exact ae.kind
 have kd:∀y,env.kindOf y=Q5.lookup y:=λy=>by rw [←he];show fd.scope.names.lookup y=_;rw [ae.names]
 have hL:env.locals=s.heap.objs.size:=by rw [←he];rfl
 have k1:env.kindOf "self" =U .local:=(kd _).trans rfl;have eg:env.globals=mainGlobals:=by rw [←he];exact ae.glob
 have eb:env.builtins=builtinsNs:=by rw [←he];exact ae.blt
 obtain ⟨hh,tk,rfl⟩:=X.toInCall.same;have ZW:=X.toInCall.ns;generalize hm:rG env.kindOf (AV (.ref x) v) (λG=>u)=m at ZW;have hi:xG env=false:=by unfold xG;rw [ek];rfl
 have m1:m "self" =U (.ref x):=hm▸DT Pp (by simp -iota [AV]) k1;have m2:m "why" =U v:=hm▸DT Pp (by simp -iota [AV]) ((kd _).trans rfl);have keep:=X.toInCall.keep;have BO:∀b o,H.get? b=U o->hh.get? b=U o:=λb o e=>keep _ _ (hk _ _ e)
 have hxL:x≠env.locals:=λz=>by
  rw [z,hL]at hx;exact absurd (mR hx) (xR _)
 have ns:∀{h':aQ} {a:ay} {m:aF->OV},(∀b o,H.get? b=U o->h'.get? b=U o)->H.Ns a m->h'.Ns a m:=λk #[o,es,ep,e,r]=>#[o,es,ep,k _ _ e,r];obtain ⟨p1,p2,p3,p4,p5,p6,q1,q2,q3,q4,r1,r2,r3,r4,r5,k,f12⟩:=ae.shape;refine xM ?_;simp -iota only [JE];refine aB (kE ?_);rw [hi,wg rfl];refine aB (aX ?_);rw [ax (by decide)];refine aB (V3 f12 ek ZW k1 ((kd _).trans rfl) ((kd _).trans rfl) m1 m2 (by rw [eg];exact ns BO g1) h0 (by rw [eb];exact ns BO g2) hv λtk1=>?_);refine (K.keeps BO).ZV (keep _ _ hx:hh.get? x=U (pS C t)) (by simp -iota) λh2 e2 o2=>aX ?_;have ZX:∀b o,H.get? b=U o->h2.get? b=U o:=λb o e=>o2 b o (λz=>by rw [z,fresh]at e;exact dG e) (BO _ _ e);dsimp only
 have SM:h2.Ns env.locals m:=by
  refine bl λaG=>?_;refine ZW.elim λo hq=>hq.elim λes hq=>hq.elim λep hq=>hq.elim λe r=>?_;refine aG ?_;exact #[o,es,ep,o2 _ _ (bP hxL) e,r]
 refine xM (FT (by rfl) (by rfl) (sC ek SM ((kd _).trans rfl) m2 (sC ek SM k1 m1 ?_ rfl) rfl));refine BS (ns:= ["why"]) (y1.keeps ZX:jG (aJ prog w) h2 C "why") e2 (.inl #[rfl,λG=>rfl]) ?_ (by decide) λh3 d tk3 d1 d2 e3 n3 o3=>?_
 ·exact DK _ _ LH
 have dn:h2.get? d=none:=by simp -iota only [d1 rfl];exact qh (ez _)
 have hd:∀b o,h2.get? b=U o->b≠d:=λb o e z=>by rw [z,dn]at e;exact dG e
 have amO:∀b o,H.get? b=U o->h3.get? b=U o:=λb o e=>o3 b o (λz=>by rw [z,fresh]at e;exact dG e) (hd _ _ (ZX _ _ e)) (ZX _ _ e);have Ld:env.locals≠d:=by obtain ⟨o,es,ep,e,r⟩:=SM;exact hd _ _ e
 have amP:h3.Ns env.locals m:=by
  refine SM.elim λo hq=>hq.elim λes hq=>hq.elim λep hq=>hq.elim λe r=>?_;exact #[o,es,ep,o3 _ _ (bP hxL) Ld e,r]
 dsimp only;refine xM (FT (by rfl) (by rfl) (lit_neg _ λvv tk4 G=>sC ek amP k1 m1 ?_ rfl));refine BS (ns:= ["at", "why"]) (y2.keeps amO) e3 (.inr #[d,rfl,bP (hd _ _ e2),n3]) ?_ (by decide) λh4 d' tk5 G d4 e4 n4 o4=>?_
 ·exact DK _ _ (DK _ _ LH)
 obtain rfl:=d4 _ rfl;refine wpAny_execs_nil ?_
 have up:∀b o,b≠x->s.heap.get? b=U o->h4.get? b=U o:=λb o nb e=>by
  have z:=o2 b o nb (keep _ _ e);exact o4 b o nb (hd _ _ z) (o3 b o nb (hd _ _ z) z)
 refine hq h4 d _ _ _ ?_ e4 n4.ns ?_ up
 ·rcases z:s.heap.get? d with _|o
  ·rfl
  ·
   by_cases q:d=x
   ·rw [q]at dn;simp -iota only [dn]at e2;exact dG e2
   ·have:=o2 _ _ q (keep _ _ z)
    rw [dn]at this;exact dG this
 ·rfl
end
end
section
open PyProof.Rows Builtin Builtin.ObjectAttr
structure ExcAt(c:Cx)(P:fF)(f N:ay)(bm bmB:LU)(mg mb:aF->OV):Prop where
 cls:fO c.H c.C N bm "Exception" "Exception.__new__" "Exception.__init__" bmB
 aku:sA (aJ c.prog c.w) c.H c.C "Exception.__new__" (.ref f)
 y1:jG (aJ c.prog c.w) c.H c.C "why"
 y2:jG (aJ c.prog c.w) c.H c.C "at"
 g1:c.H.Ns ew mg
 g2:mg "Exception" =u
 g3:c.H.Ns jr mb
 g4:mb "Exception" =U (.type "Exception")
 g5:mg P.exc=U (.ref c.C)
 ini:Pq c.H f
 lim:c.H.NoLimit
structure GW(c:Cx)(P:fF):Prop where
 ex:∃f N bm bmB mg mb,ExcAt c P f N bm bmB mg mb
 nd:(P.exc==aE "__debug__")=av
theorem sA.keeps(Y:sA M h C newId i)(k:∀b o,h.get? b=U o->h'.get? b=U o):sA M h' C newId i:=by
 refine bl λaG=>?_;obtain ⟨⟨oc,od,cd,sl,e,f⟩,a,b,c,d,e',g⟩:=Y;refine aG ?_;exact #[#[oc,od,cd,sl,k _ _ e,f],a.keeps k,b.keeps k,c.keeps k,d.keeps k,e'.keeps k,λz=>(g z).keeps k]
section
variable{M:gz}{A:bk}{E:VP}{env:aU}{C N:ay}{bm bmB:LU}{B newId initId:String}
theorem GX(hh:A.handled=u)
  (h:aN M A x (λv cN=>∃e t d,v= .ref e/\ fO cN.heap C N bm B newId initId bmB/\ cN.heap.get? e=U #[.ref C,U d,(pS C t).data, #[]]/\ E (.ref e) cN) E s):
  aN M A (raiseStmt env (U x) u) Q E s:=by
 unfold raiseStmt;refine aB (wpAny_mono h (λv cN fc=>?_) λG G x=>x);obtain ⟨e,t,dx,rfl,K,he,hE⟩:=fc;obtain ⟨hp,g,d,tk,os⟩:=cN;obtain ⟨y,hC⟩:=K.obj
 repeat(first|with_reducible refine p9 he ?_|with_reducible refine p9 hC ?_|(with_reducible refine xI hC ?_;rw [K.akt])|wp_step)
 exact wpAny_raiseNew_none hh hE
end
section
variable{P:fF}{c:Cx}{n:Nat}{l:Loc}{O:L}{ρ:bG}{s:aA}{A:bk}{aL:List aU}{env:aU}
theorem V6{k:pX}{v:V}{A:bk}(h:oO k=U v){Q:VP}{E:VP}(q:∀ag tk,(∀ρ h,Rep c.H ρ h v ag)->Q ag {s with toks:=tk}):aN (aJ c.prog c.w) A (I1 env k) Q E s:=by
 rcases k<;>cases h
 ·exact aX (q _ s.toks λG G=>.none)
 ·exact aX (q _ s.toks λG G=>.bool _)
 ·exact t7 (q _ _ λG G=>.int _ _)
 ·exact xm (q _ _ λG G=>.str _ _)
 ·exact I3 (q _ _ λG G=>.bytes _ _)
theorem V7(X:GW c P)(h6:6<=n)(E:cz c n A (env::aL) env ρ O l s)(hg:mu env.scope P.exc=ai)(hv:oO k=U v):
  WX env.frame c A (bq (env::aL)) (cJ env) ρ (.exc v O) (eZ c env) (exec (.Raise (U (.Call (.Name P.exc np) [.Constant k kk kp] [] yQ)) u pos) env) s:=by
 have ae:=E.inv;intro _;refine bw.of ?_;refine bl λaG=>?_;obtain ⟨f,N,bm,bmB,mg,mb,aa⟩:=X.ex;refine aG ?_;have n1:s.heap.Ns env.globals mg:=by rw [E.fr.glob];exact A7 ae aa.g1
 simp only [arm_exec_Raise];refine aB (kE ?_);refine GX (C:=c.C) (N:=N) (bm:=bm) (bmB:=bmB) (B:= "Exception") (newId:= "Exception.__new__") (initId:= "Exception.__init__") E.a.handled (aB ?_);simp only [(rfl)];refine aB (xJ ?_ X.nd);rw [yq E.fr.kind (zY hg)];refine DB n1 aa.g5 ?_;unfold rt;refine aB (gY (LD (DC ?_)));rw [JI];rw [ax (by decide)];refine V6 hv λag tk ru=>?_;refine LF (aB (kE ?_));obtain ⟨h,g,d,t0,os⟩:=s;have hK:∀b o,c.H.get? b=U o->h.get? b=U o:=ae.base;have K1:=aa.cls.keeps hK;refine K1.obj.elim λy hC=>?_;refine aB (Jb hC ?_);refine aB (ot (ZU K1 (aa.aku.keeps hK) (by simp only [lA];show 1<=_;exact (aV rfl)) ?_));have hx:((h.push (AU ([]++ [ag]))).push (pS c.C h.objs.size)).get? (h.objs.size+1)=U (pS c.C h.objs.size):=by heap_get
 have up:∀b o,h.get? b=U o->((h.push (AU ([]++ [ag]))).push (pS c.C h.objs.size)).get? b=U o:=λb o e=>c7 _ (c7 _ e)
 have nf:∀b,h.get? b=u->c.H.get? b=u/\ ¬cy ρ b:=λb hb=>by
  refine #[?_,λz=>?_]
  ·rcases z:c.H.get? b with _|o
   ·rfl
   ·have:=hK _ _ z;rw [hb]at this;exact dG this
  ·obtain ⟨o,e,_⟩:=ae.foot z
   rw [hb]at(e);exact dG (e)
 have xn:h.get? (h.objs.size+1)=none:=qh (rL _);refine V5 aa.ini (λb o e=>up _ _ (hK _ _ e)) aa.lim (by have:=E.a.depth;show A.depth+1<_;lia) aa.cls aa.y1 aa.y2 aa.g1 aa.g2 aa.g3 aa.g4 hx (nf _ xn).1 λh' dx m tk' t' e1 e2 e3 e4 e5=>?_;refine #[rfl,?_];have tf:∀b o,h.get? b=U o->h'.get? b=U o:=λb o e=>e5 b o (λz=>by rw [z,xn]at e;exact dG e) (up _ _ e)
 have dn:h.get? dx=none:=by
  rcases z:h.get? dx with _|o
  ·rfl
  ·have:=up _ _ z;rw [e1]at this;exact dG this
 have xd:h.objs.size+1≠dx:=λz=>by rw [z]at hx;rw [e1]at hx;exact dG hx
 refine aB (gY (wpAny_point (aX (aB (kE (aX ?_))))));refine #[_,t',dx,rfl,aa.cls.keeps λb o e=>tf _ _ (hK _ _ e),e2,v,O,ρ,rfl,#[cG.more tf,ae.more tf,rfl,rfl],?_];exact #[_,dx,_,_,rfl,xd,#[xn,nf _ xn],#[dn,nf _ dn],e2,#[m,ag,e3,e4,ru _ _],.inl #[rfl,.inl (.inl rfl)]]
end
end
section
open PyProof.Rows Builtin Builtin.ObjectAttr
section
variable{prog:gW}{w:cP}{A:bk}{E:VP}{h:aQ}{g:Array rE}{dr:uj}{t:Nat}{os:lI}{C x d:ay}{vs:Array az}{sl:Array (OV)}{name:aF}{v:az}{m:aF->OV}
structure vD(M:gz)(h:aQ)(C:ay)(name:aF):Prop where
 ga:dM M h (d9 (.ref C) "__getattribute__") (U (.builtin "BaseException.__getattribute__"))
 gb:dM M h (d9 (.ref C) "__getattr__") u
 no:dM M h (d9 (.ref C) name) u
 sub:dM M h (om (.ref C) (.type "BaseException")) ai
theorem vD.keeps(Y:vD M h C name)(k:∀b o,h.get? b=U o->h'.get? b=U o):vD M h' C name:=#[Y.ga.keeps k,Y.gb.keeps k,Y.no.keeps k,Y.sub.keeps k]
theorem PW(S:jG (aJ prog w) h C name)(Y:vD (aJ prog w) h C name)(hx:h.get? x=U #[.ref C,U d,.fields vs,sl])(N:h.Ns d m)(hv:m name=U v)(hh:B5 v=pure v)(hq:∀tk,Q v #[h,g,dr,tk,os]):
  aN (aJ prog w) A (B6 (.ref x) name expr) Q E #[h,g,dr,t,os]:=by
 have ty:dM (aJ prog w) h (lC (.ref x)) (.ref C):=(lY hx).andThen .now;refine bl λaG=>?_;obtain ⟨⟨oc,od,cd,sc,hC,hd⟩,_⟩:=S
 have chk:∀{A:bk} {Q:Unit->aA->Prop} {E:VP},Q () #[h,g,dr,t+1,os]->aN (aJ prog w) A (lE "BaseException.__getattribute__" #[[.ref x,.str name t],[]]) Q E #[h,g,dr,t+1,os]:=λhq=>by
  have ha:=WR (.ref x) (.str name t);rw [lE,(by decide+kernel:builtinKind "BaseException.__getattribute__" =U .slot),(by decide+kernel:splitId "BaseException.__getattribute__" =U ("BaseException", "__getattribute__"))];unfold xH;refine aB (aB (ty.at (Y.sub.at ?_)))
  repeat(first|assumption|wp_step)
 refine aG ?_;unfold B6 getAttrBy;refine aB (xm (gY (aB (ty.at ?_))));refine aB (Y.ga.at ?_);dsimp only;rw [ax nofun];unfold getAttrByItsOwn;refine aB (?_:aN _ _ (d9 (.ref C) "__getattr__") _ _ _);refine Y.gb.at ?_;refine aB (Cg (gY ?_));unfold callGetattribute;rw [ax (by rw [(by rcases expr<;>rfl:(expr&&onTheHeap (yh "BaseException.__getattribute__"))=av)];decide)];unfold boundAndCalled;rw [LB.ga.bind];refine aB (aX (ot ?_));refine Cu LB.ga.plain WS ?_;refine chk ?_;unfold eT.«object.__getattribute__»
 repeat(first|with_reducible refine p9 hx ?_|with_reducible refine Y.no.at ?_|(with_reducible refine JM N ?_;rw [hv])|wp_step)
 exact hq _
end
end
section
open PyProof.Rows Builtin Builtin.ObjectAttr
section
variable{P:fF}{c:Cx}{n:Nat}{l MM:Loc}{O tC:L}{ρ cu:bG}{s bN:aA}{A:bk}{aL:List aU}{env:aU}
theorem GY(ae:b9 c ρ O s.heap)(F:gT c.H ρ s.heap env l)(hL:X env.locals)(N:s.heap.Ns env.locals m)(vK:h'.Ns env.locals m')(mh:iW env.locals s.heap h'):
  b7 c Z X ρ s ρ O {s with heap:=h',toks:=tk}:=by
 have k1:∀b o,s.heap.get? b=U o->¬b=env.locals->h'.get? b=U o:=λb o e nb=>(mh.2 b nb).trans e
 have st:cG bj (λb=>b=env.locals) ρ s.heap ρ h':=cG.loose (λb o z=>z.elim) (λb o yb e=>by subst yb;exact RM N o e) (λb o e nb G=>k1 b o e nb) (λb o e nb=>#[o.slots,k1 b o e nb]) (λb o e=>by
   by_cases q:b=env.locals
   ·subst q;obtain ⟨o',_,_,e',_⟩:=vK;exact #[o',e']
   ·exact #[o,k1 b o e q]) λb yb=>by
    subst yb;refine #[λG=>#[_,vK],λy=>?_];refine bl λaG=>?_;obtain ⟨o',es,ep,e',d',_⟩:=N;obtain ⟨v,o,e,d⟩:=y;refine aG ?_;rw [e]at e';obtain rfl:=bh e';rw [d]at d';exact nomatch d'
 have J':=ae.loose st (λb o e nb G=>k1 b o e nb) (λb z=>z.elim) λb yb=>by subst yb;exact F.own
 exact #[(st.mX λG G G z=>z.elim).weak λb yb=>by subst yb;exact hL,J',rfl,rfl]
theorem aeb(r:Rep c.H ρ h y ag)(hn:∀v,y≠ .con v):B5 ag=pure ag:=by
 cases r<;>first|rfl|exact absurd rfl (hn _)
theorem SO(X:GW c P)(aoU:vD (aJ c.prog c.w) c.H c.C "why")(qr:cz c n A (env::aL) env cu tC MM bN)(hg:mu env.scope P.exc=ai)(hk:env.kindOf nm=U .local)
  (hnd:(nm==aE "__debug__")=av) (p:b7 c (bq (env::aL)) (cJ env) cu bN ρ O s) (f:gZ (λk=>k=U .none) c.C c.H ρ bN.heap s.heap y e) (hy:∀v,y≠ .con v)
  (hq:∀ag s',b7 c (bq (env::aL)) (cJ env) cu bN ρ O s'->Rep c.H ρ s'.heap y ag->Q (.ret ag) s'):
  aN (aJ c.prog c.w) A (handleBy e env [.ExceptHandler (U (.Name P.exc tp)) (U nm) [.Return (U (.Attribute (.Name nm np) "why" ap)) rp] hp]) Q Er s:=by
 refine bl λaG=>?_;have E:=qr.DR p (λG G G x=>x);obtain ⟨f0,N,bm,bmB,mg,mb,aa⟩:=X.ex;refine aG ?_;obtain ⟨x,d,vs,sl,rfl,fl⟩:=TG f;refine wpAny_handleBy_cons (codeAny_handlers_test ?_) (by intro q;cases q);refine xJ ?_ X.nd;rw [yq E.fr.kind (zY hg)];have n1:s.heap.Ns env.globals mg:=by rw [E.fr.glob];exact A7 E.inv aa.g1
 refine DB n1 aa.g5 ?_;obtain ⟨y,hC⟩:=(aa.cls.keeps E.inv.base).obj;refine wpAny_excMatches_sub_self hC fl.ex rfl aa.cls.base ?_;rw [au rfl];dsimp only;refine codeAny_handlers_suite_as ?_;refine pW (K':=λk=>k=U .none) (MH E.fs) p f (λz=>dG z) rfl λs3 p3 q3 f3=>?_;have E3:=qr.DR q3 (λG G G x=>x);refine bl λaG=>?_;obtain ⟨x3,d3,vs3,sl3,e3,fl3⟩:=TG f3;refine aG ?_;cases e3
 have hpk:(env.scope.kind== .class||(env.scope.kind== .module&&env.locals !=env.globals))=false:=by rw [E3.fr.kind];rfl
 refine bl λaG=>?_;obtain ⟨m,Nm,hm⟩:=E3.fr.ns;obtain ⟨mw,cv,w1,w2,w3⟩:=fl3.why;refine aG ?_;have L0:∃o,bN.heap.get? env.locals=U o:=by obtain ⟨m,⟨o,es,ep,e,_⟩,_⟩:=qr.fr.ns;exact #[o,e]
 have xL:x≠env.locals:=λz=>by obtain ⟨o,e⟩:=L0;rw [←z,fl3.nx.1]at e;exact dG e
 have dL:d3≠env.locals:=λz=>by obtain ⟨o,e⟩:=L0;rw [←z,fl3.nd.1]at e;exact dG e
 refine Jy hk Nm (λh4 n4 o4=>?_) hpk;have p4:=GY (Z:=bq (env::aL)) (X:=cJ env) (tk:=s3.toks+1) E3.inv E3.fr (.inl rfl) Nm n4 o4;have c4:=q3.trans p4;have w4:h4.Ns d3 mw:=by obtain ⟨o,es,ep,e,r⟩:=w1;exact #[o,es,ep,(o4.2 _ dL).trans e,r]
 refine xM ?_;simp -iota only [JA];refine aB (kE (aB ?_));rw [Jd,tx rfl];refine aB (sC E3.fr.kind n4 hk (au rfl) ?_ hnd);refine aB (kE (aB (gY ?_)));refine PW (aa.y1.keeps (c4.inv.base)) (aoU.keeps (c4.inv.base)) ((o4.2 x xL).trans fl3.ex) w4 w2 (aeb w3 hy) λtk=>?_;have E4:=qr.DR c4 (λG G G x=>x);refine aB (Je (aX (aX ?_)));refine wpAny_nameGoes hk n4 hpk λh5 m5 n5 o5=>?_;exact hq _ _ (c4.trans (GY (tk:=tk+1) E4.inv E4.fr (.inl rfl) n4 n5 o5)) ((w3.mono p4.cq).mono (GY (Z:=bq (env::aL)) (X:=cJ env) (tk:=tk+1) E4.inv E4.fr (.inl rfl) n4 n5 o5).cq)
theorem air(X:GW c P)(aoU:vD (aJ c.prog c.w) c.H c.C "why"):sF c P:=
 #[λh6 E G hg hv=>V7 X h6 E hg hv,λG E hg hk hnd hy p f hq=>SO X aoU E hg hk hnd p f hy hq]
end
end
section
open PyProof.Rows
noncomputable def vs(s:String)(t:Nat):Value:=.str (aE s) t
noncomputable def vi(i:Int)(t:Nat):Value:=.int i t
noncomputable def vr(a:Nat):Value:=.ref a
noncomputable def dr(a b c d:Nat):Drawn:=#[a,b,c,d]
noncomputable def de(P:ox)(s:String)(t:Nat)(v:az):DictEntry:=#[PyData.keyHash P (aE s),.str (aE s) t,v]
noncomputable def IJ:Option dW->Arguments×LT×bM
 |some (.FunctionDef _ a b _ _ _ sc _ _ _)=>(a,b,sc)
 |_=>(#[[],[],u,[],[],u,[]],[],#[.function,[],av,av,[]])
noncomputable def amQ(n q:String)(x:Arguments×LT×bM)(g:Nat)(d k doc pm c ct:az)(b:Nat):FuncData:=
 {name:=aE n,qualname:=aE q,params:=x.1,body:=.stmts x.2.1,scope:=x.2.2,globals:=g,closure:= [],defaults:=d,kwdefaults:=k,doc:=doc,pyModule:=pm,annotations:=u,code:=c,closureTuple:=ct,builtins:=b}
noncomputable abbrev pw:Program:=LY
noncomputable def GZ:OV:=U (vr 6)
noncomputable def akv:Value:=vr 13
noncomputable def ZY:Env:={scope:=pw.main.scope,locals:=Cv,globals:=Cv,cells:= [],code:=akv,frame:=U 14}
noncomputable def bT:LT:=behindTheImports pw
noncomputable def cE:Code:=.body bT ZY
noncomputable def p0:Pos:=#[0,0,0,0]
noncomputable def BT1:List Frame:= [topFrame p0]
noncomputable def ZZ(w:cP)(n:Nat)(S:C9)(t:Thread):Option (Flow×C9×tZ×bz):=W3 W4 pw w 11 GZ 1 n S t
noncomputable def thT:Thread:=#[(W5 pw.main.body ZY).wrap doneF deadEnd id id,cE,p0,BT1]
noncomputable def akw(P:ox):Obj:=#[.type "tuple",u,.seq [].toArray 0,[].toArray]
noncomputable def akx(P:ox):Obj:=#[.none,u,.fields [].toArray,[].toArray]
noncomputable def aky(P:ox):Obj:=#[.type "code",u,.fields [vs "<module>" 182,vs "<module>" 183,vs "/claim/cut.py" 184,vi 1 0,vi 0 0,vi 0 0,vi 0 0,vi 0 0,vr 11,.bool av,vi 181 0,vr 12,.none,.none,.none,.none,vi 185 0,vi 1 0,vs "/claim/cut.py" 186].toArray,[].toArray]
noncomputable def akz(P:ox):Obj:=#[.type "frame",u,.plain,[U (vr 13),U (vr 3),U (vr 3),u,U (vs "__main__" 164),u,U (vr 0)].toArray]
noncomputable def T0(P:ox):BT:=(.node (boot_o_0 P) (.node (boot_o_1 P) (.node (boot_o_3 P) (.node (boot_o_7 P) .nil .nil) (.node (akw P) .nil .nil)) (.node (boot_o_5 P) (.node (boot_o_9 P) .nil .nil) (.node (aky P) .nil .nil))) (.node (boot_o_2 P) (.node (boot_o_4 P) (.node (boot_o_8 P) .nil .nil) (.node (akx P) .nil .nil)) (.node (boot_o_6 P) (.node (boot_o_10 P) .nil .nil) (.node (akz P) .nil .nil))))
noncomputable def S0(w:cP)(os:lI):SharedT:=#[T0 w.params,15,{}, #[],dr 0 0 0 0,187,os]
noncomputable def Kas:List Addr:= [30,31,55,56,28,27,182,183,315,316,365,366,498,499,596,597]
noncomputable def KO(P:ox):List (ay×fh):= [
 (30,#[.type "dict",u,.dict [de P "__module__" 196 (vs "siftwall.faults" 187),de P "__firstlineno__" 200 (vi 2 199),de P "__init__" 208 (vr 28),de P "__static_attributes__" 211 (vr 29),de P "__weakref__" 213 (vr 32),de P "__doc__" 214 (.none)].toArray 3,[].toArray]),
 (31,#[.type "type",u,.cls {name:=aE "WallFault",bases:= [.type "Exception"],mro:= [vr 31,.type "Exception",.type "BaseException",.type "object"],ns:=30,qualname:=aE "WallFault",hasDict:=ai,slotNames:= [],subclasses:= [vr 44,vr 56],abstract:=av,collection:=u,hasDel:=av},[U (vr 15),u,U (vs "WallFault" 189),U (vs "WallFault" 197),U (.builtin "Exception.__new__"),U (.bool ai)].toArray]),
 (55,#[.type "dict",u,.dict [de P "__module__" 242 (vs "siftwall.faults" 187),de P "__firstlineno__" 246 (vi 10 245),de P "__static_attributes__" 247 (vr 54),de P "__doc__" 248 (.none)].toArray 2,[].toArray]),
 (56,#[.type "type",u,.cls {name:=aE "LeftOut",bases:= [vr 31],mro:= [vr 56,vr 31,.type "Exception",.type "BaseException",.type "object"],ns:=55,qualname:=aE "LeftOut",hasDict:=ai,slotNames:= [],subclasses:= [],abstract:=av,collection:=u,hasDel:=av},[U (vr 47),u,U (vs "LeftOut" 235),U (vs "LeftOut" 243),U (.builtin "Exception.__new__"),U (.bool ai)].toArray]),
 (28,#[.type "function",u,.func (amQ "__init__" "WallFault.__init__" (IJ (vQ 0 (ba 1))) 3 (.none) (.none) (.none) (vs "siftwall.faults" 187) (vr 27) (.none) 0),[].toArray]),
 (27,#[.type "code",u,.fields [vs "__init__" 201,vs "WallFault.__init__" 202,vs "/claim/cut.py" 203,vi 4 0,vi 2 0,vi 0 0,vi 0 0,vi 3 0,vr 22,.bool ai,vi 181 0,vr 23,.none,vr 24,vr 25,vr 26,vi 206 0,vi 4 0,vs "/claim/cut.py" 207].toArray,[].toArray]),
 (182,#[.type "dict",u,.dict [de P "__module__" 397 (vs "siftwall.rowexpr" 388),de P "__firstlineno__" 401 (vi 91 400),de P "__init__" 412 (vr 180),de P "__static_attributes__" 422 (vr 181),de P "__dict__" 424 (vr 184),de P "__weakref__" 426 (vr 185),de P "__doc__" 427 (.none)].toArray 4,[].toArray]),
 (183,#[.type "type",u,.cls {name:=aE "Rowing",bases:= [.type "object"],mro:= [vr 183,.type "object"],ns:=182,qualname:=aE "Rowing",hasDict:=ai,slotNames:= [],subclasses:= [],abstract:=av,collection:=u,hasDel:=av},[u,u,U (vs "Rowing" 390),U (vs "Rowing" 398),U (.builtin "object.__new__"),U (.bool ai)].toArray]),
 (315,#[.type "dict",u,.dict [de P "__module__" 627 (vs "siftwall.packets" 610),de P "__firstlineno__" 631 (vi 216 630),de P "__init__" 641 (vr 313),de P "__static_attributes__" 649 (vr 314),de P "__dict__" 651 (vr 317),de P "__weakref__" 653 (vr 318),de P "__doc__" 654 (.none)].toArray 4,[].toArray]),
 (316,#[.type "type",u,.cls {name:=aE "Packet",bases:= [.type "object"],mro:= [vr 316,.type "object"],ns:=315,qualname:=aE "Packet",hasDict:=ai,slotNames:= [],subclasses:= [],abstract:=av,collection:=u,hasDel:=av},[u,u,U (vs "Packet" 620),U (vs "Packet" 628),U (.builtin "object.__new__"),U (.bool ai)].toArray]),
 (365,#[.type "dict",u,.dict [de P "__module__" 704 (vs "siftwall.walk" 695),de P "__firstlineno__" 708 (vi 260 707),de P "__init__" 721 (vr 363),de P "__static_attributes__" 741 (vr 364),de P "__dict__" 743 (vr 367),de P "__weakref__" 745 (vr 368),de P "__doc__" 746 (.none)].toArray 4,[].toArray]),
 (366,#[.type "type",u,.cls {name:=aE "Scene",bases:= [.type "object"],mro:= [vr 366,.type "object"],ns:=365,qualname:=aE "Scene",hasDict:=ai,slotNames:= [],subclasses:= [],abstract:=av,collection:=u,hasDel:=av},[u,u,U (vs "Scene" 697),U (vs "Scene" 705),U (.builtin "object.__new__"),U (.bool ai)].toArray]),
 (498,#[.type "dict",u,.dict [de P "__module__" 894 (vs "siftwall.machine" 885),de P "__firstlineno__" 898 (vi 374 897),de P "__init__" 905 (vr 482),de P "get" 914 (vr 489),de P "put" 924 (vr 496),de P "__static_attributes__" 926 (vr 497),de P "__dict__" 928 (vr 500),de P "__weakref__" 930 (vr 501),de P "__doc__" 931 (.none)].toArray 4,[].toArray]),
 (499,#[.type "type",u,.cls {name:=aE "Regs",bases:= [.type "object"],mro:= [vr 499,.type "object"],ns:=498,qualname:=aE "Regs",hasDict:=ai,slotNames:= [],subclasses:= [],abstract:=av,collection:=u,hasDel:=av},[u,u,U (vs "Regs" 887),U (vs "Regs" 895),U (.builtin "object.__new__"),U (.bool ai)].toArray]),
 (596,#[.type "dict",u,.dict [de P "__module__" 1057 (vs "siftwall.tuples" 1048),de P "__firstlineno__" 1061 (vi 437 1060),de P "__init__" 1072 (vr 594),de P "__static_attributes__" 1084 (vr 595),de P "__dict__" 1086 (vr 598),de P "__weakref__" 1088 (vr 599),de P "__doc__" 1089 (.none)].toArray 4,[].toArray]),
 (597,#[.type "type",u,.cls {name:=aE "Talk",bases:= [.type "object"],mro:= [vr 597,.type "object"],ns:=596,qualname:=aE "Talk",hasDict:=ai,slotNames:= [],subclasses:= [],abstract:=av,collection:=u,hasDel:=av},[u,u,U (vs "Talk" 1050),U (vs "Talk" 1058),U (.builtin "object.__new__"),U (.bool ai)].toArray])]
noncomputable def IK:az->V
 |.none=>.none
 |.bool b=>.bool b
 |.int i _=>.int i
 |.str s _=>.str s
 |v=>.con v
noncomputable def Pr:az->aF
 |.str s _=>s
 |_=>default
structure mC where
 args:LR
 Td:bM
 body:FuncBody
 dfl:Option (LV)
 Tc:List (aF×ay)
 glo:ay
 blt:ay
 pos:List Arg
 var:Option Arg
 kwo:List Arg
 kwa:Option Arg
 kwd:az
 cls:az
 code:Bool
noncomputable def ait:Cw->Option oi
 |.func fd=>U fd
 |_=>u
noncomputable def Z0:Cw->Option (LU)
 |.seq vs _=>U vs.toList
 |_=>u
noncomputable def abm:Cw->Option (Array az)
 |.fields vs=>U vs
 |_=>u
noncomputable def aiu:az->Option aF
 |.str q _=>U q
 |_=>u
noncomputable def SP:az->OA
 |.ref a=>U a
 |_=>u
noncomputable def SQ(g:ay->Option fh)(v:az):Option (LV):=match v with
 |.none=>U []
 |v=>(SP v).bind λT=>(g T).bind λo=>(Z0 o.data).map (·.map IK)
noncomputable def SR(g:ay->Option fh)(v:az):Option Str:=(SP v).bind λc=>(g c).bind λo=>(abm o.data).bind λvs=>(vs[1]?).bind aiu
noncomputable def IL(g:ay->Option fh)(a:ay):Option mC:=(g a).bind λo=>(ait o.data).map λfd=>
 #[fd.params.args.map (·.arg),fd.scope,fd.body,SQ g fd.defaults,fd.closure,fd.globals,fd.builtins,fd.params.posonlyargs,fd.params.vararg,fd.params.kwonlyargs,fd.params.kwarg,fd.kwdefaults,o.cls,SR g fd.code==U fd.qualname]
noncomputable def IM(d:la):Option mC:=U #[d.params,d.scope,.stmts d.body,U d.dflt,[],ew,jr,[],u,[],u,.none,.type "function",ai]
noncomputable def G0(g:ay->Option fh):List (aF×az):=match g ew with
 |some #[_,_,.dict es _,_]=>es.toList.map λe=>(Pr e.key,e.val)
 |_=> []
noncomputable def Yf(s:aA):List (Option mC)×List (aF×az)×List (Option fh)×Bool:=
 (Fd.map λx=>IL s.heap.get? x.1,G0 s.heap.get?,Kas.map s.heap.get?,(s.heap.get? ly).isSome)
noncomputable def Ya(w:cP):List (Option mC)×List (aF×az)×List (Option fh)×Bool:=
 (Fd.map λx=>IM (fdOf x.2),Fe,(KO w.params).map λx=>U x.2,ai)
theorem pre(w:cP)(os:lI):topGo mJ pw w 11 GZ 12 #[oF w.params, #[],Dc,De,os] (Df pw)=U ((S0 w os).abs,#[Cy mJ cE,cE,p0,BT1]):=by rfl'
theorem fin(w:cP)(s:aA)(p:bz):Dg mJ pw w 11 GZ 2 s #[doneF .next,cE,p,BT1]=U s:=by rfl
theorem aec:bT=pw.main.body:=by rfl'
noncomputable def qv:Program:={pw with main:={pw.main with body:=pw.main.body.drop 95}}
noncomputable def w9:LR:=pw.boundNames.filter λx=>x !=aE "law"
theorem akA:∀w:cP,(K7 mJ pw w 6100).map (λs=>(s.heap,s.gens,s.drawn,s.toks))=U (oF w.params,Lr [],Dc,De):=boot_open (by rfl') (by decide+kernel) (λs=>by rfl')
theorem akB(w:cP):((oF w.params).isNs ew&&(Lr []:Array rE).size==0,(oF w.params).objs.size,(oF w.params).nsMap ew "__annotations__")=(ai,11,GZ):=by rfl'
noncomputable def lk1(w:cP)(s:aA):Bool:=staticsOk (rH pw.main.body) (oF w.params) s.heap&&K8 pw s.heap&&gensDone s&&laidKept (oF w.params) s.heap
theorem amR(w:cP)(os:lI):(ZZ w 6000 (S0 w os) thT).map (λx=>(x.1,x.2.2,lk1 w x.2.1.abs,Dh qv w9 (rH pw.main.body) (λG=>ai) ai x.2.1.abs,Yf x.2.1.abs))=
  U (.next,(cE,#[646,0,654,15]),ai,Di qv w9,Ya w):=by rfl'
end
section
open PyProof.Rows
theorem aiv(w:cP)(n:Nat)(S:C9)(t:Thread):ZZ w n S t=segRunT mJ pw w 11 GZ 1 n S t:=by
 unfold ZZ;rw [←W6,←W7]
theorem aiw:thT=piecesOf pw.main.body ZY cE p0 BT1:=by
 unfold thT;rw [←W8]
theorem aix(w:cP)(os:lI):∃cN:aA,Dg mJ pw w 11 GZ (12+(1+(6000+2))) #[oF w.params, #[],Dc,De,os] (Df pw)=U cN/\
  lk1 w cN=ai/\ Dh qv w9 (rH pw.main.body) (λG=>ai) ai cN=Di qv w9/\ Yf cN=Ya w:=by
 refine bl λaG=>?_;obtain ⟨⟨f,cN,c,p⟩,e1,e2⟩:=je.mp (amR w os);refine aG ?_;simp only [sb]at e2;obtain ⟨rfl,⟨rfl,rfl⟩,l1,l2,l3⟩:=e2;simp only [aiv,aiw]at e1;refine #[cN.abs,go_top (pre w os) (piece_block (p':=p0) (s':=(S0 w os).abs) ?_ ?_),l1,l2,l3]
 ·rfl'
 ·have k:=piece_app (segRun_of e1) (piece_nil (fin w cN.abs _))
  rw [cL]at k;rw [aec];exact k
theorem Z1{α:Type}{Yf:aA->α}{Ya:cP->α}{AW:ox->aQ}
  (akC:∀w:cP,(K7 mJ p w N).map (λs=>(s.heap,s.gens,s.drawn,s.toks))=U (AW w.params,abn,amS,amT))
  (size:∀w:cP,((AW w.params).isNs ew&&abn.size==0,(AW w.params).objs.size,(AW w.params).nsMap ew "__annotations__")=(ai,m₀,ann))
  (run:∀(w:cP) (os:lI),∃cN,Dg mJ p w m₀ ann M #[AW w.params,abn,amS,amT,os] (Df p)=U cN/\
   (staticsOk (rH p.main.body) (AW w.params) cN.heap&&K8 p cN.heap&&gensDone cN&&laidKept (AW w.params) cN.heap)=ai/\ Dh q loose (rH p.main.body) Xt g0 cN=Di q loose/\ Yf cN=Ya w)
  (le:M<=N):LeftO p q loose Xt Yf Ya N g0:=λw=>by
 refine bl λaG=>?_;obtain ⟨⟨h,gs,d,k,os⟩,e,e'⟩:=je.mp (akC w);refine aG ?_;simp only [sb]at e';obtain ⟨rfl,rfl,rfl,rfl⟩:=e';have z:=size w;simp only [sb]at z;refine bl λaG=>?_;obtain ⟨cN,r,l1,l2,l3⟩:=run w os;obtain ⟨z1,z2,z3⟩:=z;refine aG ?_;have r':=topRun_mono (N - M) _ _ _ _ r;rw [xQ le]at r'
 have t:topFrom mJ p w N #[AW w.params,gs,d,k,os]=U cN:=by
  unfold topFrom;simp only [z1,z2,z3,r'];simp only [IS,l1]
 unfold openEnds;simp only [e];simp only [IS,t,Option.map_some,l2,l3]
theorem left:LeftO pw qv w9 (λG=>ai) Yf Ya 6100:=Z1 akA akB aix (by decide)
end
section
open PyProof.Rows
noncomputable def Pt(d:la):Bool:=d.scope.kind== .function&&!d.scope.isCoroutine&&!d.scope.isGenerator&&distinct d.params&&distinct (d.scope.names.map (·.1))&&
 d.params.all λx=>match d.scope.names.lookup x with|some .local=>ai|some .cell=>ai|_=>av
theorem Ia:∀(vs:LU),bJ H ρ h (vs.map IK) vs
 | []=>.nil
 |v::r=>.cons (by rcases v<;>first|exact .none|exact .bool _|exact .int _ _|exact .str _ _|exact .con _) (Ia r)
theorem V8(h:ait d=U fd):d= .func fd:=by rcases d<;>first|exact dG h|exact I _ (bh h)
theorem V9{vs:LU}(h:Z0 d=U vs):∃n,d= .seq vs.toArray n:=by rcases d<;>first|exact dG h|exact #[_,I (Xz · _) (Ls.symm.trans (I _ (bh h)))]
theorem SS{vs:Array az}(h:abm d=U vs):d= .fields vs:=by rcases d<;>first|exact dG h|exact I _ (bh h)
theorem Wa(h:aiu v=U q):∃t,v= .str q t:=by rcases v<;>first|exact dG h|exact #[_,I (Dp · _) (bh h)]
theorem Ib(h:SP v=U a):v= .ref a:=by rcases v<;>first|exact dG h|exact I _ (bh h)
theorem Wb(h:SQ g v=U l):(l= []/\ v= .none) \/∃(T:ay) (vs:LU) (n:Nat) (oT:fh),v= .ref T/\ g T=U oT/\ oT.data= .seq vs.toArray n/\ l=vs.map IK:=by
 by_cases z:v= .none
 ·subst z;exact .inl #[(bh h).symm,rfl]
 ·have e:SQ g v=(SP v).bind λT=>(g T).bind λo=>(Z0 o.data).map (·.map IK):=by rcases v<;>first|rfl|exact absurd rfl z
  refine bl λaG=>?_;refine (gm (e.symm.trans h)).elim λT hq=>hq.elim λe1 h=>?_;refine (gm h).elim λo hq=>hq.elim λe2 h=>?_;refine (je.mp h).elim λvs hq=>hq.elim λe3 h=>?_;refine (V9 e3).elim λn e3=>?_;refine aG ?_;exact .inr #[T,vs,n,o,Ib e1,e2,e3,h.symm]
theorem SU(h:SR g v=U q):∃c o vs t,v= .ref c/\ g c=U o/\ o.data= .fields vs/\ vs[1]? =U (.str q t):=by
 refine bl λaG=>?_;refine (gm h).elim λc hq=>hq.elim λe1 h=>?_;refine (gm h).elim λo hq=>hq.elim λe2 h=>?_;refine (gm h).elim λvs hq=>hq.elim λe3 h=>?_;obtain ⟨ag,e4,h⟩:=gm h;refine aG ?_;obtain ⟨t,rfl⟩:=Wa h;exact #[c,o,vs,t,Ib e1,e2,SS e3,e4]
noncomputable def amU(g:ay->Option fh)(o:fh)(fd:oi):mC:=#[fd.params.args.map (·.arg),fd.scope,fd.body,SQ g fd.defaults,fd.closure,fd.globals,fd.builtins,fd.params.posonlyargs,fd.params.vararg,fd.params.kwonlyargs,fd.params.kwarg,fd.kwdefaults,o.cls,SR g fd.code==U fd.qualname]
noncomputable def amV(d:la):mC:=#[d.params,d.scope,.stmts d.body,U d.dflt,[],ew,jr,[],u,[],u,.none,.type "function",ai]
theorem Ic(h:IL g a=IM d):∃o fd,g a=U o/\ o.data= .func fd/\ amU g o fd=amV d:=by
 refine bl λaG=>?_;refine (gm h).elim λo hq=>hq.elim λe h=>?_;refine (je.mp h).elim λfd hq=>hq.elim λe2 h=>?_;refine aG ?_;exact #[o,fd,e,V8 e2,h]
theorem aed{h₀:aQ}(hk:∀b o,h₀.get? b=U o->c.H.get? b=U o)(h:IL h₀.get? a=IM d)(g:Pt d=ai):aeZ c a d:=by
 refine bl λaG=>?_;refine (Ic h).elim λo hq=>hq.elim λfd hq=>hq.elim λe hq=>hq.elim λhd q=>?_;refine aG ?_;unfold Pt at g;simp only [iK,og,beq_iff_eq]at g;have h2:fd.scope=d.scope:=I mC.Td q
 refine ⟨⟨o,fd,hk _ _ e,hd,I mC.Tc q,I mC.glo q,I mC.blt q,h2,I mC.body q,XA (SU (eq_of_beq (I mC.code q))) hk,h2▸g.1.1.1.1.1,h2▸g.1.1.1.1.2,h2▸g.1.1.1.2,
  I mC.pos q,I mC.var q,I mC.kwo q,I mC.kwa q,I mC.args q,g.1.1.2,?_,I mC.kwd q⟩,λx hx=>?_,g.1.2⟩
 ·exact (Wb (I mC.dfl q)).imp id λ#[T,vs,n,oT,z1,z2,z3,z4]=>#[T,vs,n,oT,z1,hk _ _ z2,z3,z4▸Ia vs]
 ·have:=jh.mp g.2 x hx
  split at this
  ·rename_i e;exact .inl e
  ·rename_i e;exact .inr e
  ·exact nomatch this
end
section
open PyProof.Rows
noncomputable def AX(es:Array tX)(x:aF):Bool:=(xN es x).isNone
noncomputable def SW(x:aF):Bool:=match JN "object" x with
 |some u=>ai
 |_=>av
noncomputable def G1(x:aF):Bool:=(JN "object" x).isSome
theorem Z2(h:SW x=ai):d9 (.type "object") x=pure none:=by
 unfold SW at h
 split at h
 ·rename_i e
  simp only [fT,fU,e]
 ·cases h
theorem SY(h:G1 x=ai):∃y,d9 (.type "object") x=pure y:=by
 unfold G1 at h;refine (xe.mp h).elim λy e=>?_;exact #[y,by simp only [fT,fU,e]]
noncomputable def Pu(es:Array tX):Bool:=es.toList.all λe=>match e.key with|.str _ _=>ai|_=>av
noncomputable def Q6(es:Array tX)(d:S2):Bool:=Pu es&&AX es "__getattribute__" &&AX es "__getattr__" &&AX es "__setattr__" &&d.attrs.all (λx=>AX es x&&SW x)&&
 d.meths.all λp=>xN es p.1==U (.ref p.2)&&G1 p.1&&(Fd.lookup p.2).isSome
set_option tactic.hygienic true in
theorem akD{h:aQ}(e:h.get? N=U #[cl,od,.dict es n,sl])(k:Pu es=ai):h.Ns N (xN es):=by
 refine #[_,es,n,e,rfl,λx hx=>?_,λG=>rfl];have:=jh.mp k x (yn.mpr hx)
 split at this
 ·rename_i s t e;exact #[s,t,e]
 ·exact nomatch this
theorem Q7(e:h.get? f=U o)(hc:o.cls= .type "function")(self:az):dM M h (t4 (.ref f) self) (.ref f,[self]):=by
 unfold t4;refine Looks.andThen (a:=.type "function") ?_ (Looks.of_pure (by rfl'));have:dM M h (lC (.ref f)) o.cls:=(lY e).andThen .now;simp only [hc]at this;exact this
theorem Z3{K:Frag}(X:K.In c.H){q:aF}{sub:LU}{k3 k5:OV}
  (h1:K.lookup C=U (B4 nm q C N bs [.type "object"] ai sn sub ab col dd k0 k1 k2 k3 k5 newId)) (h2:K.lookup N=U #[cl,od,.dict es n,sl]) (g:Q6 es d=ai) (mk:makesIn K C=ai) (ini:Dj K (.ref C) "__init__" =U (U (.ref d.init))) (hi:(Fd.lookup d.init).isSome=ai)
  (fo:∀f,(Fd.lookup f).isSome=ai->∃o,c.H.get? f=U o/\ o.cls= .type "function"):Iw c C d:=by
 unfold Q6 AX at g;simp only [iK,tT]at g;refine bl λaG=>?_;obtain ⟨⟨⟨⟨⟨g1,g2⟩,g3⟩,g4⟩,g5⟩,g6⟩:=g;refine aG ?_;refine #[#[#[nm,q,N,bs,sn,sub,ab,col,dd,k0,k1,k2,k3,k5,newId,_],X _ _ h1,(akD (X _ _ h2) g1),g2,g3,g4,λx hx=>?_,λm f hm=>?_],makes_of X mk,qi X ini,λself=>?_]
 ·have:=jh.mp g5 x (KH.mp hx)
  simp only [iK,tT]at this;exact #[this.1,Z2 this.2]
 ·have:=jh.mp g6 (m,f) (mem_of_lookup hm)
  simp only [iK,beq_iff_eq]at this;exact #[this.1.1,fo f this.2,SY this.1.2]
 ·obtain ⟨o,e,hc⟩:=fo _ hi
  exact Q7 e hc self
end
section
open PyProof.Rows
theorem AY{α β:Type} [BEq α] [LawfulBEq α]{x:α}{y:β}:∀{l:List (α×β)},l.lookup x=U y->(x,y)∈l
 | [],h=>by simp -iota at h
 |(a,b)::r,h=>by
  simp -iota only [iz]at h;induction e:x==a using dj with
  |true=>rw [e]at h;obtain rfl:=bh h;rw [dX.mp e];exact cY
  |false=>rw [e]at h;exact cZ _ (AY h)
theorem aee{h:aQ}(e:G0 h.get? =Fe)(g:h.isNs ew=ai):h.nsMap ew=λx=>Fe.lookup x:=by
 refine bl λaG=>?_;obtain ⟨o,es,n,ho,hd,hk,hf⟩:=WZ g;obtain ⟨cl,od,dt,sl⟩:=o;refine aG ?_;dsimp only at hd;subst hd;unfold G0 at e;rw [ho]at e;dsimp only at e
 funext x
 simp -iota only [←hf x,←e];unfold xN findBy;rw [←Array.find?_toList]
 have:∀l:List tX,(∀y∈l,∃n t,y.key= .str n t)->(l.find? λy=>y.key.isStr x).map (·.val)=(l.map λy=>(Pr y.key,y.val)).lookup x:=by
  intro l;induction l with
  |nil=>intro _;rfl
  |cons y l ih=>
   intro hl;refine bl λaG=>?_;obtain ⟨n,t,hy⟩:=hl y cY;have:(Dp n t).isStr x=(n==x):=rfl;refine aG ?_;simp -iota only [xU,iU,iz,hy];rw [this]
   have e2:(x==Pr (Dp n t))=(n==x):=by
    exact Bool.eq_iff_iff.mpr #[λh=>dX.mpr (dX.mp h).symm,λh=>dX.mpr (dX.mp h).symm]
   simp -iota only [e2];induction (n==x)using dj with
   |true=>rfl
   |false=>exact ih λz hz=>hl z (cZ _ hz)
 exact this _ λy hy=>hk y (yn.mp hy)
theorem aiy:(Fd.all λx=>Pt (fdOf x.2))=true:=by rfl'
theorem aiz:(blL.all λx=>decide (bootBuiltins x.1=U x.2))=true:=by rfl'
noncomputable abbrev cW(w:cP)(H:aQ):Cx:=#[pw,w,H,56]
theorem aiA(T:Top p loose mean (s.heap.nsMap ew) (s.heap.nsMap jr) s.heap)(g:s.heap.isNs ew=ai)(e:Yf s=Ya w)(hk:∀b o,s.heap.get? b=U o->H.get? b=U o):
  fX (cW w H) P/\ oN (KO w.params) H/\ s.heap.nsMap ew=(λx=>Fe.lookup x):=by
 unfold Yf Ya at e;simp -iota only [sb]at e;refine bl λaG=>?_;obtain ⟨e1,e2,e3,e4⟩:=e;refine aG ?_;have X:oN (KO w.params) s.heap:=Frag.in_of (as:=Kas) rfl e3;have X:=X.keeps hk;have hm:=aee e2 g;have fa:∀x∈Fd,IL s.heap.get? x.1=IM (fdOf x.2):=Km.mp e1
 have fo:∀f,(Fd.lookup f).isSome=ai->∃o,H.get? f=U o/\ o.cls= .type "function" :=λf hf=>by
  refine bl λaG=>?_;obtain ⟨st,h⟩:=xe.mp hf;refine (Ic (fa _ (AY h))).elim λo hq=>hq.elim λfd hq=>?_;have a:=hq.1;refine aG ?_;exact #[o,hk _ _ a,I mC.cls hq.2.2]
 refine #[#[(xe.mp e4).imp λo e=>hk _ _ e,λC d hC=>?_,λa d ha=>?_,(T.keeps hk).nolimit,_,_,(T.keeps hk).g,(T.keeps hk).b,λx v hx=>?_],X,hm]
 ·have hC':=AY (hC)
  simp -iota only [af6,eU,iT,or_false,sb]at hC'
  rcases hC' with⟨rfl,rfl⟩|⟨rfl,rfl⟩|⟨rfl,rfl⟩|⟨rfl,rfl⟩|⟨rfl,rfl⟩<;>
   exact Z3 X rfl rfl (by rfl') (by rfl') (by rfl') (by rfl') fo
 ·obtain ⟨st,h1,h2⟩:=je.mp (ha)
  subst h2;have hm:=AY h1;exact aed hk (fa _ hm) (jh.mp aiy _ hm)
 ·rw [hm]
  replace hx:R4 x=U v:=hx;unfold R4 at hx
  split at hx
  ·rename_i ag hu
   obtain rfl:=bh hx;exact #[ag,rfl,.inl hu]
  ·rename_i hu
   obtain ⟨ag,h1,h2⟩:=je.mp hx;subst h2;have:=jh.mp aiz _ (AY h1);refine #[ag,rfl,.inr #[hu,?_]];have hb:=fj this;dsimp only at hb;rw [T.builtins x ?_]
   ·exact hb
   ·rintro rfl
    revert hu
    decide
end
section
open PyProof.Rows Builtin Builtin.ObjectAttr
noncomputable def bmX:LU:= [.ref 31,.type "Exception",.type "BaseException",.type "object"]
section
variable{w:cP}{H:aQ}
theorem akE(X:oN (KO w.params) H):fO H 56 55 bmX "Exception" "Exception.__new__" "Exception.__init__" [.type "Exception",.type "BaseException",.type "object"]:=
 #[WT,by decide+kernel,by decide+kernel,by decide+kernel,by decide+kernel,#[_,_,_,_,_,_,_,_,_,_,_,_,_,_],X 56 _ rfl]
theorem aef(X:oN (KO w.params) H)(fo:∃o,H.get? 28=U o/\ o.cls= .type "function"):sA (aJ pw w) H 56 "Exception.__new__" (.ref 28):=by
 refine bl λaG=>?_;refine fo.elim λo hq=>hq.elim λe hc=>?_;refine aG ?_;exact #[#[_,_,_,_,X 56 _ rfl,rfl],Lg X (by rfl'),Dl X (by rfl'),looks_specialIn X (by rfl'),looks_instIn X (by rfl'),qi X (by rfl'),Q7 e hc]
theorem Q8(X:oN (KO w.params) H)(h:Dj (KO w.params) (.ref 56) name=U u):jG (aJ pw w) H 56 name:=
 #[#[_,_,_,_,X 56 _ rfl,rfl],#[_,Lg X rfl,λself=>by rfl'],qi X h,qi X (by rfl'),Dl X (by rfl')]
theorem akF(X:oN (KO w.params) H)(h:Dj (KO w.params) (.ref 56) name=U u):vD (aJ pw w) H 56 name:=
 #[qi X (by rfl'),qi X (by rfl'),qi X h,Dl X (by rfl')]
theorem aiB(X:oN (KO w.params) H):Pq H 28:=
 #[_,_,_,X 28 _ rfl,rfl,rfl,rfl,rfl,#[_,_,_,_,rfl,X 27 _ rfl,rfl,rfl],rfl,rfl,rfl,λG G=>rfl,rfl,rfl,.mk _ _ _ _ _ _ _ _ _ _ _ _ _ _ _ _ rfl]
theorem G2(T:Top p loose mean (s.heap.nsMap ew) (s.heap.nsMap jr) s.heap)(g:s.heap.isNs ew=ai)(e:Yf s=Ya w)
  (hk:∀b o,s.heap.get? b=U o->H.get? b=U o):fX (cW w H) P/\ sF (cW w H) P/\ s.heap.nsMap ew (aE "law")=U (.ref 710):=by
 refine bl λaG=>?_;refine (aiA T g e hk).elim λt hq=>hq.elim λX hm=>?_;refine aG ?_;refine #[t,?_,by rw [hm];rfl'];refine air #[#[28,55,bmX,_,_,_,akE X,aef X (#[_,X 28 _ rfl,rfl]:∃o,H.get? 28=U o/\ o.cls= .type "function"),Q8 X (by rfl'),Q8 X (by rfl'),(T.keeps hk).g,?_,(T.keeps hk).b,?_,?_,aiB X,(T.keeps hk).nolimit],by decide+kernel] (akF X (by rfl'))
 ·rw [hm];rfl'
 ·rw [T.builtins _ (by decide)];rfl'
 ·rw [hm];rfl'
end
end
section
open PyProof.Rows PySem.Calls
noncomputable abbrev Q9:OpenLaw:=W0
theorem akG:noRoadLSs {strict:=!(rH pw.main.body).all cThrough.contains,foot:=u,bare:=(["vars", "dir", "locals"]:LR).filter (readsOut pw pw.main.body)} pw.main.body=true:=by
 rw [LZ]
 rfl'
theorem akH:namesMeet pw pw.main.body (λG n=>attrL n)=true:=by
 rw [L3,W9]
 rfl'
theorem akI:Dm pw=true:=by
 unfold Dm;exact uI (uI (uI (uI (uI (by rfl') (by rfl')) (by rfl')) (by rfl')) akG) akH
noncomputable def akJ(r:OpenRow)(h:Dm r.prog=ai):{b:Bool//r.wellSaid=b}:=#[_,by unfold XB XC;rw [h]]
theorem akK:Q9.row.wellSaid=true:=(akJ Q9.row akI).2.trans (by rfl')
noncomputable def amW(l:OpenLaw)(h:l.row.wellSaid=ai):{b:Bool//l.wellSaid=b}:=#[_,by unfold XD;rw [h,LZ,L3,Xa,Xb,Xc,Xd,Xe]]
theorem amX:Q9.wellSaid=true:=(amW Q9 akK).2.trans (by rfl')
end
section
open PyProof.Rows PySem.Calls
noncomputable abbrev rr:RowW:=Q9.row.toRowW
theorem aiC{R:jt->aA->Prop}(amY:s.asleep)
  (h:bw (aJ prog w) xO t (λfin s'=>∃f,fin= .done f/\ (R (.ok f) s'/\ uo s'.gens=av)) (λe s'=>R (.error e) s'/\ uo s'.gens=av) s):
  ∃n r s' eY,runN (Cy iL) prog w n s #[t,.builtin "claim.caller" {},default,[]]= .halted (xP r) s'/\
   schedN (Cy iL) prog w n (.single s #[t,.builtin "claim.caller" {},default,[]])= .halted (xP r) s'/\ s'.forget=eY.forget/\ R r eY:=by
 obtain ⟨n,r,cN,v9,hs,hn,hfo,hR⟩:=wp_halts_full amY (uM _ _ t (λfin p' s' z=>by
  obtain ⟨f,rfl,hf⟩:=z;exact hf) (λG G G z=>z) _ _ (h #[.builtin "claim.caller" {},u,u,[],u] default caller_in (by decide+kernel) (λx hx=>nomatch hx)))
 exact #[n,r,v9,cN,hn,hs,hfo,hR]
noncomputable def Plain:Prop:=∃(n:Nat) (t:eR),n<=240/\ Good n t/\ ∀ns:List Int,J ns<=63->∃O,nW t (.con (.ref 710)) [.lst (ns.map .int)] []= .ok (.bool ai) O
theorem aeg:∀{vs:LU} {as:List ay},uP R xs .int=ai->ReadsAllW R cl h vs xs as->∃ns:List Int,J ns=J xs/\ bJ H ρ h (ns.map .int) vs:=by
 induction xs with
 |nil=>exact λ{_ _} _ r=>#[[],rfl,(K9 r).1▸ .nil]
 |cons x xs ih=>
  intro vs as hs r;obtain ⟨v,vs,_,_,rfl,_,r,rs⟩:=La r;refine (ih (fR.mp hs).2 rs).elim λns q=>?_;induction x using L5 with
  |int i=>exact #[i::ns,I jv q.1,(readsW_int_inv r).elim λt z=>z.1▸ .cons (.int _ _) q.2]
  |_=>exact absurd (fR.mp hs).1 nofun
theorem Z4{vs:LU}(hs:uP R xs .int=ai)(r:ReadsAllW R cl h vs [.list xs] as):∃(a:ay) (ws:Array az) (ns:List Int),vs= [.ref a]/\ h.IsList a ws/\ (J ns)=J xs/\ bJ H ρ h (ns.map .int) ws.toList:=by
 obtain ⟨v,vs,_,_,rfl,_,r,rs⟩:=La r;obtain ⟨a,ws,_,rfl,l,ri,_⟩:=readsW_list_inv r;exact (aeg hs ri).elim λns z=>#[a,ws,ns,I _ (K9 rs).1,l,z]
theorem aeh(plain:Plain){w:cP}{H:aQ}{s:aA}{a:ay}{ns:List Int}{vs:LU}(T:fX (cW w H) P)(X:sF (cW w H) P)(hs:s.heap=H)(hl:J ns<=63)(l:H.IsList a vs.toArray)(r:bJ H [] H (ns.map .int) vs){Q:VP}{E:VP}
  (hq:∀s',(∀b o,H.get? b=U o->s'.heap.get? b=U o)->s'.os=s.os->s'.gens=s.gens->Q (.bool ai) s'):bw (aJ pw w) xO (call (.ref 710) [.ref a]) Q E s:=by
 refine bl λaG=>?_;refine plain.elim λn hq=>hq.elim λtb hq=>hq.elim λhn hq=>hq.elim λaoU plain=>?_;refine (plain ns hl).elim λO e=>?_;refine aG ?_;subst hs;have ae:Inv pw w s.heap [] [] s.heap:=#[λG G e=>e,rfl,λi m e=>by simp at e,λi j G G G G G e=>by simp at e,λb f=>by obtain ⟨i,_,_,e,_⟩:=f;simp at e];have hf:vN (cW w s.heap) n (nW tb):=aoU _ T X;have h:= @hf 710 [.lst (ns.map .int)] [.ref a] [] [] s xO [] ae (λe he=>nomatch he) (td.le #[rfl,rfl,by decide+kernel,by decide+kernel,rfl] hn) (.cons (.lst l r) .nil) (by rw [e];intro z;cases z);refine sk (jN h λq s' z=>?_);rw [e]at z;induction q using mT with
 |error e=>obtain ⟨_,_,_,z,_⟩:=z;cases z
 |ok f=>
  induction f using uK with
  |ret v=>
   obtain ⟨b,aZ,aS,z1,p,z2⟩:=z;cases z1
   cases z2
   exact hq s' p.inv.base p.os p.gens
  |_=>exact z.elim
theorem aei:rr.prog.bare:=#[rfl,rfl,rfl,rfl,rfl,by decide+kernel]
theorem zw:(chainsOk qv&&opensWell pw&&(frees rr&&rr.within.isEmpty))=true:=by rfl'
theorem Ra:rr.promised:=#[[.list []],by decide+kernel,by decide+kernel]
noncomputable def posOf:Option dW->bz
 |some (.FunctionDef _ _ _ _ _ _ _ _ _ p)=>p
 |_=>p0
noncomputable def G3:DefRec:=#[aE "law",(IJ (ba 95)).1,(IJ (ba 95)).2.1,(IJ (ba 95)).2.2,posOf (ba 95)]
theorem amZ:defOf qv rr.name=U (G3,[]):=by rfl'
theorem am0:pw.theDef rr.name=U (G3.params,G3.body,G3.scope):=by rfl'
theorem am1:kwWritten? G3.params.kwonlyargs G3.params.kw_defaults=U []:=by rfl'
end
section
open PyProof.Rows PySem.Calls
theorem aej(Pw:L6 rr.records rr.pre {args:= [.list xs]}=ai):J xs<=63:=by
 have e:rr.pre= .and (.not (.lt (.lit (.int 63)) (.len (.arg 0)))) (.lit (.bool ai)):=rfl;rw [e]at Pw;refine kh λq=>?_;unfold L6 at Pw;dsimp only [WTm.value,List.getElem?_cons_zero]at Pw;rw [show less? (.int 63) (.int ((J xs):Int))=U ai from(I U (dC (uG.mpr q)))]at Pw;exact nomatch Pw
theorem Z5(h:WShape.has rr.records d (.list .int)=ai):∃xs,d= .list xs/\ uP rr.records xs .int=true:=by
 induction d using L5 with
 |list xs=>exact #[xs,rfl,(tU _).symm.trans h]
 |_=>exact jq h
theorem aek(h:Ll rr.records ds []=ai):ds= []:=by
 rcases ds with _|⟨a,b⟩
 ·rfl
 ·exact jq h
theorem Z6{B:List uJ->Prop}(h:∀xs,uP rr.records xs .int=ai->J xs<=63->Ll rr.records [.list xs] rr.args=ai->B [.list xs])(args:List uJ)(hp:rr.claim.pre args=ai):B args:=by
 have p:=pre_splitW hp;clear hp;obtain ⟨d,r0,rfl,h1,h2⟩:=hasAllW_cons p.1;obtain ⟨xs,rfl,hit⟩:=Z5 h1;obtain rfl:=aek h2;exact h xs hit (aej p.2) p.1
theorem Wc(xs:List uJ):rr.claim.post [.list xs] (.bool ai) [.list xs]=true:=by rfl'
noncomputable abbrev GR(w:cP)(s:aA):Prop:=Ground qv w9 [] (λG G=>True) w s (s.heap.nsMap ew) (s.heap.nsMap jr) s.heap
theorem opF:frees rr=true:=(fR.mp (fR.mp zw).2).1
theorem opW:rr.within.isEmpty=true:=(fR.mp (fR.mp zw).2).2
theorem opC:chainsOk qv=true:=(fR.mp (fR.mp zw).1).1
noncomputable def Z7(s:aA)(xs:List uJ)(vs:LU)(cN:aA)(r:jt)(s':aA):Prop:=rr.claim.Ends s [.list xs] vs cN r s'/\ s'.os=s.os
section
variable{w:cP}{s cN:aA}{xs:List uJ}{vs:LU}{as:List ay}
theorem aiE(ao:Laid rr.records w s cN [.list xs] vs as)(hk:∀b o,cN.heap.get? b=U o->s'.heap.get? b=U o)(Rb:s'.os=cN.os)(hg:s'.gens=cN.gens):
  ∃f,WY (.ret (.bool ai))= .done f/\ Z7 s xs vs cN (.ok f) s'/\ uo s'.gens=false:=
 have f:=frees_parts opF
 have g:GoodW rr.claim (classAt s.heap) (XE s.heap) [.list xs] cN (.ok (.ret (.bool ai))) s':=
  #[.inl #[_,.bool ai,[],rfl,λG=>rfl,.bool ai,Wc xs,λG=>#[jy,λa ha=>nomatch ha]],hk,Rb,hg.trans ao.gens]
 #[_,rfl,#[((DL g).laid f.1 (x9.mp opW) (Dn f.2.1 f.2.2.1 f.2.2.2.1) ao).1,((DL g).laid f.1 (x9.mp opW) (Dn f.2.1 f.2.2.1 f.2.2.2.1) ao).2.1],leftWithCleanup_false_of_bare ((DL g).laid f.1 (x9.mp opW) (Dn f.2.1 f.2.2.1 f.2.2.2.1) ao).2.2]
theorem We(plain:Plain)(ao:Laid rr.records w s cN [.list xs] vs as)(hg:s.heap.isNs ew=ai)(aoU:GR w s)(y:Yf s=Ya w)(hit:uP rr.records xs .int=ai)(hlen:J xs<=63):
  bw (aJ pw w) xO (callStub rr.name vs).cur (λfin s'=>∃f,fin= .done f/\ Z7 s xs vs cN (.ok f) s'/\ uo s'.gens=av) (λe s'=>Z7 s xs vs cN (.error e) s'/\ uo s'.gens=av) cN:=by
 refine (Z4 (H:=cN.heap) (ρ:= []) hit ao.reads).elim λa h=>h.elim λws h=>h.elim λns q=>?_;show bw _ _ (nsGet Cv (aE "law")>>=_) _ _ _
 refine aw (bw.of (JM (aoU.T.g.keeps ao.keeps) ?_));rw [(G2 aoU.T hg y ao.keeps).2.2];exact aw (zV (I (λx=>call (.ref 710) x) q.1) (aeh plain (G2 aoU.T hg y ao.keeps).1 (G2 aoU.T hg y ao.keeps).2.1 rfl (bt (bf q.2.2.1) hlen) ((Ls).symm▸q.2.1) q.2.2.2 λs' hk Rb hg'=>bb (aiE ao hk Rb hg')))
end
theorem core(plain:Plain)(hz:s.asleep)(abp:s.gens= #[])(hg:s.heap.isNs ew=ai)(aoU:GR w s)(y:Yf s=Ya w){pf:Prop}(hnk:∀h',nk h'):rr.claim.CallFrom (callStub rr.name) w wr pf nk s:=by
 refine Z6 λxs hit hlen am2 s7 ord aiF=>?_;refine bl λhn=>?_;obtain ⟨⟨vs,cN⟩,FU⟩:=xe.mp (layAllW_isSome (λc hc=>by cases hc) _ rr.args s am2);have hal:=layAllW_rest _ _ _ FU;refine (reads_layAllW aiF _ _ _ FU s7 cN.heap (λG G e=>e)).elim λas hq=>hq.elim λhrd hq=>hq.elim λQp hold=>?_
 obtain ⟨k,r,s2,s3,am3,aiG,hfo,akL,Rb⟩:=aiC (s:=cN) (Shared.asleep_of_life hal.2.2.2 hz)
  (We plain #[#[ord,aiF,FU],hrd,Qp,hold,(layAllW_keeps _ _ _ FU),hal.1.trans abp,hal.2.2.1] hg aoU y hit hlen)
 rw [←((L7 hfo).2.2.2.1)]at Rb;refine hn #[_,cN,FU,k,_,s2,aiG,?_,(λG i x hx=>by rw [abp]at hx;exact nomatch hx),hnk _,by rw [((runN_life _ _ _ am3).trans hal.2.2.2)],Shared.rest_eq Rb]
 exact (akL.congr ((L7 hfo).1)).imp (λh=>h.imp λv q=>#[I xP q.1,q.2.1,q.2.2.1,q.2.2.2.1,λb o y G=>q.2.2.2.2.1 b o y,q.2.2.2.2.2])
  λh=>h.imp λe h=>h.imp λob h=>h.imp λcls q=>#[I xP q.1,q.2.1,q.2.2.1,q.2.2.2.1,q.2.2.2.2.1,λb o y G=>q.2.2.2.2.2 b o y]
theorem ael(plain:Plain):Q9.Holds:=
 holds_law amX λk1=>⟨k1,Ra,#[aei,(fR.mp (fR.mp zw).1).2,rfl],Ra.witness,λw=>(left.behind (λG G=>trivial) opC w).imp id λz s' mh=>(z s' mh).imp λbN q=>⟨q.1,q.2.1,q.2.2.imp λs q=>
  #[q.1,λn hn=>iV.mp hn▸pinned_of_view q.2.2.2.1 q.2.2.2.2.1 amZ am0 am1,λx hx=>absurd hx iT,λx hx=>absurd hx iT,core plain q.2.1 (Array.eq_empty_of_size_eq_zero (dX.mp q.2.2.1)) q.2.2.2.1 q.2.2.2.2.1 q.2.2.2.2.2 λh' h=>absurd h (by decide)]⟩⟩
end
theorem PX:Plain:=#[201,ZT,by decide,aio,V2]
end Mine.Internal
end
theorem PySem.Challenge.cw_pf0352_01_holds : PySem.Challenge.rw_pf0352_01.Holds :=
 Mine.Internal.ael Mine.Internal.PX
