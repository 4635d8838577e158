import PyProof.Rows.All
import Open.FastLooks
import KE.KLam
import KE.KDictOf
import KE.KSortTup
import OpenK.XOpen
import OpenK.ZGo
import OpenK.AllK
import Lean
import PySem.Challenge.RW_sf0044_01
set_option Elab.async false
set_option linter.all false
set_option bootstrap.genMatcherCode false
set_option genSizeOf false
set_option genInjectivity false
set_option backward.match.sparseCases false
set_option maxRecDepth 100000
noncomputable section
namespace Mine.Internal
open And renaming intro->dn
open Array renaming any_eq_false'->K7,extract_size->N0,foldl->abp,forIn_toList->NZ,getD_eq_getD_getElem?->oN,getElem?_eq_getElem->B4,getElem?_eq_some_iff->fF,getElem?_setIfInBounds->z9,getElem_mem->Op,isEmpty_iff->Oo,length_toList->uw,mem_iff_getElem->GP,mem_toList_iff->JE,mk->Wh,replicate->jx,toArray_toList->JD,toList->oM
open Bool renaming and_assoc->XI,and_eq_true->bt,and_eq_true_iff->fA,and_false->hV,and_self->aaS,bne_false->pt,bne_true->vC,eq_false_iff->SD,eq_iff_iff->iE,false->ah,false_and->XH,false_eq_true->bO,false_ne_true->bp,false_or->aaR,noConfusion->kh,not_eq_eq_eq_not->JC,not_eq_true'->jV,not_true->vB,or_eq_false_iff->nE,or_eq_true->gE,or_false->aaQ,or_true->GO,rec->tK,true->ao,true_and->nt
open Classical renaming byContradiction->jX
open Eq renaming symm->ae,trans->ag
open Except renaming bind->aaN
open ForInStep renaming yield->e0
open Function renaming comp->Sz
open Int renaming add_assoc->qV,add_comm->xO,add_le_add->D0,add_mul->agP,add_nonneg->aaL,add_sub_cancel->co,add_zero->jw,ediv_one->afV,fdiv->rz,fmod->h8,le_antisymm->cD,le_of_eq->aT,le_of_lt->sI,le_of_lt_add_one->NU,le_refl->fV,le_sub_one_of_lt->NT,le_trans->fP,lt_irrefl->abk,lt_of_le_of_lt->eF,lt_of_lt_of_le->lK,lt_toNat->afU,lt_trans->kr,max_eq_right->We,min_eq_right->Wd,mul_add->uv,mul_le_mul_of_nonneg_right->jo,mul_nonneg->aaK,mul_zero->afT,natCast_add->AR,natCast_nonneg->bB,natCast_succ->Wc,natCast_zero->Wb,ne_of_gt->afS,neg_add->Aj,neg_eq_neg_one_mul->gY,not_le->iX,not_lt->cX,ofNat->jG,ofNat_inj->lf,ofNat_le->dI,ofNat_lt->cJ,one_mul->agO,sub_eq_add_neg->wH,sub_neg->agN,sub_nonneg->aaJ,sub_nonpos_of_le->NS,sub_zero->Jy,toNat_le->Jx,toNat_lt->afR,toNat_natCast->ek,toNat_of_nonneg->bA,toNat_of_nonpos->Ol,toNat_sub->abj,zero_add->sH,zero_mul->afQ
open List renaming all_cons->nr,all_eq_true->cm,all_map->abg,any_append->Wa,any_cons->vA,any_eq_false->lU,any_eq_true->rn,any_map->rH,any_nil->abf,append_assoc->eZ,append_nil->fh,append_of_mem->Ok,append_toArray->NR,cons_append->SQ,dropLast_eq_take->Jw,drop_eq_nil_of_le->GN,drop_length->m6,drop_zero->XE,eq_nil_of_length_eq_zero->z6,ext_getElem?->Sx,filter->afP,filterMap->tH,filterMap_append->mX,filterMap_cons->eV,filterMap_cons_none->qo,filterMap_cons_some->qn,filterMap_map->Oj,filter_append->Oi,filter_cons_of_neg->gy,filter_cons_of_pos->jd,filter_eq_nil_iff->ju,filter_eq_self->NQ,filter_filter->Oh,filter_map->Ai,find?_cons->V9,find?_toArray->Og,findIdx?_eq_none_iff->DZ,findIdx?_eq_some_iff_getElem->lM,flatMap->xt,flatMap_append->uA,flatMap_cons->Sw,flatMap_singleton->GM,flatten_cons->Sv,foldl->agM,foldl_cons->nY,foldl_toArray->vF,forIn_cons->cA,forIn_nil->XD,getD_eq_getElem?_getD->ev,getElem?_append_left->dh,getElem?_append_right->cj,getElem?_eq_getElem->aO,getElem?_eq_none->Jv,getElem?_eq_none_iff->DY,getElem?_eq_some_iff->aA,getElem?_inj->xr,getElem?_map->bY,getElem?_replicate->GD,getElem?_set->xq,getElem?_set_ne->dQ,getElem?_set_self->cH,getElem?_toArray->f5,getElem?_zip_eq_some->pN,getElem_cons_drop->GL,getElem_mem->hK,getElem_of_mem->oJ,getLast?_eq_getElem?->DX,getLast?_map->xo,idxOf_cons->V8,isEmpty_iff->kg,length->aa,length_append->aI,length_cons->bL,length_drop->hJ,length_eq_one_iff->GK,length_eq_zero_iff->cw,length_filter_le->f4,length_map->aB,length_nil->d7,length_pos_iff->kG,length_replicate->tg,length_reverse->kE,length_set->d6,length_take->rm,length_zip->sG,lookup->gX,lookup_cons->br,lookup_nil->Ah,map->rl,mapM_cons->BX,map_append->b3,map_congr_left->oH,map_cons->bu,map_fst_zip->rk,map_map->gO,map_nil->rG,map_reverse->SP,map_snd_zip->rj,map_take->aaG,mem_append->eB,mem_append_left->j5,mem_cons->aL,mem_cons_of_mem->bb,mem_cons_self->bc,mem_filter->V7,mem_map->b2,mem_of_getElem?->bq,mem_range->pr,mem_singleton->aU,mem_singleton_self->jc,mem_toArray->SN,nil_append->gA,nodup_append->fI,nodup_cons->lb,nodup_nil->XC,not_mem_nil->aY,pairwise_append->K5,pairwise_cons->Of,range->dg,range'->K4,range'_succ->ri,range_succ->la,range_succ_eq_map->GJ,rec->j4,replicate->aW,reverse_cons->qh,set_set->abe,singleton_append->Ju,size_toArray->aR,take->ajm,take_add_one->lS,take_append_drop->fa,take_left'->k5,take_length->fy,take_nil->Ee,take_of_length_le->fH,take_succ_cons->NP,toArray->af,zip->XB,zipIdx_cons->yn,zip_cons_cons->pq
open List.Pairwise renaming nil->BY
open List.cons renaming inj->z7
open Nat renaming add_assoc->d8,add_comm->gh,add_le_add_left->dH,add_le_add_right->uu,add_mul->agL,add_right_comm->Ss,add_sub_cancel->Sr,add_sub_cancel_left->gz,add_zero->afO,beq->nC,ble->nB,div_one->agK,eq_of_beq_eq_true->K3,le_add_left->cg,le_add_right->cn,le_antisymm->cf,le_of_eq->an,le_of_lt->eS,le_of_lt_succ->iP,le_of_succ_le->xN,le_refl->bS,le_succ->eh,le_total->xM,le_trans->aM,lt_add_of_pos_right->jn,lt_irrefl->GC,lt_of_le_of_lt->bX,lt_of_le_of_ne->pK,lt_of_lt_of_le->lJ,lt_of_succ_lt_succ->sF,lt_or_eq_of_le->wF,lt_or_ge->mq,lt_succ_of_lt->iO,lt_succ_self->kq,lt_trans->Jt,min_eq_left->eJ,min_eq_right->ry,min_le_right->V6,mul_comm->afN,mul_le_mul->DW,mul_le_mul_left->Oe,ne_of_gt->oY,ne_of_lt->eR,not_le->wE,not_lt->cW,not_lt_zero->iK,one_mul->agJ,rec->xL,sub_add_cancel->bP,sub_eq_zero_of_le->K2,sub_le->sE,sub_lt_sub_left->oR,sub_self->kn,sub_zero->Js,succ->aaF,succ_inj->Jr,succ_le_succ->z4,succ_ne_self->rx,succ_pos->mn,zero_add->fO,zero_le->hH
open Nat.succ renaming inj->nA
open Ne renaming symm->jm
open Option renaming bind->GI,bind_eq_some_iff->DV,bind_some->xn,filter_eq_some_iff->pp,getD->GH,isNone_iff_eq_none->AP,isSome_iff_exists->kB,join_eq_some_iff->DU,map_eq_some_iff->a9,map_some->ym,mem_toList->NM,none->al,none->fM,some->ab,toList_some->K1
open Option.some renaming inj->ai,injEq->ajl
open PUnit renaming unit->k4
open Prod renaming fst->K0
open Prod.mk renaming injEq->AO
open Pure renaming pure->jb
open PyProof renaming noPylong_small->DT
open PyProof.Rows renaming IntsAre->abi,exec_Assign->VZ,ge_int->agI,getItem_tuple->agH,gt_int->agG,le_int->agF,len_tuple->agE,listUpdate_at->yj,lt_int->agD,mul_int->agC,seqObj->ng,slot_tuple_getitem->aax,subscriptTail->ie
open PyProof.Rows.IsTup renaming typeIs->aaH
open PySem renaming Addr->bk,Arguments->jy,Around->iF,Builtin->lW,CmpOp->Wf,Comprehension->NY,DictEntry->cE,Env->lV,Expr->bK,Flow->D1,FuncData->wI,Heap->eG,IsEnum->aaI,Keyword->abh,NameKind->fZ,Obj->uz,Operator->to,OsState->gN,Params->cF,Pos->nX,Scope->rF,Sem->jE,Shared->bh,Slot->V5,Stmt->rv,Str->V4,Str->am,StrKeys->ur,Tok->GB,World->dG,argsOk->lI,arm_assign_Name->agA,arm_assign_Tuple->afJ,arm_eval_Attribute->aaE,arm_eval_Call->NJ,arm_eval_Call_Name'->dN,arm_eval_Name->yl,arm_eval_Tuple->aji,arm_eval_UnaryOp->afI,assignAll->Oc,assignInOrder->NI,backTo->DQ,binaryOp->V3,bindArgs->qU,bindName->Jq,builtinLookup_eq_fast->iJ,builtinType->wC,builtinType_eq_fast->lH,cLine->yk,callGetattribute->afG,callMarked->aaC,callWith->iD,call_gives->jl,call_meets->z1,cellsFrom->xl,clipAt->uq,codeAny->nq,codeAny_call_builtin->wB,codeAny_call_function->SL,compEnvC->AM,compPost->V1,compareOp->iY,constantsAlone->np,entryFor->AL,entryFor_of_tree->kZ,eval->ip,evalArgs->V0,evalEach->tm,evalEachOpt->Ec,evalPairs_cons->ajh,eval_Subscript->Jp,excClassObj->Eb,exec->NH,exec_Expr->z3,exec_Return_some->afF,execs->kc,findBy->wA,foldedForSure->oP,getAttr->aba,getMethod->xk,getMethod_builtin->rE,holding->dK,intItems->VY,intKind_is->aaA,isInstance->Jo,isSubtype_type->nn,isTrue->pJ,keeperOf->nk,letOwnedTupleGo->agz,letTemporaryGo->Jn,list_getitem_lookup->Xz,loadName->qT,mainGlobals->D8,markedEach->aaz,merged->aay,merged_append_of_fresh->Sp,methodCall->um,methodCallForm->ni,methodCallPos->oO,model->Ob,newFunctionEnv->Jm,newList->aa9,noteFrame->Oa,nsFind->kR,pastItsLine_dict->DP,plainObj_wpAny_Assign_Attribute->nO,pushCells->xj,pushCells_keeps->GA,pyHashByItsType->agy,pyIter->Jl,rawInt->pI,recursionLimit->nh,refuseLoop_ref->aje,release->So,seqIndex?->N9,seqItems?->DO,setFlight->xh,signature?_of->j3,sizeLine->i5,sizeLine_eq->bg,sliceBounds->VX,slicePick->afE,sliceRange->z0,specialOf->afD,spliced->gv,standAt->fY,starEach->qS,storeName->afC,strKind->XA,subDict->Sn,swappedStores->NG,swapsWith->N8,sysModules->oE,treeTable->oD,truthy->wy,typeIs_int->Jk,typeIs_str->Jj,typeLookup_type->lR,typeOf->sD,wpAny->aD,wpAny_Assign_Name->rD,wpAny_For->afz,wpAny_Return_some->gM,wpAny_Tuple->mA,wpAny_askSetting->afy,wpAny_binaryOp_repeat->SK,wpAny_bind->ak,wpAny_call->oB,wpAny_callSpecial?_slot->N7,wpAny_call_entry->DN,wpAny_dictEntries->AK,wpAny_dictEpoch->agx,wpAny_dropValue->Gz,wpAny_eqBool_str->DM,wpAny_field->kQ,wpAny_holding->a8,wpAny_isSubtype_exc->Xy,wpAny_ite_true->Ji,wpAny_load->ul,wpAny_loadName_cell->xI,wpAny_loadName_free->Xx,wpAny_loadName_local->wx,wpAny_loadPart->Jh,wpAny_loadPart_at->i4,wpAny_lookBehind->DL,wpAny_mkBytes->sC,wpAny_mkInt->D6,wpAny_mkStr->VV,wpAny_mkText->Sm,wpAny_mono->aZ,wpAny_newList->yi,wpAny_newObj_type->rC,wpAny_newTuple->ajc,wpAny_of_eq->kP,wpAny_point->mz,wpAny_pure->ar,wpAny_pyIter_list->aa6,wpAny_pyIter_tuple->zZ,wpAny_rule->mm,wpAny_seqItems->Jg,wpAny_setField->qR,wpAny_specialOf->ux,wpAny_standAt->cb,wpAny_truthy_bool->i0,wpAny_typeOf->Sl,wpAt_bind->SM,wpAt_of_wpAny->KZ
open PySem.Around renaming frames_deeper->th,in1_units->xw
open PySem.Builtin.Bytes renaming Piece->abn,bound?->oK,buffer?->uB,countArg->Wg,find?->abm,find?->af3,fitsIndex->af2,fitsIndex->rI,joinItems->SR,joined->af1,joined->rA,rfind?->aaP,rfind?->af0,searchArgs->gZ,takeBufferQuiet?->GE,toLower->XG,tooLong->XF,tooLong->afZ,utf8At->aaO,utf8At->fS,window->d9,window->wJ
open PySem.Builtin.List renaming listUpdate->agS
open PySem.Builtin.ObjectAttr renaming storeInDict->D7
open PySem.Builtin.Range renaming rangeSize->xv,small->Ak
open PySem.Builtin.SmallTypes renaming nextOf->jp
open PySem.Builtin.Str renaming tooLong->ajr
open PySem.Builtin._codecs renaming Faults->SA,TextCodec->Od,encodeNarrow->uo,utf8Decoder->VW
open PySem.Calls renaming evalArgs_plain->JB,loadGlobal_builtin->D3,loadGlobal_global->Ef,wpAny_keep->xP
open PySem.Challenge renaming pw_sf0044_01->bR,rw_sf0044_01->cR
open PySem.CmpOp renaming LtE->agR,NotEq->yp
open PySem.Code renaming builtin->xu,quiet_builtin->On
open PySem.DictEntry renaming refKey->JA
open PySem.EntryCells renaming newEntry->D2
open PySem.Env renaming kindOf->SB
open PySem.Expr renaming Constant->aaM,Name->yo
open PySem.Expr.Call renaming elim->NX
open PySem.Expr.Constant renaming elim->AV
open PySem.Expr.Dict renaming elim->NW
open PySem.Expr.DictComp renaming elim->afX
open PySem.Expr.ListComp renaming elim->afW
open PySem.Expr.Name renaming elim->NV
open PySem.Expr.SetComp renaming elim->agQ
open PySem.Expr.Subscript renaming elim->z8
open PySem.Expr.Tuple renaming elim->Jz
open PySem.F renaming excBase_Exception->oX,plainAttrs_dict->BV,slot_dict_update->AN,store_Exception->BU
open PySem.Flow renaming next->lL
open PySem.Heap renaming ExtBut->tI,SameBut->fK,get?_none_of_le->iL,get?_push_at->Sy,get?_push_of_some->aQ,get?_push_size->b5,get?_update_ne->gL,get?_update_other->fJ,get?_update_self->ei,lt_size->dS,size_push->je
open PySem.Heap.DictOf renaming new->ajo
open PySem.Heap.SameBut renaming update->ds
open PySem.NameKind renaming cell->Su,free->iq
open PySem.Obj renaming cls_mapFields->xK,data_mapDictKeys->NO,data_mapFields->hZ,isFreed_of_fields->jU,mapFields->nz,mapSeq->fN,putName->NN
open PySem.Operator renaming Add->ny,Pow->qm,Sub->uy
open PySem.PyData renaming canLay0->Ag,canLayAll0->NL,depth->Ed,depthAll->Sq,int->mE,keyHash->gg,layable0->nw,weight->BW,weightAll->xm
open PySem.Reads renaming str->agB
open PySem.ReadsAll renaming cons->Af
open PySem.SeqAt.EqAt renaming same->ajp
open PySem.SeqAt.RcAt renaming tuples->afM
open PySem.Stmt.ClassDef renaming elim->afL
open PySem.Stmt.FunctionDef renaming elim->wD
open PySem.Stmt.Return renaming elim->ajk
open PySem.Str renaming ofString->ba,ofString->fk
open PySem.Value renaming bool->mW,builtin->DR,bytes->abc,isInt->tn,isStrOf->fE,isStrOf_shape->KY,none->f7,ref->f6,type->mV
open PySem.Value.bytes renaming inj->ajj
open PySem.W renaming Looks->wG,SharedT->abd,boot_drawn->aaD,boot_heap->ql,boot_o_1->V2,boot_toks->afH,dictOf->aaB,eq_bytes->NK,findIn->oG,kas_sort->wz,look_both->qk,looks_clsIn->Ea,looks_findIn->nj,looks_mroIn->D9,topRun->aaw,typeIs_bytes->dM
open PySem.W.BMul renaming args_mul->aaU,entry_mul->XJ,int_declines->SE,noFill->af4,repeats->abo,slot_mul->aaT
open PySem.W.FB renaming owner_bytes->jq,slot_bytes_decode->Om,slot_bytes_getitem->tJ
open PySem.W.Fast renaming sEq->K6,sEq_iff->abl,te14364793385576792824->oU,tw13343964577679436407->AU,tw17691160309236699985->AT,tw17960256430627541270->AS,tw2368527892694137696->B3,tw2436336058641802641->B2,tw5923862056798008813->B1,tw8326940854005059898->B0,tw9807087744658564304->BZ
open PySem.W.KBy renaming buffer_eq->vG,tooLong_not->AQ
open PySem.W.Looks renaming of_pure->m4
open PySem.Walks renaming list->afK
open PySem.Within renaming cons->xJ,nil->abb
open PySem.pyHashByItsType renaming reduced->vE
open PySem.swappedStores renaming match_5->afB,match_8->afA
open Std.Legacy.Range renaming forIn_eq_forIn_range'->fG,size->km
section
open PySem PySem.W PySem.Calls PyProof.Rows
section
variable {G p q r s t m n o:Prop}
theorem bC (h:p/\q) (k:p->q->G):G:=k h.1 h.2
theorem iZ (h:p/\q/\r) (k:p->q->r->G):G:=k h.1 h.2.1 h.2.2
theorem vh (h:p/\q/\r/\s) (k:p->q->r->s->G):G:=k h.1 h.2.1 h.2.2.1 h.2.2.2
theorem Dm (h:p/\q/\r/\s/\t) (k:p->q->r->s->t->G):G:=k h.1 h.2.1 h.2.2.1 h.2.2.2.1 h.2.2.2.2
theorem aeh (h:p/\q/\r/\s/\t/\m/\n/\o) (k:p->q->r->s->t->m->n->o->G):G:=k h.1 h.2.1 h.2.2.1 h.2.2.2.1 h.2.2.2.2.1 h.2.2.2.2.2.1 h.2.2.2.2.2.2.1 h.2.2.2.2.2.2.2
end
section
variable {G:Prop} {p q r:α->Prop}
theorem bd (h:∃x,p x) (k:∀x,p x->G):G:=h.elim λx h=>k x h
theorem aH (h:∃x,p x/\q x) (k:∀x,p x->q x->G):G:=h.elim λx h=>bC h<|k x
theorem gG (h:∃x,p x/\q x/\r x) (k:∀x,p x->q x->r x->G):G:=h.elim λx h=>iZ h<|k x
end
section
variable {G:Prop} {p q r s t m n o:α->β->Prop}
theorem kY (h:∃x y,p x y) (k:∀x y,p x y->G):G:=h.elim λx h=>bd h<|k x
theorem iB (h:∃x y,p x y/\q x y) (k:∀x y,p x y->q x y->G):G:=h.elim λx h=>aH h<|k x
theorem cL (h:∃x y,p x y/\q x y/\r x y) (k:∀x y,p x y->q x y->r x y->G):G:=h.elim λx h=>gG h<|k x
theorem AD (h:∃x y,p x y/\q x y/\r x y/\s x y) (k:∀x y,p x y->q x y->r x y->s x y->G):G:=h.elim λx h=>h.elim λy h=>vh h<|k x y
theorem ZX (h:∃x y,p x y/\q x y/\r x y/\s x y/\t x y) (k:∀x y,p x y->q x y->r x y->s x y->t x y->G):G:=h.elim λx h=>h.elim λy h=>Dm h<|k x y
theorem aeg (h:∃x y,p x y/\q x y/\r x y/\s x y/\t x y/\m x y) (k:∀x y,p x y->q x y->r x y->s x y->t x y->m x y->G):G:=h.elim λx h=>h.elim λy h=>k x y h.1 h.2.1 h.2.2.1 h.2.2.2.1 h.2.2.2.2.1 h.2.2.2.2.2
theorem ZW (h:∃x y,p x y/\q x y/\r x y/\s x y/\t x y/\m x y/\n x y/\o x y) (k:∀x y,p x y->q x y->r x y->s x y->t x y->m x y->n x y->o x y->G):G:=h.elim λx h=>h.elim λy h=>aeh h<|k x y
end
section
variable {G:Prop} {p q r s t m:α->β->γ->Prop}
theorem Dl (h:∃x y z,p x y z) (k:∀x y z,p x y z->G):G:=h.elim λx h=>kY h<|k x
theorem se (h:∃x y z,p x y z/\q x y z) (k:∀x y z,p x y z->q x y z->G):G:=h.elim λx h=>iB h<|k x
theorem wi (h:∃x y z,p x y z/\q x y z/\r x y z) (k:∀x y z,p x y z->q x y z->r x y z->G):G:=h.elim λx h=>cL h<|k x
theorem II (h:∃x y z,p x y z/\q x y z/\r x y z/\s x y z) (k:∀x y z,p x y z->q x y z->r x y z->s x y z->G):G:=h.elim λx h=>AD h<|k x
theorem aef (h:∃x y z,p x y z/\q x y z/\r x y z/\s x y z/\t x y z) (k:∀x y z,p x y z->q x y z->r x y z->s x y z->t x y z->G):G:=h.elim λx h=>ZX h<|k x
theorem IH (h:∃x y z,p x y z/\q x y z/\r x y z/\s x y z/\t x y z/\m x y z) (k:∀x y z,p x y z->q x y z->r x y z->s x y z->t x y z->m x y z->G):G:=h.elim λx h=>aeg h<|k x
end
section
variable {G:Prop} {p q r s t:α->β->γ->δ->Prop}
theorem Vb (h:∃x y z u,p x y z u/\q x y z u) (k:∀x y z u,p x y z u->q x y z u->G):G:=h.elim λx h=>se h<|k x
theorem Rr (h:∃x y z u,p x y z u/\q x y z u/\r x y z u) (k:∀x y z u,p x y z u->q x y z u->r x y z u->G):G:=h.elim λx h=>wi h<|k x
theorem aee (h:∃x y z u,p x y z u/\q x y z u/\r x y z u/\s x y z u) (k:∀x y z u,p x y z u->q x y z u->r x y z u->s x y z u->G):G:=h.elim λx h=>II h<|k x
theorem aed (h:∃x y z u,p x y z u/\q x y z u/\r x y z u/\s x y z u/\t x y z u) (k:∀x y z u,p x y z u->q x y z u->r x y z u->s x y z u->t x y z u->G):G:=h.elim λx h=>aef h<|k x
end
section
variable {G:Prop} {p q r s t m n:α->β->γ->δ->ε->Prop}
theorem aec (h:∃x y z u v,p x y z u v) (k:∀x y z u v,p x y z u v->G):G:=h.elim λx h=>h.elim λy h=>Dl h<|k x y
theorem Rq (h:∃x y z u v,p x y z u v/\q x y z u v) (k:∀x y z u v,p x y z u v->q x y z u v->G):G:=h.elim λx h=>Vb h<|k x
theorem aeb (h:∃x y z u v,p x y z u v/\q x y z u v/\r x y z u v) (k:∀x y z u v,p x y z u v->q x y z u v->r x y z u v->G):G:=h.elim λx h=>Rr h<|k x
theorem ad9 (h:∃x y z u v,p x y z u v/\q x y z u v/\r x y z u v/\s x y z u v/\t x y z u v/\m x y z u v/\n x y z u v) (k:∀x y z u v,p x y z u v->q x y z u v->r x y z u v->s x y z u v->t x y z u v->m x y z u v->n x y z u v->G):G:=h.elim λx h=>h.elim λy h=>h.elim λz h=>h.elim λu h=>h.elim λv h=>k x y z u v h.1 h.2.1 h.2.2.1 h.2.2.2.1 h.2.2.2.2.1 h.2.2.2.2.2.1 h.2.2.2.2.2.2
end
section
variable {G:Prop} {p q r s t:α->β->γ->δ->ε->ζ->Prop}
theorem ad8 (h:∃x y z u v w,p x y z u v w) (k:∀x y z u v w,p x y z u v w->G):G:=h.elim λx h=>aec h<|k x
theorem ad7 (h:∃x y z u v w,p x y z u v w/\q x y z u v w/\r x y z u v w/\s x y z u v w/\t x y z u v w) (k:∀x y z u v w,p x y z u v w->q x y z u v w->r x y z u v w->s x y z u v w->t x y z u v w->G):G:=h.elim λx h=>h.elim λy h=>aed h<|k x y
end
structure aN where
 P:cF
 f:bk->Option uz
 fr:bk->Prop:=λ_=>False
instance:CoeFun aN (λ_=>bk->Option uz):=⟨aN.f⟩
set_option genCtorIdx false
inductive PV where
 |none
 |bool (b:Bool)
 |int (i:Int)
 |str (s:List Nat)
 |bytes (b:List UInt8)
 |tup (l:List PV)
 |lst (l:List PV)
 |dR (i:Nat)
 |ref (a:bk)
 |ty (n:String)
 |blt (id:String)
 |JV (a b:Int)
 |dct (ks:List (List Nat)) (vs:List PV)
 |xD (ks:List Int) (vs:List PV)
 |tZ
 |Au
noncomputable def PV.ctorIdx (p:PV):Nat:=p.casesOn 0 (λ_=>1) (λ_=>2) (λ_=>3) (λ_=>4) (λ_=>5) (λ_=>6) (λ_=>7) (λ_=>8) (λ_=>9) (λ_=>10) (λ_ _=>11) (λ_ _=>12) (λ_ _=>13) 14 15
abbrev Hp:=List<|List PV
inductive j1 (α:Type) where
 |ok (a:α) (H:Hp)
 |exc (p:PV) (H:Hp)
 |stuck
set_option genCtorIdx true
noncomputable def j1.ctorIdx (x:j1 u):Nat:=x.casesOn (λ_ _=>0) (λ_ _=>1) 2
theorem J8 (e:.ok a h=j1.ok b k):a=b/\h=k:=by cases e;exact⟨rfl,rfl⟩
theorem wV:j1.ok a H≠.stuck:=nofun
theorem ain:(.exc p H:j1 u)≠.stuck:=nofun
theorem na {G:Prop} (h:let P:=G;P):G:=h
theorem xC (h:let U:=Q;aD M A t U E s):aD M A t Q E s:=h
theorem Mh (h:let u:=E;aD M A t Q u s):aD M A t Q E s:=h
theorem acP (h:let F:=s;aD M A t Q E F):aD M A t Q E s:=h
theorem fX (T:∀(Q:u->bh->Prop) (E:Value->bh->Prop),Q v F->aD M A x Q E s) (k:aD M A (f v) Q E F):aD M A (x>>=f) Q E s:=ak<|T _ _ k
theorem VF (T:x=pure v) (k:aD M A (f v) Q E s):aD M A (x>>=f) Q E s:=ak<|kP T k
theorem oW (k:aD M A (f v) Q E s):aD M A (pure v>>=f) Q E s:=ak<|ar k
theorem kI (e:t=Y) (h:aD M A Y Q E s):aD M A t Q E s:=e▸h
def IM (u:Type):=Hp->j1 u
namespace IM
noncomputable def pure (a:α):IM α:=λH=>.ok a H
noncomputable def bind (m:IM u) (f:u->IM β):IM β:=λH=>match m H with
 |.ok a i=>f a i
 |.exc p i=>.exc p i
 |.stuck=>.stuck
end IM
noncomputable def aP:IM α:=λ_=>.stuck
noncomputable def ad3 (p:PV):IM α:=λH=>.exc p H
theorem IM.bZ (m) (f:u->IM z) (H):IM.bind m f H=match m H with|.ok a i=>f a i|.exc p i=>.exc p i|.stuck=>.stuck:=rfl
def SJ (o:uz):Prop:=o.cls=.type "list"/\o.dict=fM/\o.slots=#[]
def b4 (o:uz):Prop:=o.cls=.type "frame"/\∃u n,o.data=.dict u n
inductive vx (K:aN) (C:uz->Prop) (P:List Value->Prop) (v:Value):Prop
 |mk (a:bk) (o:uz) (n:Nat) (vs:List Value) (e:v=.ref a) (k:K a=ab o) (c:C o) (d:o.data=.seq (af vs) n) (r:P vs)
inductive aau (K:aN) (m:Nat) (C:Array cE->Prop) (P:List Value->Prop) (v:Value):Prop
 |mk (a:bk) (o:uz) (n:Nat) (es:Array cE) (e:v=.ref a) (k:K a=ab o) (x:o.ExactDict) (ne:a≠1) (d:o.data=.dict es n) (le:m=es.size) (hk:C es) (r:P (es.toList.map (·.val)))
abbrev AJ (o:uz):Prop:=o.cls=.type "tuple"
inductive ai7 (K:aN) (v:Value):Prop
 |mk (a:bk) (o:uz) (d:bk) (od:uz) (es:Array cE) (n:Nat) (e:v=.ref a) (k:K a=ab o) (c:o.cls=.ref 369) (dd:o.dict=ab d) (da:o.data=.plain) (kd:K d=ab od) (di:od.data=.dict es n) (sk:ur es) (f:kR es "heap"=ab v)
mutual
noncomputable def VR (K:aN) (O:List bk):PV->Value->Prop
 |.none,v=>v=.none
 |.bool b,v=>v=.bool b
 |.int i,v=>∃t,v=.int i t
 |.str s,v=>∃t,v=.str ⟨af s⟩ t
 |.bytes b,v=>∃t,v=.bytes (af b) t
 |.tup l,v=>vx K AJ (bU K O l) v
 |.lst l,v=>vx K SJ (bU K O l) v
 |.dR i,v=>∃a,O[i]?=ab a/\v=.ref a
 |.ref a,v=>v=.ref a
 |.ty n,v=>v=.type n
 |.blt id,v=>v=.builtin id
 |.JV x y,v=>∃a o t1 t2 t3,v=.ref a/\K a=ab o/\o={cls:=.type "range",dict:=fM,data:=.fields #[.int x t1,.int y t2,.int 1 t3],slots:=#[]}
 |.dct j l,v=>aau K (aa j) (λu=>∀(i:Nat) (k:List Nat) (e:cE),j[i]?=ab k->u.toList[i]?=ab e->e.hash=gg K.P ⟨af k⟩/\∃t,e.key=.str ⟨af k⟩ t) (bU K O l) v
 |.xD j l,v=>aau K (aa j) (λu=>∀(i:Nat) (k:Int) (e:cE),j[i]?=ab k->u.toList[i]?=ab e->e.hash=hashInt k/\∃t,e.key=.int k t) (bU K O l) v
 |.tZ,v=>ai7 K v
 |.Au,_=>True
noncomputable def bU (K:aN) (O:List bk):List PV->List Value->Prop
 |[],U=>U=[]
 |p::l,U=>∃v r,U=v::r/\VR K O p v/\bU K O l r
end
inductive afo (K:aN) (μ:List bk) (env:lV) (h:eG):Prop
 |mk (k:env.scope.kind≠.module) (L:bk) (o:uz) (f:env.frame=ab L) (kL:K L=al) (m:L∉μ) (e:h.get? L=ab o) (fo:b4 o) (fr:K.fr L)
structure vu (K:aN) (μ:List bk) (fs:List lV) (h:eG):Prop where
 all:∀env∈fs,afo K μ env h
inductive ai5 (K:aN) (μ:List bk) (a:bk) (l:List PV) (h:eG):Prop
 |mk (k:K a=al) (o:uz) (n:Nat) (vs:List Value) (e:h.get? a=ab o) (c:SJ o) (d:o.data=.seq (af vs) n) (r:bU K μ l vs)
structure NB (K:aN) (μ:List bk) (H:Hp) (h:eG):Prop where
 len:aa μ=aa H
 nodup:μ.Nodup
 at_:∀(i:Nat) (a:bk) (l:List PV),μ[i]?=ab a->H[i]?=ab l->ai5 K μ a l h
structure Inv (KF:aN) (K:aN) (μ:List bk) (H:Hp) (fs:List lV) (h:eG):Prop where
 par:K.P=KF.P
 stat:∀a o,KF a=ab o->K a=ab o
 sub:∀a o,K a=ab o->h.get? a=ab o
 kf:∀a o,K a=ab o->¬b4 o
 ky:NB K μ H h
 stk:vu K μ fs h
structure Step (W:List bk) (K:aN) (μ:List bk) (h:eG) (K':aN) (rq:List bk) (h':eG):Prop where
 par:K'.P=K.P
 kle:∀a o,K a=ab o->K' a=ab o
 new:∀a o,K' a=ab o->K a=ab o\/h.get? a=al
 pre:∃ν,rq=μ++ν/\∀a∈ν,h.get? a=al
 there:∀a o,h.get? a=ab o->∃o',h'.get? a=ab o'
 keep:∀a o,h.get? a=ab o->a∉μ->a∉W->∃sl,h'.get? a=ab {o with slots:=sl}/\(sl=o.slots\/(b4 o/\K.fr a))
 frs:∀a,K'.fr a->K.fr a\/h.get? a=al
theorem Step.refl (W K O h):Step W K O h K O h:=
 ⟨rfl,λ_ _ e=>e,λ_ _ e=>.inl e,⟨[],by simp,by simp⟩,λ_ o e=>⟨o,e⟩,λ_ o e _ _=>⟨o.slots,e,.inl rfl⟩,λ_ q=>.inl q⟩
theorem Step.none {K k:aN} (x:Step W K O h k J f) (e:f.get? a=al):h.get? a=none:=by
 cases q:h.get? a with
 |none=>rfl
 |some o=>refine bd (x.there a o q) λu V=>?_;rw[e] at V;cases V
theorem Step.trans {K k C:aN} (x:Step W K O h k dU f) (y:Step W k dU f C z h₂):Step W K O h C z h₂:=by
 refine aH x.pre λR m Q=>aH y.pre λd i b=>⟨ag y.par x.par,λa o e=>y.kle a o<|x.kle a o e,λa o e=>?_,⟨R++d,by(refine ag i ?_;refine m▸?_;rw[eZ]),λa ha=>?_⟩,λa o e=>?_,λa o e t U=>?_,λa q=>?_⟩
 ·rcases y.new a o e with e|l
  ·exact x.new a o e
  ·exact .inr<|x.none l
 ·rcases eB.mp ha with ha|ha
  ·exact Q a ha
  ·exact x.none<|b a ha
 ·exact bd (x.there a o e) λu V=>y.there a u V
 ·refine aH (x.keep a o e t U) λp V hs=>?_
  have Y:a∉dU:=by
   refine m▸?_;intro q;rcases eB.mp q with q|q
   ·exact t q
   ·have:=Q a q;rw[e] at this;cases this
  refine aH (y.keep a _ V Y U) λn g J=>⟨n,g,?_⟩;rcases hs with hs|hs
  ·subst hs;refine J.imp id λq=>⟨q.1,?_⟩;rcases x.frs a q.2 with r|r
   ·exact r
   ·rw[e] at r;cases r
  ·exact .inr hs
 ·rcases y.frs a q with q|q
  ·exact x.frs a q
  ·exact .inr<|x.none q
theorem Step.mono {K k:aN} (x:Step W K O h k J h₁) (U:∀a∈W,a∈b):Step b K O h k J h₁:=
 ⟨x.par,x.kle,x.new,x.pre,x.there,λa o e t B=>x.keep a o e t λq=>B<|U a q,x.frs⟩
theorem Step.same {K k:aN} (x:Step W K O h k J f) (e:h.get? a=ab o) (t:a∉O) (U:a∉W) (Y:¬b4 o):f.get? a=ab o:=by
 refine aH (x.keep a o e t U) λp V hs=>?_;rcases hs with rfl|hs
 ·exact V
 ·exact absurd hs.1 Y
mutual
theorem VR.mono {K K':aN} (B:K'.P=K.P) (g:∀a o,K a=ab o->K' a=ab o):∀p v,VR K O p v->VR K' (O++R) p v
 |.none,_,h|.bool _,_,h|.int _,_,h|.str _,_,h|.bytes _,_,h|.ref _,_,h|.ty _,_,h|.blt _,_,h|.Au,_,h=>h
 |.tZ,v,h=>by obtain⟨a,o,d,V,u,n,e,k,c,dd,m,Z,di,C,f⟩:=h;exact⟨a,o,d,V,u,n,e,g _ _ k,c,dd,m,g _ _ Z,di,C,f⟩
 |.tup l,v,h|.lst l,v,h=>by obtain⟨a,o,n,U,e,k,c,d,r⟩:=h;exact⟨a,o,n,U,e,g _ _ k,c,d,bU.mono B g l U r⟩
 |.dR i,v,h=>by refine aH h λa e q=>?_;exact⟨a,by refine ag (dh (aA.mp e).1) ?_;exact e,q⟩
 |.JV _ _,v,h=>by refine aeb h λa o t1 t2 t3 e k r=>?_;exact⟨a,o,t1,t2,t3,e,g _ _ k,r⟩
 |.dct j l,v,h=>by obtain⟨a,o,n,u,e,k,c,d,q,E,z,r⟩:=h;exact⟨a,o,n,u,e,g _ _ k,c,d,q,E,λi k e a b=>by exact B▸z i k e a b,bU.mono B g l _ r⟩
 |.xD j l,v,h=>by obtain⟨a,o,n,u,e,k,c,d,q,E,z,r⟩:=h;exact⟨a,o,n,u,e,g _ _ k,c,d,q,E,z,bU.mono B g l _ r⟩
theorem bU.mono {K K':aN} (B:K'.P=K.P) (g:∀a o,K a=ab o->K' a=ab o):∀l U,bU K O l U->bU K' (O++R) l U
 |[],_,h=>h
 |p::l,U,h=>by refine cL h λv r e a b=>?_;exact⟨v,r,e,VR.mono B g p v a,bU.mono B g l r b⟩
end
theorem VR.step {K j:aN} (s:Step W K μ h j l G) (x:VR K μ p v):VR j l p v:=by refine aH s.pre λR S _=>?_;subst S;exact x.mono s.par s.kle
theorem bU.step {K j:aN} (s:Step W K μ h j l G) (x:bU K μ p v):bU j l p v:=by refine aH s.pre λR S _=>?_;subst S;exact x.mono s.par s.kle
theorem bU.length {K:aN}:∀{l U},bU K O l U->aa U=aa l
 |[],_,h=>congrArg aa h
 |p::l,U,h=>by refine cL h λv r S _ b=>?_;subst S;simp[bU.length b]
theorem bU.get {K:aN}:∀{l U} {i:Nat} {p},bU K O l U->l[i]?=ab p->∃v,U[i]?=ab v/\VR K O p v
 |[],_,_,_,_,e=>by simp at e
 |q::l,U,i,p,h,e=>by
  refine cL h λv r S a b=>?_;subst S
  induction i with
  |zero=>simp at e;subst e;exact⟨v,rfl,a⟩
  |succ i=>simp at e;exact aH (bU.get b e) λB V x=>⟨B,by simpa using V,x⟩
theorem bU.append {K:aN}:∀{l d U z},bU K O l U->bU K O d z->bU K O (l++d) (U++z)
 |[],_,_,_,h,G=>by subst h;exact G
 |p::l,d,U,z,h,G=>by refine cL h λv r S a b=>?_;subst S;exact⟨v,r++z,rfl,a,b.append G⟩
theorem bU.nil {K:aN}:bU K O [] []:=show _=_ from rfl
theorem bU.cons {K:aN} (a:VR K O p v) (b:bU K O l U):bU K O (p::l) (v::U):=⟨v,U,rfl,a,b⟩
end
open IM renaming bind->aw,bZ->fU,pure->ax
open j1 renaming ok->dt
open PV renaming bytes->qi,int->dq,lst->amC,tup->Wi
open Step renaming refl->iM
open VR renaming mono->N1,step->fv
open bU renaming cons->b7,length->vI,mono->ro,nil->eu,step->vH
section
set_option genCtorIdx false
inductive LX where
 |v (i:Nat)
 |w (i:Nat)
 |n (k:Nat)
 |a (x y:LX)
 |s (x y:LX)
 |m (k:Nat) (x:LX)
 |r (x:LX) (k:Nat)
 |g (x:LX)
set_option genCtorIdx true
noncomputable abbrev aJ:LX:=.v 0
noncomputable abbrev bf:LX:=.v 1
noncomputable abbrev ct:LX:=.v 2
noncomputable abbrev ig:LX:=.v 3
noncomputable abbrev cz:LX:=.w 0
noncomputable abbrev ef:LX:=.n 0
noncomputable abbrev ia:LX:=.n 1
noncomputable abbrev xi (x:LX):LX:=.a x ia
def LX.Z (c:List Nat) (d:List Int) (x:LX):Int:=LX.rec (λi=>(c.getD i 0:Nat)) (λi=>d.getD i 0) (λk=>(k:Nat)) (λ_ _ x y=>x+y) (λ_ _ x y=>x-y) (λk _ x=>k*x) (λ_ k x=>x*k) (λ_ x=>-x) x
def zU (x:List Int):List Int->List Int:=j4 (λy=>y) (λa _ o y=>j4 (a::o []) (λb y _=>(a+b)::o y) y) x
def s8 (x:List Int):List Int->Int:=j4 (λ_=>0) (λa _ o y=>a*y.headD 0+o y.tail) x
def LX.P (x:LX):Int×List Int×List Int:=LX.rec (λi=>(0,aW i 0++[1],[])) (λi=>(0,[],aW i 0++[1])) (λk=>(k,[],[]))
 (λ_ _ x y=>(x.1+y.1,zU x.2.1 y.2.1,zU x.2.2 y.2.2)) (λ_ _ x y=>(x.1-y.1,zU x.2.1 (y.2.1.map (-1*·)),zU x.2.2 (y.2.2.map (-1*·)))) (λk _ x=>(k*x.1,x.2.1.map (k*·),x.2.2.map (k*·))) (λ_ k x=>(k*x.1,x.2.1.map (k*·),x.2.2.map (k*·))) (λ_ x=>(-1*x.1,x.2.1.map (-1*·),x.2.2.map (-1*·))) x
theorem Vg (x):s8 x []=0:=by
 induction x with
 |nil=>rfl
 |cons a x o=>show a*0+s8 x []=0;rw[o,afT];rfl
theorem sw (a b c d:Int):(a+b)+(c+d)=(a+c)+(b+d):=by rw[qV,qV,Int.add_left_comm b]
theorem ye (x):∀y c,s8 (zU x y) c=s8 x c+s8 y c:=by
 induction x with
 |nil=>intro y c;exact ae<|sH _
 |cons a x o=>
  intro y c
  cases y with
  |nil=>show a*c.headD 0+s8 (zU x []) c.tail=(a*c.headD 0+s8 x c.tail)+0;rw[o];show _+(_+0)=_;rw[jw,jw]
  |cons b y=>show(a+b)*c.headD 0+s8 (zU x y) c.tail=(a*c.headD 0+s8 x c.tail)+(b*c.headD 0+s8 y c.tail);rw[o,agP];exact sw ..
theorem pj (k x):∀c,s8 (x.map (k*·)) c=k*s8 x c:=by
 induction x with
 |nil=>intro c;exact ae<|afT k
 |cons a x o=>intro c;show k*a*c.headD 0+s8 (x.map (k*·)) c.tail=k*(a*c.headD 0+s8 x c.tail);rw[o,uv,Int.mul_assoc]
theorem F3 (i):∀c,s8 (aW i 0++[1]) c=c.getD i 0:=by
 induction i with
 |zero=>intro c;show 1*c.headD 0+0=_;cases c<;>simp
 |succ i o=>intro c;show 0*c.headD 0+s8 (aW i 0++[1]) c.tail=_;rw[o];cases c<;>simp
theorem ai3 (c d) (x:LX):x.P.1+s8 x.P.2.1 (c.map jG)+s8 x.P.2.2 d=x.Z c d:=by
 induction x with
 |v i=>show 0+s8 (aW i 0++[1]) (c.map jG)+0=((c.getD i 0:Nat):Int);rw[F3];simp[ev];cases c[i]?<;>rfl
 |w i=>show 0+0+s8 (aW i 0++[1]) d=d.getD i 0;rw[F3];exact sH _
 |n k=>exact ag (jw _)<|jw _
 |a x y T I=>show(x.P.1+y.P.1)+s8 (zU x.P.2.1 y.P.2.1) _+s8 (zU x.P.2.2 y.P.2.2) d=x.Z c d+y.Z c d;rw[ye,ye,<-T,<-I];exact ag (congrArg (· +_) (sw ..)) (sw ..)
 |s x y T I=>show(x.P.1-y.P.1)+s8 (zU x.P.2.1 (y.P.2.1.map (-1*·))) _+s8 (zU x.P.2.2 (y.P.2.2.map (-1*·))) d=x.Z c d-y.Z c d;rw[ye,ye,pj,pj,<-T,<-I,<-gY,<-gY,wH,wH,Aj,Aj];exact ag (congrArg (· +_) (sw ..)) (sw ..)
 |m k x T=>show(k:Int)*x.P.1+s8 (x.P.2.1.map ((k:Int)*·)) _+s8 (x.P.2.2.map ((k:Int)*·)) d=(k:Int)*x.Z c d;rw[pj,pj,<-T,uv,uv]
 |r x k T=>show(k:Int)*x.P.1+s8 (x.P.2.1.map ((k:Int)*·)) _+s8 (x.P.2.2.map ((k:Int)*·)) d=x.Z c d*(k:Int);rw[pj,pj,<-T,Int.mul_comm _ (k:Int),uv,uv]
 |g x T=>show -1*x.P.1+s8 (x.P.2.1.map (-1*·)) _+s8 (x.P.2.2.map (-1*·)) d=-(x.Z c d);rw[pj,pj,<-T,<-gY,<-gY,<-gY,Aj,Aj]
def Lr (l:List (Nat×LX×LX)):LX:=j4 (.n 0) (λf _ r=>.a (.m f.1<|.s f.2.2 f.2.1) r) l
def chk (l:List (Nat×LX×LX)):Bool:=decide ((Lr l).P.1<0)&&((Lr l).P.2.1.all λk=>decide<|k<=0)&&(Lr l).P.2.2.all λk=>decide<|k=0
def Hy (c:List Nat) (d:List Int) (l:List (Nat×LX×LX)):Prop:=j4 False (λf _ P=>f.2.1.Z c d<=f.2.2.Z c d->P) l
theorem ZZ (x) (h:(x.all λk=>decide<|k<=0)=ao):∀c:List Nat,s8 x (c.map jG)<=0:=by
 induction x with
 |nil=>intro c;exact fV _
 |cons a x o=>
  intro c;rw[nr,bt] at h
  cases c with
  |nil=>rw[show(([]:List Nat).map jG)=[] from rfl,Vg];exact fV _
  |cons n c=>show a*(n:Int)+s8 x (c.map jG)<=0;refine fP (D0 (jo (of_decide_eq_true h.1)<|bB n)<|o h.2 c) ?_;rw[afQ];exact fV _
theorem Ry (x) (h:(x.all λk=>decide<|k=0)=ao):∀c,s8 x c=0:=by
 induction x with
 |nil=>intro c;rfl
 |cons a x o=>intro c;rw[nr,bt] at h;show a*c.headD 0+s8 x c.tail=0;rw[o h.2,of_decide_eq_true h.1,afQ];rfl
theorem bj (c d l) (h:chk l=ao):Hy c d l:=by
 unfold chk at h;rw[bt,bt] at h
 have m:(Lr l).Z c d<0:=by rw[<-ai3 c d (Lr l),Ry _ h.2 d,jw];refine eF (Int.add_le_add_left (ZZ _ h.1.2 c) _) ?_;rw[jw];exact of_decide_eq_true h.1.1
 have all:∀(l:List (Nat×LX×LX)) (t:Int),t+(Lr l).Z c d<0->0<=t->Hy c d l:=by
  intro l
  induction l with
  |nil=>intro t J W;exact absurd W<|iX.mpr<|jw t▸J
  |cons f l o=>
   intro t J W Y;refine o (t+f.1*(f.2.2.Z c d-f.2.1.Z c d)) ?_ ?_
   ·rw[qV];exact J
   ·exact aaL W<|aaK (bB f.1)<|Int.sub_nonneg_of_le Y
 exact all l 0 (by rw[sH];exact m)<|fV _
theorem cl {a b:Nat} (h:a<=b):(a:Int)<=b:=dI.mpr h
theorem cP {a b:Nat} (h:(b:Int)+1<=a->False):a<=b:=dI.mp<|cX.mp h
theorem dr {a b:Int} (h:b+1<=a->False):a<=b:=cX.mp h
end
section
open PySem PySem.W PySem.Calls PyProof.Rows
abbrev xg:=aN->List bk->eG->Prop
noncomputable abbrev MM (w:dG):Model:=Ob bR w
noncomputable abbrev uF:Addr:=71
structure kl (n:Nat) (A:iF) (fs:List lV):Prop where
 hd:A.handled=al
 dp:A.depth+n<nh
 un:A.units+10*n+20<yk
 fr:A.frames=ab fs
 gd:A.guards=ab []
theorem kl.mono (x:kl n A fs) (h:k<=n):kl k A fs:=
 ⟨x.hd,bX (dH h _) x.dp,bX (uu (dH (Oe 10 h) _) 20) x.un,x.fr,x.gd⟩
theorem kl.u20 (x:kl n A M):A.units+20<cLine:=bX (uu (cn _ _) 20) x.un
theorem kl.ule (x:kl n A M) (h:k<=20):A.units+k<cLine:=bX (dH h _) x.u20
theorem kl.d0 (x:kl n A M):A.depth<recursionLimit:=bX (cn _ _) x.dp
def aV (s F:bh):Prop:=F.os=s.os/\F.gens=s.gens
theorem aV.refl (s):aV s s:=⟨rfl,rfl⟩
theorem aV.trans (x:aV a b) (y:aV b c):aV a c:=⟨ag y.1 x.1,ag y.2 x.2⟩
inductive ai1 (g:eG) (K:aN) (μ:List bk) (a:bk) (vs:Array Value) (h:eG):Prop
 |no (e:vs[1]?=ab f7)
 |at(T:bk) (oT:uz) (ts:Array Value) (e:vs[1]?=ab (f6 T)) (gT:g.get? T=al) (ne:T≠a) (kT:K T=al) (mT:T∉μ) (o:h.get? T=ab oT) (d:oT.data=.fields ts) (n:ts[3]?=ab f7)
inductive j2 (g:eG) (K:aN) (μ:List bk) (p:PV) (e:Value) (h:eG):Prop
 |mk (a:bk) (oe:uz) (d:bk) (vs:Array Value) (od:uz) (es:Array cE) (n:Nat) (v:Value) (ea:e=.ref a) (ga:g.get? a=al) (ho:h.get? a=ab oe) (c:oe.cls=.ref uF) (di:oe.dict=ab d) (da:oe.data=.fields vs)
  (ka:K a=al) (ma:a∉μ) (kd:K d=ab od) (dd:od.data=.dict es n) (sk:ur es) (f:kR es "value"=ab v) (r:VR K μ p v) (tb:ai1 g K μ a vs h)
theorem j2.back {K k j:aN} (x:j2 h j l p e h') (st:Step W K O g k J h):j2 g j l p e h':=by
 obtain⟨a,X,d,U,V,u,n,v,m,i,C,F,Z,s,P,A,r,b,L,B,D,E⟩:=x;refine⟨a,X,d,U,V,u,n,v,m,st.none i,C,F,Z,s,P,A,r,b,L,B,D,?_⟩;rcases E with q|⟨T,y,G,S,c,f,w,o,Y,t,z⟩
 ·exact .no q
 ·exact .at T y G S (st.none c) f w o Y t z
section
variable (w:dG) (KF:aN)
inductive y0 {α β:Type} (W:List bk) (fs:List lV) (K:aN) (μ:List bk) (s:bh) (R:α->β->xg) (o:j1 α) (r:β) (s':bh):Prop
 |mk (a:α) (H':Hp) (K':aN) (rq:List bk) (e:o=.ok a H') (st:Step W K μ s.heap K' rq s'.heap) (iv:Inv KF K' rq H' fs s'.heap) (hr:R a r K' rq s'.heap) (so:aV s s')
inductive yc {α:Type} (W:List bk) (fs:List lV) (K:aN) (μ:List bk) (s:bh) (o:j1 α) (x:Value) (s':bh):Prop
 |mk (p:PV) (H':Hp) (K':aN) (rq:List bk) (e:o=.exc p H') (st:Step W K μ s.heap K' rq s'.heap) (iv:Inv KF K' rq H' fs s'.heap) (hx:j2 s.heap K' rq p x s'.heap) (so:aV s s')
def Sat (W:List bk) (A:iF) (M:List lV) (K:aN) (O:List bk) (s:bh) (R:u->z->xg) (o:j1 u) (t:jE z):Prop:=
 o≠.stuck->aD (MM w) A t (y0 KF W M K O s R o) (yc KF W M K O s o) s
def aj (W:List bk) (n:Nat) (C:xg) (m:IM u) (R:u->z->xg) (t:jE z):Prop:=
 ∀A s K O H M,kl n A M->Inv KF K O H M s.heap->C K O s.heap->Sat w KF W A M K O s R (m H) t
end
def fD (W:List bk) (C:xg):Prop:=∀K O h j l G,C K O h->Step W K O h j l G->C j l G
theorem fD.and (x:fD W C) (y:fD W D):fD W (λK O h=>C K O h/\D K O h):=
 λ_ _ _ _ _ _ c s=>⟨x _ _ _ _ _ _ c.1 s,y _ _ _ _ _ _ c.2 s⟩
theorem fD.true:fD W (λ_ _ _=>True):=λ_ _ _ _ _ _ _ _=>trivial
def e7 (p:PV) (v:Value):xg:=λK O _=>VR K O p v
def j9 (p:List PV) (v:List Value):xg:=λK O _=>bU K O p v
theorem b9 (p v):fD W (e7 p v):=λ_ _ _ _ _ _ c s=>fv s c
section
theorem Sat.step {K k:aN}
 (x:Sat w X W A M k J s₁ R o t) (st:Step W K μ s.heap k J s₁.heap) (U:aV s s₁) (L:o≠.stuck):
 aD (MM w) A t (y0 X W M K μ s R o) (yc X W M K μ s o) s₁:=
 aZ (x L) (λ_ _ b=>y0.casesOn b λa i j l e z N r P=>⟨a,i,j,l,e,st.trans z,N,r,U.trans P⟩)
  λ_ _ c=>yc.casesOn c λp i j l e z N r P=>⟨p,i,j,l,e,st.trans z,N,j2.back r st,U.trans P⟩
theorem aj.bind'
 (f:aj w X W n C b g k) (m:∀a r,aj w X W n (g a r) (t a) v<|z r):aj w X W n C (aw b t) v (k>>=z):=by
 intro A s K O H M I N c L;have e:=fU b t H;have J:b H≠.stuck:=λq=>L<|by(refine ag e ?_;rw[q])
 refine ak<|aZ (f A s K O H M I N c J) (λr B ⟨a,H',j,l,q,st,P,d,U⟩=>?_) λx B h=>yc.casesOn h λp H' j l q st P d U=>?_
 ·have V:aw b t H=t a H':=by(refine ag e ?_;rw[q])
  rw[V] at L|-
  exact(m a r A B j l H' M I P d).step st U L
 ·exact⟨p,H',j,l,by(refine ag e ?_;rw[q]),st,P,d,U⟩
open aj renaming bind'->cr
theorem aj.bind
 (f:aj w X W n C b g k) (Z:fD W C) (m:∀a r,aj w X W n (λK O h=>C K O h/\g a r K O h) (t a) v<|z r):
 aj w X W n C (aw b t) v (k>>=z):=by
 refine cr (λA s K O H M I N c L=>?_) m;exact aZ (f A s K O H M I N c L) (λr B ⟨a,i,j,l,q,st,P,d,U⟩=>⟨a,i,j,l,q,st,P,⟨Z _ _ _ _ _ _ c st,d⟩,U⟩) λ_ _ y=>y
theorem aj.weak (x:aj w X W n D m R t) (h:∀K O g,C K O g->D K O g):aj w X W n C m R t:=
 λA s K O H M I N c=>x A s K O H M I N<|h _ _ _ c
theorem aj.post (x:aj w X W n C m R t) (h:∀a r K O g,R a r K O g->o a r K O g):aj w X W n C m o t:=
 λA s K O H M I N c L=>aZ (x A s K O H M I N c L) (λ_ _ ⟨a,i,j,l,q,st,P,d,U⟩=>⟨a,i,j,l,q,st,P,h _ _ _ _ _ d,U⟩) λ_ _ y=>y
theorem aj.more (x:aj w X W k C m R t) (h:k<=n):aj w X W n C m R t:=
 λA s K O H M I N c=>x A s K O H M (I.mono h) N c
theorem aj.widen (x:aj w X b n C m R t) (h:∀a∈b,a∈W):aj w X W n C m R t:=
 λA s K O H M I N c L=>aZ (x A s K O H M I N c L) (λ_ _ e=>y0.casesOn e λa i j l q st P d U=>⟨a,i,j,l,q,st.mono h,P,d,U⟩)
  λ_ _ f=>yc.casesOn f λp i j l q st P d U=>⟨p,i,j,l,q,st.mono h,P,d,U⟩
theorem aj.keep (x:aj w X W n C m R t) (B:fD W C):aj w X W n C m (λa r K O h=>C K O h/\R a r K O h) t:=
 λA s K O H M I N c L=>aZ (x A s K O H M I N c L) (λ_ _ ⟨a,i,j,l,q,st,P,d,U⟩=>⟨a,i,j,l,q,st,P,⟨B _ _ _ _ _ _ c st,d⟩,U⟩) λ_ _ y=>y
theorem aj.pure (h:∀K O g,C K O g->R a b K O g):aj w X W n C (ax a) R (jb b):=
 λ_ s K O H _ _ N c _=>ar ⟨a,H,K,O,rfl,iM ..,N,h _ _ _ c,.refl s⟩
theorem aj.stuck:aj w X W n C aP R t:=λ_ _ _ _ _ _ _ _ _ h=>absurd rfl h
theorem aj.eqT (x:aj w X W n C m R t) (e:t'=t):aj w X W n C m R t':=e▸x
theorem aj.zx (x:aj w X W n C m R t) (e:U=m):aj w X W n C U R t:=e▸x
theorem aj.holding (x:aj w X W n C m R t):aj w X W n C m R (holding U t):=
 λA s K O H M I N c L=>a8<|x A s K O H M I N c L
theorem aj.quiet (r:B) (Z:∀A Q E s,Q r s->aD (MM w) A q Q E s) (x:aj w X W n C m R (t r)):
 aj w X W n C m R (q>>=t):=
 λA s K O H M I N c L=>ak<|Z _ _ _ _ (x A s K O H M I N c L)
theorem aj.stand (x:aj w X W n C m R (t ())):aj w X W n C m R (fY S>>=t):=
 aj.quiet () (λ_ _ _ _ h=>cb h) x
theorem aj.operate (x:aj w X W n C m R t):aj w X W n C m R (operate U t):=
 λA s K O H M I N c L d p a=>by exact(ae (Sem.wp_operate ..))▸x A s K O H M I N c L d p a
theorem aj.map {f:u->B} {g:z->b} (x:aj w X W n C m R t) (h:∀a r K O k,R a r K O k->o (f a) (g r) K O k):
 aj w X W n C (aw m λa=>ax<|f a) o (t>>=λr=>jb<|g r):=
 cr x λ_ _=>aj.pure λ_ _ _ c=>h _ _ _ _ _ c
end
noncomputable def gc (K:aN) (a:bk) (o:uz):aN:=⟨K.P,λb=>if b=a then ab o else K b,K.fr⟩
theorem fj (K a o):gc K a o a=ab o:=if_pos rfl
theorem db {K:aN} (h:b≠a):gc K a o b=K b:=if_neg h
section
variable {KF K:aN}
theorem bW (h:eG):h.get? h.objs.size=none:=iL<|bS _
theorem Inv.P9 (N:Inv KF K O H M h) (m:a∈O):∃o,h.get? a=ab o/\K a=none:=by refine bd (oJ m) λi S=>bd S λD Z=>?_;subst Z;have f:=N.ky.len▸D;obtain⟨k,o,_,_,e,_⟩:=N.ky.at_ i _ _ (aO D) (aO f);exact⟨o,e,k⟩
theorem Inv.ze (N:Inv KF K μ H M h) (e:K a=ab o):a∉μ:=λm=>by refine aH (N.P9 m) λ_ _ k=>?_;rw[k] at e;cases e
theorem NB.Bf {i:Nat} (x:NB K O H h) (m:O[i]?=ab a) (e:h.get? a=ab o):¬b4 o:=by have D:=x.len▸(aA.mp m).1;obtain⟨_,u,n,U,V,c,_⟩:=x.at_ i a _ m (aO D);rw[e] at V;obtain rfl:=ai V;intro f;have c:=c.1;rw[f.1] at c;exact absurd c<|by decide
def de (h G:eG):Prop:=∀a o,h.get? a=ab o->∃p,G.get? a=ab {o with slots:=p}/\(p=o.slots\/(b4 o/\False))
theorem de.push (h o):de h (h.push o):=λ_ u e=>⟨u.slots,aQ o e,.inl rfl⟩
theorem de.same (x:de h G) (e:h.get? a=ab o) (Y:¬b4 o):G.get? a=ab o:=by
 refine aH (x a o e) λp V hs=>?_;rcases hs with rfl|hs
 ·exact V
 ·exact hs.2.elim
theorem de.step (x:de h h'):Step W K μ h K μ h':=
 ⟨rfl,λ_ _ e=>e,λ_ _ e=>.inl e,⟨[],by simp,by simp⟩,λa o e=>let⟨_,V,_⟩:=x a o e;⟨_,V⟩,λa o e _ _=>let⟨p,V,q⟩:=x a o e;⟨p,V,q.imp id λz=>z.2.elim⟩,λ_ q=>.inl q⟩
theorem b4.slots:b4 {o with slots:=p}↔b4 o:=Iff.rfl
theorem vu.keep (st:vu K O M h) (x:de h h'):vu K O M h':=⟨λZ J=>by
 obtain⟨k,L,o,f,v,m,e,fo,fr⟩:=st.all Z J
 exact aH (x L o e) λp V _=>⟨k,L,_,f,v,m,V,fo,fr⟩⟩
theorem NB.keep (m:NB K O H h) (x:de h h'):NB K O H h':=⟨m.len,m.nodup,λi a l D C=>by
 obtain⟨k,o,n,U,e,c,d,r⟩:=m.at_ i a l D C
 exact⟨k,o,n,U,x.same e<|m.Bf D e,c,d,r⟩⟩
theorem Inv.keep (N:Inv KF K O H M h) (x:de h h'):Inv KF K O H M h':=
 ⟨N.par,N.stat,λa o e=>x.same (N.sub a o e)<|N.kf a o e,N.kf,N.ky.keep x,N.stk.keep x⟩
theorem Inv.freeze (N:Inv KF K O H M h) {a:bk} (e:h.get? a=ab o) (B:K a=al) (t:a∉O) (Y:¬b4 o):Inv KF (gc K a o) O H M h:=by
 have E:∀b x,K b=ab x->gc K a o b=ab x:=λb x k=>by
  rw[db]
  ·exact k
  ·rintro rfl;rw[B] at k;cases k
 refine⟨N.par,λb x k=>E _ _ (N.stat b x k),λb x k=>?_,λb x k=>?_,⟨N.ky.len,N.ky.nodup,λi b l D C=>?_⟩,⟨λZ J=>?_⟩⟩
 ·by_cases q:b=a
  ·subst q;rw[fj] at k;obtain rfl:=ai k;exact e
  ·rw[db q] at k;exact N.sub b x k
 ·by_cases q:b=a
  ·subst q;rw[fj] at k;obtain rfl:=ai k;exact Y
  ·rw[db q] at k;exact N.kf b x k
 ·obtain⟨k,u,n,U,V,c,d,r⟩:=N.ky.at_ i b l D C;have q:b≠a:=by rintro rfl;exact t<|bq D
  exact⟨by exact ag (db q)<|k,u,n,U,V,c,d,by have:=ro (K:=K) (K':=gc K a o) (R:=[]) rfl E l U r;simpa using this⟩
 ·obtain⟨k,L,u,f,v,m,V,fo,fr⟩:=N.stk.all Z J
  have q:L≠a:=by rintro rfl;rw[e] at V;obtain rfl:=ai V;exact Y fo
  exact⟨k,L,u,f,by exact ag (db q)<|v,m,V,fo,fr⟩
theorem rN {W:List bk} (x:de h h') (B:K a=al) (c:h.get? a=al):Step W K O h (gc K a o) O h':=
 ⟨rfl,(λb x k=>by
  rw[db]
  ·exact k
  ·rintro rfl;rw[B] at k;cases k),(λb x k=>by
  by_cases q:b=a
  ·subst q;exact .inr c
  ·rw[db q] at k;exact .inl k),⟨[],by simp,by simp⟩,λa o e=>let⟨_,V,_⟩:=x a o e;⟨_,V⟩,λa o e _ _=>let⟨p,V,q⟩:=x a o e;⟨p,V,q.imp id λz=>z.2.elim⟩,λ_ q=>.inl q⟩
theorem Inv.cN (N:Inv KF K O H M h) (c:h.get? a=al):K a=none:=by
 cases q:K a with
 |none=>rfl
 |some o=>have:=N.sub _ _ q;rw[c] at this;cases this
theorem Inv.dY (N:Inv KF K μ H M h) (c:h.get? a=al):a∉μ:=λm=>by refine aH (N.P9 m) λo e _=>?_;rw[c] at e;cases e
theorem Inv.E1 (N:Inv KF K O H M h) {o:uz} (g:o.isFreed=ah) (Y:¬b4 o):
 Inv KF (gc K h.objs.size o) O H M (h.push o)/\∀W,Step W K O h (gc K h.objs.size o) O (h.push o):=
 ⟨(N.keep<|de.push h o).freeze (b5 h g) (N.cN<|bW h) (N.dY<|bW h) Y,
  λ_=>rN (de.push h o) (N.cN<|bW h)<|bW h⟩
theorem Inv.afm (N:Inv KF K O H M h) (e:h.get? a=ab o) (B:K a=al) (t:a∉O)
 (P:SJ o) (g:o.data=.seq (af vs) n) (r:bU K O l vs):Inv KF K (O++[a]) (H++[l]) M h:=by
 have A:∀l vs,bU K O l vs->bU K (O++[a]) l vs:=λl vs r=>ro rfl (λ_ _ e=>e) l vs r;refine⟨N.par,N.stat,N.sub,N.kf,⟨by simp[N.ky.len],?_,λi b X D C=>?_⟩,⟨λZ J=>?_⟩⟩
 ·rw[fI];exact⟨N.ky.nodup,by simp,λx T y I q=>by simp at I;subst I;subst q;exact t T⟩
 ·by_cases q:i<aa O
  ·rw[dh q] at D;rw[dh<|N.ky.len▸q] at C;obtain⟨k,u,w,z,V,c,d,G⟩:=N.ky.at_ i b X D C;exact⟨k,u,w,z,V,c,d,A _ _ G⟩
  ·have S:=N.ky.len▸q;rw[cj<|cW.mp q] at D;rw[cj<|cW.mp S,<-N.ky.len] at C
   have Y:i-aa O=0:=by have:=(aA.mp D).1;simpa using this
   rw[Y] at D C;simp at D C;subst D;subst C;exact⟨B,o,n,vs,e,P,g,A _ _ r⟩
 ·obtain⟨k,L,u,f,v,m,V,fo,fr⟩:=N.stk.all Z J;refine⟨k,L,u,f,v,λq=>?_,V,fo,fr⟩;rcases eB.mp q with q|q
  ·exact m q
  ·simp at q;subst q;rw[e] at V;obtain rfl:=ai V;have P:=P.1;rw[fo.1] at P;exact absurd P<|by decide
end
section
open Classical in
theorem de.refl (h):de h h:=λ_ o e=>⟨o.slots,e,.inl rfl⟩
theorem de.of_keeps (k:∀a o,h.get? a=ab o->h'.get? a=ab o):de h h':=λa o e=>⟨o.slots,k a o e,.inl rfl⟩
def KIn (X K:aN):Prop:=∀a o,X a=ab o->K a=ab o
theorem aj.val
 (h:∀(A:iF) (s:bh) (K:aN) (O:List bk) (Q:z->bh->Prop) (E:Value->bh->Prop),A.handled=al->A.units+20<yk->A.depth<nh->KIn X K->C K O s.heap->
  (∀a o,K a=ab o->s.heap.get? a=ab o)->
  (∀r G tk,de s.heap G->R a r K O G->Q r {s with heap:=G,toks:=tk})->aD (MM w) A t Q E s):aj w X W n C (ax a) R t:=
 λA s K O H M I N c _=>h A s K O _ _ I.hd I.u20 I.d0 N.stat c N.sub λr G tk Z d=>⟨a,H,K,O,rfl,Z.step,N.keep Z,d,rfl,rfl⟩
open PySem.SeqAt
theorem aC {P:Prop} (h:al=ab a):P:=nomatch h
theorem Cb {a b:List u} (h:af a=af b):a=b:=congrArg oM h
theorem map_some (h:o.map f=ab b):∃a,o=ab a/\f a=b:=a9.mp h
theorem bind_some (h:o.bind f=ab b):∃a,o=ab a/\f a=ab b:=DV.mp h
noncomputable def E6 (p:PV):Option Unit:=p.casesOn (ab ()) (λ_=>al) (λ_=>al) (λ_=>al) (λ_=>al) (λ_=>al) (λ_=>al) (λ_=>al) (λ_=>al) (λ_=>al) (λ_=>al) (λ_ _=>al) (λ_ _=>al) (λ_ _=>al) al al
noncomputable def TO (p:PV):Option (Int):=p.casesOn al (λ_=>al) (λi=>ab i) (λ_=>al) (λ_=>al) (λ_=>al) (λ_=>al) (λ_=>al) (λ_=>al) (λ_=>al) (λ_=>al) (λ_ _=>al) (λ_ _=>al) (λ_ _=>al) al al
noncomputable def PF (p:PV):Option (Bool):=p.casesOn al (λi=>ab i) (λ_=>al) (λ_=>al) (λ_=>al) (λ_=>al) (λ_=>al) (λ_=>al) (λ_=>al) (λ_=>al) (λ_=>al) (λ_ _=>al) (λ_ _=>al) (λ_ _=>al) al al
noncomputable def l6 (p:PV):Option (List UInt8):=p.casesOn al (λ_=>al) (λ_=>al) (λ_=>al) (λi=>ab i) (λ_=>al) (λ_=>al) (λ_=>al) (λ_=>al) (λ_=>al) (λ_=>al) (λ_ _=>al) (λ_ _=>al) (λ_ _=>al) al al
noncomputable def Cw (p:PV):Option (List Nat):=p.casesOn al (λ_=>al) (λ_=>al) (λi=>ab i) (λ_=>al) (λ_=>al) (λ_=>al) (λ_=>al) (λ_=>al) (λ_=>al) (λ_=>al) (λ_ _=>al) (λ_ _=>al) (λ_ _=>al) al al
noncomputable def At (p:PV):Option (List PV):=p.casesOn al (λ_=>al) (λ_=>al) (λ_=>al) (λ_=>al) (λi=>ab i) (λ_=>al) (λ_=>al) (λ_=>al) (λ_=>al) (λ_=>al) (λ_ _=>al) (λ_ _=>al) (λ_ _=>al) al al
noncomputable def PE (p:PV):Option (bk):=p.casesOn al (λ_=>al) (λ_=>al) (λ_=>al) (λ_=>al) (λ_=>al) (λ_=>al) (λ_=>al) (λi=>ab i) (λ_=>al) (λ_=>al) (λ_ _=>al) (λ_ _=>al) (λ_ _=>al) al al
noncomputable def abS (p:PV):Option (String):=p.casesOn al (λ_=>al) (λ_=>al) (λ_=>al) (λ_=>al) (λ_=>al) (λ_=>al) (λ_=>al) (λ_=>al) (λ_=>al) (λi=>ab i) (λ_ _=>al) (λ_ _=>al) (λ_ _=>al) al al
noncomputable def pTy (p:PV):Option (String):=p.casesOn al (λ_=>al) (λ_=>al) (λ_=>al) (λ_=>al) (λ_=>al) (λ_=>al) (λ_=>al) (λ_=>al) (λi=>ab i) (λ_=>al) (λ_ _=>al) (λ_ _=>al) (λ_ _=>al) al al
theorem vw {f:PV->Option u} {c:u->PV} (g:∀p,p=(f p).elim p c) (h:f p=ab i):p=c i:=(g p).trans<|h▸rfl
theorem uN {i:bk} (h:PE p=ab i):p=.ref i:=vw (λp=>p.casesOn rfl (λ_=>rfl) (λ_=>rfl) (λ_=>rfl) (λ_=>rfl) (λ_=>rfl) (λ_=>rfl) (λ_=>rfl) (λ_=>rfl) (λ_=>rfl) (λ_=>rfl) (λ_ _=>rfl) (λ_ _=>rfl) (λ_ _=>rfl) rfl rfl) h
theorem TP {i:String} (h:abS p=ab i):p=.blt i:=vw (λp=>p.casesOn rfl (λ_=>rfl) (λ_=>rfl) (λ_=>rfl) (λ_=>rfl) (λ_=>rfl) (λ_=>rfl) (λ_=>rfl) (λ_=>rfl) (λ_=>rfl) (λ_=>rfl) (λ_ _=>rfl) (λ_ _=>rfl) (λ_ _=>rfl) rfl rfl) h
theorem PD {i:String} (h:pTy p=ab i):p=.ty i:=vw (λp=>p.casesOn rfl (λ_=>rfl) (λ_=>rfl) (λ_=>rfl) (λ_=>rfl) (λ_=>rfl) (λ_=>rfl) (λ_=>rfl) (λ_=>rfl) (λ_=>rfl) (λ_=>rfl) (λ_ _=>rfl) (λ_ _=>rfl) (λ_ _=>rfl) rfl rfl) h
theorem E5 {i:Unit} (h:E6 p=ab i):p=.none:=vw (c:=λ_=>.none) (λp=>p.casesOn rfl (λ_=>rfl) (λ_=>rfl) (λ_=>rfl) (λ_=>rfl) (λ_=>rfl) (λ_=>rfl) (λ_=>rfl) (λ_=>rfl) (λ_=>rfl) (λ_=>rfl) (λ_ _=>rfl) (λ_ _=>rfl) (λ_ _=>rfl) rfl rfl) h
theorem Cy {i:Int} (h:TO p=ab i):p=.int i:=vw (λp=>p.casesOn rfl (λ_=>rfl) (λ_=>rfl) (λ_=>rfl) (λ_=>rfl) (λ_=>rfl) (λ_=>rfl) (λ_=>rfl) (λ_=>rfl) (λ_=>rfl) (λ_=>rfl) (λ_ _=>rfl) (λ_ _=>rfl) (λ_ _=>rfl) rfl rfl) h
theorem E7 {i:Bool} (h:PF p=ab i):p=.bool i:=vw (λp=>p.casesOn rfl (λ_=>rfl) (λ_=>rfl) (λ_=>rfl) (λ_=>rfl) (λ_=>rfl) (λ_=>rfl) (λ_=>rfl) (λ_=>rfl) (λ_=>rfl) (λ_=>rfl) (λ_ _=>rfl) (λ_ _=>rfl) (λ_ _=>rfl) rfl rfl) h
theorem sV {i:List UInt8} (h:l6 p=ab i):p=.bytes i:=vw (λp=>p.casesOn rfl (λ_=>rfl) (λ_=>rfl) (λ_=>rfl) (λ_=>rfl) (λ_=>rfl) (λ_=>rfl) (λ_=>rfl) (λ_=>rfl) (λ_=>rfl) (λ_=>rfl) (λ_ _=>rfl) (λ_ _=>rfl) (λ_ _=>rfl) rfl rfl) h
theorem qA {i:List Nat} (h:Cw p=ab i):p=.str i:=vw (λp=>p.casesOn rfl (λ_=>rfl) (λ_=>rfl) (λ_=>rfl) (λ_=>rfl) (λ_=>rfl) (λ_=>rfl) (λ_=>rfl) (λ_=>rfl) (λ_=>rfl) (λ_=>rfl) (λ_ _=>rfl) (λ_ _=>rfl) (λ_ _=>rfl) rfl rfl) h
theorem o8 {i:List PV} (h:At p=ab i):p=.tup i:=vw (λp=>p.casesOn rfl (λ_=>rfl) (λ_=>rfl) (λ_=>rfl) (λ_=>rfl) (λ_=>rfl) (λ_=>rfl) (λ_=>rfl) (λ_=>rfl) (λ_=>rfl) (λ_=>rfl) (λ_ _=>rfl) (λ_ _=>rfl) (λ_ _=>rfl) rfl rfl) h
noncomputable def yW (f:PV->PV->Option Bool):List PV->List PV->Option Bool
 |[],[]=>ab ao
 |[],_::_=>ab ah
 |_::_,[]=>ab ah
 |a::l,b::r=>(f a b).bind λx=>(yW f l r).map λy=>x&&y
noncomputable def J0 (g:List PV->List PV->Option Bool) (a b:PV):Option Bool:=match a with
 |.none=>(E6 b).map λ_=>ao
 |.bool x=>(PF b).map λy=>x==y
 |.int x=>(TO b).map λy=>x==y
 |.str x=>(Cw b).map λy=>x==y
 |.bytes x=>(l6 b).map λy=>x==y
 |.tup x=>(At b).bind<|g x
 |_=>al
noncomputable def mK (d:Nat):PV->PV->Option Bool:=xL (J0 λ_ _=>al) (λ_ f=>J0<|yW f) d
inductive NC (K:aN) (μ:List bk) (g:List PV->List PV->Option Bool):Value->Value->Bool->Prop
 |none:NC K μ g .none .none ao
 |bool (a b:Bool):NC K μ g (.bool a) (.bool b) (a==b)
 |int (a:Int) (t:GB) (b:Int) (u:GB):NC K μ g (.int a t) (.int b u) (a==b)
 |str (a:List Nat) (t:GB) (b:List Nat) (u:GB):NC K μ g (.str ⟨af a⟩ t) (.str ⟨af b⟩ u) (a==b)
 |bytes (a:List UInt8) (t:GB) (b:List UInt8) (u:GB):NC K μ g (.bytes (af a) t) (.bytes (af b) u) (a==b)
 |tup (a b:List PV) (v u:Value) (r:Bool) (e:g a b=ab r) (x:vx K AJ (bU K μ a) v) (y:vx K AJ (bU K μ b) u):NC K μ g v u r
theorem pR {K:aN} (e:J0 g a b=ab r) (x:VR K O a v) (y:VR K O b u):NC K O g v u r:=by
 cases a with
 |none=>refine aH (map_some e) λ_ h S=>?_;subst S;obtain rfl:=E5 h;subst x;subst y;exact .none
 |bool a=>refine aH (map_some e) λ_ h S=>?_;subst S;obtain rfl:=E7 h;subst x;subst y;exact .bool _ _
 |int a=>refine aH (map_some e) λ_ h S=>?_;subst S;obtain rfl:=Cy h;refine bd x λ_ S=>?_;subst S;refine bd y λ_ S=>?_;subst S;exact .int _ _ _ _
 |str a=>refine aH (map_some e) λ_ h S=>?_;subst S;obtain rfl:=qA h;refine bd x λ_ S=>?_;subst S;refine bd y λ_ S=>?_;subst S;exact .str _ _ _ _
 |bytes a=>refine aH (map_some e) λ_ h S=>?_;subst S;obtain rfl:=sV h;refine bd x λ_ S=>?_;subst S;refine bd y λ_ S=>?_;subst S;exact .bytes _ _ _ _
 |tup a=>refine aH (bind_some e) λ_ h e=>?_;obtain rfl:=o8 h;exact .tup _ _ _ _ _ e x y
 |_=>exact aC e
theorem vx.same {K:aN} (x:vx K C P v) (y:vx K D Q v):∃vs,P vs/\Q vs:=by
 refine na ?_;intro c;obtain⟨a,o,n,vs,e,k,_,d,p⟩:=x;obtain⟨b,u,m,I,V,Z,_,N,q⟩:=y;cases ag e.symm V;obtain rfl:=ai<|ag k.symm Z
 obtain rfl:=Cb (Data.seq.inj<|ag d.symm N).1;exact⟨vs,p,q⟩
theorem yV {K:aN} (o:∀(a b:PV) (v:Value) (r:Bool),VR K O a v->VR K O b v->f a b=ab r->r=ao):
 ∀v a b r,bU K O a v->bU K O b v->yW f a b=ab r->r=true:=by
 intro v
 induction v with
 |nil=>
  intro a b r x y e
  cases a with
  |nil=>cases b with
   |nil=>exact ae<|ai e
   |cons=>refine iB y λ_ _ y _=>?_;cases y
  |cons=>refine iB x λ_ _ x _=>?_;cases x
 |cons v U F=>
  intro a b r x y e
  cases a with
  |nil=>cases x
  |cons a l=>cases b with
   |nil=>cases y
   |cons b d=>
    refine cL x λ_ _ m p k=>?_;refine cL y λ_ _ i g h=>?_;cases m;cases i;refine aH (bind_some e) λc J e=>?_;refine aH (map_some e) λD W S=>?_;subst S
    (refine(ae<|o a b v c p g J)▸ag (F l d D k h W) ?_);rfl
theorem NC.self {K:aN} (h:NC K O g v u r) (N:∀(v:List Value) (a b:List PV) (r:Bool),bU K O a v->bU K O b v->g a b=ab r->r=ao) (e:v=u):r=true:=by
 induction h with
 |none=>rfl
 |bool a b=>cases e;exact beq_self_eq_true a
 |int a t b u=>cases e;exact beq_self_eq_true a
 |str a t b u=>obtain rfl:=Cb<|Str.mk.inj (Value.str.inj e).1;exact beq_self_eq_true a
 |bytes a t b u=>obtain rfl:=Cb (ajj e).1;exact beq_self_eq_true a
 |tup a b _ _ _ h x y=>subst e;exact aH (x.same y) λU p q=>N U a b _ p q h
theorem LQ {K:aN} (d):∀a b v r,VR K O a v->VR K O b v->mK d a b=ab r->r=true:=by
 induction d with
 |zero=>exactλa b v r x y e=>(pR e x y).self (λ_ _ _ _ _ _ e=>aC e) rfl
 |succ d o=>exactλa b v r x y e=>(pR e x y).self (yV o) rfl
theorem zy (a) (t:GB) (b) (u:GB):EqAt A s (.bytes a t) (.bytes b u) (a.toList==b.toList):=λm w E Q h=>by
 unfold eqBool;refine a8<|wpAny_ite_split (λG=>?_) λ_=>?_
 ·have e:a=b:=by have:=eq_of_beq G;injection this
  subst e;exact ak<|mm<|ar<|by simpa using h
 ·exact ak<|NK<|i0 h
theorem bU.all {K:aN}:∀{l U j},bU K O l U->(h:j<aa U)->∃p,l[j]?=ab p/\VR K O p U[j]:=by
 intro l
 induction l with
 |nil=>intro U j h Q;subst h;exact absurd Q<|iK _
 |cons p l o=>
  intro U j h Q;refine cL h λv r S a b=>?_;subst S
  cases j with
  |zero=>exact⟨p,rfl,a⟩
  |succ j=>exact o b<|sF Q
structure ajb (f:PV->PV->Option Bool) (a b:List PV) (r:Bool) (e:Nat->Bool):Prop where
 all:((dg<|min (aa a)<|aa b).all e&&(aa a)==aa b)=r
 at_:∀j p q,a[j]?=ab p->b[j]?=ab q->f p q=ab (e j)
theorem EZ:∀a b r,yW f a b=ab r->∃e,ajb f a b r e:=by
 intro a
 induction a with
 |nil=>
  intro b r h;refine⟨λ_=>ao,?_,nofun⟩
  cases b with
  |nil=>obtain rfl:=ai h;rfl
  |cons b l=>obtain rfl:=ai h;(refine d7▸(ae (Nat.zero_min ..))▸?_);rfl
 |cons a l o=>
  intro b r h
  cases b with
  |nil=>exact⟨λ_=>ao,by obtain rfl:=ai h;(refine d7▸(ae (Nat.min_zero ..))▸?_);rfl,λ_ _ _ _=>nofun⟩
  |cons b d=>
   refine aH (bind_some h) λc J h=>?_;refine aH (map_some h) λD W S=>?_;subst S;refine bd (o d D W) λe S=>?_;obtain⟨Z,Q⟩:=S;refine⟨λj=>xL c (λj _=>e j) j,?_,λj=>?_⟩
   ·(refine bL▸(ae bL)▸(Nat.add_min_add_right ..)▸?_;refine GJ▸nr▸?_;refine(ae abg)▸(Z)▸?_;refine ag (XI ..) ?_;refine(show(aa l+1==aa d+1)=(aa l==aa d) by simp)▸?_);rfl
   ·cases j with
    |zero=>intro p q F L;obtain rfl:=ai F;obtain rfl:=ai L;exact J
    |succ j=>exact Q j
inductive aan (A:iF) (s:bh) (v u:Value) (r:Bool):Prop
 |mk (i j:bk) (vs ws:Array Value) (f:Nat->Bool) (e:v=.ref i) (e':u=.ref j) (h:s.heap.IsTuple i vs) (h':s.heap.IsTuple j ws) (hr:((dg (min vs.size ws.size)).all f&&vs.size==ws.size)=r)
  (hp:∀m (h1:m<vs.size) (h2:m<ws.size),EqAt A.in1 s vs[m] ws[m]<|f m)
theorem E0 {K:aN}
 (e:yW g a b=ab r) (x:vx K AJ (bU K O a) v) (y:vx K AJ (bU K O b) u) (z:∀x o,K x=ab o->s.heap.get? x=ab o)
 (N:∀(a b:PV) (M h:Value) (r:Bool),g a b=ab r->VR K O a M->VR K O b h->EqAt A.in1 s M h r):aan A s v u r:=by
 obtain⟨i,o,n,U,rfl,k,c,B,R⟩:=x;obtain⟨j,X,w,I,rfl,Z,D,d,P⟩:=y;refine bd (EZ _ _ _ e) λf S=>?_;obtain⟨Y,l⟩:=S;refine⟨i,j,af U,af I,f,rfl,rfl,⟨o,z _ _ k,c,n,B⟩,⟨X,z _ _ Z,D,w,d⟩,?_,λm J W=>?_⟩
 ·(refine aR▸(ae aR)▸R.length▸P.length▸?_);exact Y
 ·exact aH (R.all J) λp F H=>aH (P.all W) λq L t=>N p q _ _ (f m) (l m p q F L) H t
theorem NC.ad5 {K:aN} (h:NC K O g v u r) (N:∀(v:List Value) (a b:List PV) (r:Bool),bU K O a v->bU K O b v->g a b=ab r->r=ao)
 (V:A.units<yk) (z:∀a b v u r,g a b=ab r->vx K AJ (bU K O a) v->vx K AJ (bU K O b) u->aan A s v u r):EqAt A s v u r:=by
 have G:=h.self N
 induction h with
 |none=>exact ajp _
 |bool a b=>exact EqAt.bool_bool _ _
 |int a t b u=>exact EqAt.int_int _ _ _ _
 |str a t b u=>have h:=EqAt.str_str (A:=A) (s:=s) ⟨af a⟩ t ⟨af b⟩ u;rwa [<-str_beq] at h
 |bytes a t b u=>exact zy (af a) t (af b) u
 |tup a b _ _ _ h x y=>
  obtain⟨i,j,U,I,f,rfl,rfl,J,W,rfl,F⟩:=z a b _ _ _ h x y;by_cases C:i=j
  ·(refine(G<|congrArg _ C)▸C▸?_);exact ajp _
  ·exact EqAt.of_refs C<|afM J W V F
theorem JZ {K:aN} (d):∀a b M h r A s,mK d a b=ab r->VR K O a M->VR K O b h->(∀x o,K x=ab o->s.heap.get? x=ab o)->A.units+d<yk->EqAt A s M h r:=by
 induction d with
 |zero=>exactλa b M h r A s e x y z V=>(pR e x y).ad5 (λ_ _ _ _ _ _ e=>aC e) V λ_ _ _ _ _ e=>aC e
 |succ d Z=>exactλa b M h r A s e x y z V=>(pR e x y).ad5 (yV<|LQ d) (bX (cn _ _) V) λ_ _ _ _ _ e x y=>E0 e x y z λa b M h r e x y=>Z a b M h r A.in1 s e x y z<|by refine(xw ..)▸?_;(refine(d8 ..)▸(gh 1 ..)▸?_);exact V
end
end
open de renaming push->Ab
open aV renaming trans->js
open aj renaming bind->cu,bind'->cr,zx->amB,holding->jF,map->GF,operate->Eg,pure->f8,quiet->Aa,stand->bz,stuck->be,val->bD,weak->lg
section
open PySem PySem.W PySem.Calls PyProof.Rows PySem.SeqAt
section
open Classical
noncomputable def nu (H:Hp) (p:PV):Option (List PV):=by
 cases p
 case lst l=>exact ab l
 case dR i=>exact H[i]?
 all_goals exact al
theorem sL {X K:aN} (N:Inv X K O H M h) (x:VR K O p r) (e:nu H p=ab l):
 ∃a vs,r=.ref a/\h.IsList a (af vs)/\bU K O l vs:=by
 cases p with
 |lst Z=>obtain rfl:=ai e;obtain⟨a,o,n,vs,rfl,k,c,d,r⟩:=x;exact⟨a,vs,rfl,⟨o,N.sub _ _ k,c.1,n,d⟩,r⟩
 |dR i=>refine aH x ?_;clear x;intro a I S;subst S;obtain⟨_,o,n,vs,V,c,d,r⟩:=N.ky.at_ i a _ I e;exact⟨a,vs,rfl,⟨o,V,c.1,n,d⟩,r⟩
 |_=>exact aC e
noncomputable def ir (a:Int):Bool:=decide (-2^63<a)&&decide (a<2^63)
def bJ (o:Option B) (k:B->IM α):IM α:=o.elim aP k
def ch (p:PV) (k:Int->IM α):IM α:=by
 cases p
 case int i=>exact k i
 all_goals exact aP
def onBytes (p:PV) (k:List UInt8->IM α):IM α:=by
 cases p
 case bytes i=>exact k i
 all_goals exact aP
def onStr (p:PV) (k:List Nat->IM α):IM α:=by
 cases p
 case str i=>exact k i
 all_goals exact aP
def CI (p:PV) (k:Bool->IM α):IM α:=by
 cases p
 case bool i=>exact k i
 all_goals exact aP
def aad (I:to) (a b:PV):IM PV:=by
 cases I
 case Add=>
  cases a
  case int x=>exact ch b λy=>ax<|.int<|x+y
  case bytes x=>exact onBytes b λy=>if aa x+aa y<=16777216 then ax (.bytes<|x++y) else aP
  case str x=>exact onStr b λy=>if aa x+aa y<=16777216 then ax (.str<|x++y) else aP
  all_goals exact aP
 case Sub=>exact ch a λx=>ch b λy=>ax<|.int<|x-y
 case Mult=>exact ch a λx=>ch b λy=>if ir x||ir y then ax (.int<|x*y) else aP
 case Mod=>exact ch a λx=>ch b λy=>if y=0 then aP else ax (.int<|h8 x y)
 case FloorDiv=>exact ch a λx=>ch b λy=>if y=0\/1073741824<=y.natAbs then aP else ax (.int<|rz x y)
 case Pow=>exact ch a λx=>ch b λy=>if 0<=y/\y<=1000000/\ir x then ax (.int<|x^y.toNat) else aP
 all_goals exact aP
section
theorem LG (h:(ir a||ir b)=ao):IntMulOk a b:=by
 simp only[ir,gE,bt,decide_eq_true_eq] at h;rcases h with h|h
 ·exact IntMulOk.of_left<|intBits_le_64 (kr (by decide) h.1)<|kr h.2<|by decide
 ·exact IntMulOk.of_right<|intBits_le_64 (kr (by decide) h.1)<|kr h.2<|by decide
theorem LH (h:ir a=ao):-2^63<a/\a<2^63:=by simpa[ir] using h
theorem Hm (h:ir a=ao):a.natAbs<2^64:=by
 refine bC (LH h) λJ W=>Jt (cJ.mp<|?_) (by decide:2^63<2^64);rcases Int.natAbs_eq a with e|e
 ·exact eF (aT e.symm) W
 ·exact Int.lt_of_neg_lt_neg<|lK J<|aT e
theorem ft {K:aN}:VR K O (.int i) (.int i t):=⟨t,rfl⟩
theorem jQ {K:aN}:VR K O (.bytes b) (.bytes (af b) t):=⟨t,rfl⟩
theorem DE {K:aN}:VR K O (.str b) (.str ⟨af b⟩ t):=⟨t,rfl⟩
theorem tf {K:aN}:VR K O (.bool b) (.bool b):=rfl
theorem qO {K:aN}:VR K O .none .none:=rfl
theorem Tm (a b:List Nat):(⟨af a⟩:am)++⟨af b⟩=⟨af<|a++b⟩:=by apply PySem.Str.ext';refine ag (PySem.Str.cps_append ..) ?_;simp
section
variable [Decidable c]
theorem aj.bJ (h:∀x,o=ab x->aj w X W n C (k x) R t):aj w X W n C (Internal.bJ o k) R t:=by
 induction o with
 |none=>exact be
 |some x=>exact h x rfl
theorem aj.ch (h:∀i,p=.int i->aj w X W n C (k i) R t):aj w X W n C (ch p k) R t:=by cases p<;>first|exact h _ rfl|exact be
theorem aj.onBytes (h:∀i,p=.bytes i->aj w X W n C (k i) R t):aj w X W n C (onBytes p k) R t:=by cases p<;>first|exact h _ rfl|exact be
theorem aj.onStr (h:∀i,p=.str i->aj w X W n C (k i) R t):aj w X W n C (onStr p k) R t:=by cases p<;>first|exact h _ rfl|exact be
theorem aj.CI (h:∀i,p=.bool i->aj w X W n C (k i) R t):aj w X W n C (CI p k) R t:=by cases p<;>first|exact h _ rfl|exact be
theorem aj.r3 (h:c->aj w X W n C m R t):aj w X W n C (if c then m else aP) R t:=by
 by_cases q:c
 ·exact(if_pos q)▸h q
 ·exact(if_neg q)▸be
theorem aj.Y3 (h:¬c->aj w X W n C m R t):aj w X W n C (if c then aP else m) R t:=by
 by_cases q:c
 ·exact(if_pos q)▸be
 ·exact(if_neg q)▸h q
end
open aj renaming r3->cU,ch->dm
def Jf (w:dG) (t:jE Value) (p:PV):Prop:=∀A s Q E,(∀v k,(∀(K:aN) (O:List bk),VR K O p v)->Q v {s with toks:=k})->aD (MM w) A t Q E s
theorem Jf.sound (h:∀K O g,C K O g->Jf w t p):aj w X W n C (ax p) e7 t:=
 bD λA s K O Q E _ _ _ _ c _ k=>h _ _ _ c A s Q E λv _ f=>k v _ _ (.refl _) (f K O)
open Jf renaming sound->SI
theorem aj.ii {I:Value->Value->jE Value} (h:∀t u,Jf w (I (.int i t)<|.int j u) p):aj w X W n (λK O _=>VR K O (.int i) r/\VR K O (.int j) q) (ax p) e7 (I r q):=
 SI λK O _ c=>by refine bC c ?_;clear c;intro S H;refine bd S ?_;clear S;intro t Z;subst Z;refine bd H ?_;clear H;intro u L;subst L;exact h t u
open aj renaming ii->xx
theorem zR (I:to) (a b:PV) (r q:Value):aj w X W n (λK O _=>VR K O a r/\VR K O b q) (aad I a b) e7 (V3 I r q):=by
 cases I<;>first|exact be|skip
 ·cases a<;>first|exact be|skip
  ·refine dm λj e=>?_;subst e;exact xx λt u A s Q E h=>add_int<|h _ _ λ_ _=>ft
  ·refine aj.onStr λj e=>cU λG=>?_;subst e;refine SI λK O _ c=>?_;refine bC c ?_;clear c;intro S H;refine bd S ?_;clear S;intro t Z;subst Z;refine bd H ?_;clear H;intro u L;subst L
   exactλA s Q E h=>add_str (λY k=>by exact(Tm ..)▸h _ _ λ_ _=>DE)<|by refine bg▸?_;simpa[PySem.Str.length] using G
  ·refine aj.onBytes λj e=>cU λG=>?_;subst e;refine SI λK O _ c=>?_;refine bC c ?_;clear c;intro S H;refine bd S ?_;clear S;intro t Z;subst Z;refine bd H ?_;clear H;intro u L;subst L
   exactλA s Q E h=>KBy.add_bytes (by simpa using G) λY k=>by exact(NR ..)▸h _ _ λ_ _=>jQ
 ·refine dm λi e=>dm λj V=>?_;subst e V;exact xx λt u A s Q E h=>sub_int<|h _ _ λ_ _=>ft
 ·refine dm λi e=>dm λj V=>cU λG=>?_;subst e V;exact xx λt u A s Q E h=>agC (h _ _ λ_ _=>ft)<|LG G
 ·refine dm λi e=>dm λj V=>aj.Y3 λG=>?_;subst e V;exact xx λt u A s Q E h=>mod_int' G<|h _ _ λ_ _=>ft
 ·refine dm λi e=>dm λj V=>cU λG=>?_;subst e V;exact xx λt u A s Q E h=>pow_int_small G.1 G.2.1 (Hm G.2.2)<|h _ _ λ_ _=>ft
 ·refine dm λi e=>dm λj V=>aj.Y3 λG=>?_;subst e V;exact xx λt u A s Q E h=>floordiv_int (λq=>G<|.inl q) (h _ _ λ_ _=>ft)<|.inl<|DT<|Nat.lt_of_not_le λq=>G<|.inr q
def Y4 (p:PV):IM PV:=ch p λa=>ax<|.int (-a)
theorem HP (a:PV) (r:Value):aj w X W n (λK O _=>VR K O a r) (Y4 a) e7 (unaryOp .USub r):=by
 refine dm λi e=>?_;subst e;refine SI λK O _ c=>?_;refine bd c ?_;clear c;intro t S;subst S
 exactλA s Q E h=>neg_int<|h _ _ λ_ _=>ft
def gP (p:PV):IM Bool:=by
 cases p
 case bool b=>exact ax b
 case none=>exact ax ah
 all_goals exact aP
def KV (a b:u):xg:=λ_ _ _=>a=b
theorem qw (a r):aj w X W n (λK O _=>VR K O a r) (gP a) (KV (u:=Bool)) (wy r):=by
 cases a<;>first|exact be|skip
 ·refine bD λA s K O Q E _ _ _ _ c _ h=>?_;obtain rfl:r=.none:=c;exact ar<|h _ _ s.toks (.refl _) rfl
 ·refine bD λA s K O Q E _ _ _ _ c _ h=>?_;obtain rfl:r=.bool _:=c;exact i0<|h _ _ s.toks (.refl _) rfl
end
end
section
open Classical
theorem NC.rc {K:aN} (h:NC K O g v u r)
 (V:A.units<yk) (z:∀a b v u r,g a b=ab r->vx K AJ (bU K O a) v->vx K AJ (bU K O b) u->aan A s v u r):RcAt A s v u r/\RcNeAt A s v u (!r):=by
 induction h with
 |none=>exact⟨RcAt.none_none,RcNeAt.none_none⟩
 |bool a b=>exact⟨RcAt.bool_bool _ _,RcNeAt.bool_bool _ _⟩
 |int a t b u=>exact⟨RcAt.int_int _ _ _ _,RcNeAt.int_int _ _ _ _⟩
 |str a t b u=>rw[show(a==b)=((⟨af a⟩:am)==⟨af b⟩) from str_beq ⟨af a⟩ ⟨af b⟩];exact⟨RcAt.str_str _ _ _ _,RcNeAt.str_str _ _ _ _⟩
 |bytes a t b u=>exact⟨λm w E Q h=>NK h,λm w E Q h=>PySem.W.ne_bytes h⟩
 |tup a b _ _ _ h x y=>obtain⟨i,j,U,I,f,rfl,rfl,J,Z,rfl,F⟩:=z a b _ _ _ h x y;exact⟨afM J Z V F,RcNeAt.tuples J Z V F⟩
theorem JY {K:aN} (e:mK 8 a b=ab r) (x:VR K O a M) (y:VR K O b h)
 (z:∀x o,K x=ab o->s.heap.get? x=ab o) (V:A.units+8<yk):RcAt A s M h r/\RcNeAt A s M h (!r):=
 (pR e x y).rc (bX (cn _ _) V) λ_ _ _ _ _ e x y=>E0 e x y z λa b M h r e x y=>JZ 7 a b M h r A.in1 s e x y z (by rw[xw];rw[d8,gh 1];exact V)
def zx (a b:PV):IM Bool:=λH=>match nu H a,nu H b with
 |some l,ab d=>if aa l≠aa d then .ok ah H else if l=[] then .ok ao H else .stuck
 |_,_=>match mK 8 a b with
  |some r=>.ok r H
  |none=>.stuck
theorem aj.ag0 {R:u->z->xg}
 (h:∀(A:iF) (s:bh) (K:aN) (O:List bk) (H:Hp) (M:List lV) (Q:z->bh->Prop) (E:Value->bh->Prop),kl n A M->Inv X K O H M s.heap->C K O s.heap->m H≠.stuck->
  ∃a,m H=.ok a H/\((∀r G tk,de s.heap G->R a r K O G->Q r {s with heap:=G,toks:=tk})->aD (MM w) A t Q E s)):aj w X W n C m R t:=
 λA s K O H M I N c L=>by exact aH (h A s K O H M (y0 X W M K O s R<|m H) (yc X W M K O s<|m H) I N c L) λa e k=>k λr G tk Z d=>⟨a,H,K,O,e,Z.step,N.keep Z,d,rfl,rfl⟩
theorem FX (a b r q) (m:Bool):aj w X W n (λK O _=>VR K O a r/\VR K O b q) (zx a b) (λx v _ _ _=>v=mW (x !=m)) (iY (if m then .NotEq else .Eq) r q):=by
 refine aj.ag0 λA s K O H M Q E I N c L=>?_
 have u:∀x,(RcAt A s r q x/\RcNeAt A s r q (!x))->(∀r G tk,de s.heap G->r=mW (x !=m)->Q r {s with heap:=G,toks:=tk})->aD (MM w) A (iY (if m then .NotEq else .Eq) r q) Q E s:=λx T k=>by
  cases m
  ·exact T.1 _ w _ _ (k _ _ s.toks (.refl _) (by simp))
  ·exact T.2 _ w _ _ (k _ _ s.toks (.refl _) (by cases x<;>rfl))
 unfold zx at L|-
 cases J:nu H a with
 |none=>
  simp only[J] at L|-
  cases e:mK 8 a b with
  |none=>simp[e] at L
  |some x=>exact⟨x,rfl,u x<|JY e c.1 c.2 N.sub<|I.ule<|by decide⟩
 |some l=>
  cases Z:nu H b with
  |none=>
   simp only[J,Z] at L|-
   cases e:mK 8 a b with
   |none=>simp[e] at L
   |some x=>exact⟨x,rfl,u x<|JY e c.1 c.2 N.sub<|I.ule<|by decide⟩
  |some d=>
   simp only[J,Z] at L|-
   refine cL (sL N c.1 J) λi F S C R=>?_;subst S;refine cL (sL N c.2 Z) λj z S g P=>?_;subst S;have y:=R.length;have D:=P.length;by_cases B:aa l≠aa d
   ·rw[if_pos B];have V:=bne_iff_ne.mpr λq=>B<|ag y.symm<|ag q D
    exact⟨ah,rfl,u ah ⟨RcAt.lists_lengths C g V (I.ule (k:=0)<|by decide),RcNeAt.lists_lengths C g V<|I.ule (k:=0)<|by decide⟩⟩
   ·rw[if_neg B] at L|-
    by_cases Y:l=[]
    ·rw[if_pos Y];subst Y;have f:=cw.mp<|by simpa using y
     have U:=cw.mp<|ag D (Decidable.not_not.mp B).symm
     subst f;subst U;have t1:=RcAt.lists (e:=λ_=>ao) C g rfl (I.ule (k:=0)<|by decide) λj J=>absurd J<|iK _
     have t2:=RcNeAt.lists (e:=λ_=>ao) C g rfl (I.ule (k:=0)<|by decide) λj J=>absurd J<|iK _
     exact⟨ao,rfl,u ao ⟨by simpa using t1,by simpa using t2⟩⟩
    ·rw[if_neg Y] at L;exact absurd rfl L
end
end
open aj renaming r3->cU,onBytes->g4,ch->dm,bJ->eP,onStr->tL
section
open PySem PySem.W PySem.Calls PyProof.Rows
section
variable {KF K:aN}
theorem Inv.HF (N:Inv KF K O H M h) (g:K a=al) (t:a∉O) (G:fK a h h')
 (Y:∀o,h.get? a=ab o->b4 o->∃u,h'.get? a=ab u/\b4 u):Inv KF K O H M h':=
 ⟨N.par,N.stat,λb o e=>by
    refine ag (G.2 b<|by rintro rfl;rw[g] at e;exact aC e) ?_;exact N.sub b o e,N.kf,
  ⟨N.ky.len,N.ky.nodup,λi b l D C=>by
   obtain⟨k,o,n,U,e,s,A,S⟩:=N.ky.at_ i b l D C
   exact⟨k,o,n,U,by refine ag (G.2 b<|by rintro rfl;exact t<|bq D) ?_;exact e,s,A,S⟩⟩,
  ⟨λZ J=>by
   refine na ?_;intro d;obtain⟨k,L,o,f,v,m,e,fo,fr⟩:=N.stk.all Z J;by_cases q:L=a
   ·subst q;exact aH (Y o e fo) λu V c=>⟨k,L,u,f,v,m,V,c,fr⟩
   ·exact⟨k,L,o,f,v,m,by exact ag (G.2 L q)<|e,fo,fr⟩⟩⟩
theorem jt (G:fK a h h') (U:a∈W) (z:∃u,h'.get? a=ab u):Step W K O h K O h':=
 ⟨rfl,λ_ _ e=>e,λ_ _ e=>.inl e,⟨[],by simp,by simp⟩,λb o e=>by
     by_cases q:b=a
     ·subst q;exact z
     ·exact⟨o,by exact ag (G.2 b q)<|e⟩,
  λb o e _ B=>⟨o.slots,by exact ag (G.2 b λq=>B<|q▸U)<|e,.inl rfl⟩,λ_ q=>.inl q⟩
theorem Step.hide (x:Step W K O h k dU f) (y:Step W' k dU f C z h₂) (U:∀a∈W',a∈W\/h.get? a=fM):
 Step W K O h C z h₂:=by
 refine aH x.pre λR m Q=>aH y.pre λd i b=>⟨ag y.par x.par,λa o e=>y.kle a o<|x.kle a o e,λa o e=>?_,⟨R++d,by(refine ag i ?_;refine m▸?_;rw[eZ]),λa ha=>?_⟩,λa o e=>?_,λa o e t B=>?_,λa q=>?_⟩
 ·rcases y.new a o e with e|l
  ·exact x.new a o e
  ·exact .inr<|x.none l
 ·rcases eB.mp ha with ha|ha
  ·exact Q a ha
  ·exact x.none<|b a ha
 ·exact bd (x.there a o e) λu V=>y.there a u V
 ·refine aH (x.keep a o e t B) λp V hs=>?_
  have Y:a∉dU:=by
   refine m▸?_;intro q;rcases eB.mp q with q|q
   ·exact t q
   ·have:=Q a q;rw[e] at this;cases this
  have c:a∉W':=λq=>by
   rcases U a q with q|q
   ·exact B q
   ·rw[e] at q;cases q
  refine aH (y.keep a _ V Y c) λn g J=>⟨n,g,?_⟩;rcases hs with hs|hs
  ·subst hs;refine J.imp id λq=>⟨q.1,?_⟩;rcases x.frs a q.2 with r|r
   ·exact r
   ·rw[e] at r;cases r
  ·exact .inr hs
 ·rcases y.frs a q with q|q
  ·exact x.frs a q
  ·exact .inr<|x.none q
end
def vz (a:bk) (h G:eG):Prop:=∃o u,h.get? a=ab o/\G.get? a=ab u/\u.cls=o.cls
theorem J1 (g:o.data=.dict u Q):(NN n h k v o).cls=o.cls/\(NN n h k v o).isFreed=false:=by
 cases o with|mk c d B p=>?_
 subst g;refine Obj.putName_eq▸?_;unfold Obj.putNameByArray;dsimp only;cases u.findIdx? (λe:cE=>e.key.isStr n)<;>exact⟨rfl,rfl⟩
theorem Bd {P:Unit->bh->Prop} (B:s.heap.Ns a m)
 (j:Sem.wp M d (nsSet a name v) (λu _ F=>vz a s.heap F.heap->P u F) E p s):Sem.wp M d (nsSet a name v) (λu _ F=>P u F) E p s:=by
 refine II B λo Z Q L g z _=>?_;have x:Z.any (·.refKey)=false:=K7.mpr λe J=>kY (z e J) λn t h=>by unfold JA;exact h▸bp
 simp only[nsSet,strHash,Sem.wp_bind',Sem.wp_cmd_ask,Sem.wp_pure',Sem.wp_cmd_mkText] at j|-
 rw[Sem.wp_loadPart_of M d _ p {s with toks:=s.toks+1} _ L] at j|-
 simp only[g,aRefKeyMayBeTheName_eq,aRefKeyMayBeTheNameByArray,x,hV,bO,if_false,Sem.wp_cmd_updatePart] at j|-
 exact⟨j.1,j.2 ⟨o,_,L,ei _ L (J1 g).2,(J1 g).1⟩⟩
theorem B6 (B:s.heap.Ns a m)
 (h:∀G,G.Ns a (λx=>if x=name then ab v else m x)->fK a s.heap G->vz a s.heap G->Q () {s with heap:=G,toks:=s.toks+1}):
 aD M A (nsSet a name v) Q E s:=λd p _=>Bd B<|Sem.wp_nsSet M d (λe _ F=>E e F) p s B name v (λu _ F=>vz a s.heap F.heap->Q u F) h
structure vy (env:lV):Prop where
 kind:env.scope.kind=.function
 glob:env.globals=3
 bi:env.builtins=0
 apart:env.cells.Pairwise λx y=>x.2≠y.2
 has:∀x,env.kindOf x=ab .cell\/env.kindOf x=ab .free->∃c,env.cells.lookup x=ab c
abbrev bN:=List<|Option PV
inductive zX (env:lV) (K:aN) (μ:List bk) (h:eG) (c:bk):Prop
 |mk (k:K c=al) (m:c∉μ) (ne:c≠env.locals) (v:Option Value) (hc:h.IsCell c v)
theorem zX.k0 {K:aN} (x:zX Z K O h c):K c=none:=by cases x;assumption
theorem zX.ne {K:aN} (x:zX Z K O h c):c≠Z.locals:=by cases x;assumption
inductive afs (env:lV) (K:aN) (μ:List bk) (m:V4->Option Value) (x:V4) (p:PV):Prop
 |mk (k:env.kindOf x=ab .local) (v:Value) (e:m x=ab v) (r:VR K μ p v)
inductive aas (env:lV) (K:aN) (μ:List bk) (h:eG) (x:V4) (p:PV):Prop
 |mk (k:env.kindOf x=ab .cell\/env.kindOf x=ab .free) (c:bk) (v:Value) (e:env.cells.lookup x=ab c) (hc:h.IsCell c (ab v)) (r:VR K μ p v)
inductive aS (env:lV) (names:List V4) (σ:bN) (K:aN) (μ:List bk) (h:eG):Prop
 |mk (m:V4->Option Value) (hn:h.Ns env.locals m) (hk:K env.locals=al) (hm:env.locals∉μ) (hcs:∀x c,(x,c)∈env.cells->zX env K μ h c)
  (hv:∀(i:Nat) (x:V4) (p:PV),names[i]?=ab x->σ[i]?=ab (ab p)->
   afs env K μ m x p\/aas env K μ h x p)
theorem Step.ns {K j:aN} (st:Step W K O h j l G) (x:h.Ns a m) (t:a∉O) (U:a∉W):G.Ns a m:=by refine se x λo u Q e r=>?_;exact aH (st.keep a o e t U) λp V _=>⟨_,u,Q,V,r⟩
theorem Step.cell {K j:aN} (st:Step W K O h j l G) (x:h.IsCell c v) (t:c∉O) (U:c∉W):G.IsCell c v:=by refine aH x λo e r=>?_;exact aH (st.keep c o e t U) λp V _=>⟨_,V,r⟩
theorem Step.ls {K j:aN} (st:Step W K O h j l G) (k:K a=fM) (e:h.get? a=ab o):j a=fM:=by
 cases q:j a with
 |none=>rfl
 |some u=>
  rcases st.new a u q with q|q
  ·rw[k] at q;exact aC q
  ·rw[e] at q;cases q
theorem Step.lr {K j:aN} (st:Step W K O h j rq G) (m:a∉O) (e:h.get? a=ab o):a∉rq:=by
 refine aH st.pre λR S Q=>?_;subst S;intro q;rcases eB.mp q with q|q
 ·exact m q
 ·have:=Q a q;rw[e] at this;cases this
theorem aS.stable (C:Z.locals∉W) (P:∀x c,(x,c)∈Z.cells->c∉W):fD W (aS Z Y X):=by
 intro K O h j l G ⟨m,B,z,t,n,f⟩ st;refine se (id B) λo _ _ e _=>⟨m,st.ns B t C,st.ls z e,st.lr t e,λx c q=>?_,λi x p T F=>?_⟩
 ·obtain⟨k,U,H,v,r⟩:=n x c q;exact aH (id r) λu V _=>⟨st.ls k V,st.lr U V,H,v,st.cell r U<|P x c q⟩
 ·rcases f i x p T F with ⟨a,v,b,c⟩|⟨a,c,v,b,d,e⟩
  ·exact .inl ⟨a,v,b,fv st c⟩
  ·obtain⟨_,U,_⟩:=n x c (mem_of_lookup b);exact .inr ⟨a,c,v,b,st.cell d U<|P x c<|mem_of_lookup b,fv st e⟩
theorem aS.bE:fD [] (aS Z Y V):=aS.stable (by simp)<|by simp
def H8 (V:bN) (i:Nat):IM PV:=bJ (V[i]?).join ax
theorem Mg (r:vy Z) (T:Y[i]?=ab x) (g:(x==("__classdict__":V4))=ah):
 aj w X W n (aS Z Y V) (H8 V i) e7 (qT Z x):=by
 refine eP λp F=>bD λA s K O Q E _ _ _ _ c _ h=>?_;refine na ?_;intro j;obtain⟨m,B,_,_,_,f⟩:=c;rcases f i x p T (DU.mp F) with ⟨a,v,b,c⟩|⟨a|a,c,v,b,d,e⟩
 ·exact wx r.kind a B b<|h _ _ s.toks (.refl _) c
 ·exact xI r.kind a b d<|h _ _ s.toks (.refl _) e
 ·exact Xx r.kind a b d (h _ _ s.toks (.refl _) e) g
noncomputable def aX (Z:lV):List Addr:=Z.locals::Z.cells.map (·.2)
theorem kS {K:aN} (hF:vy Z) (T:Y[i]?=ab x) (g:Y.Nodup) (D:i<aa σ)
 (z:Z.kindOf x=ab .local\/(Z.kindOf x=ab .cell/\∀a∈aX Z,a∈W)) (hW1:Z.locals∈W) (N:Inv KF K O H M s.heap) (P:aS Z Y σ K O s.heap/\VR K O p v):
 aD (MM w) A (afC Z x v) (λ_ F=>Step W K O s.heap K O F.heap/\Inv KF K O H M F.heap/\aS Z Y (σ.set i<|ab p) K O F.heap/\aV s F) E s:=by
 refine xC ?_;intro akk;refine bC P λS hpv=>?_;obtain⟨m,B,hk0,t,n,hv⟩:=S;rcases z with z|⟨z,hW⟩
 ·have hp:(Z.scope.kind==.class||(Z.scope.kind==.module&&Z.locals !=Z.globals))=false:=by refine hF.kind▸?_;rfl
  refine kI (storeName_local z hp ..)<|B6 B λh' hn' G SS=>cL SS λo o' e V k=>?_
  have xZ:=N.HF hk0 t G λo1 e1 l=>by rw[e] at e1;obtain rfl:=ai e1;refine wi (id hn') λo2 es Q e2 d2 _=>?_;rw[V] at e2;obtain rfl:=ai e2;exact⟨o',V,ag k l.1,es,Q,d2⟩
  refine⟨jt G hW1 ⟨o',V⟩,xZ,⟨_,hn',hk0,t,λy c q=>?_,λj y q I L=>?_⟩,rfl,rfl⟩
  ·obtain⟨a,b,ne,u,P⟩:=n y c q;exact⟨a,b,ne,u,P.sameBut G ne⟩
  ·by_cases C:i=j
   ·subst C;rw[T] at I;obtain rfl:=ai I;rw[cH D] at L;cases L;exact .inl ⟨z,v,by simp,hpv⟩
   ·rw[dQ C] at L
    have X:y≠x:=λq=>C (by
     subst q;have J:=(aA.mp T)
     exact(xr J.1 g).mp<|by(refine ag T ?_;rw[I]))
    rcases hv j y q I L with ⟨a,u,b,c⟩|⟨a,c,u,b,d,e⟩
    ·exact .inl ⟨a,u,by simp[X,b],c⟩
    ·exact .inr ⟨a,c,u,b,d.sameBut G (n y c<|mem_of_lookup b).ne,e⟩
 ·refine bd (hF.has x<|.inl z) λc P=>?_;obtain⟨a,b,ne,u,r⟩:=n x c<|mem_of_lookup P
  refine aH (id r) λoc ec dc=>wpAny_storeName_cell hF.kind z P r λh' hc' G=>aH (id hc') λoc' ec' _=>?_
  have xZ:=N.HF a b G λo1 e1 l=>by rw[ec] at e1;obtain rfl:=ai e1;refine na ?_;intro amk;refine bC l λ_ S=>kY S λes Q d=>?_;rw[dc] at d;cases d
  refine⟨jt G (hW _ ?_) ⟨oc',ec'⟩,xZ,⟨m,B.sameBut G<|jm ne,hk0,t,λy d q=>?_,λj y q I L=>?_⟩,rfl,rfl⟩
  ·have:=mem_of_lookup P;simp only[aX,aL,b2];exact .inr ⟨_,this,rfl⟩
  ·refine na ?_;intro amj;obtain⟨R,U,h,u',Zv⟩:=n y d q;by_cases f:d=c
   ·subst f;exact⟨R,U,h,_,hc'⟩
   ·exact⟨R,U,h,_,Zv.sameBut G f⟩
  ·by_cases C:i=j
   ·subst C;rw[T] at I;obtain rfl:=ai I;rw[cH D] at L;cases L;exact .inr ⟨.inl z,c,v,P,hc',hpv⟩
   ·rw[dQ C] at L
    have X:y≠x:=λq=>C (by
     subst q;have J:=(aA.mp T)
     exact(xr J.1 g).mp<|by(refine ag T ?_;rw[I]))
    rcases hv j y q I L with ⟨a,u,b,c⟩|⟨a,c',u,b,d,e⟩
    ·exact .inl ⟨a,u,b,c⟩
    ·exact .inr ⟨a,c',u,b,d.sameBut G λq=>X<|name_of_addr hF.apart (mem_of_lookup b)<|q▸mem_of_lookup P,e⟩
theorem EF (r:vy Z) (T:Y[i]?=ab x) (g:Y.Nodup) (D:i<aa V)
 (z:Z.kindOf x=ab .local\/(Z.kindOf x=ab .cell/\∀a∈aX Z,a∈W)) (b:Z.locals∈W):
 aj w X W n (λK O h=>aS Z Y V K O h/\VR K O p v) (ax ()) (λ_ _=>aS Z Y<|V.set i<|ab p) (afC Z x v):=
 λ_ _ K O H _ _ N c _=>aZ (kS r T g D z b N c) (λ_ _ d=>vh d λst P fr U=>⟨(),H,K,O,rfl,st,P,fr,U⟩) λ_ _ (x:False)=>x.elim
end
open aS renaming bE->dw
section
open PySem PySem.W PySem.Calls PyProof.Rows PySem.SeqAt
section
open Classical
def PH (I:Wf) (a b:PV):IM Bool:=by
 cases I
 case Lt=>exact ch a λx=>ch b λy=>ax<|decide<|x<y
 case LtE=>exact ch a λx=>ch b λy=>ax<|decide<|x<=y
 case Gt=>exact ch a λx=>ch b λy=>ax<|decide<|y<x
 case GtE=>exact ch a λx=>ch b λy=>ax<|decide<|y<=x
 all_goals exact aP
noncomputable def CY (p:PV):Option Bool:=by
 cases p
 case none=>exact ab ao
 case Au=>exact al
 case ref=>exact al
 case tZ=>exact al
 all_goals exact ab ah
noncomputable def Ik (H:Hp) (p:PV):Option (List PV):=by
 cases p
 case tup l=>exact ab l
 case lst l=>exact ab l
 case dR i=>exact H[i]?
 all_goals exact al
def Ba (l:List PV) (k:PV->IM α):IM α:=match l with
 |[p]=>k p
 |_=>aP
def Wv (l:List PV) (k:PV->PV->IM α):IM α:=match l with
 |[p,q]=>k p q
 |_=>aP
def on3 (l:List PV) (k:PV->PV->PV->IM α):IM α:=match l with
 |[p,q,r]=>k p q r
 |_=>aP
def gQ (p:PV) (k:List PV->IM α):IM α:=λH=>bJ (nu H p) k H
def ku (p:PV) (k:List PV->IM α):IM α:=λH=>bJ (Ik H p) k H
noncomputable def abR (p:PV):Option (List Int):=p.casesOn al (λ_=>al) (λ_=>al) (λ_=>al) (λ_=>al) (λ_=>al) (λ_=>al) (λ_=>al) (λ_=>al) (λ_=>al) (λ_=>al) (λ_ _=>al) (λ_ _=>al) (λi _=>ab i) al al
def WY (m:Bool) (p r:PV):IM Bool:=(abR r).elim (ku r λl=>if l.all (λq=>(mK 8 q p).isSome) then ax (l.any (λq=>mK 8 q p==ab ao)!=m) else aP) λj=>ch p λi=>ax<|j.contains i !=m
def rh:Bool->Value->xg:=λx v _ _ _=>v=mW x
theorem CA {f:Int->Int->Bool} (h:∀(A:iF) (E:Value->bh->Prop) (s:bh) (x y:Int) (t u:GB) (Q:Value->bh->Prop),Q (.bool<|f x y) s->aD (MM w) A (iY I (.int x t)<|.int y u) Q E s):
 aj w X W n (λK O _=>VR K O a r/\VR K O b q) (ch a λx=>ch b λy=>ax<|f x y) rh (iY I r q):=by
 refine dm λx e=>dm λy V=>?_;subst e V;refine bD λA s K O Q E _ _ _ _ c _ k=>?_;refine bC c ?_;clear c;intro S H;refine bd S ?_;clear S;intro t Z;subst Z;refine bd H ?_;clear H;intro u L;subst L;exact h _ _ _ _ _ _ _ _ (k _ _ s.toks (.refl _) rfl)
theorem qB (I:Wf) (a b r q):aj w X W n (λK O _=>VR K O a r/\VR K O b q) (PH I a b) rh (iY I r q):=by
 cases I<;>first|exact be|skip
 ·exact CA λ_ _ _ _ _ _ _ _ h=>agD h
 ·exact CA λ_ _ _ _ _ _ _ _ h=>agF h
 ·exact CA λ_ _ _ _ _ _ _ _ h=>agG h
 ·exact CA λ_ _ _ _ _ _ _ _ h=>agI h
theorem AB {K:aN} (x:VR K O p v) (e:CY p=ab b):(v==f7)=b:=by
 cases p with
 |none=>(refine((ai e))▸(ae<|show v=_ from x)▸?_);rfl
 |bool c=>(refine((ai e))▸x▸?_);rfl
 |int c=>refine bd x λt q=>?_;(refine((ai e))▸q▸?_);rfl
 |str c=>refine bd x λt q=>?_;(refine((ai e))▸q▸?_);rfl
 |bytes c=>refine bd x λt q=>?_;(refine((ai e))▸q▸?_);rfl
 |dR c=>refine aH x λa _ q=>?_;(refine((ai e))▸q▸?_);rfl
 |blt c=>(refine((ai e))▸x▸?_);rfl
 |ty c=>(refine((ai e))▸x▸?_);rfl
 |ref c=>exact aC e
 |Au=>exact aC e
 |tZ=>exact aC e
 |JV a b=>refine Rq x λ_ _ _ _ _ q _=>?_;(refine((ai e))▸q▸?_);rfl
 |tup c=>obtain⟨_,_,_,_,q,_⟩:=x;(refine((ai e))▸q▸?_);rfl
 |lst c=>obtain⟨_,_,_,_,q,_⟩:=x;(refine((ai e))▸q▸?_);rfl
 |dct c d=>obtain⟨_,_,_,_,q,_⟩:=x;(refine((ai e))▸q▸?_);rfl
 |xD c d=>obtain⟨_,_,_,_,q,_⟩:=x;(refine((ai e))▸q▸?_);rfl
def isM (m:Bool) (p:PV):IM Bool:=match CY p with
 |some b=>ax<|b !=m
 |none=>aP
theorem Mx (m:Bool) (a r):aj w X W n (λK O _=>VR K O a r) (isM m a) rh (iY (if m then .IsNot else .Is) r .none):=by
 unfold isM
 cases e:CY a with
 |none=>exact be
 |some b=>
  refine bD λA s K O Q E _ _ _ _ c _ h=>?_;have:=AB c e;cases m
  ·exact is_none<|h _ _ s.toks (.refl _) (by refine this▸?_;simp[rh])
  ·exact isNot_none<|h _ _ s.toks (.refl _) (by refine(ae this)▸?_;cases b<;>exact rfl)
theorem GW {X K:aN} (N:Inv X K O H M h) (x:VR K O p r) (e:Ik H p=ab l):
 ∃a vs,r=.ref a/\(h.IsList a (af vs)\/h.IsTuple a (af vs))/\bU K O l vs:=by
 have b:nu H p=ab l->∃a vs,r=.ref a/\(h.IsList a (af vs)\/h.IsTuple a (af vs))/\bU K O l vs:=λe=>by exact cL (sL N x e) λa vs J W E=>⟨a,vs,J,.inl W,E⟩
 cases p<;>first|exact b e|skip
 cases e;obtain⟨a,o,n,vs,rfl,k,c,d,r⟩:=x;exact⟨a,vs,rfl,.inr ⟨o,N.sub _ _ k,c,n,d⟩,r⟩
def Xq (l:List PV) (v:Value):xg:=λK O h=>∃a f,v=.ref a/\h.IsList a (af f)/\bU K O l f
theorem aj.gQ {D:xg} (h:∀l,aj w X W n (λK O g=>D K O g/\Xq l v K O g) (k l) R t):aj w X W n (λK O g=>D K O g/\VR K O p v) (gQ p k) R t:=by
 intro A s K O H M I N c L;unfold Internal.gQ at L|-
 cases e:nu H p with
 |none=>rw[e] at L;exact absurd rfl L
 |some l=>rw[e] at L;exact h l A s K O H M I N ⟨c.1,sL N c.2 e⟩ L
def DH (l:List PV) (v:Value):xg:=λK O h=>∃a f,v=.ref a/\(h.IsList a (af f)\/h.IsTuple a (af f))/\bU K O l f
theorem aj.ku {D:xg} (h:∀l,aj w X W n (λK O g=>D K O g/\DH l v K O g) (k l) R t):aj w X W n (λK O g=>D K O g/\VR K O p v) (ku p k) R t:=by
 intro A s K O H M I N c L;unfold Internal.ku at L|-
 cases e:Ik H p with
 |none=>rw[e] at L;exact absurd rfl L
 |some l=>rw[e] at L;exact h l A s K O H M I N ⟨c.1,GW N c.2 e⟩ L
theorem aj.CH {k:List PV->IM u} (h:∀l,aj w X W n (Xq l v) (k l) R t):aj w X W n (λK O _=>VR K O p v) (Internal.gQ p k) R t:=
 lg (aj.gQ λl=>lg (h l) λ_ _ _ c=>c.2) λ_ _ _ c=>⟨trivial,c⟩
theorem aj.PK {k:List PV->IM u} (h:∀l,aj w X W n (DH l v) (k l) R t):aj w X W n (λK O _=>VR K O p v) (Internal.ku p k) R t:=
 lg (aj.ku λl=>lg (h l) λ_ _ _ c=>c.2) λ_ _ _ c=>⟨trivial,c⟩
theorem bU.mem {K:aN}:∀{U v},bU K O l U->v∈U->∃p∈l,VR K O p v:=by
 induction l with
 |nil=>intro U v h m;subst h;cases m
 |cons p l o=>
  intro U v h m;refine cL h ?_;clear h;intro u r S a b;subst S;rcases aL.mp m with rfl|m
  ·exact⟨p,bc,a⟩
  ·exact aH (o b m) λq L x=>⟨q,bb _ L,x⟩
theorem bU.mem' {K:aN}:∀{U p},bU K O l U->p∈l->∃v∈U,VR K O p v:=by
 induction l with
 |nil=>intro U p h m;cases m
 |cons q l o=>
  intro U p h m;refine cL h ?_;clear h;intro u r S a b;subst S;rcases aL.mp m with rfl|m
  ·exact⟨u,bc,a⟩
  ·exact aH (o b m) λv f x=>⟨v,bb _ f,x⟩
theorem QC {K:aN} (f:VR K O p v) (Z:bU K O l U)
 (z:∀x o,K x=ab o->s.heap.get? x=ab o) (V:A.units+9<yk) (Q:(l.all λq=>(mK 8 q p).isSome)=ao):
 ∃e,(∀y,y∈U->EqAt A s y v (e y))/\U.any e=l.any λq=>mK 8 q p==ab true:=by
 have j:∀y,y∈U->∀q∈l,VR K O q y->∃b,mK 8 q p=ab b/\EqAt A s y v b:=λy I q L x=>by have:=cm.mp Q q L;exact bd (kB.mp this) λb R=>⟨b,R,JZ 8 q p _ _ b A s R x f z (by exact eS<|by assumption)⟩
 refine⟨λy=>decide (∃q∈l,VR K O q y/\mK 8 q p=ab ao),λy I=>?_,?_⟩
 ·by_cases h:∃q∈l,VR K O q y/\mK 8 q p=ab ao
  ·simp only[h,decide_true];refine gG h ?_;clear h;intro q L x e;refine aH (j y I q L x) λb R r=>?_;rw[e] at R;obtain rfl:=ai R;exact r
  ·simp only[h,decide_false];refine aH (Z.mem I) λq L x=>aH (j y I q L x) λb R r=>?_
   induction b with
   |true=>exact absurd ⟨q,L,x,R⟩ h
   |false=>exact r
 ·rw[iE];simp only[rn,decide_eq_true_eq,beq_iff_eq];constructor
  ·rintro ⟨y,_,q,L,_,e⟩;exact⟨q,L,e⟩
  ·rintro ⟨q,L,e⟩;exact aH (Z.mem' L) λy I x=>⟨y,I,q,L,x,e⟩
end
open aj renaming gQ->Al,CH->ajs
section
open Classical
theorem Dy (u:Array cE) (P:cE->Bool):(u.find? P).isSome=u.toList.any P:=by obtain⟨l⟩:=u;simp only[Og];rw[iE];simp
theorem QE {K:aN} {h:eG} (x:VR K O (.xD j U) v) (z:∀a o,K a=ab o->h.get? a=ab o):
 ∃a u,v=.ref a/\(a==oE)=ah/\h.MapOf (intKind m w) a (λk=>wA tn u k)/\aa j=u.size/\(∀(i:Nat) (k:Int) (e:cE),j[i]?=ab k->u.toList[i]?=ab e->∃t,e.key=.int k t)/\
  bU K O U (u.toList.map (·.val)):=by
 obtain⟨a,o,n,u,rfl,k,L,I,d,C,p,r⟩:=x;refine⟨a,u,rfl,by simpa[oE] using I,⟨o,u,n,z _ _ k,L,d,λe Y=>?_,λ_=>rfl⟩,C,λi k e a b=>(p i k e a b).2,r⟩;refine bd (GP.mp Y) λi S=>?_;refine bd S ?_;clear S;intro D Z;subst Z;have f:=C.symm▸D;refine bC (p i j[i] u[i] (aO f)<|by simp[D]) λJ S=>?_;refine bd S ?_;clear S;intro t W;exact⟨j[i],by exact W▸aaA _ _ _ _,J⟩
theorem MA {ks:List Int} (C:aa ks=u.size) (p:∀(i:Nat) (k:Int) (e:cE),ks[i]?=ab k->u.toList[i]?=ab e->∃t,e.key=.int k t) (i):
 (wA tn u i).isSome=ks.contains i:=by
 unfold wA
 (refine ag Option.isSome_map ?_;refine ag (Dy ..) ?_;rw[iE])
 simp only[rn,List.contains_iff_mem];constructor
 ·rintro ⟨e,J,q⟩;refine bd (oJ J) λj S=>?_;refine bd S ?_;clear S;intro Q Z;subst Z;have h:j<aa ks:=by simpa[C] using Q
  refine bd (p j ks[j] _ (aO h) (aO Q)) λt z=>?_;rw[z] at q;simp[tn] at q;exact(q)▸hK h
 ·intro m;refine bd (oJ m) λj S=>?_;refine bd S ?_;clear S;intro Q Z;subst Z;have h:j<aa u.toList:=by simpa[C] using Q
  refine bd (p j ks[j] _ (aO Q) (aO h)) λt z=>?_;exact⟨_,hK h,by refine z▸?_;simp[tn]⟩
theorem Bq (m:Bool) (a b:PV) (r q):aj w X W n (λK O _=>VR K O a r/\VR K O b q) (WY m a b) rh (iY (if m then .NotIn else .In) r q):=by
 have gen:aj w X W n (λK O _=>VR K O a r/\VR K O b q) (ku b λl=>if l.all (λq=>(mK 8 q a).isSome) then ax (l.any (λq=>mK 8 q a==ab ao)!=m) else aP) rh (iY (if m then .NotIn else .In) r q):=by
  refine aj.ku λl=>cU λT=>bD λA s K O Q E _ V _ _ c z k=>?_;refine na ?_;intro v;refine bC c ?_;clear c;intro M S;refine cL S ?_;clear S;intro d U Z g R;subst Z;refine aH (QC (A:=A.in1) M R z (by(refine(xw ..)▸?_;refine(d8 ..)▸?_);exact bX (dH (by decide) _) V) T) λf Y x=>?_;have h:=k (.bool<|U.any f !=m) s.heap s.toks (.refl _)<|by refine x▸?_;rfl
  have o:∀y,y∈(af U)->EqAt A.in1 s y r (f y):=λy I=>Y y<|SN.mp I
  have J:(af U).any f=U.any f:=by simp
  rw[<-J] at h;cases m
  ·rw[pt] at h;exact g.elim (λg=>in_listAt f g o h) λg=>in_tupleAt f g o h
  ·rw[vC] at h;exact g.elim (λg=>notIn_listAt f g o h) λg=>notIn_tupleAt f g o h
 cases b<;>first|exact gen|skip
 rename_i j U;refine dm λi e=>?_;subst e;refine bD λA s K O Q E _ _ _ _ c z k=>?_;refine bC c ?_;clear c;intro S c;refine bd S ?_;clear S;intro t Z;subst Z;refine aeg (QE (w:=w) (m:=bR) c z) λd u S g P C p _=>?_;subst S;have h:=k (.bool<|(wA tn u i).isSome !=m) s.heap (s.toks+1) (.refl _)<|by refine(MA C p i)▸?_;rfl
 cases m
 ·rw[pt] at h;exact wpAny_in_of (aaA _ _ i t) g P h
 ·rw[vC] at h;exact wpAny_notIn_of (aaA _ _ i t) g P h
noncomputable def zj (k:Int) (len:Nat):Option Nat:=if k<0 then(if -(len:Int)<=k then ab (k+len).toNat else al) else if k<len then ab k.toNat else al
theorem FG (h:zj k len=ab j):N9 k len=ab j/\j<len:=by
 unfold zj at h;unfold N9;by_cases z:k<0
 ·rw[if_pos z] at h|-
  by_cases s:-(len:Int)<=k
  ·rw[if_pos s] at h;have e:=ai h;have M:0<=k+(len:Int):=by have:=Int.add_le_add_right s (len:Int);rwa [Int.add_left_neg] at this
   have l:k+(len:Int)<len:=by have:=Int.add_lt_add_right z (len:Int);rwa [sH] at this
   refine(if_pos<|fA.mpr ⟨decide_eq_true M,decide_eq_true l⟩)▸?_;exact⟨congrArg ab e,e▸(afR M).mpr l⟩
  ·rw[if_neg s] at h;exact aC h
 ·rw[if_neg z] at h|-
  by_cases s:k<len
  ·rw[if_pos s] at h;have e:=ai h;refine(if_pos<|fA.mpr ⟨decide_eq_true<|cX.mp z,decide_eq_true s⟩)▸?_;exact⟨congrArg ab e,e▸(afR<|cX.mp z).mpr s⟩
  ·rw[if_neg s] at h;exact aC h
noncomputable def vc (k:Int):Bool:=decide (-2^63<=k)&&decide (k<2^63)
theorem vb (h:vc k=ao):-2^63<=k/\k<2^63:=by simpa[vc] using h
noncomputable def kM (l:List PV) (k:Int):Option PV:=if vc k then(zj k<|aa l).bind (l[·]?) else al
def uH (a b:PV):IM PV:=by
 cases b
 case int k=>
  cases a
  case bytes b=>exact if 0<=k/\k<aa b/\aa b<=1099511627776 then ax (.int (b.getD k.toNat 0).toNat) else aP
  case str s=>exact if vc k then bJ ((zj k<|aa s).bind (s[·]?)) λc=>ax (.str [c]) else aP
  case tup l=>exact bJ (kM l k) λq=>ax q
  case lst l=>exact bJ (kM l k) λq=>ax q
  case dR i=>exact ku (.dR i) λl=>bJ (kM l k) λq=>ax q
  all_goals exact aP
 case str s=>
  cases a
  case dct j U=>exact bJ ((j.findIdx? (· ==s)).bind (U[·]?)) λp=>ax p
  all_goals exact aP
 all_goals exact aP
theorem MV [BEq u] (s:u) (q:cE->Bool) (l:List cE):∀(j:List u),aa j=aa l->(∀(i:Nat) (k:u) (e:cE),j[i]?=ab k->l[i]?=ab e->q e=(k==s))->
 l.find? q=(j.findIdx? (· ==s)).bind (l[·]?):=by
 induction l with
 |nil=>intro j h _;refine(cw.mp h)▸?_;rfl
 |cons e l o=>
  intro j h L;cases j with|nil=>cases h|cons k j=>?_
  (refine ag V9 ?_;refine List.findIdx?_cons▸?_;refine(ae<|L 0 k e rfl rfl)▸?_)
  cases R:k==s with
  |true=>rfl
  |false=>show List.find? q l=_;refine ag (o j (nA h) λi Z V a b=>L (i+1) Z V a b) ?_;cases j.findIdx? (· ==s)<;>rfl
theorem n5 {T id:String} (u:s.TypeIs o T)
 (C:typeLookup (.type T) "__getitem__"=pure (ab<|.builtin id)) (N:aD (MM w) A (getItem o i) Q E s):aD (MM w) A (ie m y o i) Q E s:=by
 have:∃z,subscripted y ah o i=operate z (getItem o i):=by
  cases y with
  |Slice _ _ st _=>cases st<;>exact⟨_,rfl⟩
  |_=>exact⟨_,rfl⟩
 refine bd this ?_;clear this;intro z G;exact tail_any u C N G
theorem Vj {K:aN} {O:List bk} {j:List (List Nat)} {h:eG} {m:Program} (B:K.P=w.params) (x:VR K O (.dct j U) v) (z:∀a o,K a=ab o->h.get? a=ab o):
 ∃a u,v=.ref a/\(a==oE)=ah/\h.MapOf (strKind m w) a (λk=>wA fE u k)/\(∀s:List Nat,wA fE u ⟨af s⟩=((j.findIdx? (· ==s)).bind (u.toList[·]?)).map (·.val))/\
  bU K O U (u.toList.map (·.val)):=by
 obtain⟨a,o,n,u,rfl,k,L,I,d,C,p,r⟩:=x;refine⟨a,u,rfl,by simpa[oE] using I,⟨o,u,n,z _ _ k,L,d,λe Y=>?_,λ_=>rfl⟩,λs=>?_,r⟩
 ·refine bd (GP.mp Y) λi S=>?_;refine bd S ?_;clear S;intro D Z;subst Z;have f:=C.symm▸D;refine bC (p i j[i] u[i] (aO f)<|by simp[D]) λJ S=>?_;refine bd S ?_;clear S;intro t W;rw[B] at J;exact⟨⟨j[i].toArray⟩,by exact W▸strKind_is _ _ _ _,J⟩
 ·unfold wA
  have:=MV s (λe=>fE ⟨af s⟩ e.key) u.toList j (by simpa using C) λi k e a b=>by
   refine bC (p i k e a b) λ_ S=>?_;refine bd S ?_;clear S;intro t W;refine W▸?_;simp only[fE];rw[iE];simp only[beq_iff_eq];constructor
   ·intro q;injection q with q;have:=congrArg oM q;simpa using this
   ·intro q;rw[q]
  refine(this)▸?_;obtain⟨l⟩:=u;simp
theorem OU (g:s.heap.IsList d f) (Y:vc k=ao) (D:zj k f.size=ab j) (Z:f[j]?=ab v) (h:Q v s):aD (MM w) A (ie m y (.ref d)<|.int k t) Q E s:=by
 refine n5 g.typeIs Xz ?_;have Y:=vb Y;unfold zj at D;by_cases B:k<0
 ·rw[if_pos B] at D;by_cases c:-(f.size:Int)<=k
  ·rw[if_pos c] at D;exact wpAny_getItem_list_neg g B (by assumption) Y.1 (by exact(ai D)▸Z) h
  ·rw[if_neg c] at D;exact aC D
 ·rw[if_neg B] at D;by_cases c:k<f.size
  ·rw[if_pos c] at D;exact wpAny_getItem_list g (cX.mp B) Y.2 (by exact(ai D)▸Z) h
  ·rw[if_neg c] at D;exact aC D
theorem Lw (m y l k r q):aj w X W n (λK O g=>VR K O (.int k) q/\DH l r K O g) (bJ (kM l k) λq=>ax q) e7 (ie m y r q):=by
 refine eP λx N=>bD λA s K O Q E _ _ _ _ c _ G=>?_;refine bC c ?_;clear c;intro S H;refine bd S ?_;clear S;intro t Z;subst Z;refine cL H ?_;clear H;intro d U L hd R;subst L;have Y:=jX λq=>by unfold kM at N;rw[if_neg q] at N;exact aC N
 unfold kM at N;rw[if_pos Y] at N;refine aH (bind_some N) λj D N=>aH (R.get N) λv f T=>?_;have V:(af U).size=aa l:=by(refine ag aR ?_;rw[R.length])
 have a:(af U)[j]?=ab v:=by refine ag f5 ?_;exact f
 have h:=G v s.heap s.toks (.refl _) T;rw[<-V] at D;rcases hd with hd|hd
 ·exact OU hd Y D a h
 ·exact n5 (aaH hd) aax.lookup<|agH hd (vb Y).1 (vb Y).2 (FG D).1 a h
theorem Tl (m y:bK) (a:PV) (k:Int) (r q):aj w X W n (λK O _=>VR K O a r/\VR K O (.int k) q) (ku a λl=>bJ (kM l k) λq=>ax q) e7 (ie m y r q):=
 lg (aj.ku λl=>Lw m y l k r q) λ_ _ _ c=>c.symm
theorem OR (m y:bK) (b:List Nat) (k:Int) (r q):aj w X W n (λK O _=>VR K O (.str b) r/\VR K O (.int k) q) (if vc k then bJ ((zj k<|aa b).bind (b[·]?)) λc=>ax (.str [c]) else aP) e7 (ie m y r q):=by
 refine cU λY=>eP λx T=>bD λA s K O Q E _ _ _ _ c _ G=>?_;refine bC c ?_;clear c;intro S H;refine bd S ?_;clear S;intro u Z;subst Z;refine bd H ?_;clear H;intro t L;subst L;refine aH (bind_some T) λj D T=>?_;have a:=vb Y;refine n5 (Jj _ _ _) F.slot_str_getitem.lookup<|P.getItem_str ?_ ?_ (G _ _ _ (.refl _) DE)
 ·(refine(ae<|decide_eq_false<|cX.mpr a.1)▸ag (decide_eq_false<|iX.mpr a.2) ?_);rfl
 ·show(N9 k (af b).size).bind _=_
  (refine aR▸(FG D).1▸ag (xn ..) ?_;refine ag f5 ?_);exact T
theorem OX (m y:bK) (b:List UInt8) (k:Int) (r q):aj w X W n (λK O _=>VR K O (.bytes b) r/\VR K O (.int k) q) (if 0<=k/\k<aa b/\aa b<=1099511627776 then ax (.int (b.getD k.toNat 0).toNat) else aP) e7 (ie m y r q):=by refine cU λP=>bD λA s K O Q E _ _ _ _ c _ G=>?_;refine bC c ?_;clear c;intro S H;refine bd S ?_;clear S;intro u Z;subst Z;refine bd H ?_;clear H;intro t L;subst L;exact n5 (dM _ _ _) tJ.lookup<|PySem.W.getItem_bytes P.2.2 P.1 P.2.1<|G _ _ _ (.refl _) ft
theorem OW (B:KF.P=w.params) (m y:bK) (V:List (List Nat)) (U:List PV) (C:List Nat) (r q):aj w KF W n (λK O _=>VR K O (.dct V U) r/\VR K O (.str C) q) (bJ ((V.findIdx? (· ==C)).bind (U[·]?)) λp=>ax p) e7 (ie m y r q):=by
 refine eP λp D=>λA s K O H M I N c L=>?_;refine na ?_;intro a;refine bC c ?_;clear c;intro c1 S;refine bd S ?_;clear S;intro t Z;subst Z;refine ZX (Vj (m:=bR) (ag N.par B) c1 N.sub) λd u S g X Y J=>?_;subst S;refine aH (bind_some D) λj Q D=>aH (J.get D) λv f T=>?_
 have e:wA fE u ⟨af C⟩=ab v:=by rw[Y,Q,xn];simpa using f
 exact n5 X.typeIs slot_dict_getitem.lookup<|wpAny_getItem_of (strKind_is _ _ _ _) X e ⟨p,H,K,O,rfl,iM ..,N,T,.refl s⟩
theorem Ha (B:KF.P=w.params) (m y:bK) (a b:PV) (r q):aj w KF W n (λK O _=>VR K O a r/\VR K O b q) (uH a b) e7 (ie m y r q):=by
 cases b
 case int k=>
  cases a
  case bytes b=>exact OX _ _ _ _ _ _
  case str b=>exact OR _ _ _ _ _ _
  all_goals exact Tl _ _ _ _ _ _
 case str C=>
  cases a
  case dct j U=>exact OW B _ _ _ _ _ _ _
  all_goals exact be
 all_goals exact be
end
section
open Classical
noncomputable def acL (l:List PV):IM PV:=λH=>.ok (.dR<|aa H)<|H++[l]
noncomputable def qE (U:List Value):Obj:={cls:=.type "list",data:=.seq (af U)}
noncomputable def OF (U:List Value):Obj:={cls:=.type "tuple",data:=.seq (af U)}
theorem Ib (U):¬b4 (qE U):=λx=>absurd x.1<|by simp[qE]
theorem Lj (U):¬b4 (OF U):=λx=>absurd x.1<|by simp[OF]
section
def ly (F:Bool) (l:List PV):IM PV:=if F then acL l else ax (.lst l)
theorem Ma {K:aN} (N:Inv X K O H M s.heap) (R:bU K O l U)
 (z:∀(Q:Value->bh->Prop) (E:Value->bh->Prop),Q (.ref s.heap.objs.size) {s with heap:=s.heap.push (qE U)}->aD (MM w) A t Q E s):
 Sat w X W A M K O s e7 (ly F l H) t:=λ_=>by
 induction F with
 |false=>refine bC (N.E1 rfl<|Ib U) λP st=>z _ _ ⟨.lst l,H,_,O,rfl,st W,P,?_,rfl,rfl⟩;exact⟨_,_,0,U,rfl,fj _ _ _,⟨rfl,rfl,rfl⟩,rfl,vH (st W) R⟩
 |true=>
  have b:=N.keep<|Ab s.heap<|qE U
  have c:=b.afm (b5 _ rfl) (N.cN<|bW _) (N.dY<|bW _) ⟨rfl,rfl,rfl⟩ rfl R;refine z _ _ ⟨.dR<|aa H,H++[l],K,O++[s.heap.objs.size],rfl,⟨rfl,λ_ _ e=>e,λ_ _ e=>.inl e,⟨_,rfl,λa I=>?_⟩,λa o e=>⟨o,aQ _ e⟩,λa o e _ _=>⟨o.slots,aQ _ e,.inl rfl⟩,λ_ q=>.inl q⟩,c,?_,rfl,rfl⟩
  ·simp at I;subst I;exact bW _
  ·exact⟨_,by(refine(N.ky.len)▸ag (cj<|bS _) ?_;refine(kn ..)▸?_);rfl,rfl⟩
theorem aj.ly (h:∀K O (s:bh),C K O s.heap->(∀a o,K a=ab o->s.heap.get? a=ab o)->∃U,bU K O l U/\∀(A:iF) (Q:Value->bh->Prop) (E:Value->bh->Prop),Q (.ref s.heap.objs.size) {s with heap:=s.heap.push (qE U)}->aD (MM w) A t Q E s):
 aj w X W n C (Internal.ly F l) e7 t:=λA s K O H M I N c=>by
 exact aH (h K O s c N.sub) λU R z=>Ma N R λQ E=>z A Q E
open aj renaming ly->agT
theorem Ax (F l U):aj w X W n (j9 l U) (if aa l<=16777216 then ly F l else aP) e7 (aa9 U):=
 cU λV=>agT λK O s c _=>⟨U,c,λA Q E h=>yi h<|by(refine bg▸(vI c)▸?_);exact V⟩
theorem rU (l U):aj w X W n (j9 l U) (if aa l<=16777216 then ax (.tup l) else aP) e7 (newTuple U):=
 cU λV=>λA s K O H M I N c _=>by exact bC (N.E1 rfl<|Lj U) λP st=>ajc ⟨.tup l,H,_,O,rfl,st W,P,⟨_,_,0,U,rfl,fj _ _ _,rfl,rfl,vH (st W) c⟩,rfl,rfl⟩<|by(refine bg▸(vI c)▸?_);exact V
def aiX (F:Bool) (p q:PV):IM PV:=gQ p λl=>gQ q λd=>if aa l+aa d<=16777216 then ly F (l++d) else aP
def ahB (p q:PV):IM PV:=by
 cases p
 case bytes b=>exact ch q λn=>if b≠[]/\-1048576<=n/\n<=1048576/\aa b*n.toNat<=16777216/\aa b<=16777216 then ax (.bytes (aW n.toNat b).flatten) else aP
 case int a=>exact ch q λb=>aad .Mult (.int a)<|.int b
 all_goals exact aP
noncomputable def isL (p:PV):Bool:=by
 cases p
 case lst _=>exact ao
 case dR _=>exact ao
 all_goals exact ah
def CG (F:Bool) (I:to) (p q:PV):IM PV:=
 if I=.Mult then ahB p q else if I=.Add/\isL p=ao then aiX F p q else aad I p q
theorem Lm {n:Int} (h:n.toNat=1):n=1:=by
 induction n with
 |ofNat k=>exact congrArg jG h
 |negSucc k=>cases h
theorem Gj {n:Int} (R:b≠[]) (a:-1048576<=n) (B:n<=1048576) (L:aa b*n.toNat<=16777216) (U:aa b<=16777216)
 (h:∀T k,Q (.bytes (af<|(aW n.toNat b).flatten) T) {s with toks:=k}):
 aD (MM w) A (V3 .Mult (.bytes (af b) t)<|.int n u) Q E s:=by
 have C:b.toArray.size=aa b:=by exact rfl
 by_cases J:n=1
 ·subst J
  refine SK rfl (λZ=>dM Z _ t) (λZ=>Jk Z 1 u) af4 F.fills_int_mul F.slot_int_rmul abo F.slot_int_index.lookup
   (jl F.slot_int_rmul (Jk s 1 u) F.entry_int_rmul (F.args_int_rmul_2 _ _) (SE 1 u _ t)
    ⟨rfl,jl aaT (dM s _ t) XJ (aaU _ _) (BMul.gives_mul1<|by exact C▸U) ?_⟩)
  have G:=h t s.toks;have e:(aW (1:Int).toNat b).flatten=b:=by simp
  rw[e] at G;exact G
 ·have S:=kG.mpr R;have Y:af2 n=true:=fA.mpr ⟨decide_eq_true (fP (by decide) a),decide_eq_true<|eF B<|by decide⟩;have c:¬b.toArray.size*n.toNat>=2^63:=by exact C▸wE.mpr (bX L<|by decide)
  have X:=beq_false_of_ne λe=>J<|Lm<|Nat.eq_of_mul_eq_mul_left S<|ag e (Nat.mul_one _).symm
  have V:afZ (b.toArray.size*n.toNat)=false:=by exact C▸AQ L
  refine SK rfl (λZ=>dM Z _ t) (λZ=>Jk Z n u) af4 F.fills_int_mul F.slot_int_rmul abo F.slot_int_index.lookup
   (jl F.slot_int_rmul (Jk s n u) F.entry_int_rmul (F.args_int_rmul_2 _ _) (SE n u _ t)
    ⟨rfl,jl aaT (dM s _ t) XJ (aaU _ _) (BMul.gives_mul Y c X V) ?_⟩)
  refine(BMul.repeated_list R ..)▸?_;refine⟨?_,h _ _⟩;refine bg▸?_;have W:((aW n.toNat b).flatten.toArray).size=n.toNat*aa b:=by simp
  (refine W▸(afN ..)▸?_);exact L
theorem AI (C:s.heap.IsList l (af U)) (R:s.heap.IsList b (af I))
 (h:Q (.ref s.heap.objs.size) {s with heap:=s.heap.push (qE<|U++I)}) (V:aa U+aa I<=i5):
 aD (MM w) A (V3 .Add (.ref l)<|.ref b) Q E s:=by
 refine na ?_;intro k;refine gG (id C) λS L P Z=>?_;obtain⟨cls,dd,data,p⟩:=S;refine bd Z ?_;clear Z;intro n g;refine gG (id R) λS a j Z=>?_;obtain⟨i,d,data2,f⟩:=S;refine bd Z ?_;clear Z;intro c O;simp only at P g j O;subst P g j O;have e:af U++af I=af (U++I):=by simp
 refine concat_meets ⟨_,L,rfl⟩ ⟨_,a,rfl⟩ noFill_list_add seq_list_add PySem.F.slot_list_add PySem.F.entry_list_add (PySem.F.args_list_add_2 _ _) (list_addW l b (af U) (af I) n c dd d p f<|by simpa using V) ⟨L,a,?_⟩;refine e▸?_;exact h
theorem L4 (F) (I:to) (a b:PV) (r q):aj w X W n (λK O _=>VR K O a r/\VR K O b q) (CG F I a b) e7 (V3 I r q):=by
 unfold CG;by_cases J:I=.Mult
 ·refine(if_pos J)▸?_;subst J;cases a<;>first|exact be|skip
  ·refine dm λj e=>?_;subst e;exact zR _ _ _ _ _
  ·refine dm λj e=>cU λG=>?_;subst e;refine bD λA s K O Q E _ _ _ _ c _ h=>?_;refine bC c ?_;clear c;intro S H;refine bd S ?_;clear S;intro t Z;subst Z;refine bd H ?_;clear H;intro u L;subst L;exact Gj G.1 G.2.1 G.2.2.1 G.2.2.2.1 G.2.2.2.2 λY k=>h _ _ _ (.refl _) jQ
 ·refine(if_neg J)▸?_;by_cases T:I=.Add/\isL a=ao
  ·refine(if_pos T)▸?_;refine bC T ?_;clear T;intro T _;subst T;refine lg (Al λl=>lg (Al λd=>cU λV=>agT λK O s c _=>?_) λ_ _ _ c=>c.symm) λ_ _ _ c=>c.symm;refine na ?_;intro f;refine bC c ?_;clear c;intro S H;refine cL S ?_;clear S;intro i U Z C R;subst Z;refine cL H ?_;clear H;intro j N L g P;subst L;exact⟨U++N,R.append P,λA Q E h=>AI C g h<|by(refine bg▸R.length▸P.length▸?_);exact V⟩
  ·refine(if_neg T)▸?_;exact zR _ _ _ _ _
noncomputable def J5 (p:PV):Option (Option Int):=by
 cases p
 case none=>exact ab al
 case int i=>exact ab<|ab i
 all_goals exact al
theorem kU {K:aN} {lo:Option Int} (x:VR K O p v) (e:J5 p=ab lo):IsPart v lo:=by
 cases p<;>first|exact aC e|skip
 ·(refine((ai e))▸x▸?_);exact .none
 ·refine bd x ?_;clear x;intro t S;subst S;exact((ai e))▸.int _ _
def VQ (x:PV×PV×PV) (v:Value):xg:=λK O _=>∃a o l u st,v=.ref a/\K a=ab o/\o.cls=.type "slice"/\o.data=.fields #[l,u,st]/\VR K O x.1 l/\VR K O x.2.1 u/\VR K O x.2.2 st
theorem y7 (x l u st):aj w X W n (λK O _=>VR K O x.1 l/\VR K O x.2.1 u/\VR K O x.2.2 st) (ax x) VQ (newFields "slice" [l,u,st]):=by intro A s K O H M I N c _;exact bC (N.E1 rfl λx=>absurd x.1<|by simp) λP j=>rC ⟨x,H,_,O,rfl,j W,P,⟨_,_,l,u,st,rfl,fj _ _ _,rfl,rfl,fv (j W) c.1,fv (j W) c.2.1,fv (j W) c.2.2⟩,rfl,rfl⟩
noncomputable def qY (l:List α) (lo D st:Option Int):List α:=(z0 (VX lo D st<|aa l).1 (VX lo D st<|aa l).2.1 (VX lo D st<|aa l).2.2).filterMap (l[·]?)
noncomputable def IN (b:List UInt8) (lo D:Option Int):List UInt8:=(b.drop<|lo.elim 0<|uq<|aa b).take<|D.elim (aa b) (uq<|aa b)-lo.elim 0 (uq<|aa b)
def l4 (F:Bool) (o lo D st:PV):IM PV:=bJ (J5 lo) λl=>bJ (J5 D) λu=>bJ (J5 st) λk=>match o with
 |.bytes b=>if aa b<=16777216/\k=al then ax (.bytes<|IN b l u) else aP
 |o=>gQ o λxs=>if aa xs<=16777216/\k≠ab 0 then ly F (qY xs l u k) else aP
theorem bU.pick {K:aN} (r:bU K O l U) (a:List Nat):bU K O (a.filterMap (l[·]?)) (a.filterMap (U[·]?)):=by
 induction a with
 |nil=>exact eu
 |cons j a o=>
  cases B:l[j]? with
  |some p=>
   refine aH (r.get B) λv f x=>?_
   (refine(qn B)▸(qn f)▸?_)
   exact b7 x o
  |none=>
   have f:U[j]?=none:=by
    rw[DY] at B|-
    exact r.length▸B
   (refine(ae<|qo B)▸(ae<|qo f)▸?_)
   exact o
theorem Ck (F:Bool) (m y a lo D st) (r q:Value):
 aj w X W n (λK O h=>VR K O a r/\VQ (lo,D,st) q K O h) (l4 F a lo D st) e7 (ie m y r q):=by
 refine eP λd J=>eP λf T=>eP λst' N=>?_
 have gen:aj w X W n (λK O h=>VR K O a r/\VQ (lo,D,st) q K O h) (gQ a λxs=>if aa xs<=16777216/\st'≠ab 0 then ly F (qY xs d f st') else aP) e7 (ie m y r q):=by
  refine lg (Al λxs=>cU λV=>agT λK O s c z=>?_) λ_ _ _ c=>c.symm;refine bC c ?_;clear c;intro S H;refine ad9 S ?_;clear S;intro p o l u k Z j P g c1 c2 B;subst Z;refine cL H ?_;clear H;intro i U L C R;subst L;have v:s.heap.IsSliceOf p l u k:=⟨o,z _ _ j,P,g⟩;have e:(afE (af U) d f st').toList=qY U d f st':=by simp[afE,qY]
  have M:({cls:=.type "list",data:=.seq (afE (af U) d f st')}:uz)=qE (qY U d f st'):=by refine(e)▸?_;rfl
  refine⟨qY U d f st',?_,λA Q E h=>n5 C.typeIs Xz<|wpAny_getItem_list_slice C v (kU c1 J) (kU c2 T) (kU B N) V.2 (by refine M▸?_;exact h)<|by(refine bg▸aR▸R.length▸?_);exact V.1⟩;unfold qY;refine(R.length)▸?_;exact R.pick _
 cases a<;>first|exact gen|skip
 rename_i b;refine cU λV=>?_;refine bC V ?_;clear V;intro V S;subst S;refine bD λA s K O Q E _ _ _ _ c z G=>?_;refine na ?_;intro x;refine bC c ?_;clear c;intro S H;refine bd S ?_;clear S;intro t Z;subst Z;refine ad9 H ?_;clear H;intro p o l u k L j P g c1 c2 B;subst L;have v:s.heap.IsSliceOf p l u k:=⟨o,z _ _ j,P,g⟩;cases kU B N
 refine n5 (dM _ _ _) tJ.lookup (getItem_meets (dM _ _ _) rfl tJ FB.entry_bytes_getitem (FB.args_bytes_getitem_2 _ _) (KBc.meets_slice2 (af b) t _ (kU c1 J) (kU c2 T))
  ⟨v,aM (KBc.size_picked_le _ _ _) (by exact bg▸V),λY k=>?_⟩)
 refine(KBc.picked_eq ..)▸?_;exact G _ _ _ (.refl _) jQ
end
end
section
open Classical
noncomputable def Pd:List (IM u)->IM (List u)
 |[]=>ax []
 |m::d=>aw m λa=>aw (Pd d) λJ=>ax<|a::J
theorem py (B:fD W C):∀(d) (G:List (jE Value)),aa d=aa G->(∀(i:Nat) (m) (t),d[i]?=ab m->G[i]?=ab t->aj w X W n C m e7 t)->
 aj w X W n C (Pd d) j9 (gv<|G.map λt=>(ah,t))
 |[],[],_,_=>f8 λ_ _ _ _=>eu
 |[],_::_,h,_=>by simp at h
 |_::_,[],h,_=>by simp at h
 |m::d,t::G,h,Z=>by
  have T:=Z 0 m t rfl rfl;have o:=py B d G (by simpa using h) λi U Y a b=>Z (i+1) U Y (by simpa using a)<|by simpa using b
  (refine bu▸?_;rw[gv])
  unfold Pd;refine cu T B λa r=>?_;simp only[bO,if_false];exact Aa [r] (λA Q E s h=>ar h)<|cu ((o.weak λ_ _ _ c=>c.1).holding) (B.and<|b9 a r) λJ R=>f8 λK O g c=>b7 c.1.2 c.2
theorem r7 {G:List (jE Value)} (h:aj w X W n C m j9 (gv<|G.map λt=>(ah,t))):
 aj w X W n C m (λZ a=>λK O _=>a.kw=[]/\bU K O Z a.pos) (V0 f ao (G.map λt=>(ah,t)) []):=by
 intro A s K O H M I N c L;have J:=h A s K O H M I N c L
 induction G with
 |nil=>
  unfold V0;show aD (MM w) A (gv []>>=_) _ _ s;refine ak<|aZ J (λY F ⟨a,i,j,l,q,st,P,d,U⟩=>?_) λ_ _ y=>y
  exact oW<|a8<|oW<|oW<|ar ⟨a,i,j,l,q,st,P,⟨rfl,d⟩,U⟩
 |cons t G=>exact JB<|aZ J (λY B ⟨a,i,j,l,q,st,P,d,U⟩=>⟨a,i,j,l,q,st,P,⟨rfl,d⟩,U⟩) λ_ _ y=>y
def Jb (X:aN) (f:Value):Prop:=(∃id,f=.builtin id)\/(∃T,f=.type T)\/∃a o fd,f=.ref a/\X a=ab o/\o.data=.func fd
theorem sm {G:List (jE Value)} (B:fD W C) (Y:Jb X f)
 (h:aj w X W n C m j9 (gv<|G.map λt=>(ah,t)))
 (P:∀y U,aj w X W n (λK O g=>C K O g/\bU K O y U) (F y) R<|call f (first++U) []):
 aj w X W n C (aw m F) R (iD pos f first (G.map λt=>(ah,t)) []):=by
 unfold iD;refine cu ((r7 h).holding) B λy a=>bz ?_;have S:((G.map λt=>(ah,t)).any (·.1))=false:=by simp
 have e:(((G.map λt=>(ah,t)).any (·.1))||(([]:List (Option am×jE Value)).any (·.1.isNone)))=false:=by refine(ae S)▸?_;rfl
 intro A s K O H M I N i L;refine iZ i λc j D=>?_;have u:=P y a.pos A s K O H M I N ⟨c,D⟩ L
 have tail:∀{t:jE Value},aD (MM w) A t (y0 X W M K O s R<|F y H) (yc X W M K O s<|F y H) s->
  aD (MM w) A (t>>=λr=>dK [r] point>>=λ_=>jb r) (y0 X W M K O s R<|F y H) (yc X W M K O s<|F y H) s:=
  λz=>ak<|aZ z (λr Z d=>ak<|a8<|mz<|ar d) λ_ _ x=>x
 refine j▸?_;refine(ae e)▸?_;rcases Y with ⟨id,rfl⟩|⟨T,rfl⟩|⟨b,o,fd,rfl,V,Q⟩
 ·refine ak (ar ?_);exact tail u
 ·refine ak (ar ?_);exact tail u
 ·refine ak ?_;unfold nk;refine fX (λ_ _ h=>ul (N.sub _ _ (N.stat _ _ V)) h)<|Q▸?_
  refine ar ?_;dsimp only;split
  ·exact tail u
  ·exact tail<|by unfold aaC;exact xP u
end
section
open Classical
abbrev BF:=List PV->IM PV
noncomputable def Nz (f:PV->Option u):List PV->Option (List u)
 |[]=>ab []
 |p::l=>(f p).bind λa=>(Nz f l).map (a::·)
theorem yf (Y:∀p a,f p=ab a->p=g a):∀{l r},Nz f l=ab r->l=r.map g:=by
 intro l
 induction l with
 |nil=>intro r h;refine((ai h))▸?_;rfl
 |cons p l o=>
  intro r h;refine aH (DV.mp h) λa J h=>?_;refine aH (a9.mp h) λG W S=>?_;subst S
  (refine(Y p a J)▸(o W)▸?_);rfl
abbrev w3:List PV->Option (List Int):=Nz TO
abbrev Dw:List PV->Option (List Bool):=Nz PF
noncomputable def strOf (s:am):PV:=.str s.cps.toList
theorem FD {K:aN}:∀{j U},bU K O (j.map .int) U->abi U j
 |[],_,h=>by subst h;exact .nil
 |n::j,U,h=>by refine cL h ?_;clear h;intro v r S Z b;subst S;refine bd Z ?_;clear Z;intro t H;subst H;exact .cons n t<|FD b
theorem v9 {K:aN} (h:bU K O l U) (e:w3 l=ab ns):abi U ns:=by rw[yf (λ_ _=>Cy) e] at h;exact FD h
theorem Io (h:abi U ns):∃xs:Array (Int×GB),af U=VY xs/\xs.toList.map (·.1)=ns:=by
 induction h with
 |nil=>exact⟨#[],by simp[VY],rfl⟩
 |cons n t _ o=>refine aH o ?_;clear o;intro xs e V;refine⟨af<|(n,t)::xs.toList,?_,by simp[V]⟩;have:=congrArg oM e;simp only[VY,Array.toList_map] at this;rename_i U ns _;simp only[VY];apply Array.toList_inj.mp;simp[this]
noncomputable def rO (j:List Int):Bool:=j.all (λn=>decide (0<=n)&&decide (n<1099511627776))&&decide (aa j<=1048576)
def eN (l:List PV):IM PV:=Ba l λp=>match p with
 |.bytes b=>if aa b<=1099511627776 then ax (.int<|aa b) else aP
 |.str s=>if aa s<=1099511627776 then ax (.int<|aa s) else aP
 |p=>ku p λl=>if aa l<=1099511627776 then ax (.int<|aa l) else aP
def xB (l:List PV):IM PV:=Wv l λp q=>ch p λa=>ch q λb=>ax<|.int<|if b>a then b else a
def CL (l:List PV):IM PV:=Wv l λp q=>ch p λa=>ch q λb=>ax<|.int<|if b<a then b else a
def VM (l:List PV):IM PV:=Ba l λp=>ch p λa=>ax<|.int<|if a<0 then -a else a
def Lu (l:List PV):IM PV:=Ba l λp=>gQ p λl=>bJ (w3 l) λj=>if rO j=ao then ax (.int j.sum) else aP
def aam (l:List PV):IM PV:=Ba l λp=>gQ p λl=>bJ (Dw l) λI=>ax<|.bool<|I.all id
def Vq (l:List PV):IM PV:=Ba l λp=>ch p λa=>if 0<=a/\a<=0x10FFFF then ax (.str [a.toNat]) else aP
def Qz (l:List PV):IM PV:=Wv l λp q=>bJ (At p) λ_=>bJ (pTy q) λn=>if n="str" then ax (.bool ah) else aP
def ug (l:List PV):IM PV:=Ba l λp=>gQ p λl=>bJ (w3 l) λj=>if aa j<=16777216/\∀n∈j,0<=n/\n<256 then ax (.bytes (byteArr j).toList) else aP
def UB (l:List PV):IM PV:=Ba l λp=>CI p λb=>ax<|.int<|if b then 1 else 0
def Ly (l:List PV):IM PV:=Ba l λp=>by
 cases p
 case bool b=>exact ax<|strOf<|if b then "True" else "False"
 case int a=>exact if a.natAbs.log2<1920 then ax (strOf<|toString a) else aP
 case str s=>exact ax<|.str s
 all_goals exact aP
def OE (l:List PV):IM PV:=Ba l λp=>by
 cases p
 case tup l=>exact ax<|.tup l
 all_goals exact aP
def Qi (l:List PV):IM PV:=Ba l λp=>by
 cases p
 case tup l=>exact if aa l<=16777216 then ax (.lst l) else aP
 case lst l=>exact if aa l<=16777216 then ax (.lst l) else aP
 all_goals exact aP
def jK (l:List PV):IM PV:=match l with
 |[p]=>ch p λb=>ax<|.JV 0 b
 |[p,q]=>ch p λa=>ch q λb=>ax<|.JV a b
 |_=>aP
theorem qf {K:aN}:VR K O (strOf s) (.str s t):=by exact⟨t,by cases s;exact rfl⟩
section
variable {n:Nat}
theorem VO {K:aN} (h:bU K O [p] U):∃v,U=[v]/\VR K O p v:=by refine cL h ?_;clear h;intro v r S a b;subst S;exact⟨v,congrArg _ b,a⟩
theorem VN {K:aN} (h:bU K O [p,q] U):∃v u,U=[v,u]/\VR K O p v/\VR K O q u:=by refine cL h ?_;clear h;intro v r S a h;subst S;exact aH (VO h) λu e b=>⟨v,u,congrArg _ e,a,b⟩
theorem aiZ {K:aN} (h:bU K O [p,q,r] U):∃v u x,U=[v,u,x]/\VR K O p v/\VR K O q u/\VR K O r x:=by refine cL h ?_;clear h;intro v r S a h;subst S;exact cL (VN h) λu x e b c=>⟨v,u,x,congrArg _ e,a,b,c⟩
theorem aj.c1 {k:PV->IM PV} (h:∀p v,aj w X W n (e7 p v) (k p) e7<|call f [v]):aj w X W n (j9 D U) (Ba D k) e7 (call f U):=by
 intro A s K O H M I N c L
 cases D with
 |nil=>exact absurd rfl L
 |cons p r=>cases r with
  |cons _ _=>exact absurd rfl L
  |nil=>refine aH (VO c) λv S Z=>?_;subst S;exact h p v A s K O H M I N Z L
theorem aj.c2 {k:PV->PV->IM PV} (h:∀p q v u,aj w X W n (λK O _=>VR K O p v/\VR K O q u) (k p q) e7<|call f [v,u]):aj w X W n (j9 D U) (Wv D k) e7 (call f U):=by
 intro A s K O H M I N c L
 cases D with
 |nil=>exact absurd rfl L
 |cons p r=>cases r with
  |nil=>exact absurd rfl L
  |cons q r=>cases r with
   |cons _ _=>exact absurd rfl L
   |nil=>refine iB (VN c) λv u S Z=>?_;subst S;exact h p q v u A s K O H M I N Z L
open aj renaming c1->nG,c2->XN
theorem JT (h:n<=1099511627776):(n:Int)<2^63:=eF (dI.mpr h)<|by decide
theorem Mk (l v):aj w X W n (DH l v) (if aa l<=1099511627776 then ax (.int<|aa l) else aP) e7 (call (.builtin "len") [v]):=
 cU λV=>bD λA s K O Q E _ _ _ _ c _ k=>by
  refine cL c ?_;clear c;intro a f S hd R;subst S;have N:(af f).size=aa l:=by(refine ag aR ?_;rw[R.length])
  have h:=k (.int ((af f).size:Int)<|s.toks+1) s.heap (s.toks+1+1) (.refl _)<|N▸ft
  have V:=JT<|N▸V
  rcases hd with hd|hd
  ·exact Calls.call_len_list hd V h
  ·exact agE hd V h
theorem Ic (D U):aj w X W n (j9 D U) (eN D) e7 (call (.builtin "len") U):=by
 refine nG λp v=>?_;cases p<;>first|exact aj.PK λl=>Mk l v|skip
 ·refine cU λV=>bD λA s K O Q E _ _ _ _ c _ k=>?_;refine bd c ?_;clear c;intro t S;subst S;exact P.len_str (iX.mpr<|JT V)<|k _ _ _ (.refl _) ft
 ·refine cU λV=>bD λA s K O Q E _ _ _ _ c _ k=>?_;refine bd c ?_;clear c;intro t S;subst S;exact PySem.W.len_bytes V<|k _ _ _ (.refl _) ft
theorem G6 {Z:List Int} (h:∀n∈Z,0<=n/\n<1099511627776) (j):0<=(Z.take j).sum/\(Z.take j).sum<=j*1099511627776:=by
 induction Z generalizing j with
 |nil=>exact(ae Ee)▸⟨fV _,aaK (bB _)<|by decide⟩
 |cons a l o=>
  induction j with
  |zero=>exact⟨fV _,fV _⟩
  |succ j=>
   have J:=h a bc;have W:=o (λn B=>h n<|bb _ B) j
   (refine NP▸?_;rewrite[List.sum_cons];refine(ae (Wc ..))▸(agP ..)▸(agO ..)▸(xO (_*_) ..)▸?_)
   exact⟨aaL J.1 W.1,D0 (sI J.2) W.2⟩
theorem Ao {ns:List Int} (h:rO ns=ao):∀j,j<aa ns->InLong (ns.getD j 0)/\InLong ((ns.take<|j+1).sum):=by
 simp only[rO,bt,cm,decide_eq_true_eq] at h;intro j Q;have t:ns.getD j 0∈ns:=by(refine ev▸?_;refine(aO Q)▸?_);exact hK Q
 have J:=h.1 _ t;have W:=G6 h.1<|j+1
 exact⟨⟨fP (by decide) J.1,kr J.2<|by decide⟩,fP (by decide) W.1,eF W.2<|eF (jo (dI.mpr<|aM Q h.2)<|by decide)<|by decide⟩
theorem wT (xs j):preSum (numAt xs) j=((xs.toList.map (·.1)).take j).sum:=by
 induction j with
 |zero=>simp[preSum]
 |succ j o=>
  (rewrite[preSum];refine o▸?_)
  by_cases h:j<xs.size
  ·have e:(xs.toList.map (·.1)).take (j+1)=(xs.toList.map (·.1)).take j++[xs[j].1]:=by
    refine ag lS ?_;simp[h]
   refine e▸?_;simp[numAt,h]
  ·have e:(xs.toList.map (·.1)).take (j+1)=(xs.toList.map (·.1)).take j:=by
    (refine ag (fH<|by simp;exact cP<|bj [xs.size,j] [] [(1,aJ,bf),(1,xi<|xi bf,aJ)] rfl<|cl<|cW.mp h) ?_;rw[fH<|by simp;exact cP<|bj [xs.size,j] [] [(1,aJ,bf),(1,xi bf,aJ)] rfl<|cl<|cW.mp h])
   refine e▸?_;simp[numAt,h]
theorem HY (D U):aj w X W n (j9 D U) (xB D) e7 (call (.builtin "max") U):=by refine XN λp q v u=>dm λa e=>dm λb V=>?_;subst e V;refine bD λA s K O Q E y _ _ _ c _ h=>?_;refine bC c ?_;clear c;intro S H;refine bd S ?_;clear S;intro t Z;subst Z;refine bd H ?_;clear H;intro Y L;subst L;exact max_two_ints y λG tk z=>h _ _ _ (.of_keeps z) (by split<;>exact ft)
theorem HT (D U):aj w X W n (j9 D U) (CL D) e7 (call (.builtin "min") U):=by refine XN λp q v u=>dm λa e=>dm λb V=>?_;subst e V;refine bD λA s K O Q E y _ _ _ c _ h=>?_;refine bC c ?_;clear c;intro S H;refine bd S ?_;clear S;intro t Z;subst Z;refine bd H ?_;clear H;intro Y L;subst L;exact min_two_ints y λG tk z=>h _ _ _ (.of_keeps z) (by split<;>exact ft)
theorem I9 (D U):aj w X W n (j9 D U) (VM D) e7 (call (.builtin "abs") U):=by refine nG λp v=>dm λa e=>?_;subst e;refine bD λA s K O Q E _ _ _ _ c _ h=>?_;refine bd c ?_;clear c;intro t S;subst S;exact call_abs_int λu tk=>h _ _ _ (.refl _) ft
theorem IT (D U):aj w X W n (j9 D U) (Vq D) e7 (call (.builtin "chr") U):=by
 refine nG λp v=>dm λa e=>cU λG=>?_;subst e;refine bD λA s K O Q E _ _ _ _ c _ h=>?_;refine bd c ?_;clear c;intro t S;subst S;refine P.chr_of_int ?_ (h _ _ _ (.refl _) DE)
 (refine(ae<|decide_eq_false<|cX.mpr G.1)▸ag (decide_eq_false<|cX.mpr G.2) ?_);rfl
theorem G9 (D:List PV) (U:List Value):aj w X W n (j9 D U) (Lu D) e7 (call (.builtin "sum") U):=by
 refine nG λp v=>ajs λl=>eP λns i=>cU λG=>bD λA s K O Q E y _ _ _ c _ k=>?_;refine cL c ?_;clear c;intro a f S C R;subst S;refine aH (Io<|v9 R i) λxs L d=>?_;rw[L] at C;have J:xs.size=aa ns:=by refine(d)▸?_;simp
 refine sum_intList y C (λj Z=>?_) λT tk Y z=>?_
 ·have:=Ao G j (by exact(J)▸Z)
  (refine(wT ..)▸d▸?_)
  refine⟨?_,this.2⟩
  have V:numAt xs j=ns.getD j 0:=by(refine(d)▸ev▸?_);simp[numAt,Z]
  exact V▸this.1
 ·refine k _ _ _ (.of_keeps z) ?_
  (refine(ae (wT ..))▸(ae d)▸(ae<|fH<|an J.symm)▸?_);exact ft
theorem Dv (D:List PV) (U:List Value):aj w X W n (j9 D U) (ug D) e7 (call (.type "bytes") U):=by refine nG λp v=>ajs λl=>eP λj i=>cU λG=>bD λA s K O Q E y _ _ _ c _ k=>?_;refine cL c ?_;clear c;intro a f S C R;subst S;have Z:=v9 R i;exact call_bytes_ints C Z G.2 (by(refine bg▸Z.length▸?_);exact G.1) y λY t tk z=>k _ _ _ (.of_keeps z) ⟨t,by exact rfl⟩
theorem BL {K:aN}:∀{I:List Bool} {U},bU K O (I.map .bool) U->U=I.map mW
 |[],_,h=>h
 |n::j,U,h=>by
  refine cL h ?_;clear h;intro v r S a b;subst S
  (refine(BL b)▸a▸?_);rfl
theorem LN (I:List Bool):(dg<|aa I).all (λi=>I.getD i ao)=I.all id:=by
 rw[iE];simp only[cm,pr,id_eq];constructor
 ·intro h b R;refine bd (oJ R) λj S=>?_;refine bd S ?_;clear S;intro Q Z;subst Z;have:=h j Q;rw[ev,aO Q] at this;simpa using this
 ·intro h j Q
  (refine ag ev ?_;refine(aO Q)▸?_)
  exact h _ (hK Q)
theorem I8 (D:List PV) (U:List Value):aj w X W n (j9 D U) (aam D) e7 (call (.builtin "all") U):=by
 refine nG λp v=>ajs λl=>eP λbs T=>bD λA s K O Q E y _ _ _ c _ k=>?_;refine cL c ?_;clear c;intro a f S C Y;subst S;rw[yf (λ_ _=>E7) T] at Y;have V:=BL Y;have F:=let⟨_,L,_⟩:=C;dS L;refine call_all_walk<|aa6 C ?_
 refine⟨_,[s.heap.objs.size,a],[s.heap.objs.size],_,_,_,λi=>bs.getD i ao,rfl,afK (A:=A.in1) y s.heap.objs.size a (eR F)<|af f,⟨⟨_,b5 _ rfl,rfl,rfl⟩,C.push _⟩,λi v s Q E B Z=>?_,λG tk z=>?_⟩
 ·simp only[V,f5,bY,a9] at B;refine aH B ?_;clear B;intro b R S;subst S;simp only[ev,R,Option.getD_some] at Z;exact i0 Z
 ·refine k _ _ _ (.of_keeps λb o R=>z b o (by simp;exact eR<|dS R)<|aQ _ R) ?_;have:(af f).size=aa bs:=by simp[V]
  (refine this▸(LN ..)▸?_);exact tf
theorem Kh (u:T="list"\/T="tuple") (F:∀K O v,VR K O p v->∃(a:bk) (o:uz) (n:Nat) (f:List Value),v=.ref a/\K a=ab o/\o.cls=.type T/\o.data=.seq (af f) n/\bU K O l f) (G:aa l<=16777216):
 aj w X W n (e7 p v) (ax<|.lst l) e7 (call (.type "list") [v]):=by
 intro A s K O H M I N c _;refine aed (F _ _ _ c) λa o n f S t Z g R=>?_;subst S;refine call_list_seq a u (N.sub _ _ t) Z g (λh' D b d=>?_)<|by(refine bg▸?_;refine aR▸?_;refine R.length▸?_);exact G
 have r:de s.heap h':=.of_keeps b;have B:=N.cN<|bW s.heap
 have P:=(N.keep r).freeze d B (N.dY<|bW s.heap) λx=>absurd x.1<|by simp
 refine⟨_,H,_,O,rfl,rN r B<|bW _,P,?_,rfl,rfl⟩;exact⟨_,_,D,f,rfl,fj _ _ _,⟨rfl,rfl,rfl⟩,rfl,vH (W:=W) (rN r B<|bW _) R⟩
theorem Fi {X K:aN} (N:Inv X K O H M s.heap):y0 X W M K O s e7 (.ok (.JV x y) H) (.ref s.heap.objs.size) {s with heap:=s.heap.push {cls:=.type "range",data:=.fields #[.int x t1,.int y t2,.int 1 t3]},toks:=tk}:=by exact bC (N.E1 rfl λx=>absurd x.1<|by simp) λP st=>⟨_,H,_,O,rfl,st W,P,⟨_,_,_,_,_,rfl,fj _ _ _,rfl⟩,rfl,rfl⟩
theorem Cs (D:List PV) (U:List Value):aj w X W n (j9 D U) (jK D) e7 (call (.type "range") U):=by
 cases D with
 |nil=>exact be
 |cons p r=>cases r with
  |nil=>refine dm λb e=>?_;subst e;intro A s K O H M I N c _;refine aH (VO c) λv S Z=>?_;subst S;refine bd Z ?_;clear Z;intro t T;subst T;exact PySem.call_range_1<|Fi N
  |cons q r=>cases r with
   |cons _ _=>exact be
   |nil=>refine dm λa e=>dm λb V=>?_;subst e V;intro A s K O H M I N c _;refine cL (VN c) λv u S Z L=>?_;subst S;refine bd Z ?_;clear Z;intro t T;subst T;refine bd L ?_;clear L;intro Y z;subst z;exact PySem.call_range_2<|Fi N
theorem CX (D U):aj w X W n (j9 D U) (Qz D) e7 (call (.builtin "isinstance") U):=by
 refine XN λp q v u=>?_;cases p<;>first|exact be|skip
 cases q<;>first|exact be|skip
 refine cU λB=>?_;subst B;refine bD λA s K O Q E _ _ _ _ c z h=>?_;refine bC c ?_;clear c;intro S Z;obtain⟨a,o,n,f,rfl,t,P,_⟩:=S;cases Z;exact IsiPair.tuple_str (z _ _ t) P<|h _ _ _ (.refl _) tf
theorem Hg (D:List PV) (U:List Value):aj w X W n (j9 D U) (Ly D) e7 (call (.type "str") U):=by
 refine nG λp v=>?_;cases p<;>first|exact be|skip
 ·refine bD λA s K O Q E _ _ _ _ c z h=>?_;cases c;exact P.str_of_bool<|h _ _ _ (.refl _) qf
 ·refine cU λG=>bD λA s K O Q E _ _ _ _ c z h=>?_;refine bd c ?_;clear c;intro t S;subst S;exact P.str_of_int G<|h _ _ _ (.refl _) qf
 ·refine bD λA s K O Q E _ _ _ _ c z h=>?_;refine bd c ?_;clear c;intro t S;subst S;exact P.str_of_str<|h _ _ s.toks (.refl _) ⟨t,rfl⟩
theorem Ip (D U):aj w X W n (j9 D U) (UB D) e7 (call (.type "int") U):=by refine nG λp v=>aj.CI λb e=>?_;subst e;refine bD λA s K O Q E _ _ _ _ c z h=>?_;subst c;exact call_int_bool<|h _ _ _ (.refl _) ft
theorem B9 (D U):aj w X W n (j9 D U) (OE D) e7 (call (.type "tuple") U):=by
 refine nG λp v=>?_;cases p<;>first|exact be|skip
 refine bD λA s K O Q E _ _ _ _ c z h=>?_;obtain⟨a,o,n,f,rfl,t,P,g,r⟩:=c;exact call_tuple_same ⟨o,z _ _ t,P,n,g⟩<|h _ _ s.toks (.refl _) ⟨a,o,n,f,rfl,t,P,g,r⟩
theorem Fn (D U):aj w X W n (j9 D U) (Qi D) e7 (call (.type "list") U):=by
 refine nG λp v=>?_;cases p<;>first|exact be|skip
 ·exact cU λG=>Kh (.inr rfl) (λK O v ⟨a,o,n,f,q,t,P,g,R⟩=>⟨a,o,n,f,q,t,P,g,R⟩) G
 ·exact cU λG=>Kh (.inl rfl) (λK O v ⟨a,o,n,f,q,t,P,g,R⟩=>⟨a,o,n,f,q,t,P.1,g,R⟩) G
end
end
section
open Builtin
namespace MB
theorem vQ:V5 "bytes" "find" "bytes.find":=
 .of (owner:="bytes") (n:="find") (by(refine ag (lR ..)<|iJ▸?_);kernel_rfl) (by decide+kernel) (by decide+kernel) (by decide+kernel)
  (by first|exact .inl (by decide+kernel)|exact .inr<|by decide+kernel) (by refine ag (nn ..) ?_;kernel_rfl)
theorem Lh:sD (.builtin "bytes.find")=pure (.type "method_descriptor"):=by show wC _=_;refine lH▸?_;kernel_rfl
theorem zz:AL table "bytes.find"=ab lW.«bytes.find»:=kZ rfl
theorem I7 (a b):lI "bytes.find" ⟨[a,b],[]⟩:=by unfold lI;refine(j3 (n:=['d','n','i','f']) (by kernel_rfl) jq)▸?_;kernel_rfl
theorem I6 (a b c):lI "bytes.find" ⟨[a,b,c],[]⟩:=by unfold lI;refine(j3 (n:=['d','n','i','f']) (by kernel_rfl) jq)▸?_;kernel_rfl
theorem tT:V5 "bytes" "rfind" "bytes.rfind":=
 .of (owner:="bytes") (n:="rfind") (by(refine ag (lR ..)<|iJ▸?_);kernel_rfl) (by decide+kernel) (by decide+kernel) (by decide+kernel)
  (by first|exact .inl (by decide+kernel)|exact .inr<|by decide+kernel) (by refine ag (nn ..) ?_;kernel_rfl)
theorem GZ:sD (.builtin "bytes.rfind")=pure (.type "method_descriptor"):=by show wC _=_;refine lH▸?_;kernel_rfl
theorem xa:AL table "bytes.rfind"=ab lW.«bytes.rfind»:=kZ rfl
theorem Gs (a b):lI "bytes.rfind" ⟨[a,b],[]⟩:=by unfold lI;refine(j3 (n:=['d','n','i','f','r']) (by kernel_rfl) jq)▸?_;kernel_rfl
theorem Gr (a b c d):lI "bytes.rfind" ⟨[a,b,c,d],[]⟩:=by unfold lI;refine(j3 (n:=['d','n','i','f','r']) (by kernel_rfl) jq)▸?_;kernel_rfl
theorem wn:oK (ab<|.int i v)=pure (ab i):=by
 unfold oK;have e:afD (.int i v) "__index__"=typeLookup (.type "int") "__index__":=rfl;dsimp only
 (refine e▸F.slot_int_index.lookup▸?_)
 rfl
theorem afc:oK al=pure none:=rfl
noncomputable def wL (b p:Array UInt8) (st j:Option Int):Option (Nat×Nat):=if(wJ b.size st j).2-(wJ b.size st j).1<p.size then al else ab ((wJ b.size st j).1.toNat,(wJ b.size st j).2.toNat)
theorem JU (name):gZ .bytes name ⟨[.bytes b t,.bytes p u],[]⟩=pure (b,p,wL b p al al):=by unfold gZ;show(uB _ (.bytes p u)>>=λr=>_)=_;refine vG▸?_;rfl
theorem Tt (name):gZ .bytes name ⟨[.bytes b t,.bytes p u,.int i v],[]⟩=pure (b,p,wL b p (ab i) al):=by unfold gZ;show(oK (ab<|.int i v)>>=λr=>_)=_;refine wn▸?_;show(uB _ (.bytes p u)>>=λr=>_)=_;refine vG▸?_;rfl
theorem Ts (name):gZ .bytes name ⟨[.bytes b t,.bytes p u,.int i v,.int j x],[]⟩=pure (b,p,wL b p (ab i)<|ab j):=by unfold gZ;show(oK (ab<|.int i v)>>=λr=>_)=_;refine wn▸?_;show(oK (ab<|.int j x)>>=λr=>_)=_;refine(ae wn)▸?_;show(uB _ (.bytes p u)>>=λr=>_)=_;refine vG▸?_;rfl
noncomputable def found (right:Bool) (b p:Array UInt8) (st j:Option Int):Int:=
 match (wL b p st j).bind λ(lo,D)=>if right then aaP b p lo D else abm b p lo D with
 |some i=>i
 |none=>-1
theorem u9 (name right) (D:Args) (st j) (h:gZ .bytes name D=pure (b,p,wL b p st j)):
 Gives (Bytes.searchM .bytes name right ah D) (.int<|found right b p st j):=by
 refine .of_wp λM A E s Q L=>?_;show aD M A (gZ .bytes name D>>=λr=>_) _ E s;refine VF h ?_;unfold found at L;dsimp only;generalize ((wL b p st j).bind λ(lo,Z)=>if right then aaP b p lo Z else abm b p lo Z)=o at L
 induction o with
 |some k=>exact ak<|D6<|ar ⟨_,rfl,L⟩
 |none=>
  refine ak<|mm ?_
  exact ak<|D6<|ar ⟨_,rfl,L⟩
end MB
end
open MB renaming found->kH
section
open Builtin
namespace MB
theorem A5:V5 "bytes" "join" "bytes.join":=
 .of (owner:="bytes") (n:="join") (by(refine ag (lR ..)<|iJ▸?_);kernel_rfl) (by decide+kernel) (by decide+kernel) (by decide+kernel)
  (by first|exact .inl (by decide+kernel)|exact .inr<|by decide+kernel) (by refine ag (nn ..) ?_;kernel_rfl)
theorem Lg:sD (.builtin "bytes.join")=pure (.type "method_descriptor"):=by show wC _=_;refine lH▸?_;kernel_rfl
theorem IE:AL table "bytes.join"=ab lW.«bytes.join»:=kZ rfl
theorem Nw (a b):lI "bytes.join" ⟨[a,b],[]⟩:=by unfold lI;refine(j3 (n:=['n','i','o','j']) (by kernel_rfl) jq)▸?_;kernel_rfl
theorem yI:V5 "bytes" "rjust" "bytes.rjust":=
 .of (owner:="bytes") (n:="rjust") (by(refine ag (lR ..)<|iJ▸?_);kernel_rfl) (by decide+kernel) (by decide+kernel) (by decide+kernel)
  (by first|exact .inl (by decide+kernel)|exact .inr<|by decide+kernel) (by refine ag (nn ..) ?_;kernel_rfl)
theorem GY:sD (.builtin "bytes.rjust")=pure (.type "method_descriptor"):=by show wC _=_;refine lH▸?_;kernel_rfl
theorem F1:AL table "bytes.rjust"=ab lW.«bytes.rjust»:=kZ rfl
theorem I4 (a b c):lI "bytes.rjust" ⟨[a,b,c],[]⟩:=by unfold lI;refine(j3 (n:=['t','s','u','j','r']) (by kernel_rfl) jq)▸?_;kernel_rfl
theorem yJ:V5 "bytes" "lower" "bytes.lower":=
 .of (owner:="bytes") (n:="lower") (by(refine ag (lR ..)<|iJ▸?_);kernel_rfl) (by decide+kernel) (by decide+kernel) (by decide+kernel)
  (by first|exact .inl (by decide+kernel)|exact .inr<|by decide+kernel) (by refine ag (nn ..) ?_;kernel_rfl)
theorem G0:sD (.builtin "bytes.lower")=pure (.type "method_descriptor"):=by show wC _=_;refine lH▸?_;kernel_rfl
theorem F2:AL table "bytes.lower"=ab lW.«bytes.lower»:=kZ rfl
theorem I5 (a):lI "bytes.lower" ⟨[a],[]⟩:=by unfold lI;refine(j3 (n:=['r','e','w','o','l']) (by kernel_rfl) jq)▸?_;kernel_rfl
theorem FO:Gives («bytes.lower» ⟨[.bytes b t],[]⟩) (.bytes<|af<|b.toList.map XG):=by
 refine .of_wp λM A E s Q L=>?_;unfold «bytes.lower» Bytes.mappedM;refine ak<|kP rfl ?_
 refine ak<|kP rfl ?_
 exact ak<|sC (ar ⟨_,rfl,L.2⟩) L.1
theorem Nb (Y:rI i=ao) {id:String}:Wg id (.int i v)=pure i:=by show(if(!rI i)=ao then _ else pure i)=_;refine(ae Y)▸?_;rfl
theorem FN {c:UInt8} (Y:rI i=ao) (D:i<=16777216):
 Gives («bytes.rjust» ⟨[.bytes b t,.int i v,.bytes #[c] u],[]⟩) (if i<=b.size then .val (.bytes b t) else .bytes (jx (i.toNat-b.size) c++b)):=by
 refine .of_wp λM A E s Q L=>?_;show aD M A (Wg _ (.int i v)>>=λr=>_) _ E s;refine ak<|kP (Nb Y) ?_
 show aD M A (Bytes.payload (.bytes b t)>>=λr=>_) _ E s;refine ak<|kP rfl ?_
 show aD M A (if i<=b.size then _ else _) _ E s;by_cases h:i<=b.size
 ·rw[if_pos h] at L|-
  refine ak<|mm ?_
  refine ak<|ak<|Sl (dM s b t) ?_
  exact ar<|ar ⟨_,rfl,L⟩
 ·rw[if_neg h] at L|-
  have z:=AQ<|Jx.mpr D
  show aD M A (if XF i.toNat=ao then _ else _) _ E s
  (refine z▸kI (if_neg bp) ?_)
  have e:jx (i.toNat-b.size) c++b++jx (i.toNat-b.size-(i.toNat-b.size)) c=jx (i.toNat-b.size) c++b:=by simp
  show aD M A (mkBytes (jx (i.toNat-b.size) c++b++jx (i.toNat-b.size-(i.toNat-b.size)) c)>>=λr=>_) _ E s;refine(ae e)▸?_;exact ak<|sC (ar ⟨_,rfl,L.2⟩) L.1
theorem Ti {id:String}:GE id (.bytes b t) 0=pure (ab (b,al)):=by
 unfold GE Bytes.takeBuffer?
 (refine(KBy.special_eq KBy.look_buffer)▸KBy.own_buffer▸?_)
 show((uB id (.bytes b t)>>=λr=>_).attempt>>=λr=>_)=_;refine vG▸?_;rfl
noncomputable def sr (xs:List (List UInt8×GB)):List Value:=xs.map λx=>.bytes (af x.1) x.2
theorem Nq (xs i) (h:i<aa xs):(af<|sr xs).getD i .none=.bytes xs[i].1.toArray xs[i].2:=by
 have G:i<aa (sr xs):=by simp[sr,h]
 simp[sr,h]
theorem R3 (xs:List (List UInt8×GB)) (j):(((xs.take j).map λx=>(abc (af x.1) x.2,(al:Option Value))).any (·.1.onHeap))=false:=by rw[lU];intro x T;refine aH (b2.mp T) λy _ S=>?_;subst S;exact bp
theorem wX (h:Q () s):∀xs a,aD M A (letGo xs a) Q E s
 |[],_=>ar h
 |_::r,a=>by rw[letGo];exact ak<|a8<|mz<|wX h r a
theorem ra (h:Q () s) (j):∀(l:List Value),aD M A (Bytes.joinLetGo (l.map λx=>(x,al)) j) Q E s
 |[]=>ar h
 |_::l=>ak<|wX (ra h j l) _ _
noncomputable def N4 (xs:List (List UInt8×GB)) (i:Nat):(Array (Array UInt8)×List (Value×Option Value)):=⟨af<|(xs.take i).map λx=>af x.1,(xs.take i).map λx=>(.bytes (af x.1) x.2,al)⟩
theorem Qr (xs i) (h:i<aa xs):N4 xs (i+1)=((N4 xs i).1.push xs[i].1.toArray,(N4 xs i).2++[(.bytes xs[i].1.toArray xs[i].2,al)]):=by
 have e:xs.take (i+1)=xs.take i++[xs[i]]:=by(refine ag lS<|(aO h)▸?_);rfl
 unfold N4;refine e▸?_;simp only[b3,bu,rG,List.push_toArray]
theorem Uc (xs f)
 (Y:∀i,i<aa xs->∀(Q:ForInStep ((Array (Array UInt8)×List (Value×Option Value)))->bh->Prop) (E:Value->bh->Prop),Q (.yield<|N4 xs<|i+1) s->aD M A (f i<|N4 xs i) Q E s)
 (l:Q (N4 xs<|aa xs) s) (n) (B:n=aa xs):aD M A (forIn [:n] (#[],[]) f) Q E s:=by
 subst B;refine kI (fG ..) ?_
 have j:∀k i,i+k=aa xs->aD M A (forIn (K4 i k) (N4 xs i) f) Q E s:=by
  intro k
  induction k with
  |zero=>exactλi h=>ar<|by exact(show i=aa xs from h)▸l
  |succ k o=>
   intro i h
   (refine ri▸kI (cA ..) ?_)
   exact ak<|Y i (h▸jn (mn k)) _ _ (o (i+1)<|ag (Nat.succ_add_eq_add_succ i k) h)
 have e:km [:aa xs]=aa xs:=by simp[km]
 refine(ae e)▸?_;exact j (aa xs) 0<|fO _
theorem ite_no [Decidable c] {a b:jE u} (h:¬c) (k:aD M A b Q E s):aD M A (if c then a else b) Q E s:=by exact kI (if_neg h)<|k
theorem K9 {v:Array Value} {f:Value->jE u} (J:∀x,v=#[x]->aD M A (f x) Q E s) (k:v.size≠1->aD M A g Q E s):
 aD M A (match v with|#[x]=>f x|_=>g) Q E s:=by
 obtain⟨l⟩:=v
 cases l with
 |nil=>exact k nofun
 |cons a l=>cases l with
  |nil=>exact J a rfl
  |cons b l=>exact k nofun
theorem HX (d:List UInt8) (t:GB) (a) (xs:List (List UInt8×GB)):Meets («bytes.join» ⟨[.bytes (af d) t,.ref a],[]⟩)
 (λ_ R s=>s.heap.IsList a (af<|sr xs)/\(rA (af d)<|xs.map λx=>af x.1).size<=16777216/\
  (xs.map λx=>af x.1).toArray.foldl (· +·.size) (aa d*(aa xs-1))<=16777216/\
  ∀Y k,R (.ok<|.ret<|.bytes (rA (af d)<|xs.map λx=>af x.1) Y) {s with toks:=k}):=by
 refine .of_wp λm w A R s b=>?_;refine vh b λC V r h=>?_;have u:=C.typeIs;refine gG (id C) λo U P S=>bd S λn g=>?_;unfold «bytes.join» Bytes.joinM;refine VF rfl ?_
 have j:∀(Q:Option (Array Value)->bh->Prop) (E:Value->bh->Prop),Q (ab<|af<|sr xs) s->aD (Ob m w) A.in1 (DO<|.ref a) Q E s:=λQ E L=>by
  unfold DO;refine ak<|ul U ?_
  refine g▸?_;exact ar L
 have W:∀(Q:Value->bh->Prop) (E:Value->bh->Prop),Q (.ref a) s->aD (Ob m w) A.in1 (SR<|.ref a) Q E s:=λQ E L=>by unfold SR;exact ak<|Sl u<|Ji rfl<|ar L
 have l:(sr xs).toArray.size=aa xs:=by exact ag aR<|aB ..
 refine fX W<|fX j<|Ji rfl ?_
 refine K9 (λy q=>?_) λq=>?_
 ·have T:=GK.mp (ag l.symm<|congrArg Array.size q);refine bd T λx Z=>?_;have f:y=.bytes (af x.1) x.2:=by rw[Z] at q;exact(z7<|congrArg oM q).1.symm
  have e:rA (af d) (xs.map λx=>af x.1)=af x.1:=by rw[Z];simp[rA]
  refine fX (λ_ _ h=>Sl (by rw[f];exact dM s _ _) h)<|Ji rfl<|fX (λ_ _ h=>mm h)<|ar ⟨_,rfl,?_⟩
  rw[f,<-e];exact h x.2 s.toks
 ·skip
  refine ak<|Uc xs _ (λi D Q E L=>?_) ?_ _ l
  ·refine fX j<|ite_no (λB=>absurd ((R3 xs i).symm.trans B) bp) (ak<|a8 ?_)
   (refine(Nq _ _ D)▸kI Ti ?_)
   refine ar<|fX j ?_
   refine ite_no (λB=>absurd B<|by rw[bne_self_eq_false];exact bp)<|ar ?_
   refine((Qr _ _ D))▸?_;exact L
  ·refine VF rfl<|(show(N4 xs<|aa xs).1=(af<|xs.map λx=>af x.1) by unfold N4;rw[fy])▸?_
   have X:XF (abp (λc p=>c+p.size) (d.toArray.size*((xs.map λx=>af x.1).toArray.size-1))<|af<|xs.map λx=>af x.1)=false:=by refine AQ ?_;rw[show d.toArray.size*((xs.map λx=>af x.1).toArray.size-1)=aa d*(aa xs-1) by rw[aR,aR,aB]];exact r
   refine ite_no (λB=>absurd (ag X.symm B) bp)<|ak<|sC (ak<|a8<|mz ?_)<|by rw[bg];exact V
   rw[show(N4 xs<|aa xs).2=(sr xs).map λx=>(x,al) by unfold N4 sr;rw[fy,gO];rfl];exact ak<|ra (ar ⟨_,rfl,h _ _⟩) _ _
end MB
end
section
open Builtin Builtin._codecs
namespace MB
theorem Dc (b) (a:Array Nat) (h:∀x∈a,b x=ah):a.findIdx? b=none:=by rw[Array.findIdx?_eq_none_iff];exact h
theorem ZJ (g) (a b:V) (t:m=n+1) (T:g 0 a=pure (.yield b)) (J:g 1 b=pure (.done b)):forIn [0:m] a g=(pure b:jE V):=by
 subst t;refine ag (fG ..) ?_;simp only[km,Js,Sr,agK]
 (refine ri▸ag (cA ..)<|T▸?_)
 induction n with
 |zero=>rfl
 |succ n=>
  show forIn (K4 (0+1)<|n+1) b g=_
  (refine ri▸ag (cA ..)<|J▸?_);rfl
theorem ZK (g) (a:V) (t:m=0):forIn [0:m] a g=(pure a:jE V):=by subst t;refine ag (fG ..) ?_;rfl
set_option backward.match.sparseCases true in
noncomputable def WJ (cps:Array Nat) (b:Nat->Bool) (g:Array UInt8->Nat->Array UInt8) (U:jE PUnit) (E:Nat->(Nat×Array UInt8×V)->jE (ForInStep<|Nat×Array UInt8×V)) (_:Nat) (r:Nat×Array UInt8×V):
 jE (ForInStep<|Nat×Array UInt8×V):=
 let J:PUnit->jE (ForInStep<|Nat×Array UInt8×V):=λ_=>match cps[r.1]? with
  |some x=>if(!b x)=ao then pure (.yield (r.1+(((cps.extract r.1 cps.size).findIdx? b).getD (cps.extract r.1 cps.size).size),
   ((cps.extract r.1 cps.size).extract 0<|((cps.extract r.1 cps.size).findIdx? b).getD (cps.extract r.1 cps.size).size).foldl g r.2.1,r.2.2)) else E x r
  |_=>pure<|.done r
 if r.2.1.size>i5 then U>>=J else J ()
theorem P8 (cps b g U E) (st:V)
 (h:∀x∈cps,b x=ah) (N:(cps.foldl g #[]).size<=i5):∃i,forIn [0:cps.size] (0,#[],st) (WJ cps b g U E)=pure (i,cps.foldl g #[],st):=by
 rcases Nat.eq_zero_or_pos cps.size with hn|hn
 ·obtain rfl:=Array.eq_empty_of_size_eq_zero hn;exact⟨0,ZK _ _ rfl⟩
 ·have T:=B4 hn;refine⟨0+cps.size,ZJ _ _ _ (Nat.succ_pred_eq_of_pos hn).symm ?_ ?_⟩
  ·unfold WJ;dsimp only;refine ag (if_neg<|cW.mpr<|hH _)<|T▸?_
   refine ag (if_pos<|by refine(h _ (Op _))▸?_;rfl) ?_;rw[N0,Dc b cps h,Option.getD_none,N0]
  ·refine ag (if_neg<|cW.mpr N) ?_;dsimp only
   (refine(fO ..)▸?_;rw[Array.getElem?_eq_none<|bS _])
theorem afe {r:jE z} (e:m=U) (i:U>>=k=r):m>>=k=r:=by exact e▸i
theorem L9 (id) (c:Od) (a f) (s:am) (h:∀x∈s.cps,c.bad x=ah)
 (N:(s.cps.foldl (λS y=>S++af (c.bytesOf y)) #[]).size<=i5):
 uo id c a f s=pure (s.cps.foldl (λS y=>S++af (c.bytesOf y)) #[]):=by
 unfold uo;exact afe (P8 s.cps c.bad (λS y=>S++af (c.bytesOf y)) _ _ ({}:SA) h N).choose_spec<|pure_bind _ _
theorem zr (f):∀(l:List Nat) (S:List UInt8),l.foldl (λS y=>S++af (f y)) (af S)=af (S++l.flatMap f)
 |[],S=>by simp
 |x::l,S=>by
  (refine ag nY<|(ae (NR ..))▸ag (zr f l ..) ?_)
  simp
theorem wW (id) (c:Od) (a) (f:Value) (s:List Nat) (h:∀x∈s,c.bad x=ah)
 (N:aa (s.flatMap c.bytesOf)<=16777216):uo id c a f ⟨af s⟩=pure (af<|s.flatMap c.bytesOf):=by
 have e:(abp (λS y=>S++af (c.bytesOf y)) #[]<|af s)=af (s.flatMap c.bytesOf):=by refine ag (vF ..) ?_;have:=zr c.bytesOf s [];simpa using this
 refine ag (L9 id c a f ⟨af s⟩ (by simpa using h)<|by rw[e,bg];simpa using N) ?_;exact congrArg pure e
noncomputable def s9 (a:List Nat):Option TextCodec:=if a=[117,116,102,45,56] then ab utf8Codec else if a=[97,115,99,105,105] then ab asciiCodec else al
noncomputable def replaceW:List Nat:=[114,101,112,108,97,99,101]
theorem U9 (s a:List Nat) (t u:GB) (c:Od) (P:s9 a=ab c) (h:∀x∈s,c.bad x=ah) (N:aa (s.flatMap c.bytesOf)<=16777216):
 Gives («str.encode» ⟨[.str ⟨af s⟩ t,.str ⟨af a⟩ u],[]⟩) (.bytes<|af<|s.flatMap c.bytesOf):=by
 have b:«str.encode» ⟨[.str ⟨af s⟩ t,.str ⟨af a⟩ u],[]⟩=(do ret (<-(do mkBytes (<-uo "str.encode" c al (.str ⟨af s⟩ t) ⟨af s⟩)))):=by
  unfold s9 at P;split at P
  ·rename_i e;subst e;obtain rfl:=ai P;first|rfl|kernel_rfl
  ·split at P
   ·rename_i e;subst e;obtain rfl:=ai P;first|rfl|kernel_rfl
   ·exact aC P
 rw[b,wW _ c _ _ s h N];exact .of_wp λM A E s Q L=>ak<|ak<|ar<|sC (ar ⟨_,rfl,L.2⟩) L.1
theorem U8 (s a:List Nat) (t u v:GB) (c:Od) (P:s9 a=ab c) (h:∀x∈s,c.bad x=ah) (N:aa (s.flatMap c.bytesOf)<=16777216):
 Gives («str.encode» ⟨[.str ⟨af s⟩ t,.str ⟨af a⟩ u,.str ⟨af replaceW⟩ v],[]⟩) (.bytes<|af<|s.flatMap c.bytesOf):=by
 have b:«str.encode» ⟨[.str ⟨af s⟩ t,.str ⟨af a⟩ u,.str ⟨af replaceW⟩ v],[]⟩=(do ret (<-(do mkBytes (<-uo "str.encode" c (ab ⟨af replaceW⟩) (.str ⟨af s⟩ t) ⟨af s⟩)))):=by
  unfold s9 at P;split at P
  ·rename_i e;subst e;obtain rfl:=ai P;first|rfl|kernel_rfl
  ·split at P
   ·rename_i e;subst e;obtain rfl:=ai P;first|rfl|kernel_rfl
   ·exact aC P
 rw[b,wW _ c _ _ s h N];exact .of_wp λM A E s Q L=>ak<|ak<|ar<|sC (ar ⟨_,rfl,L.2⟩) L.1
end MB
end
section
open Builtin Builtin._codecs
namespace MB
noncomputable def u8W:List Nat:=[117,116,102,45,56]
noncomputable def RG (x:abn×Nat):Option (Nat×Nat):=by
 cases x.1
 case char c=>exact ab (c,x.2)
 all_goals exact al
theorem Nk (h:RG x=ab y):x=(.char y.1,y.2):=by
 cases x with|mk a n=>?_
 induction a with
 |char c=>exact congrArg (λy:Nat×Nat=>((.char y.1,y.2):abn×Nat))<|ai h
 |bad=>exact aC h
noncomputable def Dp (b:Array UInt8) (f:Nat->List Nat->Option (List Nat×Nat)) (p:Nat) (J:List Nat):Option (List Nat×Nat):=
 if b.size<=p then ab (J,p) else(RG<|aaO b p).bind λx=>f x.2<|J++[x.1]
noncomputable def sf (b:Array UInt8) (n:Nat):Nat->List Nat->Option (List Nat×Nat):=xL (λp J=>ab (J,p)) (λ_ f=>Dp b f) n
theorem Rz (b) (g:Nat->(Nat×Array Nat×SA)->jE (ForInStep<|Nat×Array Nat×SA)) (st:SA)
 (d:∀(i p:Nat) (J:List Nat),b.size<=p->aa J<=i5->g i (p,af J,st)=pure (.done (p,af J,st)))
 (C:∀(i p:Nat) (J:List Nat) (c a:Nat),¬b.size<=p->aa J<=i5->aaO b p=(.char c,a)->g i (p,af J,st)=pure (.yield (a,af<|J++[c],st)))
 (f):∀i p J r,sf b f p J=ab r->aa J+f<=i5->forIn (K4 i f) (p,af J,st) g=pure (r.2,af r.1,st):=by
 induction f with
 |zero=>exactλi p J r h _=>congrArg (λr:List Nat×Nat=>(pure (r.2,af r.1,st):jE (Nat×Array Nat×SA)))<|ai h
 |succ f o=>
  intro i p J r h N
  (refine ri▸ag (cA ..) ?_)
  have G:=aM (cn _ _) N;by_cases F:b.size<=p
  ·refine(d _ _ _ F G)▸?_;exact congrArg (λr:List Nat×Nat=>(pure (r.2,af r.1,st):jE (Nat×Array Nat×SA)))<|ai<|(if_pos F).symm.trans h
  ·refine aH (bind_some<|(if_neg F).symm.trans h) λx T W=>(C _ _ _ _ _ F G (Nk T))▸?_;exact o (i+1) x.2 (J++[x.1]) r W<|by refine aI▸?_;show aa J+1+f<=_;(refine(d8 ..)▸(gh 1 f)▸?_);exact N
theorem run_eq (id:String) (b r) (h:sf b b.size 0 []=ab r) (N:b.size<=i5):
 runDecoder id VW al ao b 0 []=pure (af r.1,r.2):=by
 unfold runDecoder;dsimp only;rw[fG];simp only[km,Js,Sr,agK];have T:(#[]:Array Nat)=af ([]:List Nat):=rfl;refine T▸?_;refine ag (congrArg (· >>=_)<|Rz b _ _ (λi p J F L=>?_) (λi p J c nx F L V=>?_) b.size 0 0 [] r h (by simpa using N)) ?_
 ·have C:¬(J.toArray.size>i5):=by simpa using L
  simp only[if_neg C,if_pos F,ge_iff_le]
 ·have C:¬(J.toArray.size>i5):=by simpa using L
  have Y:VW.find ao b p=.char c nx:=by unfold VW;dsimp only;rw[V]
  simp only[if_neg C,if_neg F,ge_iff_le,Y];simp[Found.char]
 ·rfl
theorem Na:«bytes.decode» ⟨[.bytes (af<|c::D) t,.str ⟨af u8W⟩ u],[]⟩=(mkStr (ba "utf-8")>>=λ_=>mkStr (ba "utf-8")>>=λe=>mkStr (ba "bytes.decode")>>=λd=>
 call (.builtin "_codecs.decode.text") [.bytes (af<|c::D) t,e,.none,d]>>=λv=>ret v):=by kernel_rfl
theorem Nx (a b):lI "bytes.decode" ⟨[a,b],[]⟩:=by unfold lI;refine(j3 (n:=['e','d','o','c','e','d']) (by kernel_rfl) jq)▸?_;kernel_rfl
theorem Mc (g:∀id,_codecs.runDecoder id _codecs.utf8Decoder al ao (af<|c::D) 0 []=pure (x.cps,n)):
 Meets («bytes.decode» ⟨[.bytes (af<|c::D) t,.str ⟨af u8W⟩ u],[]⟩) (λ_ R s=>x.length<=i5/\∀Y k,R (.ok<|.ret<|.str x Y) {s with toks:=k}):=by
 refine .of_wp λm w A R s b=>?_;refine bC b λV h=>?_;refine kI Na<|ak<|VV ?_ (by decide)
 refine ak<|VV ?_ (by decide)
 refine ak<|VV ?_ (by decide)
 exact ak<|call_function_meets KBd.kind_text KBd.plain_text KBd.entry_text (KBd.args_text _ _ _ _) (KBd.meets_text g) ⟨V,ar ⟨_,rfl,h _ _⟩⟩
end MB
end
section
open Builtin
section
variable {KF K:aN}
theorem Inv.Pb (N:Inv KF K O H M h) (D:O[i]?=ab a) (G:fK a h h')
 (e:h'.get? a=ab o) (P:SJ o) (g:o.data=.seq (af U) n) (r:bU K O l U):Inv KF K O (H.set i l) M h':=by
 have I:=bq D;refine aH (N.P9 I) λ_ _ c=>⟨N.par,N.stat,λb x k=>?_,N.kf,⟨by simp[N.ky.len],N.ky.nodup,λj b d Q C=>?_⟩,⟨λZ Y=>?_⟩⟩
 ·refine ag (G.2 b<|by rintro rfl;rw[c] at k;exact aC k) ?_;exact N.sub b x k
 ·by_cases q:i=j
  ·subst q;rw[D] at Q;obtain rfl:=ai Q;have F:=N.ky.len▸(aA.mp D).1;rw[cH F] at C;obtain rfl:=ai C;exact⟨c,o,n,U,e,P,g,r⟩
  ·rw[dQ q] at C
   have X:b≠a:=by rintro rfl;have J:=aA.mp D;exact q<|(xr J.1 N.ky.nodup).mp<|by(refine ag D ?_;rw[Q])
   obtain⟨k,u,w,z,V,s,A,S⟩:=N.ky.at_ j b d Q C;exact⟨k,u,w,z,by refine ag (G.2 b X) ?_;exact V,s,A,S⟩
 ·obtain⟨k,L,u,f,v,m,V,fo,fr⟩:=N.stk.all Z Y;exact⟨k,L,u,f,v,m,by refine ag (G.2 L<|by rintro rfl;exact m I) ?_;exact V,fo,fr⟩
theorem Ci (I:a∈O) (G:fK a h h') (z:∃u,h'.get? a=ab u):Step W K O h K O h':=
 ⟨rfl,λ_ _ e=>e,λ_ _ e=>.inl e,⟨[],by simp,by simp⟩,λb o e=>by
     by_cases q:b=a
     ·subst q;exact z
     ·exact⟨o,by refine ag (G.2 b q) ?_;exact e⟩,
  λb o e t _=>⟨o.slots,by refine ag (G.2 b λq=>t<|q▸I) ?_;exact e,.inl rfl⟩,λ_ q=>.inl q⟩
theorem J4 (P:SJ o) (g:o.data=.seq U n):o={cls:=.type "list",dict:=al,data:=.seq U n,slots:=#[]}:=by obtain⟨c,d,B,p⟩:=o;refine iZ P ?_;clear P;intro J W E;simp only at J W E g;subst J W E g;rfl
end
abbrev MN:=(PV->Option String)×(PV->List PV->IM PV)
noncomputable def wU (p:PV):Option (Nat):=p.casesOn al (λ_=>al) (λ_=>al) (λ_=>al) (λ_=>al) (λ_=>al) (λ_=>al) (λi=>ab i) (λ_=>al) (λ_=>al) (λ_=>al) (λ_ _=>al) (λ_ _=>al) (λ_ _=>al) al al
theorem yY (h:wU p=ab i):p=.dR i:=vw (λp=>p.casesOn rfl (λ_=>rfl) (λ_=>rfl) (λ_=>rfl) (λ_=>rfl) (λ_=>rfl) (λ_=>rfl) (λ_=>rfl) (λ_=>rfl) (λ_=>rfl) (λ_=>rfl) (λ_ _=>rfl) (λ_ _=>rfl) (λ_ _=>rfl) rfl rfl) h
noncomputable abbrev CM (O:MN):PV->Option String:=O.1
abbrev zO:List PV->Option (List<|List UInt8):=Nz l6
abbrev EE:List PV->Option (List<|List Nat):=Nz Cw
theorem BJ {K:aN}:∀{I U},bU K O (I.map .bytes) U->∃xs:List (List UInt8×GB),U=MB.sr xs/\xs.map (·.1)=I
 |[],_,h=>⟨[],h,rfl⟩
 |b::I,U,h=>by refine cL h ?_;clear h;intro v r S Z h;subst S;refine bd Z ?_;clear Z;intro t H;subst H;refine aH (BJ h) λxs S Z=>?_;subst S;subst Z;exact⟨(b,t)::xs,rfl,rfl⟩
theorem IZ {K:aN} (h:bU K O l U) (e:zO l=ab bs):∃xs:List (List UInt8×GB),U=MB.sr xs/\xs.map (·.1)=bs:=by rw[yf (λ_ _=>sV) e] at h;exact BJ h
theorem ED {K:aN}:∀{I:List (List Nat)} {U},bU K O (I.map .str) U->∃xs:List (am×GB),U=strValues xs/\xs.map (·.1)=I.map λb=>⟨af b⟩
 |[],_,h=>⟨[],h,rfl⟩
 |b::I,U,h=>by refine cL h ?_;clear h;intro v r S Z h;subst S;refine bd Z ?_;clear Z;intro t H;subst H;refine aH (ED h) λxs S q=>?_;subst S;exact⟨(⟨af b⟩,t)::xs,rfl,congrArg _ q⟩
theorem Lx {K:aN} {l:List PV} (h:bU K O l U) (e:EE l=ab I):∃xs:List (am×GB),U=strValues xs/\xs.map (·.1)=I.map λb=>⟨af b⟩:=by rw[yf (λ_ _=>qA) e] at h;exact ED h
def W9 (p:PV) (l:List PV):IM PV:=onBytes p λb=>if aa l=1 then Ba l λq=>onBytes q λp=>ax (.int<|kH ah (af b) (af p) al al)
 else Wv l λq r=>onBytes q λp=>ch r λi=>ax<|.int<|kH ah (af b) (af p) (ab i) al
def Pk (p:PV) (l:List PV):IM PV:=onBytes p λb=>if aa l=1 then Ba l λq=>onBytes q λp=>ax (.int<|kH ao (af b) (af p) al al)
 else on3 l λq r s=>onBytes q λp=>ch r λi=>ch s λj=>ax<|.int<|kH ao (af b) (af p) (ab i)<|ab j
noncomputable def oj (d:List UInt8) (I:List (List UInt8)):List UInt8:=(rA (af d)<|I.map λb=>af b).toList
noncomputable def sN (I:List (List Nat)):List am:=I.map λb=>⟨af b⟩
noncomputable def Qs (d:List Nat) (I:List (List Nat)):List Nat:=(Txt.join ⟨af d⟩<|sN I).cps.toList
noncomputable def yz (d:Nat) (I:List (List UInt8)):Nat:=(I.map λb=>af b).toArray.foldl (· +·.size)<|d*(aa I-1)
def zh (p:PV) (l:List PV):IM PV:=match p with
 |.bytes d=>Ba l λq=>gQ q λl=>bJ (zO l) λI=>if aa (oj d I)<=16777216/\yz (aa d) I<=16777216 then ax (.bytes<|oj d I) else aP
 |.str d=>Ba l λq=>gQ q λl=>bJ (EE l) λI=>if JoinOk ⟨af d⟩ (sN I)=ao then ax (.str<|Qs d I) else aP
 |_=>aP
def Pj (p:PV) (l:List PV):IM PV:=onBytes p λb=>Wv l λq r=>ch q λi=>onBytes r λD=>if aa D=1/\0<=i/\i<=16777216/\aa b<=16777216 then ax (.bytes<|aW (i.toNat-aa b) (D.getD 0 0)++b) else aP
def Qf (p:PV) (l:List PV):IM PV:=onBytes p λb=>if aa l=0/\aa b<=16777216 then ax (.bytes<|b.map XG) else aP
def vn (p:PV) (l:List PV):IM PV:=onBytes p λb=>Ba l λq=>onStr q λe=>if e=MB.u8W/\aa b<=16777216/\b≠[] then bJ (MB.sf (af b) b.toArray.size 0 []) λr=>if aa r.1<=16777216 then ax (.str r.1) else aP else aP
def Dh (p:PV) (l:List PV):IM PV:=onStr p λs=>if aa l=1 then Ba l λq=>onStr q λa=>bJ (MB.s9 a) λc=>if(∀x∈s,c.bad x=ah)/\aa (s.flatMap c.bytesOf)<=16777216 then ax (.bytes<|s.flatMap c.bytesOf) else aP
 else Wv l λq r=>onStr q λa=>onStr r λe=>if e=MB.replaceW then bJ (MB.s9 a) λc=>if(∀x∈s,c.bad x=ah)/\aa (s.flatMap c.bytesOf)<=16777216 then ax (.bytes<|s.flatMap c.bytesOf) else aP else aP
def rS (p:PV) (k:Nat->IM α):IM α:=by
 cases p
 case dR i=>exact k i
 all_goals exact aP
def DB (p:PV) (l:List PV):IM PV:=rS p λi=>Ba l λq=>λH=>match H[i]? with
 |some l=>if aa l<=16777216 then .ok .none (H.set i<|l++[q]) else .stuck
 |none=>.stuck
def abO (p:PV) (l:List PV):IM PV:=rS p λi=>if aa l=0 thenλH=>(match (H[i]?).bind λl=>l.getLast?.map λx=>(l,x) with
 |some (l,x)=>if aa l<=16777216 then .ok x (H.set i l.dropLast) else .stuck
 |none=>.stuck) else aP
def C3 (p:PV) (l:List PV):IM PV:=Ba l λq=>ch q λk=>gQ p λl=>bJ (w3 l) λj=>if k∈j/\nw (.list<|j.map .int)=ao then ax (.int (j.idxOf k:Nat)) else aP
noncomputable abbrev WM (O:MN):PV->List PV->IM PV:=O.2
def MN.find:MN:=(λp=>(l6 p).map λ_=>"bytes.find",W9)
def MN.rfind:MN:=(λp=>(l6 p).map λ_=>"bytes.rfind",Pk)
def MN.join:MN:=(λp=>if(l6 p).isSome then ab "bytes.join" else(Cw p).map λ_=>"str.join",zh)
def MN.rjust:MN:=(λp=>(l6 p).map λ_=>"bytes.rjust",Pj)
def MN.lower:MN:=(λp=>(l6 p).map λ_=>"bytes.lower",Qf)
def MN.decode:MN:=(λp=>(l6 p).map λ_=>"bytes.decode",vn)
def MN.encode:MN:=(λp=>(Cw p).map λ_=>"str.encode",Dh)
def MN.append:MN:=(λp=>(wU p).map λ_=>"list.append",DB)
def MN.pop:MN:=(λp=>(wU p).map λ_=>"list.pop",abO)
def MN.index:MN:=(λp=>if isL p then ab "list.index" else al,C3)
def Qb:List (am×MN):=[("find",MN.find),("rfind",MN.rfind),("join",MN.join),("rjust",MN.rjust),("lower",MN.lower),("decode",MN.decode),("encode",MN.encode),("append",MN.append),("pop",MN.pop),("index",MN.index)]
theorem tY {u z:Type} [BEq u] [LawfulBEq u] (P:u->z->Prop) (l:List (u×z)) (C:j4 (motive:=λ_=>Prop) True (λq _ R=>P q.1 q.2/\R) l) {x:u} {b:z} (h:l.lookup x=ab b):P x b:=by
 induction l with
 |nil=>exact aC h
 |cons q l o=>
  rw[br] at h
  cases e:x==q.1 with
  |true=>rw[e] at h;obtain rfl:=eq_of_beq e;obtain rfl:=ai h;exact C.1
  |false=>rw[e] at h;exact o C.2 h
end
section
open Builtin
section
theorem aj.m1 (h:∀q u,aj w X W n (λK O _=>VR K O p v/\VR K O q u) (k q) e7<|call f [v,u]):aj w X W n (λK O _=>VR K O p v/\bU K O D U) (Ba D k) e7 (call f<|v::U):=by
 intro A s K O H M I N c L
 cases D with
 |nil=>exact absurd rfl L
 |cons q r=>cases r with
  |cons _ _=>exact absurd rfl L
  |nil=>refine aH (VO c.2) λu S V=>?_;subst S;exact h q u A s K O H M I N ⟨c.1,V⟩ L
theorem aj.m2 (h:∀q r u x,aj w X W n (λK O _=>VR K O p v/\VR K O q u/\VR K O r x) (k q r) e7<|call f [v,u,x]):aj w X W n (λK O _=>VR K O p v/\bU K O D U) (Wv D k) e7 (call f<|v::U):=by
 intro A s K O H M I N c L
 cases D with
 |nil=>exact absurd rfl L
 |cons q r=>cases r with
  |nil=>exact absurd rfl L
  |cons r l=>cases l with
   |cons _ _=>exact absurd rfl L
   |nil=>refine iB (VN c.2) λu x S V=>?_;subst S;exact h q r u x A s K O H M I N ⟨c.1,V⟩ L
theorem aj.m3 (h:∀q r l u x y,aj w X W n (λK O _=>VR K O p v/\VR K O q u/\VR K O r x/\VR K O l y) (k q r l) e7<|call f [v,u,x,y]):aj w X W n (λK O _=>VR K O p v/\bU K O D U) (on3 D k) e7 (call f<|v::U):=by
 intro A s K O H M I N c L
 cases D with
 |nil=>exact absurd rfl L
 |cons q r=>cases r with
  |nil=>exact absurd rfl L
  |cons r l=>cases l with
   |nil=>exact absurd rfl L
   |cons l m=>cases m with
    |cons _ _=>exact absurd rfl L
    |nil=>refine se (aiZ c.2) λu x y S V=>?_;subst S;exact h q r l u x y A s K O H M I N ⟨c.1,V⟩ L
open aj renaming m1->vJ,m2->XK
theorem aj.ifc [Decidable c] (h:aj w X W n C m R t) (G:aj w X W n C U R t):aj w X W n C (if c then m else U) R t:=by
 by_cases q:c
 ·exact(if_pos q)▸h
 ·exact(if_neg q)▸G
open aj renaming ifc->aaV
theorem IA (p D v U):aj w X W n (λK O _=>VR K O p v/\bU K O D U) (W9 p D) e7 (call (.builtin "bytes.find")<|v::U):=by
 refine g4 λb e=>aaV (vJ λq u=>g4 λc V=>?_)<|XK λq r u x=>g4 λc V=>dm λi T=>?_
 ·subst e V;refine bD λA s K O Q E _ _ _ _ c _ h=>?_;refine bC c ?_;clear c;intro S H;refine bd S ?_;clear S;intro t Z;subst Z;refine bd H ?_;clear H;intro Y L;subst L;exact jl MB.vQ (dM _ _ _) MB.zz (MB.I7 _ _) (MB.u9 "find" ah _ _ _ (MB.JU _))<|h _ _ _ (.refl _) ft
 ·subst e V T;refine bD λA s K O Q E _ _ _ _ c _ h=>?_;refine iZ c ?_;clear c;intro S H z;refine bd S ?_;clear S;intro t Z;subst Z;refine bd H ?_;clear H;intro Y L;subst L;refine bd z ?_;clear z;intro t2 M;subst M;exact jl MB.vQ (dM _ _ _) MB.zz (MB.I6 _ _ _) (MB.u9 "find" ah _ _ _ (MB.Tt _))<|h _ _ _ (.refl _) ft
theorem EQ (p D v U):aj w X W n (λK O _=>VR K O p v/\bU K O D U) (Pk p D) e7 (call (.builtin "bytes.rfind")<|v::U):=by
 refine g4 λb e=>aaV (vJ λq u=>g4 λc V=>?_)<|aj.m3 λq r l u x y=>g4 λc V=>dm λi T=>dm λj C=>?_
 ·subst e V;refine bD λA s K O Q E _ _ _ _ c _ h=>?_;refine bC c ?_;clear c;intro S H;refine bd S ?_;clear S;intro t Z;subst Z;refine bd H ?_;clear H;intro Y L;subst L;exact jl MB.tT (dM _ _ _) MB.xa (MB.Gs _ _) (MB.u9 "rfind" ao _ _ _ (MB.JU _))<|h _ _ _ (.refl _) ft
 ·subst e V T C;refine bD λA s K O Q E _ _ _ _ c _ h=>?_;refine vh c ?_;clear c;intro S H z R;refine bd S ?_;clear S;intro t Z;subst Z;refine bd H ?_;clear H;intro Y L;subst L;refine bd z ?_;clear z;intro t2 M;subst M;refine bd R ?_;clear R;intro t3 G;subst G;exact jl MB.tT (dM _ _ _) MB.xa (MB.Gr _ _ _ _) (MB.u9 "rfind" ao _ _ _ (MB.Ts _))<|h _ _ _ (.refl _) ft
theorem Fm (p D v U):aj w X W n (λK O _=>VR K O p v/\bU K O D U) (Qf p D) e7 (call (.builtin "bytes.lower")<|v::U):=by refine g4 λb e=>cU λG=>?_;subst e;obtain rfl:=cw.mp G.1;refine bD λA s K O Q E _ _ _ _ c _ h=>?_;refine bC c ?_;clear c;intro S c2;refine bd S ?_;clear S;intro t Z;subst Z;subst c2;exact jl MB.yJ (dM _ _ _) MB.F2 (MB.I5 _) MB.FO ⟨by refine bg▸?_;simpa using G.2,by simpa using h _ _ _ (.refl _) jQ⟩
theorem Iz (T:0<=i) (h:i<=16777216):rI i=true:=fA.mpr ⟨decide_eq_true (fP (by decide) T),decide_eq_true<|eF h<|by decide⟩
theorem EP (p D v U):aj w X W n (λK O _=>VR K O p v/\bU K O D U) (Pj p D) e7 (call (.builtin "bytes.rjust")<|v::U):=by
 refine g4 λb e=>XK λq r u x=>dm λi V=>g4 λI J=>cU λG=>?_;subst e V J;refine vh G ?_;clear G;intro P T N R;refine bd (GK.mp P) λc S=>?_;subst S;refine bD λA s K O Q E _ _ _ _ f _ h=>?_;refine iZ f ?_;clear f;intro S H z;refine bd S ?_;clear S;intro t Z;subst Z;refine bd H ?_;clear H;intro Y L;subst L;refine bd z ?_;clear z;intro t2 M;subst M;refine jl MB.yI (dM _ _ _) MB.F1 (MB.I4 _ _ _) (MB.FN (Iz T N) N) ?_;have a:=N;by_cases N:i<=(b.toArray.size:Int)
 ·refine(if_pos N)▸?_;have e:=K2<|Jx.mpr N
  exact h _ _ s.toks (.refl _) (by exact(ae e)▸jQ)
 ·refine(if_neg N)▸?_;have e:(jx (i.toNat-b.toArray.size) c++af b)=af (aW (i.toNat-aa b) c++b):=by simp
  refine e▸?_;exact⟨by(refine bg▸(ae aR)▸aI▸tg▸?_;refine(ae<|bP<|show aa b<=i.toNat from eS<|afU.mpr<|iX.mp N)▸?_);exact Jx.mpr a,h _ _ _ (.refl _) jQ⟩
theorem Do (p D v U):aj w X W n (λK O _=>VR K O p v/\bU K O D U) (vn p D) e7 (call (.builtin "bytes.decode")<|v::U):=by
 refine g4 λb e=>vJ λq u=>tL λa V=>cU λG=>eP λr d=>cU λN=>?_;refine iZ G ?_;clear G;intro S C R;subst S;subst e V
 cases b with
 |nil=>exact absurd rfl R
 |cons x b=>
  refine bD λA s K O Q E _ _ _ _ c _ h=>?_;refine bC c ?_;clear c;intro S H;refine bd S ?_;clear S;intro t Z;subst Z;refine bd H ?_;clear H;intro Y L;subst L
  exact z1 Om (dM _ _ _) FB.entry_bytes_decode (MB.Nx _ _) (MB.Mc λid=>MB.run_eq id _ r d (by exact bg▸C))
   ⟨by exact bg▸N,λY k=>h _ _ _ (.refl _) DE⟩
theorem Dg (p D v U):aj w X W n (λK O _=>VR K O p v/\bU K O D U) (Dh p D) e7 (call (.builtin "str.encode")<|v::U):=by
 refine tL λs e=>aaV (vJ λq u=>tL λa V=>eP λc P=>cU λN=>?_)<|XK λq r u x=>tL λa V=>tL λb i=>cU λJ=>eP λc P=>cU λN=>?_
 ·subst e V;refine bD λA st K O Q E _ _ _ _ f _ h=>?_;refine bC f ?_;clear f;intro S H;refine bd S ?_;clear S;intro t Z;subst Z;refine bd H ?_;clear H;intro Y L;subst L;exact jl F.slot_str_encode (Jj _ _ _) F.entry_str_encode (F.args_str_encode_2 _ _) (MB.U9 s a t Y c P N.1 N.2) ⟨by exact bg▸N.2,h _ _ _ (.refl _) jQ⟩
 ·subst e V i J;refine bD λA st K O Q E _ _ _ _ f _ h=>?_;refine iZ f ?_;clear f;intro S H z;refine bd S ?_;clear S;intro t Z;subst Z;refine bd H ?_;clear H;intro Y L;subst L;refine bd z ?_;clear z;intro t2 M;subst M;exact jl F.slot_str_encode (Jj _ _ _) F.entry_str_encode (F.args_str_encode_3 _ _ _) (MB.U8 s a t Y t2 c P N.1 N.2) ⟨by exact bg▸N.2,h _ _ _ (.refl _) jQ⟩
theorem aj.rS (h:∀i,p=.dR i->aj w X W n C (k i) R t):aj w X W n C (rS p k) R t:=by cases p<;>first|exact h _ rfl|exact be
inductive MuL (K:aN) (μ:List bk) (i:Nat) (l:List PV) (v:Value) (h:eG):Prop
 |mk (a:bk) (k:Nat) (us:List Value) (e:v=.ref a) (hi:μ[i]?=ab a) (hl:IsL h a (af us) k) (rs:bU K μ l us)
theorem WK {K:aN} (N:Inv X K O H M h) (c:VR K O (.dR i) v) (e:H[i]?=ab l):MuL K O i l v h:=by refine aH c ?_;clear c;intro a D S;subst S;obtain⟨_,o,k,f,V,P,g,R⟩:=N.ky.at_ i a l D e;obtain rfl:=J4 P g;exact⟨a,k,f,rfl,D,V,R⟩
theorem DA (p D v U):aj w X W n (λK O _=>VR K O p v/\bU K O D U) (DB p D) e7 (call (.builtin "list.append")<|v::U):=by
 refine aj.rS λi e=>vJ λq u=>?_;subst e;intro A s K O H M I N c L;refine bC c λc1 J=>?_;dsimp only at L|-
 cases e:H[i]? with
 |none=>rw[e] at L;exact absurd rfl L
 |some l=>
  rw[e] at L;by_cases G:aa l<=16777216
  case neg=>exact absurd (if_neg G) L
  obtain⟨a,k,f,rfl,Z,C,R⟩:=WK N c1 e;have V:f.toArray.size<=sizeLine:=by(refine bg▸aR▸R.length▸?_);exact G
  have S:=C.update λx=>x.push u;have b:f.toArray.push u=af (f++[u]):=by simp
  have P:=N.Pb Z (ds s.heap a<|fN λx=>x.push u) S ⟨rfl,rfl,rfl⟩ (by rw[<-b])<|R.append<|b7 J eu
  exact z1 F.slot_list_append ⟨_,C,rfl⟩ F.entry_list_append (F.args_list_append_2 _ _) (list_append a (af f) k u V) ⟨C,.none,_,K,O,if_pos G,Ci (bq Z) (ds s.heap a _) ⟨_,S⟩,P,qO,rfl,rfl⟩
theorem bU.dropLast {K:aN} (h:bU K O l U):bU K O l.dropLast U.dropLast:=by
 have F:=h.pick<|dg<|aa l-1
 have j:∀{u:Type} (l:List u) (m:Nat),m<=aa l->(dg m).filterMap (l[·]?)=l.take m:=λl m=>by
  induction m with
  |zero=>intro _;rfl
  |succ m o=>intro t;(refine la▸ag mX ?_;refine(o<|xN t)▸lS▸?_);simp[aO t]
 rw[j l _ (sE _ _),j U _ (by exact h.length▸sE _ _)] at F
 (refine Jw▸(ae Jw)▸(ae h.length)▸?_)
 exact F
theorem LS (p D v U):aj w X W n (λK O _=>VR K O p v/\bU K O D U) (abO p D) e7 (call (.builtin "list.pop")<|v::U):=by
 refine aj.rS λi e=>cU λT=>?_;subst e;obtain rfl:=cw.mp T;intro A s K O H M B N c L;refine bC c λc1 c2=>?_;subst c2;dsimp only at L|-
 cases e:(H[i]?).bind λl=>l.getLast?.map λx=>(l,x) with
 |none=>rw[e] at L;exact absurd rfl L
 |some m=>
  obtain⟨l,x⟩:=m;rw[e] at L;refine aH (bind_some e) λd g Z=>aH (a9.mp Z) λY Z C=>?_;cases C;by_cases G:aa l<=16777216
  case neg=>exact absurd (if_neg G) L
  obtain⟨a,k,f,rfl,E,Q,R⟩:=WK N c1 g;have J:=R.length;have V:f.toArray.size<=sizeLine:=by(refine bg▸aR▸J▸?_);exact G
  have C:l[aa l-1]?=ab x:=by refine ag (ae DX) ?_;exact Z
  refine aH (R.get C) λy I j=>?_;have h:(af f)[f.toArray.size-1]?=ab y:=by(refine aR▸ag f5 ?_;refine J▸?_);exact I
  have S:=Q.update λxs=>xs.eraseIdxIfInBounds<|f.toArray.size-1
  have b:f.toArray.eraseIdxIfInBounds (f.toArray.size-1)=af f.dropLast:=by refine ag (List.eraseIdxIfInBounds_toArray ..) ?_;simp only[aR,List.eraseIdx_length_sub_one]
  have P:=N.Pb E (ds s.heap a<|fN λxs=>xs.eraseIdxIfInBounds<|f.toArray.size-1) S ⟨rfl,rfl,rfl⟩ (by rw[<-b]) R.dropLast;exact z1 F.slot_list_pop ⟨_,Q,rfl⟩ F.entry_list_pop (F.args_list_pop_1 _) (MeetsSeq.list_pop_last a (af f) k y h V) ⟨Q,x,_,K,O,if_pos G,Ci (bq E) (ds s.heap a _) ⟨_,S⟩,P,j,rfl,rfl⟩
theorem FF (p D v U):aj w X W n (λK O _=>VR K O p v/\bU K O D U) (C3 p D) e7 (call (.builtin "list.index")<|v::U):=by refine vJ λq u=>dm λk e=>lg (Al λl=>eP λj i=>cU λG=>?_) λ_ _ _ c=>c.symm;subst e;refine bD λA s K O Q E _ _ _ _ c _ h=>?_;refine bC c ?_;clear c;intro S H;refine bd S ?_;clear S;intro t Z;subst Z;refine cL H ?_;clear H;intro a f L C R;subst L;exact index_list_ints C (v9 R i) G.2 G.1<|h _ _ _ (.refl _) ft
end
end
open aj renaming m1->vJ
section
open Builtin
theorem zg (p D v U):(∀d,p=.bytes d->aj w X W n (λK O _=>VR K O p v/\bU K O D U) (zh p D) e7 (call (.builtin "bytes.join")<|v::U))/\
 ∀d,p=.str d->aj w X W n (λK O _=>VR K O p v/\bU K O D U) (zh p D) e7 (call (.builtin "str.join")<|v::U):=by
 constructor
 ·rintro d rfl;refine vJ λq u=>Al λl=>eP λI i=>cU λG=>bD λA s K O Q E _ _ _ _ c _ k=>?_;refine bC c ?_;clear c;intro S H;refine bd S ?_;clear S;intro t Z;subst Z;refine cL H ?_;clear H;intro a f L C R;subst L;refine aH (IZ R i) λxs S Z=>?_;subst S;subst Z;refine bC G ?_;clear G;intro j g;have em:(xs.map (·.1)).map (λb=>af b)=xs.map λx=>af x.1:=by refine ag gO ?_;rfl
  unfold oj at j;unfold yz at g;rw[em] at j g;rw[aB] at g;exact z1 MB.A5 (dM _ _ _) MB.IE (MB.Nw _ _) (MB.HX d t a xs) ⟨C,by simpa using j,g,λY V=>k _ _ _ (.refl _) ⟨Y,by unfold oj;rw[em]⟩⟩
 ·rintro d rfl;refine vJ λq u=>Al λl=>eP λI i=>cU λG=>bD λA s K O Q E _ _ _ _ c _ k=>?_;refine bC c ?_;clear c;intro S H;refine bd S ?_;clear S;intro t Z;subst Z;refine cL H ?_;clear H;intro a f L C R;subst L;refine aH (Lx R i) λxs S T=>?_;subst S;exact PySem.SC.join C T G λY V=>k _ _ _ (.refl _) ⟨Y,rfl⟩
theorem Fk {K:aN} (N:Inv X K O H M h) (x:VR K O (.dR i) v):∃a o,v=.ref a/\h.get? a=ab o/\SJ o:=by refine aH x ?_;clear x;intro a I S;subst S;have F:=N.ky.len▸(aA.mp I).1;obtain⟨_,o,_,_,b,P,_⟩:=N.ky.at_ _ a _ I (aO F);exact⟨a,o,rfl,b,P⟩
theorem Ub {K:aN} (N:Inv X K O H M h) (x:VR K O (.lst l) v):∃a o,v=.ref a/\h.get? a=ab o/\SJ o:=by obtain⟨a,o,_,_,rfl,k,P,_⟩:=x;exact⟨a,o,rfl,N.sub _ _ k,P⟩
theorem NA {s:bh} (L:s.heap.get? a=ab o) (P:SJ o):s.TypeIs (.ref a) "list":=⟨o,L,P.1⟩
theorem noL {s:bh} (L:s.heap.get? a=ab o) (P:SJ o):∀b,f6 a=.ref b->∃o,s.heap.get? b=ab o/\o.dict=none:=λb e=>by cases e;exact⟨o,L,P.2.1⟩
def qQ (w:dG) (X:aN) (m:am) (f:PV->Option String):Prop:=∀{A:iF} {s:bh} {K:aN} {O:List bk} {H:Hp} {M:List lV} {p:PV} {v:Value} {i:String} {D:jE Bool} {Q:Value×List Value->bh->Prop} {E:Value->bh->Prop},
 Inv X K O H M s.heap->f p=ab i->VR K O p v->Q (.builtin i,[v]) s->aD (MM w) A (xk v m D) Q E s
def BQ (w:dG) (X:aN) (W:List bk) (n:Nat) (O:MN):Prop:=∀(p:PV) (D:List PV) (v:Value) (U:List Value) (i:String),O.1 p=ab i->aj w X W n (λK Z _=>VR K Z p v/\bU K Z D U) (O.2 p D) e7 (call (.builtin i)<|v::U)
theorem mB (G:V5 "bytes" m i) (z:sD (.builtin i)=pure (.type "method_descriptor")):qQ w X m λp=>(l6 p).map λ_=>i:=λN e x h=>by refine aH (a9.mp e) λb R S=>?_;subst S;rw[sV R] at x;refine bd x ?_;clear x;intro t S;subst S;exact rE (dM _ _ _) FB.plainAttrs_bytes G z (λ_ e=>nomatch e) h
theorem mS (G:V5 "str" m i) (z:sD (.builtin i)=pure (.type "method_descriptor")):qQ w X m λp=>(Cw p).map λ_=>i:=λN e x h=>by refine aH (a9.mp e) λb R S=>?_;subst S;rw[qA R] at x;refine bd x ?_;clear x;intro t S;subst S;exact rE (Jj _ _ _) F.plainAttrs_str G z (λ_ e=>nomatch e) h
theorem mL (L:s.heap.get? a=ab o) (P:SJ o) (d:v=.ref a) (G:V5 "list" m i) (z:sD (.builtin i)=pure (.type "method_descriptor")) (h:Q (.builtin i,[v]) s):aD (MM w) A (xk v m D) Q E s:=by subst d;exact rE (NA L P) F.plainAttrs_list G z (noL L P) h
theorem mM (G:V5 "list" m i) (z:sD (.builtin i)=pure (.type "method_descriptor")):qQ w X m λp=>(wU p).map λ_=>i:=λN e x h=>by refine aH (a9.mp e) λb R S=>?_;subst S;rw[yY R] at x;exact cL (Fk N x) λa o d L P=>mL L P d G z h
theorem mJ:qQ w X "join" MN.join.1:=λ{A s K O H M p v i D Q E} N e x h=>by
 by_cases q:(l6 p).isSome=ao
 ·refine(mB MB.A5 MB.Lg:qQ w X "join" λp=>(l6 p).map λ_=>"bytes.join") N ?_ x h;exact bd (kB.mp q) λb R=>ag (congrArg (Option.map λ_=>"bytes.join") R)<|(if_pos q).symm.trans e
 ·exact mS F.slot_str_join F.type_str_join N ((if_neg q).symm.trans e) x h
theorem mI:qQ w X "index" MN.index.1:=λ{A s K O H M p v i D Q E} N e x h=>by
 have C:=jX λq=>aC<|(if_neg q).symm.trans e
 obtain rfl:=ai<|(if_pos C).symm.trans e
 cases p<;>first|exact absurd C bp|skip
 ·refine cL (Ub N x) λa o d L P=>?_;exact mL L P d F.slot_list_index F.type_list_index h
 ·refine cL (Fk N x) λa o d L P=>?_;exact mL L P d F.slot_list_index F.type_list_index h
theorem mF {o:PV->Option u} (h:∀(p:PV) (D:List PV) (v:Value) (U:List Value),aj w X W n (λK O _=>VR K O p v/\bU K O D U) (f p D) e7<|call (.builtin i)<|v::U):BQ w X W n (λp=>(o p).map λ_=>i,f):=λp D v U j e=>by refine aH (a9.mp e) λ_ _ e=>?_;subst e;exact h p D v U
theorem Qc:BQ w X W n MN.join:=λp D v U i e=>by
 by_cases q:(l6 p).isSome=ao
 ·obtain rfl:=ai ((if_pos q).symm.trans e);exact bd (kB.mp q) λb R=>(zg p D v U).1 b<|sV R
 ·refine aH (a9.mp<|(if_neg q).symm.trans e) λb R e=>?_;subst e;exact(zg p D v U).2 b<|qA R
theorem Qd:BQ w X W n MN.index:=λp D v U i e=>by
 have C:=jX λq=>aC<|(if_neg q).symm.trans e
 obtain rfl:=ai<|(if_pos C).symm.trans e
 exact FF _ _ _ _
theorem acM (h:Qb.lookup x=ab m):qQ w X x m.1/\BQ w X W n m:=
 tY (λs m=>qQ w X s m.1/\BQ w X W n m) Qb (dn ⟨mB MB.vQ MB.Lh,mF IA⟩<|dn ⟨mB MB.tT MB.GZ,mF EQ⟩<|dn ⟨mJ,Qc⟩<|dn ⟨mB MB.yI MB.GY,mF EP⟩<|dn ⟨mB MB.yJ MB.G0,mF Fm⟩<|dn ⟨mB Om FB.type_bytes_decode,mF Do⟩<|dn ⟨mS F.slot_str_encode F.type_str_encode,mF Dg⟩<|dn ⟨mM F.slot_list_append F.type_list_append,mF DA⟩<|dn ⟨mM F.slot_list_pop F.type_list_pop,mF LS⟩<|dn ⟨mI,Qd⟩ trivial) h
end
def Bg (O:MN) (p:PV) (m:IM (List PV)):IM PV:=match CM O p with
 |some _=>aw m<|WM O p
 |none=>aP
theorem vX (B:fD W C) (z:qQ w X x Y.1) (b:BQ w X W n Y) (k:(Q.endLine==pos.line)=ao) {G:List (jE Value)} (J:aa G<30)
 (h:aj w X W n C m j9 (gv<|G.map λt=>(ah,t))) (p) (v):
 aj w X W n (λK O g=>C K O g/\VR K O p v) (Bg Y p m) e7 (um o x Q pos Z v (aa G) (G.map λt=>(ah,t)) []):=by
 unfold Bg
 cases e:CM Y p with
 |none=>exact be
 |some id=>
  intro A s K O H M I N c L
  have q:ni (aa G) (G.map λt=>(ah,t)) ([]:List (Option am×jE Value))=true:=by unfold ni;simp[J]
  have S:oO ao o Z Q pos=pure pos:=by unfold oO;simp[k]
  unfold um;refine q▸?_;refine ak<|a8<|z N e c.2 ?_
  refine VF S ?_
  have j:=sm (first:=[v]) (pos:=pos) (B.and<|b9 p v) (.inl ⟨id,rfl⟩)
   (h.weak λ_ _ _ c=>c.1) λy U=>(b p y v U id e).weak λ_ _ _ c=>⟨c.1.2,c.2⟩
  exact j A s K O H M I N c L
set_option genCtorIdx false
inductive CE where
 |bad
 |const (p:PV)
 |loc (i:Nat)
 |bin (mu:Bool) (op:to) (l r:CE)
 |neg (x:CE)
 |not (x:CE)
 |bool (ajO:Bool) (xs:List CE)
 |fc (t a b:CE)
 |cmp (l:CE) (ops:List Wf) (rs:List CE)
 |tup (es:List CE)
 |list (mu:Bool) (es:List CE)
 |sub (o i:CE)
 |slice (mu:Bool) (o lo hi st:CE)
 |az (a:bk) (args:List CE)
 |bv (f:BF) (args:List CE)
 |gb (nm:MN) (o:CE) (args:List CE)
 |heap (o:CE)
 |xF (ks vs:List PV) (x d:CE)
 |comp (elt:CE) (iter:CE) (caps:List (Option Nat)) (tgt:List Nat) (one:Bool) (ake:List CE)
 |enum (x:CE)
inductive ge where
 |next
 |brk
 |cont
 |ret (p:PV)
open ge renaming next->Eh
set_option genCtorIdx true
noncomputable def ge.ctorIdx (x:ge):Nat:=x.casesOn 0 1 2 λ_=>3
abbrev nW:=bk->List PV->IM PV
noncomputable def HH:List UInt8->List PV:=λb=>b.map λc=>.int c.toNat
noncomputable def el (a b:Int):List PV:=(dg (b-a).toNat).map λ(i:Nat)=>.int<|a+(i:Int)
noncomputable def et (p:PV):IM (List PV):=λH=>by
 cases p
 case JV a b=>exact if -4611686018427387904<=a/\a<4611686018427387904/\-4611686018427387904<=b/\b<4611686018427387904 then .ok (el a b) H else .stuck
 case lst l=>exact .ok l H
 case tup l=>exact .ok l H
 case bytes b=>exact .ok (HH b) H
 all_goals exact .stuck
noncomputable def fL (V:bN):List Nat->List PV->bN
 |i::g,p::y=>fL (V.set i<|ab p) g y
 |_,_=>V
noncomputable def one:List u->Option u
 |[e]=>ab e
 |_=>al
theorem tW {u:Type} {l:List u} {x:u} (h:one l=ab x):l=[x]:=by
 cases l with|nil=>exact aC h|cons a l=>?_
 induction l with
 |nil=>rw[<-ai h]
 |cons f l=>exact aC h
noncomputable def two:List u->Option (u×u)
 |[e,f]=>ab (e,f)
 |_=>al
theorem G1 {u:Type} {l:List u} {x:u×u} (h:two l=ab x):l=[x.1,x.2]:=by
 cases l with|nil=>exact aC h|cons a l=>?_
 cases l with|nil=>exact aC h|cons b l=>?_
 induction l with
 |nil=>rw[<-ai h]
 |cons f l=>exact aC h
def f0 (V:bN) (W:List Nat) (a:Bool) (p:PV):Option bN:=
 if a then(one W).map λi=>V.set i (ab p) else(At p).bind λy=>if aa y=aa W then ab (fL V W y) else al
noncomputable def ru (V:bN) (k:List (Option Nat)):bN:=k.map λc=>c.bind λi=>(V[i]?).join
def lF (I:Wf) (a b:PV):IM Bool:=match I with
 |.Eq=>zx a b
 |.NotEq=>aw (zx a b) λx=>ax<|!x
 |.In=>WY ah a b
 |.NotIn=>WY ao a b
 |.Is=>bJ (E6 b) λ_=>isM ah a
 |.IsNot=>bJ (E6 b) λ_=>isM ao a
 |.Lt=>PH .Lt a b
 |.LtE=>PH .LtE a b
 |.Gt=>PH .Gt a b
 |.GtE=>PH .GtE a b
noncomputable def gV (m:IM α):IM α:=λH=>match m H with
 |.ok a i=>.ok a i
 |_=>.stuck
def QL (p:PV):IM PV:=by
 cases p
 case tZ=>exact ax .tZ
 all_goals exact aP
noncomputable def bytesOf (p:PV):Option (List UInt8):=by
 cases p
 case bytes c=>exact ab c
 all_goals exact al
noncomputable def tS (p:PV):Option am:=by
 cases p
 case str c=>exact ab ⟨af c⟩
 all_goals exact al
noncomputable def KA {K:Type} [DecidableEq K] (l:List K) (U:List PV) (b:K) (d:PV):PV:=((l.zip U).lookup b).getD d
noncomputable def zd {K:Type} [DecidableEq K] (l:List K) (U:List PV):Bool:=decide<|l.Nodup/\l≠[]/\aa l<=15/\aa l=aa U
noncomputable def IL (r R:List PV):Bool:=(r.mapM bytesOf).elim ((r.mapM tS).elim ah λl=>zd l R) λl=>zd l R
def nv (j U:List PV) (x d:PV):IM PV:=by
 cases x
 case bytes b=>exact bJ (j.mapM bytesOf) λl=>ax<|KA l U b d
 case str b=>exact bJ (j.mapM tS) λl=>ax<|KA l U ⟨af b⟩ d
 all_goals exact aP
noncomputable def TN (p:PV):Option (List PV):=by
 cases p
 case tup l=>exact ab l
 case lst l=>exact ab l
 all_goals exact al
def F0 (l:List PV):IM PV:=bJ (one l) λp=>bJ (TN p) λ_=>ax p
noncomputable def jr:Nat->List PV->List PV
 |_,[]=>[]
 |i,p::l=>.tup [.int (i:Int),p]::jr (i+1) l
noncomputable def vf (p:PV):List PV:=by
 cases p
 case lst l=>exact jr 0 l
 case tup l=>exact jr 0 l
 all_goals exact[]
noncomputable def hY (f:PV->IM (Option PV)):List PV->List PV->IM (List PV)
 |[],S=>ax S
 |p::y,S=>aw (f p) λr=>match r with
  |some q=>hY f y<|S++[q]
  |none=>hY f y S
mutual
noncomputable def bo (B:nW):CE->bN->IM PV
 |.bad,_=>aP
 |.const p,_=>ax p
 |.loc i,V=>H8 V i
 |.bin F I l r,V=>aw (bo B l V) λa=>aw (bo B r V) λb=>CG F I a b
 |.neg x,V=>aw (bo B x V) Y4
 |.not x,V=>aw (bo B x V) λp=>aw (gP p) λb=>ax<|.bool<|!b
 |.bool e xs,V=>IC B e xs V
 |.fc t a b,V=>aw (jW B t V<|bo B t V) λc=>if c then bo B a V else bo B b V
 |.cmp l z R,V=>aw (bo B l V) λa=>aw (pf B a z R V) λb=>ax<|.bool b
 |.tup u,V=>aw (nU B u V) λl=>if aa l<=16777216 then ax (.tup l) else aP
 |.list F u,V=>aw (nU B u V) λl=>if aa l<=16777216 then ly F l else aP
 |.sub o i,V=>aw (bo B o V) λa=>aw (bo B i V) λb=>uH a b
 |.slice F o lo Y st,V=>aw (bo B o V) λa=>aw (bo B lo V) λl=>aw (bo B Y V) λh=>aw (bo B st V) λs=>l4 F a l h s
 |.az a D,V=>aw (nU B D V) λl=>B a l
 |.bv f D,V=>aw (nU B D V) f
 |.gb O o D,V=>aw (bo B o V) λp=>Bg O p<|nU B D V
 |.heap o,V=>aw (bo B o V) QL
 |.xF j U x d,V=>aw (bo B x V) λp=>aw (bo B d V) λq=>nv j U p q
 |.comp A iter k W one g,V=>aw (rt B iter V<|bo B iter V) λl=>
  if aa l<=16777216 then aw (hY (λp=>match f0 (ru V k) W one p with
   |none=>aP
   |some Z=>gV<|aw (w8 B g Z) λC=>if C then aw (bo B A Z) λq=>ax (ab q) else ax al) l []) λr=>ax (.lst r) else aP
 |.enum _,_=>aP
noncomputable def jW (B:nW):CE->bN->IM PV->IM Bool
 |.not x,V,_=>aw (jW B x V<|bo B x V) λb=>ax<|!b
 |.bool e xs,V,_=>pg B e xs V
 |.fc t a b,V,_=>aw (jW B t V<|bo B t V) λc=>if c then jW B a V (bo B a V) else jW B b V (bo B b V)
 |.cmp l z R,V,_=>aw (bo B l V) λa=>pf B a z R V
 |.bad,_,E=>aw E gP
 |.const ..,_,E=>aw E gP
 |.loc ..,_,E=>aw E gP
 |.bin ..,_,E=>aw E gP
 |.neg ..,_,E=>aw E gP
 |.tup ..,_,E=>aw E gP
 |.list ..,_,E=>aw E gP
 |.sub ..,_,E=>aw E gP
 |.slice ..,_,E=>aw E gP
 |.az ..,_,E=>aw E gP
 |.bv ..,_,E=>aw E gP
 |.gb ..,_,E=>aw E gP
 |.heap ..,_,E=>aw E gP
 |.xF ..,_,E=>aw E gP
 |.comp ..,_,E=>aw E gP
 |.enum ..,_,E=>aw E gP
noncomputable def IC (B:nW) (e:Bool):List CE->bN->IM PV
 |[],_=>aP
 |[x],V=>bo B x V
 |x::y::r,V=>aw (bo B x V) λp=>aw (gP p) λb=>if b=e then IC B e (y::r) V else ax p
noncomputable def pg (B:nW) (e:Bool):List CE->bN->IM Bool
 |[],_=>ax e
 |x::r,V=>aw (jW B x V<|bo B x V) λb=>if b=e then pg B e r V else ax (!e)
noncomputable def pf (B:nW):PV->List Wf->List CE->bN->IM Bool
 |a,I::z,r::R,V=>match z with
  |[]=>(match R with
   |[]=>aw (bo B r V) λb=>lF I a b
   |_::_=>aP)
  |_::_=>aw (bo B r V) λb=>aw (lF I a b) λc=>if c then pf B b z R V else ax ah
 |_,_,_,_=>aP
noncomputable def nU (B:nW):List CE->bN->IM (List PV)
 |[],_=>ax []
 |e::r,V=>aw (bo B e V) λa=>aw (nU B r V) λJ=>ax<|a::J
noncomputable def w8 (B:nW):List CE->bN->IM Bool
 |[],_=>ax ao
 |e::r,V=>aw (jW B e V<|bo B e V) λb=>if b then w8 B r V else ax ah
noncomputable def rt (B:nW):CE->bN->IM PV->IM (List PV)
 |.enum x,V,_=>aw (bo B x V) λa=>aw (F0 [a]) λp=>ax<|vf p
 |.bad,_,E=>aw E et
 |.const ..,_,E=>aw E et
 |.loc ..,_,E=>aw E et
 |.bin ..,_,E=>aw E et
 |.neg ..,_,E=>aw E et
 |.not ..,_,E=>aw E et
 |.bool ..,_,E=>aw E et
 |.fc ..,_,E=>aw E et
 |.cmp ..,_,E=>aw E et
 |.tup ..,_,E=>aw E et
 |.list ..,_,E=>aw E et
 |.sub ..,_,E=>aw E et
 |.slice ..,_,E=>aw E et
 |.az ..,_,E=>aw E et
 |.bv ..,_,E=>aw E et
 |.gb ..,_,E=>aw E et
 |.heap ..,_,E=>aw E et
 |.xF ..,_,E=>aw E et
 |.comp ..,_,E=>aw E et
end
def yw (m:Nat) (p:PV):IM (List PV):=bJ (TN p) λl=>if aa l=m then ax l else aP
set_option genCtorIdx false
inductive CS where
 |bad
 |assign (i:Nat) (e:CE)
 |mG (is:List Nat) (es:List CE)
 |unpack (is:List Nat) (e:CE)
 |aug (i:Nat) (op:to) (e:CE)
 |setItem (o i v:CE)
 |expr (e:CE)
 |fc (t:CE) (a b:List CS)
 |while (t:CE) (body:List CS)
 |for (tgt:List Nat) (one:Bool) (it:CE) (body:List CS)
 |ret (e:CE)
 |raise (a:bk) (args:List CE)
 |brk
 |cont
set_option genCtorIdx true
def DD (k:bN->IM (ge×bN)) (r:ge×bN):IM (ge×bN):=match r.1 with
 |.next=>k r.2
 |.cont=>k r.2
 |.brk=>ax (.next,r.2)
 |.ret p=>ax (.ret p,r.2)
noncomputable def g8 (o:bN->IM Bool) (body:bN->IM (ge×bN)):Nat->bN->IM (ge×bN)
 |0,_=>aP
 |f+1,V=>aw (o V) λb=>if b then aw (body V) (DD<|g8 o body f) else ax (.next,V)
noncomputable def ik (fg:bN->PV->Option bN) (body:bN->IM (ge×bN)):List PV->bN->IM (ge×bN)
 |[],V=>ax (.next,V)
 |p::y,V=>bJ (fg V p) λd=>aw (body d)<|DD<|ik fg body y
def yL (p i v:PV):IM Unit:=rS p λj=>ch i λk H=>match H[j]? with
 |some l=>if 0<=k/\k<aa l/\aa l<=16777216 then .ok () (H.set j<|l.set k.toNat v) else .stuck
 |none=>.stuck
def aah (I:to) (p q:PV):IM PV:=ch p λa=>ch q λb=>by
 cases I
 case Add=>exact ax<|.int<|a+b
 case Sub=>exact ax<|.int<|a-b
 case FloorDiv=>exact if b=0\/1073741824<=b.natAbs then aP else ax (.int<|rz a b)
 all_goals exact aP
noncomputable def KS:Nat:=200
mutual
noncomputable def Kv (B Q:nW):CS->bN->IM (ge×bN)
 |.bad,_=>aP
 |.assign i e,V=>aw (bo B e V) λp=>ax (.next,V.set i<|ab p)
 |.mG g u,V=>aw (nU B u V) λl=>if aa l=aa g/\aa l<=16777216 then ax (.next,fL V g l) else aP
 |.unpack g e,V=>aw (bo B e V) λp=>aw (yw (aa g) p) λl=>ax (.next,fL V g l)
 |.aug i I e,V=>aw (H8 V i) λa=>aw (bo B e V) λb=>aw (aah I a b) λp=>ax (.next,V.set i<|ab p)
 |.setItem o i v,V=>aw (bo B v V) λx=>aw (bo B o V) λp=>aw (bo B i V) λk=>aw (yL p k x) λ_=>ax (.next,V)
 |.expr e,V=>aw (bo B e V) λ_=>ax (.next,V)
 |.fc t a b,V=>aw (jW B t V<|bo B t V) λc=>if c then fR B Q a V else fR B Q b V
 |.while t body,V=>gV<|g8 (λd=>jW B t d<|bo B t d) (λd=>fR B Q body d) KS V
 |.for W one j body,V=>aw (rt B j V<|bo B j V) λl=>gV<|ik (λd p=>f0 d W one p) (λd=>fR B Q body d) l V
 |.ret e,V=>aw (bo B e V) λp=>ax (.ret p,V)
 |.raise a D,V=>aw (nU B D V) λl=>aw (Q a l) λp=>ad3 p
 |.brk,V=>ax (.brk,V)
 |.cont,V=>ax (.cont,V)
noncomputable def fR (B Q:nW):List CS->bN->IM (ge×bN)
 |[],V=>ax (.next,V)
 |s::r,V=>aw (Kv B Q s V) λx=>match x.1 with
  |.next=>fR B Q r x.2
  |f=>ax (f,x.2)
end
def kJ (B Q:nW) (a:Nat) (body:List CS) (D:List PV):IM PV:=
 aw (fR B Q body<|D.map ab++aW (a-aa D) al) λr=>match r.1 with
   |.ret p=>ax p
   |_=>ax .none
noncomputable def gd (b:Bool) (o:Option α):Option α:=if b=ao then o else al
theorem cK {u:Type} {o:Option u} {a:u} (h:gd b o=ab a):b=ao/\o=ab a:=by
 induction b with
 |true=>exact⟨rfl,h⟩
 |false=>exact aC h
theorem o9 (h:o.or p=ab a):o=ab a\/p=ab a:=by
 induction o with
 |none=>exact .inr h
 |some b=>exact .inl h
theorem nQ {u:Type} [Decidable c] {F:c->Option u} {P:Prop} {a:u} (h:(if q:c then F q else al)=ab a) (g:∀q,F q=ab a->P):P:=by
 by_cases q:c
 ·rw[dif_pos q] at h;exact g q h
 ·rw[dif_neg q] at h;exact aC h
noncomputable def xc (e:bK):Option (am×nX):=if h:e.ctorIdx=23 then NV e h λx p=>ab (x,p) else al
noncomputable def Rs (e:bK):Option (List bK×Nat×nX):=if h:e.ctorIdx=25 then Jz e h λl k p=>ab (l,k,p) else al
noncomputable def Bx (e:bK):Option (bK×List bK×List abh×nX):=if h:e.ctorIdx=16 then NX e h λf a k p=>ab (f,a,k,p) else al
noncomputable def IJ (e:bK):Option (Const×Nat×nX):=if h:e.ctorIdx=19 then AV e h λl k p=>ab (l,k,p) else al
noncomputable def aei (e:bK):Option (bK×bK×nX):=if h:e.ctorIdx=21 then z8 e h λl k p=>ab (l,k,p) else al
noncomputable def Ru (e:bK):Option (List (Option bK)×List bK×nX):=if h:e.ctorIdx=6 then NW e h λl k p=>ab (l,k,p) else al
theorem vj {x:am×nX} (h:xc e=ab x):e=.Name x.1 x.2:=
 nQ h λc=>NV e c (λ_ _ _ q=>congrArg (λx=>yo x.1 x.2)<|ai q) c
theorem yd {x:List bK×Nat×nX} (h:Rs e=ab x):e=.Tuple x.1 x.2.1 x.2.2:=
 nQ h λc=>Jz e c (λ_ _ _ _ q=>congrArg (λx=>Expr.Tuple x.1 x.2.1 x.2.2)<|ai q) c
theorem zC {x:bK×List bK×List abh×nX} (h:Bx e=ab x):e=.Call x.1 x.2.1 x.2.2.1 x.2.2.2:=
 nQ h λc=>NX e c (λ_ _ _ _ _ q=>congrArg (λx=>Expr.Call x.1 x.2.1 x.2.2.1 x.2.2.2)<|ai q) c
theorem Bw {x:Const×Nat×nX} (h:IJ e=ab x):e=.Constant x.1 x.2.1 x.2.2:=
 nQ h λc=>AV e c (λ_ _ _ _ q=>congrArg (λx=>aaM x.1 x.2.1 x.2.2)<|ai q) c
theorem Vc {x:bK×bK×nX} (h:aei e=ab x):e=.Subscript x.1 x.2.1 x.2.2:=
 nQ h λc=>z8 e c (λ_ _ _ _ q=>congrArg (λx=>Expr.Subscript x.1 x.2.1 x.2.2)<|ai q) c
theorem Rt {x:List (Option bK)×List bK×nX} (h:Ru e=ab x):e=.Dict x.1 x.2.1 x.2.2:=
 nQ h λc=>NW e c (λ_ _ _ _ q=>congrArg (λx=>Expr.Dict x.1 x.2.1 x.2.2)<|ai q) c
structure Cx where
 names:List (am×fZ)
 glob:am->Option PV
 muts:List am
noncomputable def Cx.idx (Y:Cx) (x:am):Option Nat:=Y.names.findIdx? λn=>n.1==x
noncomputable def Cx.loc (Y:Cx) (x:am):Option Nat:=gd (Y.names.lookup x==ab .local||Y.names.lookup x==ab .cell||Y.names.lookup x==ab .free)<|Y.idx x
noncomputable def Cx.gl (Y:Cx) (x:am):Option PV:=gd (Y.names.lookup x==ab .globalImplicit)<|Y.glob x
noncomputable def wk (c:Const):Option PV:=by
 cases c
 case none=>exact ab .none
 case bool b=>exact ab<|.bool b
 case int i=>exact ab<|.int i
 case str s=>exact ab<|.str s.cps.toList
 case bytes b=>exact ab<|.bytes b
 all_goals exact al
noncomputable def Ae (o:Option CE):CE:=o.getD .bad
noncomputable def tx (x:am):Bool:=!(x==("__debug__":am))
noncomputable def P7 (Y:Cx) (x:am):Option CE:=gd (tx x&&!(x==("__classdict__":am)))<|((Y.loc x).map .loc).or<|(Y.gl x).map .const
def Y5 (s:am):Option MN:=Qb.lookup s
def RT:List (String×BF):=[("len",eN),("max",xB),("min",CL),("abs",VM),("sum",Lu),("all",aam),("chr",Vq),("isinstance",Qz)]
def Wm:List (String×BF):=[("bytes",ug),("int",UB),("str",Ly),("tuple",OE),("list",Qi),("range",jK)]
def VG (p:PV):Option BF:=((abS p).bind λs=>RT.lookup s).or<|(pTy p).bind λs=>Wm.lookup s
noncomputable def isStarred (e:bK):Bool:=e.ctorIdx==22
noncomputable def rY (c:CE):Bool:=by
 cases c
 case enum=>exact ao
 all_goals exact ah
noncomputable def C1 (e:bK):Bool:=((Bx e).bind λc=>gd (c.2.1.isEmpty&&c.2.2.1.isEmpty)<|xc c.1).isSome
noncomputable def kO (Z:Cx) (Y:List (am×fZ)):List (Option Nat):=Y.map λn=>gd (n.2==.free)<|Z.loc n.1
noncomputable def ln (Y:List (am×fZ)) (x:am):Option Nat:=gd (Y.lookup x==ab .local||Y.lookup x==ab .cell)<|Y.findIdx? λn=>n.1==x
noncomputable def qx (Y:List (am×fZ)) (e:bK):Option Nat:=(xc e).bind λx=>ln Y x.1
noncomputable def OM (Y:List (am×fZ)) (e:bK):Option (List Nat×Bool):=((qx Y e).map λi=>([i],ao)).or<|(Rs e).bind λx=>(x.1.mapM<|qx Y).map λg=>(g,ah)
def Xk (Y:Cx) (f:am) (D:List CE):Option CE:=gd (tx f)<|(Y.gl f).bind λp=>((PE p).map λa=>.az a D).or<|(VG p).map λb=>.bv b D
noncomputable def CZ (e:bK):Bool:=(xc e).isSome
noncomputable def ot (e:bK):Option PV:=(IJ e).bind λx=>wk x.1
noncomputable def ou (o:Option bK):Option PV:=o.bind ot
def dgO (j:List (Option bK)) (U:List bK) (D:List CE):Option CE:=(j.mapM ou).bind λr=>(U.mapM ot).bind λR=>(two D).bind λx=>gd (IL r R)<|ab<|.xF r R x.1 x.2
def WL (o:bK) (O:am) (a:Bool) (c:CE) (D:List CE):Option CE:=
 gd a (((Y5 O).bind λm=>gd (!C1 o)<|ab<|.gb m c D).or<|gd (O==("get":am))<|(Ru o).bind λd=>dgO d.1 d.2.1 D)
noncomputable def R2 (D:List bK) (g:List abh):Bool:=!D.any isStarred&&g.isEmpty&&decide (aa D<=29)
noncomputable def jf (Y:Cx) (scope:rF):Bool:=
 scope.kind==.function&&decide ((scope.names.map (·.1)).Nodup)&&scope.names.all λn=>n.2 !=.cell&&(n.2 !=.free||Y.names.lookup n.1==ab .cell)
noncomputable def KG (Y:Cx) (scope:rF) (A:CE) (g:Option (bK×CE×List CE)):Option CE:=
 g.bind λx=>gd (jf Y scope)<|(OM scope.names x.1).map λt=>.comp A x.2.1 (kO Y scope.names) t.1 t.2 x.2.2
noncomputable def unO (I:UnaryOp) (c:CE):Option CE:=by
 cases I
 case USub=>exact ab<|.neg c
 case Not=>exact ab<|.not c
 all_goals exact al
noncomputable def OY (F:Bool) (o:CE) (s:Option (CE×CE×CE)) (i:CE):CE:=match s with
 |some x=>.slice F o x.1 x.2.1 x.2.2
 |none=>.sub o i
def Xj (Y:Cx) (f:bK) (v:CE) (D:List CE) (S:nX):Option CE:=by
 cases f
 case Name x _=>exact Xk Y x D
 case Attribute o O Q=>exact WL o O (Q.endLine==S.line) v D
 all_goals exact al
mutual
noncomputable def bQ (Y:Cx):Bool->bK->CE
 |_,.Constant c _ _=>Ae<|(wk c).map .const
 |_,.Name x _=>Ae<|P7 Y x
 |mu,.BinOp l I r _=>.bin mu I (bQ Y ah l)<|bQ Y ah r
 |_,.UnaryOp I x _=>Ae<|unO I<|bQ Y ah x
 |_,.BoolOp I U _=>.bool (I==.And)<|pw Y U
 |_,.IfExp t a b _=>.fc (bQ Y ah t) (bQ Y ah a)<|bQ Y ah b
 |_,.Compare l z R _=>.cmp (bQ Y ah l) z<|pw Y R
 |_,.Tuple u _ _=>Ae<|gd (!u.any isStarred)<|ab<|.tup<|pw Y u
 |mu,.List u _=>Ae<|gd (!u.any isStarred)<|ab<|.list mu<|pw Y u
 |mu,.Subscript v i _=>OY mu (bQ Y ah v) (JL Y i)<|bQ Y ah i
 |_,.Call f D g S=>Ae<|gd (R2 D g)<|Xj Y f (OK Y f) (pw Y D) S
 |_,.Attribute o O _=>Ae<|gd (O==("heap":am)&&CZ o)<|ab<|.heap<|bQ Y ah o
 |_,.ListComp A y scope _=>Ae<|KG Y scope (bQ ⟨scope.names,Y.glob,[]⟩ ah A)<|toG Y ⟨scope.names,Y.glob,[]⟩ y
 |_,.NamedExpr ..=>.bad
 |_,.Lambda ..=>.bad
 |_,.Dict ..=>.bad
 |_,.Set ..=>.bad
 |_,.SetComp ..=>.bad
 |_,.DictComp ..=>.bad
 |_,.GeneratorExp ..=>.bad
 |_,.Await ..=>.bad
 |_,.Yield ..=>.bad
 |_,.YieldFrom ..=>.bad
 |_,.FormattedValue ..=>.bad
 |_,.JoinedStr ..=>.bad
 |_,.Starred ..=>.bad
 |_,.Slice ..=>.bad
noncomputable def OK (Y:Cx):bK->CE
 |.Attribute o _ _=>bQ Y ah o
 |.BoolOp ..=>.bad
 |.NamedExpr ..=>.bad
 |.BinOp ..=>.bad
 |.UnaryOp ..=>.bad
 |.Lambda ..=>.bad
 |.IfExp ..=>.bad
 |.Dict ..=>.bad
 |.Set ..=>.bad
 |.ListComp ..=>.bad
 |.SetComp ..=>.bad
 |.DictComp ..=>.bad
 |.GeneratorExp ..=>.bad
 |.Await ..=>.bad
 |.Yield ..=>.bad
 |.YieldFrom ..=>.bad
 |.Compare ..=>.bad
 |.Call ..=>.bad
 |.FormattedValue ..=>.bad
 |.JoinedStr ..=>.bad
 |.Constant ..=>.bad
 |.Subscript ..=>.bad
 |.Starred ..=>.bad
 |.Name ..=>.bad
 |.List ..=>.bad
 |.Tuple ..=>.bad
 |.Slice ..=>.bad
noncomputable def JL (Y:Cx):bK->Option (CE×CE×CE)
 |.Slice lo D st _=>ab (GG Y lo,GG Y D,GG Y st)
 |.BoolOp ..=>al
 |.NamedExpr ..=>al
 |.BinOp ..=>al
 |.UnaryOp ..=>al
 |.Lambda ..=>al
 |.IfExp ..=>al
 |.Dict ..=>al
 |.Set ..=>al
 |.ListComp ..=>al
 |.SetComp ..=>al
 |.DictComp ..=>al
 |.GeneratorExp ..=>al
 |.Await ..=>al
 |.Yield ..=>al
 |.YieldFrom ..=>al
 |.Compare ..=>al
 |.Call ..=>al
 |.FormattedValue ..=>al
 |.JoinedStr ..=>al
 |.Constant ..=>al
 |.Attribute ..=>al
 |.Subscript ..=>al
 |.Starred ..=>al
 |.Name ..=>al
 |.List ..=>al
 |.Tuple ..=>al
noncomputable def toG (Y b:Cx):List NY->Option (bK×CE×List CE)
 |[⟨W,iter,v,a⟩]=>gd (a==0&&iter.ctorIdx !=7&&!rY (bQ Y ah iter))<|ab (W,bQ Y ah iter,pw b v)
 |_=>al
noncomputable def GG (Y:Cx):Option bK->CE
 |none=>.const .none
 |some e=>bQ Y ah e
noncomputable def pw (Y:Cx):List bK->List CE
 |[]=>[]
 |e::r=>bQ Y ah e::pw Y r
end
noncomputable def Kl (Y:Cx) (e:bK):Bool:=(xc e).any λx=>Y.muts.contains x.1
noncomputable def G5 (Y:Cx):List bK->List bK->List CE
 |t::G,e::u=>bQ Y (Kl Y t) e::G5 Y G u
 |_,_=>[]
def U4 (Y:Cx) (e:bK):Option Expr:=(Bx e).bind λc=>(xc c.1).bind λx=>gd (tx x.1&&c.2.2.1.isEmpty&&(Y.gl x.1).bind pTy==ab "enumerate")<|(one c.2.1).bind λa=>gd (!isStarred a)<|ab a
def Yu (Y:Cx) (G:List bK) (g:List Nat) (v:bK):Option CS:=if v.ctorIdx=25 then
    (Rs v).bind λy=>gd (!y.1.any isStarred&&(aa y.1)==(aa G)&&!(y.1.all (np 8)&&!y.1.all (oP 8))&&decide g.Nodup)<|ab<|.mG g<|G5 Y G y.1
 else ab (.unpack g<|bQ Y ah v)
def afl (Y:Cx) (G:List bK) (v:bK):Option CS:=(one G).bind λt=>((qx Y.names t).map λi=>.assign i<|bQ Y (Kl Y t) v).or
 (((Rs t).bind λx=>(x.1.mapM<|qx Y.names).bind λg=>Yu Y x.1 g v).or<|(aei t).bind λx=>gd (x.2.1.ctorIdx !=26)<|ab<|.setItem (bQ Y ah x.1) (bQ Y ah x.2.1)<|bQ Y ah v)
def adO (Y:Cx) (W j:bK) (body:List CS):Option CS:=(OM Y.names W).bind λx=>if x.2=ao then gd (j.ctorIdx !=7&&!rY (bQ Y ah j)) (ab<|.for x.1 ao (bQ Y ah j) body)
 else(U4 Y j).map λa=>.for x.1 ah (.enum<|bQ Y ah a) body
def Pq (Y:Cx) (o:Option bK):Option CS:=o.bind λe=>(Bx e).bind λc=>(xc c.1).bind λx=>gd (R2 c.2.1 c.2.2.1&&tx x.1)<|(Y.gl x.1).bind λp=>(PE p).map λa=>.raise a<|pw Y c.2.1
noncomputable def KC (o:Option CS):CS:=o.getD .bad
mutual
noncomputable def Yv (Y:Cx):rv->CS
 |.Return e _=>KC<|e.map λe=>.ret<|bQ Y (Y.muts.contains "return") e
 |.Assign G v _=>KC<|afl Y G v
 |.AugAssign t I v _=>KC<|(qx Y.names t).map λi=>.aug i I<|bQ Y ah v
 |.Expr e _=>KC<|gd (e.ctorIdx !=8)<|ab<|.expr<|bQ Y ah e
 |.If t a b _=>.fc (bQ Y ah t) (lZ Y a)<|lZ Y b
 |.While t b o _=>KC<|gd o.isEmpty<|ab<|.while (bQ Y ah t) (lZ Y b)
 |.For W j b o _=>KC<|gd o.isEmpty<|adO Y W j<|lZ Y b
 |.Break _=>.brk
 |.Continue _=>.cont
 |.Raise e f _=>KC<|gd f.isNone<|Pq Y e
 |.FunctionDef ..=>.bad
 |.AsyncFunctionDef ..=>.bad
 |.ClassDef ..=>.bad
 |.Delete ..=>.bad
 |.TypeAlias ..=>.bad
 |.AnnAssign ..=>.bad
 |.AsyncFor ..=>.bad
 |.With ..=>.bad
 |.AsyncWith ..=>.bad
 |.Match ..=>.bad
 |.Try ..=>.bad
 |.TryStar ..=>.bad
 |.Assert ..=>.bad
 |.Import ..=>.bad
 |.ImportFrom ..=>.bad
 |.Global ..=>.bad
 |.Nonlocal ..=>.bad
 |.Pass ..=>.bad
noncomputable def lZ (Y:Cx):List rv->List CS
 |[]=>[]
 |s::r=>Yv Y s::lZ Y r
end
noncomputable def cV (s:String):PV:=.str (ba s).cps.toList
noncomputable def vd:List UInt8:=[48,49,50,51,52,53,54,55,56,57,97,98,99,100,101,102,103,104,105,106,107,108,109,110,111,112,113,114,115,116,117,118,119,120,121,122]
noncomputable abbrev gR (s:String) (a:bk):am×PV:=(ba s,.ref a)
noncomputable abbrev gB (s:String):am×PV:=(ba s,.blt s)
noncomputable abbrev gT (s:String):am×PV:=(ba s,.ty s)
noncomputable def adK:List (am×PV):=[
 gR "_wall" 21,
 (("NOTHING":am),.tup [cV "nothing"]),
 (("TRUE":am),.tup [cV "bool",.bool ao]),
 (("FALSE":am),.tup [cV "bool",.bool ah]),
 gR "int_value" 84,
 gR "bool_value" 91,
 gR "text_value" 98,
 gR "error_kind" 105,
 gR "error_value" 112,
 gR "thrown" 119,
 gR "thrown_text" 126,
 gR "named" 138,
 gR "union_of" 145,
 gR "parts_of_kind" 152,
 gR "shown_name" 159,
 gR "binder_text" 164,
 gR "bound_text" 171,
 gR "written_kind" 176,
 gR "kind_text" 183,
 gR "kind_key" 190,
 (("MOST_CODE":am),.int 1114111),
 (("FIRST_BAD":am),.int 55296),
 (("LAST_BAD":am),.int 57343),
 (("LIMITS":am),.tup [.int 128,.int 2048,.int 65536,.int 1114112]),
 gR "is_bad" 198,
 gR "size_of_code" 205,
 gR "encoded" 212,
 gR "lead_of" 219,
 gR "is_following" 226,
 gR "whole_at" 233,
 gR "decoded" 240,
 gR "is_start" 247,
 gR "next_index" 254,
 gR "prev_index" 261,
 gR "starts_of" 268,
 gR "codes_of" 273,
 gR "length" 280,
 gR "is_valid" 285,
 gR "joined_codes" 290,
 (("MOST_BITS_values":am),.int 4000),
 (("MOST_OPEN":am),.int 100),
 gR "array_kind" 380,
 gR "plain_text" 387,
 gR "escaped" 642,
 gR "escaped_values" 394,
 gR "told_octets" 399,
 gR "sizes_text" 404,
 gR "pieces_of" 411,
 gR "listed" 418,
 gR "value_text" 425,
 gR "printed_text" 432,
 (("MOST_ITEMS":am),.int 20000),
 gR "many_of" 439,
 gR "check_sizes" 444,
 gR "made" 451,
 (("MOST_OCTETS":am),.int 200000),
 (("MOST_BITS_strings":am),.int 4000),
 (("FIGURES":am),.bytes vd),
 (("BLANKS":am),.tup [.int 9,.int 10,.int 11,.int 12,.int 13,.int 32]),
 (("SHORT_ESCAPES":am),.xD [10,9,13,0,92,36,34] [.bytes [92,110],.bytes [92,116],.bytes [92,114],.bytes [92,48],.bytes [92,92],.bytes [92,36],.bytes [92,34]]),
 gR "check_index" 460,
 gR "check_start" 467,
 gR "bounded" 474,
 gR "code_at" 481,
 gR "next_at" 488,
 gR "prev_at" 495,
 gR "last_start" 502,
 gR "sub" 509,
 gR "joined" 515,
 gR "repeated" 522,
 gR "reversed_signs" 529,
 gR "is_whole" 536,
 gR "find_first" 543,
 gR "find_last" 550,
 gR "split" 555,
 gR "replaced" 562,
 gR "compare" 569,
 gR "starts_with" 576,
 gR "ends_with" 583,
 gR "stripped" 590,
 gR "raised" 597,
 gR "lowered" 604,
 gR "with_codes" 609,
 gR "check_base" 616,
 gR "number_text" 623,
 gR "number_in" 628,
 gR "hex_octets" 635,
 gR "escaped_strings" 642,
 gR "written" 649,
 gR "written_sign" 656,
 gR "indices_of" 661,
 (("UNTOLD":am),.int 65533),
 (("MOST_PRINTED":am),.int 20000),
 (("INT":am),.tup [cV "name",cV "Int64",.tup []]),
 (("STRING":am),.tup [cV "name",cV "String",.tup []]),
 (("CHAR":am),.tup [cV "name",cV "Char",.tup []]),
 (("BOOL":am),.tup [cV "name",cV "Bool",.tup []]),
 (("SYMBOL":am),.tup [cV "name",cV "Symbol",.tup []]),
 (("ANY":am),.tup [cV "name",cV "Any",.tup []]),
 (("BOTTOM":am),.tup [cV "bottom"]),
 gR "part_in" 679,
 gR "whole_in" 686,
 gR "index_in" 693,
 gR "sign_value" 700,
 gR "octets_of_piece" 707,
 gR "row_value" 714,
 gR "deed_length" 721,
 gR "deed_size" 728,
 gR "deed_octet" 735,
 gR "deed_at" 742,
 gR "deed_next" 749,
 gR "deed_prev" 756,
 gR "deed_last" 763,
 gR "deed_is_start" 770,
 gR "deed_is_valid" 777,
 gR "deed_indices" 782,
 gR "deed_sub" 789,
 gR "deed_joined" 794,
 gR "deed_repeated" 801,
 gR "deed_reversed" 808,
 gR "deed_split" 813,
 gR "deed_replaced" 818,
 gR "deed_find" 825,
 gR "deed_find_last" 832,
 gR "deed_compare" 839,
 gR "deed_starts" 846,
 gR "deed_ends" 853,
 gR "deed_strip" 860,
 gR "deed_upper" 867,
 gR "deed_lower" 874,
 gR "deed_number_text" 881,
 gR "deed_number_in" 888,
 gR "deed_code" 895,
 gR "deed_sign" 902,
 gR "deed_raised_sign" 909,
 gR "deed_lowered_sign" 916,
 gR "deed_written" 923,
 gR "deed_symbol" 930,
 gR "deed_symbol_text" 937,
 gR "always" 944,
 gR "pure" 951,
 gR "sign_rows" 958,
 gR "search_rows" 965,
 gR "array_rows" 972,
 gR "text_rows" 979,
 gR "string_rows" 986,
 gR "_law_vat" 993,
 gR "_law_dip" 1000,
 gR "_law_octets" 1005,
 gR "_law_pieces" 1012,
 gR "_law_begins" 1017,
 gR "_law_code" 1024,
 gR "_law_int" 1031,
 gR "_law_index" 1038,
 gR "_law_worth" 1045,
 gR "_law_has_room" 1052,
 gR "_law_beyond" 1059,
 gR "_law_index_calls" 1064,
 gR "_law_sub" 1071,
 gR "_law_places" 1076,
 gR "_law_cut" 1083,
 gR "_law_search_calls" 1088,
 gR "_law_whole_calls" 1093,
 gR "_law_figures" 1100,
 gR "_law_number_calls" 1107,
 gR "_law_heard" 1114,
 gR "law" 1119,
 gB "len",
 gB "max",
 gB "min",
 gB "abs",
 gB "sum",
 gB "all",
 gB "chr",
 gB "isinstance",
 gT "bytes",
 gT "int",
 gT "str",
 gT "tuple",
 gT "list",
 gT "range",
 gT "enumerate"]
noncomputable def x0 (x:am):Option PV:=adK.lookup x
noncomputable def ag8 (s:rv):Option (jy×List rv×rF):=if h:s.ctorIdx=0 then wD s h λ_ D body _ _ _ scope _ _ _=>ab (D,body,scope) else al
noncomputable def fnO (o:Option rv):jy×List rv×Scope:=(o.bind ag8).getD (⟨[],[],al,[],[],al,[]⟩,[],default)
noncomputable def bF (k:Nat):jy×List rv×Scope:=fnO (bR.main.body)[k]?
noncomputable def Z2 (k:Nat) (e:List am):Cx:=⟨(bF k).2.2.names,x0,e⟩
def Ds (k:Nat) (e:List am):List CS:=lZ (Z2 k e) (bF k).2.1
def Je (X:aN) (x:am) (p:PV):Prop:=∃v,VR X [] p v/\∃o u n,X 3=ab o/\o.data=.dict u n/\ur u/\
 (kR u x=ab v\/(kR u x=al/\∃Z L w,X 0=ab Z/\Z.data=.dict L w/\ur L/\kR L x=ab v))
structure dk (KF:aN) (cx:Cx) (env:lV):Prop where
 nd:(cx.names.map (·.1)).Nodup
 gi:∀x,cx.names.lookup x=ab .globalImplicit->env.kindOf x=ab .globalImplicit
 lc:∀x,cx.names.lookup x=ab .local->env.kindOf x=ab .local
 ce:∀x,cx.names.lookup x=ab .cell->env.kindOf x=ab .cell
 fe:vy env
 gl:∀x p,cx.glob x=ab p->Je KF x p
noncomputable abbrev Cx.ns (Y:Cx):List am:=Y.names.map (·.1)
theorem QD {Y:Cx} (h:Y.idx x=ab i):Y.ns[i]?=ab x:=by unfold Cx.idx at h;rw[lM] at h;refine aH h λD J _=>?_;simp only[beq_iff_eq] at J;simp[Cx.ns,D,J]
theorem Qg {Y:Cx} (h:Y.loc x=ab i):Y.ns[i]?=ab x:=by exact QD (cK h).2
theorem Kp {Y:Cx} (h:Y.gl x=ab p):Y.names.lookup x=ab .globalImplicit/\Y.glob x=ab p:=⟨eq_of_beq (cK h).1,(cK h).2⟩
theorem rT (h:tx x=ao):(x==("__debug__":am))=false:=jV _▸h
theorem hO (h:(a&&b)=ao):a=ao/\b=true:=(bt _ _).mp h
theorem uS (h:(!a)=ao):a=false:=by cases a with|true=>cases h|false=>rfl
theorem zo (r:vy Z) (z:Z.kindOf x=ab .globalImplicit) (P:Je X x p):
 aj w X W n C (ax p) e7 (qT Z x):=by
 intro A s K O H M I N c _;refine aH P λv f S=>II S λo u m V b j D=>?_
 have a:VR K O p v:=by have:=N1 (R:=O) N.par N.stat p v f;simpa using this
 have d:s.heap.Ns Z.globals (kR u):=by exact r.glob▸⟨o,u,m,N.sub _ _ (N.stat _ _ V),b,j,λ_=>rfl⟩
 have h:∀Q E,Q v s->aD (MM w) A (qT Z x) Q E s:=λQ E l=>by
  refine kI (loadName_read r.kind z) ?_;rcases D with Y|⟨Y,J,L,U,T,e,k,i⟩
  ·exact Ef d Y l
  ·exact D3 d Y (by exact r.bi▸⟨J,L,U,N.sub _ _ (N.stat _ _ T),e,k,λ_=>rfl⟩) i l
 exact h _ _ ⟨p,H,K,O,rfl,iM ..,N,a,rfl,rfl⟩
theorem aj.Ae (h:∀c,o=ab c->aj w X W n C (bo B c V) R t):aj w X W n C (bo B (Internal.Ae o) V) R t:=by
 induction o with
 |none=>exact be
 |some c=>exact h c rfl
theorem F6 (h:wk c=ab p):aj w X W n C (ax p) e7 (constValue Z c):=by
 refine bD λA s K O Q E _ _ _ _ _ _ y=>?_
 induction c with
 |none=>obtain rfl:=ai h;exact ar<|y _ _ s.toks (.refl _) qO
 |bool b=>obtain rfl:=ai h;exact ar<|y _ _ s.toks (.refl _) tf
 |int i=>obtain rfl:=ai h;exact D6<|y _ _ _ (.refl _) ft
 |str x=>obtain rfl:=ai h;exactλd q a=>y (.str x s.toks) s.heap (s.toks+1) (.refl _) qf
 |bytes b=>obtain rfl:=ai h;exactλd q a=>y (.bytes _ s.toks) s.heap (s.toks+1) (.refl _) jQ
 |_=>exact aC h
theorem HS (T:dk X Y Z) (B):
 aj w X W n (aS Z Y.ns V) (bo B (Internal.Ae<|P7 Y x) V) e7 (ip (.Name x U) Z):=by
 refine aj.Ae λc P=>bC (cK P) λg P=>bC (hO g) λg O=>?_
 have J:ip (.Name x U) Z=(fY U>>=λ_=>qT Z x):=by(refine ag (yl ..)<|(rT g)▸?_);rfl
 refine J▸?_;rcases o9 P with h|h
 ·refine aH (map_some h) λi D S=>?_;subst S;exact bz<|Mg T.fe (Qg D)<|uS O
 ·refine aH (map_some h) λp F S=>?_;subst S;exact bz<|zo T.fe (T.gi x (Kp F).1)<|T.gl x p (Kp F).2
open aj renaming Ae->D4
noncomputable abbrev oh:Program:=bR
section
variable {KF K:aN}
theorem Inv.but (N:Inv KF K O H M h) (g:K a=al) (t:a∉O) (z:∀b o,b≠a->h.get? b=ab o->h'.get? b=ab o) (Y:∀o,h.get? a=ab o->¬b4 o):Inv KF K O H M h':=
 ⟨N.par,N.stat,λb o e=>z b o (by rintro rfl;rw[g] at e;exact aC e)<|N.sub b o e,N.kf,
  ⟨N.ky.len,N.ky.nodup,λi b l D C=>by
   obtain⟨k,o,n,U,e,s,A,S⟩:=N.ky.at_ i b l D C
   exact⟨k,o,n,U,z b o (by rintro rfl;exact t<|bq D) e,s,A,S⟩⟩,
  ⟨λZ J=>by
   obtain⟨k,L,o,f,v,m,e,fo,fr⟩:=N.stk.all Z J
   exact⟨k,L,o,f,v,m,z L o (by rintro rfl;exact Y o e fo) e,fo,fr⟩⟩⟩
theorem EG (U:a∈W) (z:∀b o,b≠a->h.get? b=ab o->h'.get? b=ab o) (Z:∃u,h'.get? a=ab u):Step W K O h K O h':=
 ⟨rfl,λ_ _ e=>e,λ_ _ e=>.inl e,⟨[],by simp,by simp⟩,λb o e=>by
     by_cases q:b=a
     ·subst q;exact Z
     ·exact⟨o,z b o q e⟩,
  λb o e _ B=>⟨o.slots,z b o (λq=>B<|q▸U) e,.inl rfl⟩,λ_ q=>.inl q⟩
end
noncomputable def yZ:List String:=["enumerate","zip","dict_itemiterator","dict_reverseitemiterator","odict_iterator","itertools.zip_longest","itertools.pairwise"]
theorem uV (P:o.cls=.type O) (h:O≠"frame"):¬b4 o:=λf=>by rw[f.1] at P;injection P with P;exact h P.symm
structure sx (w:dG) (I:bk) (fp:List bk) (m:Nat) (P:Nat->Value->Prop) (J:Nat->eG->Prop):Prop where
 walks:∀A:iF,A.handled=al->Walks oh w A I fp [I] m P J
 own:∀i h,J i h->∃o nm,h.get? I=ab o/\o.cls=.type nm/\yZ.contains nm=ah/\nm≠"frame"
def jC (I:bk) (g:List bk) (P:Nat->Value->Prop) (J:Nat->eG->Prop) (L:List PV) (i:Nat):xg:=λK O h=>J i h/\K I=al/\I∉O/\(∀a∈g,a=I\/∃o,K a=ab o/\h.get? a=ab o/\a∉O/\¬b4 o)/\∀(j:Nat) (v:Value) (p:PV),L[j]?=ab p->P j v->VR K O p v
theorem jC.stable (U:sx w I g (aa L) P J) (E:I∉W) (b:∀a∈g,a∉W):
 fD W (jC I g P J L i):=by
 intro K O h X l G s st;refine Dm s λQ z t Y f=>?_;refine AD (U.own i h Q) λoI T r cI _ x=>?_;have S:=uV cI x;have c:=st.same r t E S
 have d:∀a∈g,∀o,h.get? a=ab o->G.get? a=ab o:=λa Z o e=>by
  rcases Y a Z with rfl|⟨u,k,V,m,n⟩
  ·rw[r] at e;obtain rfl:=ai e;exact c
  ·rw[V] at e;obtain rfl:=ai e;exact st.same V m (b a Z) n
 refine⟨(U.walks {handled:=al} rfl).frame i h G Q d,st.ls z r,st.lr t r,λa Z=>?_,λj v p e q=>fv st<|f j v p e q⟩;rcases Y a Z with rfl|⟨u,k,V,m,n⟩
 ·exact .inl rfl
 ·exact .inr ⟨u,st.kle _ _ k,st.same V m (b a Z) n,st.lr m V,n⟩
open jC renaming stable->vK
theorem vZ {K:aN}
 (U:sx w I g (aa L) P J) (y:A.handled=al) (N:Inv X K O H M s.heap) (c:jC I g P J L i K O s.heap) (D:i<=aa L)
 (C:∀(p:PV) (v:Value) (G:eG) (tk:Nat),L[i]?=ab p->Inv X K O H M G->Step [I] K O s.heap K O G->jC I g P J L (i+1) K O G->VR K O p v->Q (ab v) {s with heap:=G,toks:=tk})
 (d:∀(G:eG) (tk:Nat),i=aa L->Inv X K O H M G->(∀b o,b≠I->s.heap.get? b=ab o->G.get? b=ab o)->Q al {s with heap:=G,toks:=tk}):
 aD (MM w) A (pyNext<|.ref I) Q E s:=by
 refine Dm c ?_;clear c;intro Z z t Y f;refine AD (U.own i _ Z) λoI T r cI _ x=>?_;have S:=uV cI x;have W:=U.walks A y;have q:∀o,s.heap.get? I=ab o->¬b4 o:=λo e=>by rw[r] at e;obtain rfl:=ai e;exact S
 by_cases F:i<aa L
 ·refine W.item i s Q E F Z λv G tk B h j=>?_;have l:∀b o,b≠I->s.heap.get? b=ab o->G.get? b=ab o:=λb o R e=>j b o (by simpa using R) e;refine iB (U.own (i+1) _ h) λu _ V _=>?_;have hp:=aO F;refine C L[i] v G tk hp (N.but z t l q) (EG (by simp) l ⟨u,V⟩) ⟨h,z,t,λa ha=>?_,f⟩<|f i v _ hp B
  rcases Y a ha with rfl|⟨o,k,e,m,n⟩
  ·exact .inl rfl
  ·exact .inr ⟨o,k,l a o (by rintro rfl;rw[z] at k;exact aC k) e,m,n⟩
 ·have e:=cf D (cW.mp F);subst e;refine W.done s Q E Z λG tk j=>?_;have l:∀b o,b≠I->s.heap.get? b=ab o->G.get? b=ab o:=λb o R e=>j b o (by simpa using R) e;exact d G tk rfl (N.but z t l q) l
theorem PJ (b) (i:Nat) (p) (h:(HH b)[i]?=ab p):∃c,b[i]?=ab c/\p=.int c.toNat:=by unfold HH at h;rw[bY,a9] at h;refine aH h ?_;clear h;intro c P S;subst S;exact⟨c,P,rfl⟩
theorem Hz (a b) (i:Nat) (p) (h:(el a b)[i]?=ab p):p=.int (a+i):=by unfold el at h;rw[bY,a9] at h;refine aH h ?_;clear h;intro c P S;subst S;refine bd (aA.mp P) λ_ e=>?_;simp only[List.getElem_range] at e;rw[<-e]
theorem u6 {K:aN} (N:Inv X K O H M h) (Q:J 0 (h.push o)) (Y:∀a∈g,a=h.objs.size\/∃o,K a=ab o) (f:∀(j:Nat) (v:Value) (p:PV),L[j]?=ab p->P j v->VR K O p v):jC h.objs.size g P J L 0 K O (h.push o):=
 ⟨Q,N.cN<|bW h,N.dY<|bW h,λa I=>(Y a I).imp_right λz=>z.elim λo k=>⟨o,k,aQ _ (N.sub _ _ k),N.ze k,N.kf _ _ k⟩,f⟩
def BR (w:dG) (K:aN) (O:List bk) (s:bh) (Q:Value->bh->Prop) (L:List PV):Prop:=∀(g:List bk) (P:Nat->Value->Prop) (J:Nat->eG->Prop) (o:uz),sx w s.heap.objs.size g (aa L) P J->jC s.heap.objs.size g P J L 0 K O (s.heap.push o)->o.isFreed=ah->Q (.ref s.heap.objs.size) {s with heap:=s.heap.push o}
theorem FA {K:aN} (k:K a=ab o):∀b∈[I,a],b=I\/∃o,K b=ab o:=λb R=>(aL.mp R).imp_right λh=>⟨o,ag (congrArg K.f<|aU.mp h) k⟩
theorem FC {C:bk->Prop}:∀b∈[I],b=I\/C b:=λ_ R=>.inl<|aU.mp R
theorem Pc {K:aN} (R:bU K O y U) (j:Nat) (v:Value) (p:PV) (F:y[j]?=ab p) (B:(af U)[j]?=ab v):VR K O p v:=by refine aH (R.get F) λu V T=>?_;simp only[f5] at B;rw[V] at B;obtain rfl:=ai B;exact T
theorem Lc (X:a≠I) (C:aa U=n):sx w I [I,a] n (λi v=>(af U)[i]?=ab v) λi h=>h.IsListIter I a i/\h.IsList a (af U):=
 ⟨λA y=>by simpa[C] using afK y I a X (af U),λi h Q=>gG Q.1 λo L P _=>⟨o,_,L,P,by exact rfl,by decide⟩⟩
theorem Ov (X:a≠I) (C:aa U=n):sx w I [I,a] n (λi v=>(af U)[i]?=ab v) λi h=>h.IsTupleIter I a i/\h.IsTuple a (af U):=
 ⟨λA y=>by simpa[C] using Walks.tuple y I a X (af U),λi h Q=>gG Q.1 λo L P _=>⟨o,_,L,P,by exact rfl,by decide⟩⟩
theorem Qx {K:aN} (N:Inv X K O H M s.heap) (x:VR K O (.lst l) v) (Z:BR w K O s Q l):aD (MM w) A (Jl v) Q E s:=by obtain⟨a,o,n,U,rfl,k,c,d,R⟩:=x;have I:=N.sub _ _ k;have C:s.heap.IsList a (af U):=⟨o,I,c.1,n,d⟩;exact aa6 C<|Z _ _ _ _ (Lc (eR<|dS I) R.length) (u6 N ⟨⟨_,b5 _ rfl,rfl,rfl⟩,C.push _⟩ (FA k)<|Pc R) rfl
theorem Qv {K:aN} (N:Inv X K O H M s.heap) (x:VR K O (.tup l) v) (Z:BR w K O s Q l):aD (MM w) A (Jl v) Q E s:=by obtain⟨a,o,n,U,rfl,k,c,d,R⟩:=x;have I:=N.sub _ _ k;have C:s.heap.IsTuple a (af U):=⟨o,I,c,n,d⟩;exact zZ C<|Z _ _ _ _ (Ov (eR<|dS I) R.length) (u6 N ⟨⟨_,b5 _ rfl,rfl,rfl⟩,⟨o,aQ _ I,c,n,d⟩⟩ (FA k)<|Pc R) rfl
theorem Ii {K:aN} (N:Inv X K O H M s.heap) (x:VR K O (.bytes b) v) (l:BR w K O s Q (HH b)):aD (MM w) A (Jl v) Q E s:=by
 refine bd x ?_;clear x;intro t S;subst S;refine KBw.pyIter_bytes<|l [s.heap.objs.size] (λi v=>∃c u,(af b)[i]?=ab c/\v=.int (c.toNat:Int) u) (λi h=>KBw.IsBytesIter h s.heap.objs.size (af b) t i) _ ⟨λA y=>?_,λi h Z=>gG Z λo L P _=>⟨o,_,L,P,by exact rfl,by decide⟩⟩ (u6 N ⟨_,b5 _ rfl,rfl,rfl⟩ FC λj v p F B=>?_) rfl
 ·have J:aa (HH b)=b.toArray.size:=by simp[HH]
  exact(ae J)▸KBw.walks y _ _ _
 ·refine aH (PJ b j p F) λc P S=>?_;subst S;refine iB B ?_;clear B;intro D u m S;subst S;simp only[f5] at m;rw[P] at m;obtain rfl:=ai m;exact ft
theorem Pi (a b:Int):xv a b 1=((b-a).toNat:Int):=by
 refine ag (rangeSize_one ..) ?_;by_cases q:a<b
 ·refine ag (if_pos q) ?_;exact ae<|bA<|aaJ.mpr<|sI q
 ·(refine ag (if_neg q) ?_;refine(ae<|Ol<|NS<|cX.mp q)▸?_);rfl
theorem Qw {K:aN} (N:Inv X K O H M s.heap) (x:VR K O (.JV a b) v) (c:Ak a b 1=ao) (l:BR w K O s Q (el a b)):aD (MM w) A (Jl v) Q E s:=by
 refine aeb x ?_;clear x;intro r o t1 t2 t3 S k Z;subst S;subst Z;refine wpAny_pyIter_range (N.sub _ _ k) c<|l [s.heap.objs.size] (λi v=>∃t,v=.int (a+i*1) t) (λi h=>IsRangeIter h s.heap.objs.size (a+(i:Nat)*1) ((((b-a).toNat:Nat):Int)-(i:Nat)) 1) _ ⟨λA y=>?_,λi h Y=>⟨_,_,Y,rfl,by exact rfl,by decide⟩⟩ (u6 N ?_ FC λj v p F B=>?_) rfl
 ·have J:aa (el a b)=(b-a).toNat:=by simp[el]
  exact(ae J)▸Walks.range y _ a 1 _
 ·have:(s.heap.push {cls:=.type "range_iterator",data:=.fields #[pI a,pI (xv a b 1),pI 1]}).get? s.heap.objs.size=ab _:=b5 _ rfl;show Heap.get? _ _=_
  (refine ag this ?_;refine(ae<|Pi a b)▸?_)
  simp
 ·have I:=Hz a b j p F;refine bd B ?_;clear B;intro t S;subst S;refine(ae I)▸?_;simp only[Int.mul_one];exact ft
theorem Qy {C:PV->List PV->Prop} (e:et p H=.ok L i) (J:∀l,C (.lst l) l) (W:∀l,C (.tup l) l) (E:∀b,C (.bytes b)<|HH b) (X:∀a b,Ak a b 1=ao->C (.JV a b) (el a b)):C p L:=by
 cases p
 case lst l=>exact(J8 e).1▸J l
 case tup l=>exact(J8 e).1▸W l
 case bytes b=>exact(J8 e).1▸E b
 case JV a b=>
  have e:=e;by_cases G:(-4611686018427387904<=a/\a<4611686018427387904/\-4611686018427387904<=b/\b<4611686018427387904)
  ·exact(J8<|(if_pos G).symm.trans e).1▸X a b (small_one G.1 G.2.1 G.2.2.1 G.2.2.2)
  ·exact absurd ((if_neg G).symm.trans e).symm wV
 all_goals exact absurd (ae e) wV
theorem v7 {A:iF} {K:aN} (N:Inv X K O H M s.heap) (x:VR K O p v) (e:et p H=.ok L i) (l:BR w K O s Q L):aD (MM w) A (Jl v) Q E s:=
 Qy (C:=λp L=>VR K O p v->BR w K O s Q L->aD (MM w) A (Jl v) Q E s) e (λ_=>Qx N) (λ_=>Qv N) (λ_=>Ii N) (λ_ _ h x=>Qw N x h) x l
theorem LJ {V:bN} (h:i≠j):(V.set i a).set j b=(V.set j b).set i a:=by apply Sx;intro k;simp only[xq,d6];by_cases J:j=k<;>by_cases W:i=k<;>simp_all
theorem yM (V):∀g y i p,i∉g->fL (V.set i<|ab p) g y=(fL V g y).set i (ab p)
 |[],_,i,p,_=>rfl
 |_::_,[],i,p,_=>rfl
 |j::g,q::y,i,p,h=>by simp only[aL,not_or] at h;show fL ((V.set i<|ab p).set j<|ab q) g y=_;exact(LJ h.1)▸yM _ g y i p h.2
theorem wR (V):∀g y i p,aa g=aa y->fL V (g++[i]) (y++[p])=(fL V g y).set i (ab p)
 |[],[],i,p,_=>rfl
 |[],_::_,_,_,h=>by simp at h
 |_::_,[],_,_,h=>by simp at h
 |j::g,q::y,i,p,h=>by exact wR _ g y i p (nA h)
theorem yN (V):∀g y,g.Nodup->aa g=aa y->fL V g.reverse y.reverse=fL V g y
 |[],[],_,_=>rfl
 |[],_::_,_,h=>by simp at h
 |_::_,[],_,h=>by simp at h
 |i::g,p::y,B,h=>by
  simp only[bL,Nat.add_right_cancel_iff] at h;rw[lb] at B
  (refine qh▸(ae qh)▸ag (wR _ _ _ _ _ (by simpa using h)) ?_;refine(yN V g y B.2 h)▸?_)
  exact ae<|yM _ _ _ _ _ B.1
theorem ms (V):∀g y,aa (fL V g y)=aa V
 |[],_=>rfl
 |_::_,[]=>rfl
 |i::g,p::y=>ag (ms _ g y) d6
theorem aj.run {R:u->z->xg} (x:aj w X W n C m R t) {K:aN}
 (I:kl n A M) (N:Inv X K O H M s.heap) (c:C K O s.heap) (e:m H=.ok a i)
 (h:∀r F j l,Step W K O s.heap j l F.heap->Inv X j l i M F.heap->R a r j l F.heap->aV s F->Q r F):aD (MM w) A t Q E s:=by
 have T:m H≠.stuck:=by refine e▸?_;intro q;cases q
 refine aZ (x A s K O H M I N c T) (λr F b=>y0.casesOn b λZ f j l q st P d U=>?_) λy F g=>yc.casesOn g λp f j l q _ _ _ _=>by rw[e] at q;cases q
 rw[e] at q;cases q;exact h r F j l st P d U
theorem J6 (h:TN p=ab l):p=.tup l\/p=.lst l:=by
 cases p with
 |tup _=>exact .inl<|congrArg _ (ai h)
 |lst _=>exact .inr<|congrArg _ (ai h)
 |_=>exact aC h
theorem Et (h:yw m p H=.ok l i):aa l=m:=by
 unfold yw at h
 cases e:TN p with
 |none=>rw[e] at h;cases h
 |some k=>
  rw[e] at h;by_cases q:aa k=m
  ·cases ag h.symm (congrFun (if_pos q) H);exact q
  ·cases ag h.symm (congrFun (if_neg q) H)
theorem oZ (m p v):aj w X W n (λK O _=>VR K O p v) (yw m p) j9 (unpackItems v m al):=by
 refine eP λl e=>?_;by_cases C:aa l=m
 ·refine(if_pos C)▸?_;refine bD λA s K O Q E y _ _ _ c z h=>?_;rcases J6 e with rfl|rfl
  ·obtain⟨a,o,k,U,rfl,t,P,g,R⟩:=c
   (refine(C)▸(R.length)▸((aR))▸?_)
   exact wpAny_unpackItems_tuple y ⟨o,z _ _ t,P,k,g⟩ λG T=>h _ _ s.toks (.of_keeps λb o e=>T b o (eR<|dS e) e) R
  ·obtain⟨a,o,k,U,rfl,t,P,g,R⟩:=c
   (refine(C)▸(R.length)▸((aR))▸?_)
   exact kun_itemsOf y ⟨o,z _ _ t,P.1,k,g⟩ λG T=>h _ _ s.toks (.of_keeps λb o e=>T b o (eR<|dS e) e) R
 ·exact(if_neg C)▸be
def Gv (Y:Cx) (Z:lV) (W:List bk) (V:bN) (x:am) (i:Nat):Prop:=Y.ns[i]?=ab x/\i<aa V/\(Z.kindOf x=ab .local\/(Z.kindOf x=ab .cell/\∀a∈aX Z,a∈W))
theorem uj (T:dk X Y Z) (z:Gv Y Z W V x i) (R:Z.locals∈W):
 aj w X W n (λK O h=>aS Z Y.ns V K O h/\VR K O p v) (ax ()) (λ_ _=>aS Z Y.ns<|V.set i<|ab p) (Jq Z x v):=
 λA s K O H M I N c L=>wpAny_bindName<|EF T.fe z.1 T.nd z.2.1 z.2.2 R A s K O H M I N c L
theorem rf {Y:Cx} {Z:lV} (T:dk X Y Z) (R:Z.locals∈W) (j:b->am) (t:b->Value->jE Unit) (z:∀q v M A Q E s,aD M A (Jq Z (j q) v) Q E s->aD M A (t q v) Q E s):
 ∀(l:List (b×Nat)) (y:List PV) (U) (V),aa l=aa y->(∀q∈l,Gv Y Z W V (j q.1) q.2)->
 aj w X W n (λK O h=>aS Z Y.ns V K O h/\bU K O y U) (ax ()) (λ_ _=>aS Z Y.ns (fL V (l.map (·.2)) y)) (NI (l.map λq=>t q.1) U):=by
 intro l
 induction l with
 |nil=>exactλy U V _ _=>by show aj w X W n _ _ _ (pure ());exact f8 λK O g c=>by cases y<;>exact c.1
 |cons q l o=>
  intro y U V C P
  induction y with
  |nil=>cases C
  |cons p y=>
  intro A s K O H i I N e L;refine bC e λc D=>?_;refine cL D ?_;clear D;intro v r S F a;subst S;show aD (MM w) A (holding r (t q.1 v)>>=λ_=>NI (l.map λq=>t q.1) r) _ _ s;refine ak<|a8<|z q.1 v _ _ _ _ _ ((uj T (P q bc) R).run I N ⟨c,F⟩ rfl λu B k J st G d f=>?_)
  exact(o y r (V.set q.2<|ab p) (nA C) (λx m=>⟨(P x<|bb _ m).1,by exact(ae d6)▸(P x<|bb _ m).2.1,(P x<|bb _ m).2.2⟩) A B k J H i I G ⟨d,vH st a⟩).step st f L
theorem sP (T:dk X Y Z) (F:∀x,Y.names.lookup x=ab .cell->∀a∈aX Z,a∈W) (C:aa V=aa Y.names) (h:ln Y.names x=ab i):Gv Y Z W V x i:=by
 refine bC (cK h) λhk h=>⟨QD h,C▸(lM.mp h).1,?_⟩;rcases(gE _ _).mp hk with hk|hk
 ·exact .inl<|T.lc x<|eq_of_beq hk
 ·exact .inr ⟨T.ce x<|eq_of_beq hk,F x<|eq_of_beq hk⟩
theorem sM (h:qx Y e=ab i):∃x:am×nX,e=.Name x.1 x.2/\ln Y x.1=ab i:=by exact aH (bind_some h) λx T h=>⟨x,vj T,h⟩
theorem za {u z:Type} {f:u->Option z} {a:u} {l:List u} {r:List z} (h:(a::l).mapM f=ab r):∃b r',f a=ab b/\l.mapM f=ab r'/\r=b::r':=by rw[BX] at h;exact aH (bind_some h) λb R h=>aH (bind_some h) λr' d h=>⟨b,r',R,d,ae<|ai h⟩
inductive afr (names:List (am×fZ)) (es:List bK) (is:List Nat):Prop
 |mk (l:List ((am×nX)×Nat)) (e:es=l.map λq=>.Name q.1.1 q.1.2) (e':is=l.map (·.2)) (h:∀q∈l,ln names q.1.1=ab q.2)
theorem tX:∀u is,u.mapM (qx Y)=ab is->afr Y u is:=by
 intro u
 induction u with
 |nil=>exactλis h=>⟨[],rfl,ae<|ai h,λ_ h=>absurd h aY⟩
 |cons e u o=>intro is h;refine cL (za h) λi a D d S=>?_;subst S;refine aH (sM D) λx S z=>?_;subst S;obtain⟨l,rfl,rfl,C⟩:=o a d;exact⟨(x,i)::l,rfl,rfl,λq m=>(aL.mp m).elim (λe=>e▸z)<|C q⟩
theorem wu (f:b->am×nX) (Z) (l:List b):assignEach (l.map λq=>.Name (f q).1 (f q).2) Z=l.map λq=>(ah,assign (.Name (f q).1 (f q).2) Z):=by
 induction l with
 |nil=>rfl
 |cons q l o=>(refine bu▸bu▸?_;refine(o)▸?_);rfl
theorem aj.res {P:u->Prop} (x:aj w X W n C m R t) (h:∀H a i,m H=.ok a i->P a):aj w X W n C m (λa r K O k=>R a r K O k/\P a) t:=by intro A s K O H M T N c L;refine aZ (x A s K O H M T N c L) (λv B b=>y0.casesOn b λp Z U J Q V G f Y=>⟨p,Z,U,J,Q,V,G,⟨f,h _ _ _ Q⟩,Y⟩) λy B q=>q
theorem qe (T:dk X Y Z) (z:Gv Y Z W V x i) (R:Z.locals∈W):
 aj w X W n (λK O h=>aS Z Y.ns V K O h/\VR K O p v) (ax ()) (λ_ _=>aS Z Y.ns<|V.set i<|ab p) (assign (.Name x S) Z v):=by
 refine(agA ..)▸?_;exact bz<|uj T z R
theorem uC {v:Value} (T:dk X Y Z) (hl:aa V=aa Y.names) (hes:u.mapM (qx Y.names)=ab g) (R:Z.locals∈W) (F:∀x,Y.names.lookup x=ab .cell->∀a∈aX Z,a∈W)
 (hf:fD W (e7 p v)):
 aj w X W n (λK O h=>aS Z Y.ns V K O h/\VR K O p v) (aw (yw (aa g) p) λl=>ax<|fL V g l) (λτ _=>aS Z Y.ns τ) (unpack v<|assignEach u Z):=by
 obtain⟨l,rfl,rfl,h⟩:=tX u g hes;refine(wu (λq:(am×nX)×Nat=>q.1) ..)▸?_;unfold unpack;refine(show(l.map λq=>(ah,assign (.Name q.1.1 q.1.2) Z)).findIdx? (·.1)=al from DZ.mpr λx m=>by refine aH (b2.mp m) λq _ S=>?_;obtain rfl:=S;rfl)▸?_
 (refine(ae (aB ..))▸(ae (aB ..))▸?_)
 have o:=(((oZ (w:=w) (X:=X) (W:=[]) (n:=n) (aa l) p v).weak (C:=λK O h=>aS Z Y.ns V K O h/\VR K O p v) λ_ _ _ c=>c.2).keep<|dw.and<|b9 p v).widen (W:=W) λ_ m=>absurd m aY;refine cr (jF<|o.res (P:=λy=>aa y=aa l) λH a i e=>Et e) λy f=>?_;intro A s K O H fs I N XX L;refine bC XX λz b=>bC z λt D=>bC t λc _=>?_;have j:=rf (w:=w) (X:=X) (W:=W) (n:=n) T R (λx:am×nX=>x.1) (λx=>assign (.Name x.1 x.2) Z) (λq v M A Q E s h=>by exact kI (agA ..)<|ak<|cb h) l y f V b.symm λq m=>sP T F hl<|h q m
 refine(ae gO)▸?_;exact j.run I N ⟨c,D⟩ (show(ax ():IM Unit) H=.ok () H from rfl) λr B k J st G d U=>⟨_,H,k,J,rfl,st,G,d,U⟩
def bindM (V:bN) (g:List Nat) (one:Bool) (p:PV):IM bN:=bJ (f0 V g one p) ax
inductive N6 (names:List (am×fZ)):bK->List Nat->Bool->Prop
 |one (x:am) (pos:nX) (i:Nat) (h:ln names x=ab i):N6 names (.Name x pos) [i] ao
 |tup (es:List bK) (k:Nat) (pos:nX) (is:List Nat) (h:es.mapM (qx names)=ab is):N6 names (.Tuple es k pos) is ah
theorem EA (h:OM Y e=ab x):N6 Y e x.1 x.2:=by
 rcases o9 h with h|h
 ·refine aH (map_some h) λi D S=>?_;subst S;refine aH (sM D) λy S G=>?_;subst S;exact .one _ _ _ G
 ·refine aH (bind_some h) λy I h=>?_;refine aH (map_some h) λg D S=>?_;subst S;refine(yd I)▸?_;exact .tup _ _ _ _ D
theorem pG {one:Bool} (T:dk X Y Z) (C:aa V=aa Y.names) (z:N6 Y.names P g one)
 (R:Z.locals∈W) (F:∀x,Y.names.lookup x=ab .cell->∀a∈aX Z,a∈W):
 aj w X W n (λK O h=>aS Z Y.ns V K O h/\VR K O p v) (bindM V g one p) (λq _=>aS Z Y.ns q) (assign P Z v):=by
 induction z with
 |one x S i D=>exactλA s K O H M I N c L=>(qe T (sP T F C D) R).run I N c rfl λr B Q J st G d U=>⟨V.set i<|ab p,H,Q,J,rfl,st,G,d,U⟩
 |tup u k S g D=>
  refine(afJ ..)▸?_;refine bz<|eP λq E=>?_
  cases p with
  |tup y=>
   by_cases b:aa y=aa g
   ·obtain rfl:=ai (ag E.symm<|if_pos b);exact(uC T C D R F<|b9 _ _).zx<|ae<|congrArg (λm=>aw m λl=>ax<|fL V g l)<|if_pos (t:=ax y) b
   ·cases ag E.symm (if_neg b)
  |_=>exact aC E
inductive BS (K:aN) (μ:List bk):ge->D1->Prop
 |next:BS K μ .next .next
 |brk:BS K μ .brk .brk
 |cont:BS K μ .cont .cont
 |ret {p:PV} {v:Value} (h:VR K μ p v):BS K μ (.ret p) (.ret v)
structure io (env:lV) (cx:Cx) (r:ge×bN) (f:D1) (K:aN) (μ:List bk) (h:eG):Prop where
 c:aS env cx.ns r.2 K μ h
 l:aa r.2=aa cx.names
 f:BS K μ r.1 f
theorem nN (h:aw m f H=.ok r Hf):∃a i,m H=.ok a i/\f a i=.ok r Hf:=by
 rw[fU] at h
 cases e:m H with
 |ok a i=>rw[e] at h;exact⟨a,i,rfl,h⟩
 |exc p i=>rw[e] at h;cases h
 |stuck=>rw[e] at h;cases h
theorem y3 (h:gV m H≠.stuck):∃r Hf,m H=.ok r Hf/\gV m H=.ok r Hf:=by
 unfold gV at h|-
 cases e:m H with
 |ok a i=>exact⟨a,i,rfl,rfl⟩
 |exc p i=>rw[e] at h;exact absurd rfl h
 |stuck=>rw[e] at h;exact absurd rfl h
theorem acO (L:c.quiet=ao) (I:Nat->bh->Prop) (n) (h:I n s)
 (e:∀n s,I n s->∀(Q:PySem.Fin->bh->Prop) (E:Value->bh->Prop),(∀m F,m<n->I m F->Q (.again c) F)->(∀f F,R (.ok f) F->Q (.done f) F)->aD (MM w) (A.under c) ((MM w).den c) Q E s):nq (MM w) A c R s:=
 codeAny_loop L I (λn s i=>e n s i _ _ (λm F t D=>⟨rfl,m,t,D⟩) λf F h=>h) n h
theorem Yo (I:Nat->bh->Prop) (n) (h:I n s)
 (e:∀n s,I n s->∀(T:Bool->bh->Prop) (B:D1->bh->Prop) (E:Value->bh->Prop),(∀s,aD (MM w) A (kc body Z) B E s->T ao s)->(∀s,aD (MM w) A (kc a Z) (λf F=>R (.ok f) F) E s->T ah s)->
  (∀m F,m<n->I m F->B .next F/\B .cont F)->(∀F,R (.ok .next) F->B .brk F)->(∀v F,R (.ok<|.ret v) F->B (.ret v) F)->aD (MM w) A (pJ o Z<|ip o Z) T E s):nq (MM w) A (.whileLoop o body a Z) R s:=
 codeAny_whileLoop I (λn s i=>e n s i _ _ _ (λs h=>h) (λs h=>h) (λm F t D=>⟨⟨m,t,D⟩,m,t,D⟩) (λF h=>h) λv F h=>h) n h
theorem ZI (I:Nat->bh->Prop) (n) (h:I n s)
 (e:∀n s,I n s->∀(N:Option Value->bh->Prop) (B:D1->bh->Prop) (E:Value->bh->Prop),(∀s,aD (MM w) A (kc a Z) (λf F=>R (.ok f) F) E s->N al s)->
  (∀v s,aD (MM w) A (agz b c v) (λ_ s=>aD (MM w) A (assign b Z v) (λ_ s=>aD (MM w) A (kc body Z) B E s) E s) E s->N (ab v) s)->
  (∀m F,m<n->I m F->B .next F/\B .cont F)->(∀F,R (.ok .next) F->B .brk F)->(∀v F,R (.ok<|.ret v) F->B (.ret v) F)->aD (MM w) A (pyNext c) N E s):nq (MM w) A (.forLoop b c body a Z) R s:=
 codeAny_forLoop_any I (λn s i=>e n s i _ _ _ (λs h=>h) (λv s h=>h) (λm F t D=>⟨⟨m,t,D⟩,m,t,D⟩) (λF h=>h) λv F h=>h) n h
theorem t8 {K:aN} {G:D1->Prop} (Y:BS K O x.1 fl) (e:DD k x H=.ok r Z) (B:k x.2 H=.ok r Z->G .next/\G .cont)
 (R:dt (.next,x.2) H=.ok r Z->G .brk) (d:∀p v,VR K O p v->dt (.ret p,x.2) H=.ok r Z->G (.ret v)):G fl:=by
 cases x with|mk a V=>?_
 dsimp only at Y
 induction Y with
 |next=>exact(B e).1
 |cont=>exact(B e).2
 |brk=>exact R e
 |ret h=>exact d _ _ h e
inductive WhI (KF:aN) (W:List bk) (env:lV) (cx:Cx) (tM:bN->IM Bool) (bM:bN->IM (ge×bN)) (fs:List lV) (K:aN) (μ:List bk) (s:bh) (r:ge×bN) (Hf:Hp) (f:Nat) (s₁:bh):Prop
 |mk (σ:bN) (K₁:aN) (dU:List bk) (H:Hp) (st:Step W K μ s.heap K₁ dU s₁.heap) (so:aV s s₁) (iv:Inv KF K₁ dU H fs s₁.heap) (c:aS env cx.ns σ K₁ dU s₁.heap) (l:aa σ=aa cx.names) (e:g8 tM bM f σ H=.ok r Hf)
theorem GU
 (ht:∀V,aa V=aa Y.names->aj w X [] n (aS Z Y.ns V) (tM V) (KV) (pJ test Z<|ip test Z))
 (hb:∀V,aa V=aa Y.names->aj w X W n (aS Z Y.ns V) (bM V) (io Z Y) (kc body Z))
 (hl:aa V=aa Y.names) {s:bh} {K:aN} (I:kl n A M) (iv:Inv X K O H M s.heap) (c:aS Z Y.ns V K O s.heap) (e:g8 tM bM g V H=.ok r Hf)
 (P:∀f F j rq x i,dt x i=.ok r Hf->Step W K O s.heap j rq F.heap->Inv X j rq i M F.heap->io Z Y x f j rq F.heap->aV s F->R (.ok f) F):
 nq (MM w) A (.whileLoop test body [] Z) R s:=by
 refine Yo (WhI X W Z Y tM bM M K O s r Hf) g ⟨V,K,O,H,iM ..,.refl s,iv,c,hl,e⟩ ?_;intro f s₁ hI T B E hT hF hN hB hr;refine na ?_;intro P62;cases hI with|mk N k J H₁ dL h w0 d hl₁ q=>?_
 cases f with
 |zero=>cases q
 |succ f=>
  refine iB (nN q) λb H₂ eb e₂=>((ht N hl₁).keep dw).run I w0 d eb λrb t C z D u XT U=>bC XT λy hrb=>?_;have Ch:=dL.trans<|D.mono λ_ m=>absurd m aY
  subst hrb
  cases b with
  |false=>exact hF _ (ar<|P _ _ C z _ _ e₂ Ch u ⟨y,hl₁,.next⟩ (h.trans U))
  |true=>
   refine hT _<|iB (nN e₂) λx ww L e₃=>(hb N hl₁).run I u y L λfl s₃ o Q iU S a n7=>?_
   have yD:=Ch.trans iU;have Hl:=(h.trans U).trans n7;exact t8 (G:=λf=>B f s₃) a.f e₃ (λe=>hN f _ (kq f) ⟨x.2,o,Q,ww,yD,Hl,S,a.c,a.l,e⟩) (λe=>hB _ (P _ _ o Q _ _ e yD S ⟨a.c,a.l,.next⟩ Hl)) λp v hv e=>hr _ _ (P _ _ o Q _ _ e yD S ⟨a.c,a.l,.ret hv⟩ Hl)
theorem Er
 (z:∀V,aa V=aa Y.names->aj w X [] n (aS Z Y.ns V) (d V) (KV) (pJ o Z<|ip o Z))
 (R:∀V,aa V=aa Y.names->aj w X W n (aS Z Y.ns V) (b V) (io Z Y) (kc body Z))
 (g) (V) (C:aa V=aa Y.names):
 aj w X W n (aS Z Y.ns V) (gV<|g8 d b g V) (io Z Y) (NH (.While o body [] S) Z):=by
 intro A s K O H M I N c L;refine iB (y3 L) λr a e T=>T▸?_;exact wpAny_While<|GU z R C I N c e λf F j l x i q st P fr U=>⟨_,_,j,l,ae q,st,P,fr,U⟩
theorem Step.ss {K k:aN} (x:Step W K O g k J f) (N:g.get? I=fM) (z:∀b o,b≠I->f.get? b=ab o->h'.get? b=ab o):Step W K O g k J h':=
 ⟨x.par,x.kle,x.new,x.pre,λa o e=>by
  exact bd (x.there a o e) λu V=>⟨u,z a u (by rintro rfl;rw[N] at e;exact aC e) V⟩,
   λa o e t U=>by
    exact aH (x.keep a o e t U) λp V G=>⟨p,z a _ (by rintro rfl;rw[N] at e;exact aC e) V,G⟩,x.frs⟩
theorem HN {P:bk->Prop}:∀a∈([]:List bk),P a:=λ_ m=>absurd m aY
theorem uO {P:bk->Prop} (h:P b):∀a∈[b],P a:=λa m=>(aU.mp m)▸h
theorem Aw (h:a≠b):a∉[b]:=λm=>h<|aU.mp m
theorem no0:a∉([]:List bk):=aY
theorem aS.RP {K:aN} {wr:List bk} (c:aS Z Y V K O h) (z:∀b o,b∉wr->h.get? b=ab o->h'.get? b=ab o) (E:∀a∈wr,a∉aX Z):aS Z Y V K O h':=by
 obtain⟨m,B,A,t,n,f⟩:=c;have y:∀x c,(x,c)∈Z.cells->c∉wr:=λx c P q=>E _ q (bb _ (b2.mpr ⟨_,P,rfl⟩));refine⟨m,?_,A,t,λx c P=>?_,λj x p a b=>?_⟩
 ·exact se B λo u Q e r=>⟨o,u,Q,z _ _ (λq=>E _ q bc) e,r⟩
 ·obtain⟨a,b,d,v,o,e,r⟩:=n x c P;exact⟨a,b,d,v,o,z _ _ (y x c P) e,r⟩
 ·rcases f j x p a b with q|⟨q,c,v,l,⟨o,X,W⟩,w⟩
  ·exact .inl q
  ·exact .inr ⟨q,c,v,l,⟨o,z _ _ (y x c<|mem_of_lookup l) X,W⟩,w⟩
theorem aS.but {Z:lV} {K:aN} (c:aS Z Y V K O h) (z:∀b o,b≠I->h.get? b=ab o->h'.get? b=ab o) (E:I∉aX Z):aS Z Y V K O h':=
 c.RP (λb o R=>z b o λq=>R<|q▸jc I) (uO E)
theorem zD {L:List u} (h:L[j]?=ab p):L.drop j=p::L.drop (j+1):=by refine bd (aA.mp h) λQ S=>?_;subst S;exact List.drop_eq_getElem_cons Q
theorem aS.kt (h:∀a∈W,a∉aX Z):fD W (aS Z j V):=
 aS.stable (λm=>h _ m bc) λy D P q=>h _ q (bb _ (b2.mpr ⟨_,P,rfl⟩))
theorem g9 (env):env.locals∈aX env:=bc
inductive ai8 (KF:aN) (W:List bk) (env:lV) (cx:Cx) (I:bk) (fp:List bk) (P:Nat->Value->Prop) (J:Nat->eG->Prop) (L:List PV) (i:Nat) (bM:bN->IM (ge×bN)) (fs:List lV) (K:aN) (μ:List bk) (g:eG) (s:bh) (r:ge×bN) (Hf:Hp) (m:Nat) (s₁:bh):Prop
 |mk (j:Nat) (σ:bN) (K₁:aN) (dU:List bk) (H:Hp) (hm:m=aa L+1-j) (hj:j<=aa L) (st:Step W K μ g K₁ dU s₁.heap) (so:aV s s₁) (iv:Inv KF K₁ dU H fs s₁.heap) (c:aS env cx.ns σ K₁ dU s₁.heap) (l:aa σ=aa cx.names)
  (ci:jC I fp P J L j K₁ dU s₁.heap) (e:ik (λτ p=>f0 τ [i] ao p) bM (L.drop j) σ H=.ok r Hf)
theorem Q2 {Y:Cx} (T:dk X Y Z) (ht:ln Y.names x=ab i)
 (hW:∀a∈W,a∈aX Z) (hW':∀a∈aX Z,a∈W)
 (hb:∀V,aa V=aa Y.names->aj w X W n (aS Z Y.ns V) (bM V) (io Z Y) (kc body Z))
 (U:sx w I fp (aa L) P J)
 {A:iF} {M:List lV} (ha:kl n A M) {s:bh} {K:aN} {O:List bk} {H Hf:Hp} {V:bN} {r:ge×bN} (iv:Inv X K O H M s.heap) (c:aS Z Y.ns V K O s.heap) (C:aa V=aa Y.names)
 (ci:jC I fp P J L 0 K O s.heap) (hI:I∉aX Z) (hfp:∀a∈fp,a∉aX Z) (e:ik (λτ p=>f0 τ [i] ao p) bM L V H=.ok r Hf) {R:Result->bh->Prop}
 {gH:aN} {tq:List bk} {g:eG} (hg:g.get? I=al) (EC:Step W gH tq g K O s.heap)
 (hR:∀f F K' rq x H',dt x H'=.ok r Hf->Step W gH tq g K' rq F.heap->Inv X K' rq H' M F.heap->io Z Y x f K' rq F.heap->aV s F->R (.ok f) F):
 nq (MM w) A (.forLoop (.Name x xpos) (.ref I) body [] Z) R s:=by
 refine ZI (ai8 X W Z Y I fp P J L i bM M gH tq g s r Hf) (aa L+1) ⟨0,V,K,O,H,rfl,hH _,EC,.refl s,iv,c,C,ci,e⟩ ?_;intro m s₁ hi N B E hN hS hB z hr;cases hi with|mk j σ₁ K₁ dU H₁ t hj dL h w0 d hl₁ re e₁=>?_
 subst t;have hCi:∀j,fD W (jC I fp P J L j):=λj=>vK U (λq=>hI<|hW _ q) λa ha' q=>hfp a ha'<|hW _ q
 refine vZ U ha.hd w0 re hj (λp v h' tk hp u5 D KM hv=>?_) λh' tk hend u5 z=>?_
 ·have hjlt:=(aA.mp hp).1;rw[zD hp] at e₁;refine iB (nN e₁) λy ww ey e₂=>?_;have c₂:=aS.kt (λa m=>(aU.mp m)▸hI) _ _ _ _ _ _ d D;refine hS _ _ (ar ?_);refine(pG T hl₁ (.one x xpos i ht) (hW' _ (g9 Z)) λ_ _=>hW').run ha u5 ⟨c₂,hv⟩ rfl λu s₃ o Q iU S QF n7=>(hb _ (by refine ag d6 ?_;exact hl₁)).run ha S QF ey λfl s₄ sy rK b k GQ n6=>?_;have xd:=hCi _ _ _ _ _ _ _ (hCi _ _ _ _ _ _ _ KM iU) b;have px:=((dL.hide D λa m=>by exact(aU.mp m)▸.inr hg).trans iU).trans b;have pA:=(h.trans<|js ⟨rfl,rfl⟩ n7).trans n6;have hlt:=oR (iO hjlt)<|kq j
  exact t8 (G:=λf=>B f s₄) GQ.f e₂ (λe=>hB _ _ hlt ⟨j+1,y.2,sy,rK,ww,rfl,hjlt,px,pA,k,GQ.c,GQ.l,xd,e⟩) (λe=>z _ (hR _ _ sy rK _ _ e px k ⟨GQ.c,GQ.l,.next⟩ pA)) λp v hv e=>hr _ _ (hR _ _ sy rK _ _ e px k ⟨GQ.c,GQ.l,.ret hv⟩ pA)
 ·rw[hend,m6] at e₁;exact hN _ (ar<|hR _ _ K₁ dU _ _ e₁ (dL.ss hg z) u5 ⟨d.but z hI,hl₁,.next⟩ (h.trans ⟨rfl,rfl⟩))
theorem Bm (h:et p H≠.stuck):∃L,et p H=.ok L H:=by
 cases p with
 |JV a b=>
  by_cases q:-4611686018427387904<=a/\a<4611686018427387904/\-4611686018427387904<=b/\b<4611686018427387904
  ·exact⟨_,if_pos q⟩
  ·exact absurd (if_neg q) h
 |lst l=>exact⟨_,rfl⟩
 |tup l=>exact⟨_,rfl⟩
 |bytes l=>exact⟨_,rfl⟩
 |_=>exact absurd rfl h
theorem HQ {e:bK} (h:(e.ctorIdx !=7)=ao):∀u k p,e≠.Set u k p:=λ_ _ _ q=>by rw[q] at h;cases h
theorem lC {K:aN} (c:aS Z j V K O h) (ha:a∈aX Z):∃r,h.get? a=ab r/\K a=none:=by
 obtain⟨m,⟨o,_,_,e,_⟩,A,_,n,_⟩:=c;rcases aL.mp ha with rfl|ha
 ·exact⟨o,e,A⟩
 ·refine aH (b2.mp ha) λq P S=>?_;subst S;obtain⟨a,_,_,v,o,e,_⟩:=n q.1 q.2 P;exact⟨o,e,a⟩
theorem r4 (h:∀u k p,iter≠.Set u k p):∀x,foldedSetIterable iter Z x=pure x:=by intro x;cases iter<;>first|rfl|exact absurd rfl<|h _ _ _
theorem MO (T:dk X Y env) (z:ln Y.names x=ab i)
 (hns:∀es k p,iter≠.Set es k p) (R:∀a∈W,a∈aX env) (hW':∀a∈aX env,a∈W) (hl:aa V=aa Y.names)
 (D:aj w X [] n (aS env Y.ns V) E e7 (ip iter env))
 (hb:∀V,aa V=aa Y.names->aj w X W n (aS env Y.ns V) (bM V) (io env Y) (kc body env)):
 aj w X W n (aS env Y.ns V) (aw (aw E et) λl=>gV<|ik (λτ p=>f0 τ [i] ao p) bM l V) (io env Y) (NH (.For (.Name x xpos) iter body [] S) env):=by
 intro A s K μ H M I N c;generalize b:aw (aw E et) (λl=>gV<|ik (λτ p=>f0 τ [i] ao p) bM l V) H=o;intro ho;refine xC ?_;intro amg;refine Mh ?_;intro amw;refine afz ?_ (r4 hns);have hwh:E H≠.stuck:=λq=>ho<|ag b.symm<|by rw[fU,fU,q]
 refine xC ?_;intro amf;refine aZ ((D.keep dw) A s K μ H M I N c hwh) (λv B ⟨p,Z,K₁,dU,Q,dL,G,⟨d,hv⟩,h⟩=>?_) λy B Yc=>yc.casesOn Yc λp Z K₁ dU Q dL G hex h=>?_
 ·have b:aw (et p) (λl=>gV<|ik (λτ p=>f0 τ [i] ao p) bM l V) Z=o:=ag (by rw[fU,fU,fU,Q]) b;have u:et p Z≠.stuck:=λq=>ho<|ag b.symm<|by(refine ag (fU ..) ?_;rw[q])
  refine bd (Bm u) λL eL=>?_;have b:gV (ik (λτ p=>f0 τ [i] ao p) bM L V) Z=o:=ag (by(refine(fU ..)▸?_;rw[eL])) b;refine iB (y3 λq=>ho<|ag b.symm q) λr Hf e e'=>?_;have b:=ag b.symm e';refine v7 G hv eL λg P J o U ci C=>?_;have kp:=Ab B.heap o;have QV:=dL.none<|bW _
  have c₂:=dw _ _ _ _ _ _ d kp.step
  have hI:B.heap.objs.size∉aX env:=λq=>by refine aH (lC d q) λoa ea _=>?_;rw[bW] at ea;exact aC ea
  refine Q2 T z R hW' hb U I (G.keep kp) c₂ hl ci hI (λa O q=>?_) e QV ((dL.mono λ_ m=>absurd m aY).trans kp.step) λf F j rq x' H' ex st xZ hf so=>?_
  ·refine aH (lC d q) λoa ea t=>?_;rcases ci.2.2.2.1 a O with rfl|⟨o',k',_⟩
   ·exact hI q
   ·rw[t] at k';exact aC k'
  ·exact⟨x',H',j,rq,ag b ex.symm,st,xZ,hf,h.trans<|js ⟨rfl,rfl⟩ so⟩
 ·exact⟨p,Z,K₁,dU,ag b.symm (by rw[fU,fU,Q]),dL.mono λ_ m=>absurd m aY,G,hex,h⟩
set_option backward.match.sparseCases true in
theorem Fo {one:Bool} (z:N6 j b g one) (L:s.heap.get? I=ab o) (P:o.cls=.type O) (B:yZ.contains O=ah) (h:Q () s):
 aD M A (agz b (.ref I) v) Q E s:=by
 have c:aD M A (do
  let(.ref r,.ref a):=(f6 I,v)|return
  let o <-load r
  match o.cls,o.data with
  |.type n,.fields U=>
   if["enumerate","zip","dict_itemiterator","dict_reverseitemiterator","odict_iterator","itertools.zip_longest","itertools.pairwise"].contains n&&U[0]?==ab (pI a) then
    rule "for.unpacks-the-owned-tuple"
    updateField r 0 .none
  |_,_=>pure ():jE Unit) Q E s:=by
  cases v<;>first|exact ar h|skip
  refine ak<|ul L ?_
  refine P▸?_;cases o.data<;>first|exact ar h|skip
  rename_i U;have:["enumerate","zip","dict_itemiterator","dict_reverseitemiterator","odict_iterator","itertools.zip_longest","itertools.pairwise"].contains O=false:=B;simp only[this,XH,bO,if_false];exact ar h
 induction z with
 |one=>exact ar h
 |tup=>exact c
def xH (D:bk) (S:List PV):xg:=λK O h=>∃U k,h.get? D=ab {cls:=.type "list",dict:=al,data:=.seq (af U) k,slots:=#[]}/\bU K O S U/\K D=al/\D∉O
theorem xH.stable (R:D∉W):fD W (xH D S):=by intro K O h j l G a st;refine AD a λU k e r z t=>?_;exact⟨U,k,st.same e t R (λf=>absurd f.1<|by simp),vH st r,st.ls z e,st.lr t e⟩
open xH renaming stable->K8
theorem aS.weaken (h:∀(j:Nat) (p:PV),X[j]?=ab (ab p)->V[j]?=ab (ab p)) {K:aN} (c:aS Z Y V K O g):aS Z Y X K O g:=by obtain⟨m,B,a,b,d,f⟩:=c;exact⟨m,B,a,b,d,λi x p T F=>f i x p T<|h i p F⟩
theorem Ho:∀{g y j},j∉g->(fL V g y)[j]?=V[j]?:=by
 intro g
 induction g generalizing V with
 |nil=>exactλ_=>rfl
 |cons i g o=>
  intro y j h
  cases y with
  |nil=>rfl
  |cons p y=>simp only[aL,not_or] at h;exact ag (o h.2)<|dQ<|jm h.1
inductive Sj (σ:bN) (is:List Nat):bN->Prop
 |one (i:Nat) (p:PV) (e:is=[i]):Sj σ is (σ.set i (ab p))
 |tup (ps:List PV):Sj σ is (fL σ is ps)
theorem Go {one:Bool} (h:f0 V g one p=ab τ):Sj V g τ:=by
 cases one with
 |true=>refine aH (map_some h) λi D S=>?_;subst S;exact .one i p<|tW D
 |false=>
  refine aH (bind_some h) λy _ h=>?_;by_cases q:aa y=aa g
  ·obtain rfl:=ai<|(if_pos q).symm.trans h;exact .tup y
  ·exact aC<|(if_neg q).symm.trans h
theorem zP {one:Bool} (h:f0 V is one p=ab d) (R:∀j∈is,V[j]?=ab al) (j:Nat) (q) (L:V[j]?=ab (ab q)):d[j]?=ab (ab q):=by
 have Q:j∉is:=λm=>by rw[R j m] at L;cases L
 cases Go h with
 |one i p e=>refine ag (dQ λm=>Q<|by rw[e,m];exact jc j) ?_;exact L
 |tup y=>rw[Ho Q];exact L
theorem BM {one:Bool} (h:f0 σ g one p=ab d):aa d=aa σ:=by
 cases Go h with
 |one i p e=>exact d6
 |tup y=>exact ms ..
theorem P1 (h:gV m H=.ok a H'):m H=.ok a H':=by
 unfold gV at h
 cases e:m H with
 |ok b f=>rw[e] at h;exact h
 |exc p f=>rw[e] at h;cases h
 |stuck=>rw[e] at h;cases h
inductive afx (w:dG) (KF:aN) (fs:List lV) (env:lV) (ns:List am) (rJ:bN) (I D:bk) (fp:List bk) (P:Nat->Value->Prop) (J:Nat->eG->Prop) (L acc r:List PV) (Hf:Hp) (f:PV->IM (Option PV)) (gH:aN) (tq:List bk) (g:eG) (s:bh) (m:Nat) (s₁:bh):Prop
 |mk (j:Nat) (K₁:aN) (dU:List bk) (H₁:Hp) (qN:List PV) (em:m=aa L+1-j) (hj:j<=aa L) (Ko:aa qN<=aa acc+j) (st:Step [] gH tq g K₁ dU s₁.heap) (so:aV s s₁) (iv:Inv KF K₁ dU H₁ fs s₁.heap)
  (c:aS env ns rJ K₁ dU s₁.heap) (ci:jC I fp P J L j K₁ dU s₁.heap) (ca:xH D qN K₁ dU s₁.heap) (e:hY f (L.drop j) qN H₁=.ok r Hf)
inductive afw (rJ:bN) (is:List Nat) (one:Bool) (cM:bN->IM Bool) (eM:bN->IM PV) (F:PV->IM (Option PV)) (p:PV) (l acc:List PV) (H:Hp) (r:List PV) (Hf:Hp):Prop
 |mk (τ:bN) (b:Bool) (H':Hp) (hτ:f0 rJ is one p=ab τ) (ec:cM τ H=.ok b H') (no:b=ah->hY F l acc H'=.ok r Hf) (yes:b=ao->∃q H'',eM τ H'=.ok q H''/\hY F l (acc++[q]) H''=.ok r Hf)
def qH (a:bN) (g:List Nat) (one:Bool) (f:bN->IM Bool) (Q:bN->IM PV) (p:PV):IM (Option PV):=match f0 a g one p with
 |none=>aP
 |some d=>gV<|aw (f d) λC=>if C then aw (Q d) λq=>ax (ab q) else ax al
theorem Nf {one:Bool} (h:hY (qH a g one f Q) (p::l) S H=.ok r Hf):afw a g one f Q (qH a g one f Q) p l S H r Hf:=by
 refine na ?_;intro n;refine iB (nN h) λo c R e=>?_;unfold qH at R
 cases E:f0 a g one p with
 |none=>rw[E] at R;cases R
 |some d=>
  rw[E] at R;refine iB (nN<|P1 R) λb i k R=>⟨d,b,i,E,k,λq=>?_,λq=>?_⟩
  ·subst q;cases R;exact e
  ·refine na ?_;intro s;subst q;refine iB (nN R) λq m j R=>?_;cases R;exact⟨q,_,j,e⟩
theorem Ng {one:Bool} {cM:bN->IM Bool} (T:dk X Y Z) (ht:N6 Y.names tgt is one)
 (hcell:∀x,Y.names.lookup x≠ab .cell) (C:aa rJ=aa Y.names) (hbase:∀j∈is,rJ[j]?=ab al)
 (hc:∀d,aa d=aa Y.names->aj w X [] n (aS Z Y.ns d) (cM d) (KV) (forIn ifs ao λc r=>if r=ao then do let ok <-pJ c Z (ip c Z);pure (e0 ok) else pure (e0 r)))
 (he:∀d,aa d=aa Y.names->aj w X [] n (aS Z Y.ns d) (eM d) e7 (ip elt Z))
 {P:Nat->Value->Prop} {J:Nat->eG->Prop} {L:List PV} (hw:sx w I fp (aa L) P J)
 {A:iF} {M:List lV} (ha:kl n A M) {s:bh} {K:aN} {μ:List bk} {H Hf:Hp} {S r:List PV} (iv:Inv X K μ H M s.heap) (c:aS Z Y.ns rJ K μ s.heap)
 (ci:jC I fp P J L 0 K μ s.heap) (ca:xH D S K μ s.heap) (hI:I∉aX Z) (hfp:∀a∈fp,a∉aX Z) (hD:D∉aX Z) (hDI:D≠I) (hDf:D∉fp)
 (e:hY (qH rJ is one cM eM) L S H=.ok r Hf) (hz:aa S+aa L<=16777216) {R:Result->bh->Prop}
 {G:aN} {i:List bk} {g:eG} (N:g.get? I=al) (hgD:g.get? D=al) (hgC:g.get? Z.locals=al) (EC:Step [] G i g K μ s.heap)
 (hR:∀s' K' l x H',dt x H'=.ok r Hf->Step [] G i g K' l s'.heap->Inv X K' l H' M s'.heap->aS Z Y.ns rJ K' l s'.heap->xH D x K' l s'.heap->aV s s'->R (.ok .next) s'):
 nq (MM w) A (.compLoop (.ListComp elt [⟨tgt,iter,ifs,0⟩] scope pos) 0 (.ref I) (.ref D) Z) R s:=by
 refine acO rfl (afx w X M Z Y.ns rJ I D fp P J L S r Hf (qH rJ is one cM eM) G i g s) (aa L+1)
  (.mk 0 K μ H S rfl (hH _) (bS _) EC (.refl s) iv c ci ca e) ?_
 intro m B hi Q E hQ hDn;cases hi with|mk j K₁ dU H₁ qN t hj Ko dL gu w0 c₁ re Xi e₁=>?_
 subst t;show aD _ _ ((compTurn (.ListComp elt [⟨tgt,iter,ifs,0⟩] scope pos) 0 (.ref I) (.ref D) Z).onRaise λx=>do Oa x Z;theTreesLotGoes x) _ _ B;refine wpAny_noted ?_;generalize notedBy (MM w) _ Z E=E';rw[compTurn_list];refine Mh ?_;intro akr;refine ak<|cb<|ak ?_
 refine xC ?_;intro akm;refine vZ hw ha.hd w0 re hj (λp v h' tk hp u5 lk KM hv=>?_) λh' tk hend u5 z=>?_
 ·have hjlt:=(aA.mp hp).1;have hlt:=oR (iO hjlt)<|kq j
  rw[zD hp] at e₁;refine na ?_;intro aml;cases Nf e₁ with|mk d b ams hτ ec eno aim=>?_
  have adw:aa d=aa Y.names:=by rw[BM hτ];exact C
  have hCI:Z.locals≠I:=λq=>hI<|q▸g9 Z
  refine AD (hw.own (j+1) _ KM.1) λoI nmI eI cI nI _=>ak<|Fo ht eI cI nI ?_
  have Ch:=dL.hide lk<|uO<|.inr N
  have c₂:=aS.kt (uO hI) _ _ _ _ _ _ c₁ lk;have aey:=K8 (Aw hDI) _ _ _ _ _ _ Xi lk;have hDC:D≠Z.locals:=λq=>hD<|q▸g9 Z
  have key:=(pG (w:=w) (n:=n) (p:=p) (v:=v) T C ht (jc _) λx h=>absurd h<|hcell x);have eb:bindM rJ is one p H₁=.ok d H₁:=by unfold bindM;rw[hτ];rfl
  refine ak<|key.run ha u5 ⟨c₂,hv⟩ eb λu s₃ qg yq iU adb c₃ n7=>?_
  have KL:jC I fp P J L (j+1) qg yq s₃.heap:=vK hw (Aw<|jm hCI) (λa O=>Aw λq=>hfp a O<|q▸g9 Z) _ _ _ _ _ _ KM iU;have aex:xH D qN qg yq s₃.heap:=K8 (Aw hDC) _ _ _ _ _ _ aey iU;have yD:Step [] G i g qg yq s₃.heap:=Ch.hide iU<|uO<|.inr hgC
  refine ak<|((hc d adw).keep dw).run ha adb c₃ ec λrb s₄ sy rK o5 pY rZ n6=>?_
  have xd:jC I fp P J L (j+1) sy rK s₄.heap:=vK hw no0 (λ_ _=>no0) _ _ _ _ _ _ KL o5;have Xh:xH D qN sy rK s₄.heap:=K8 no0 _ _ _ _ _ _ aex o5;have px:=yD.trans o5;have pA:aV s s₄:=gu.trans<|(js ⟨rfl,rfl⟩ n7).trans n6
  have hrb:b=rb:=rZ.2
  cases rb with
  |false=>exact ar<|hQ _ _ hlt (.mk (j+1) sy rK _ qN rfl hjlt (Nat.le_succ_of_le Ko) px pA pY (rZ.1.weaken<|zP hτ hbase) xd Xh (eno hrb))
  |true=>
   refine iB (aim hrb) λq amr eq5 e₂=>?_;refine ak<|ak<|((he d adw).keep dw).run ha pY rZ.1 eq5 λx s₅ Jd Ei yC Fz W0 O8=>?_
   have aew:jC I fp P J L (j+1) Jd Ei s₅.heap:=vK hw no0 (λ_ _=>no0) _ _ _ _ _ _ xd yC;refine xC ?_;intro akl;refine AD (K8 (S:=qN) (W:=[]) no0 _ _ _ _ _ _ Xh yC) λU k eD rs kD mD=>?_;have hlD:IsL s₅.heap D (af U) k:=eD;have V:(af U).size<=sizeLine:=by rw[bg,aR,rs.length];exact aM Ko<|aM (dH hj _) hz
   refine ak<|z1 F.slot_list_append ⟨_,hlD,rfl⟩ F.entry_list_append (F.args_list_append_2 _ _) (list_append D (af U) k x V) ⟨hlD,?_⟩
   have hkp:∀b o,b≠D->s₅.heap.get? b=ab o->(s₅.heap.update D<|fN λy=>y.push x).get? b=ab o:=λb o hb eb=>ag ((ds s₅.heap D<|fN λy=>y.push x).2 b hb) eb;have Qu:=Fz.but kD mD hkp λo eo=>by rw[<-ai (eD.symm.trans eo)];exactλf=>absurd f.1<|by simp
   have hl2:=hlD.update λy=>y.push x;have JR:Step [D] Jd Ei s₅.heap Jd Ei _:=EG (jc D) hkp ⟨_,hl2⟩
   exact ar (ar (hQ _ _ hlt (.mk (j+1) Jd Ei _ (qN++[q]) rfl hjlt (by rw[aI];exact z4 Ko) ((px.trans yC).hide JR<|uO<|.inr hgD) (pA.trans<|O8.trans ⟨rfl,rfl⟩) Qu
    ((W0.1.but hkp hD).weaken<|zP hτ hbase) (vK hw (Aw<|jm hDI) (λa O=>Aw λq=>hDf<|q▸O) _ _ _ _ _ _ aew JR) ⟨U++[x],_,by rw[show(U++[x]).toArray=(af U).push x by simp];exact hl2,rs.append<|b7 W0.2 eu,kD,mD⟩ e₂)))
 ·rw[hend,m6] at e₁;refine iB Xi λU k e rest=>?_;exact ar<|hDn _ _ (hR _ K₁ dU _ _ e₁ (dL.ss N z) u5 (c₁.but z hI) ⟨U,k,z _ _ hDI e,rest⟩ (gu.trans ⟨rfl,rfl⟩))
def ow (cells:List (am×bk)) (S:List (am×bk)) (x:am×fZ):List (am×bk):=(gd (x.2==.free)<|cells.lookup x.1).elim S λc=>(x.1,c)::S
def uc (cells:List (am×bk)) (l:List (am×fZ)) (S:List (am×bk)):List (am×bk):=l.foldl (ow cells) S
theorem Ks {k:fZ} (h:(k==.free)=ao):k=.free:=by cases k<;>first|rfl|cases h
inductive ClV (cells:List (am×bk)) (acc:List (am×bk)) (x:am×fZ):Prop
 |no (e:ow cells acc x=acc)
 |yes (c:bk) (k:x.2=.free) (h:cells.lookup x.1=ab c) (e:ow cells acc x=(x.1,c)::acc)
theorem clV (cells S x):ClV cells S x:=by
 cases h:gd (x.2==.free) (cells.lookup x.1) with
 |none=>exact .no<|congrArg (λo:Option bk=>o.elim S λc=>(x.1,c)::S) h
 |some c=>exact .yes c (Ks (cK h).1) (cK h).2<|congrArg (λo:Option bk=>o.elim S λc=>(x.1,c)::S) h
theorem IR (h:∀x,(x,iq)∈scope.names->∃c,Z.cells.lookup x=ab c):closureFor scope Z=pure (uc Z.cells scope.names []):=by
 have j:∀(l:List (am×fZ)) (S:List (am×bk)),(∀x,(x,iq)∈l->∃c,Z.cells.lookup x=ab c)->
  (forIn l S λ(x:am×fZ) (D:List (am×bk))=>(if(x.2==iq)=ao then do let a <-cellOf Z x.1;pure (e0<|(x.1,a)::D) else pure (e0 D):jE _))=pure (uc Z.cells l S):=by
  intro l
  induction l with
  |nil=>intro S _;rfl
  |cons y l o=>
   intro S C;have o:=λS=>o S λy I=>C y<|bb _ I
   refine ag (cA ..) ?_;by_cases z:(y.2==iq)=ao
   ·refine bd (C y.1<|by refine((Ks z))▸?_;exact bc) λc P=>?_
    (refine(if_pos z)▸(show cellOf Z y.1=pure c by unfold cellOf;rw[P])▸?_)
    exact ag (o _)<|by show _=pure (uc Z.cells l<|ow Z.cells S y);rw[show ow Z.cells S y=(y.1,c)::S by unfold ow gd;rw[if_pos z,P];rfl]
   ·rw[if_neg z];exact ag (o _)<|by show _=pure (uc Z.cells l<|ow Z.cells S y);rw[show ow Z.cells S y=S by unfold ow gd;rw[if_neg z];rfl]
 exact ag (congrArg (· >>=λD=>pure D)<|j scope.names [] h) rfl
theorem zJ (cells l):∀S x c,(x,c)∈uc cells l S->(x,c)∈S\/((x,iq)∈l/\cells.lookup x=ab c):=by
 induction l with
 |nil=>exactλ_ _ _ h=>.inl h
 |cons y r o=>
  intro S x c h;refine(o _ x c h).elim (λq=>?_) λq=>.inr ⟨bb _ q.1,q.2⟩
  cases clV cells S y with
  |no e=>exact .inl<|e▸q
  |yes D k P e=>
   rw[e] at q;refine(aL.mp q).elim (λq=>.inr ?_) .inl
   (refine(show x=y.1 from congrArg K0 q)▸(show c=D from congrArg Prod.snd q)▸(k)▸?_)
   exact⟨bc,P⟩
theorem Nj (cells l):∀acc e,e∈acc->e∈uc cells l acc:=by
 induction l with
 |nil=>exactλ_ _ h=>h
 |cons y r o=>
  intro acc e h;refine o _ e ?_
  cases clV cells acc y with
  |no q=>exact(ae q)▸h
  |yes c k P q=>exact q▸bb _ h
theorem RE (cells l):∀acc x c,(x,iq)∈l->cells.lookup x=ab c->(x,c)∈uc cells l acc:=by
 induction l with
 |nil=>exactλ_ _ _ h _=>absurd h aY
 |cons y r o=>
  intro acc x c h P;refine(aL.mp h).elim (λq=>?_) λq=>o _ x c q P;refine Nj cells r _ _ ?_
  (refine(q)▸(show ow cells acc (x,iq)=(x,c)::acc by unfold ow;rw[P];rfl)▸?_)
  exact bc
theorem IS (a:cells.Pairwise λx y=>x.2≠y.2) (l):∀S,(l.map (·.1)).Nodup->(∀x c,(x,c)∈S->x∉l.map (·.1)/\cells.lookup x=ab c)->
 S.Pairwise (λx y=>x.2≠y.2)->(uc cells l S).Pairwise λx y=>x.2≠y.2:=by
 induction l with
 |nil=>exactλ_ _ _ h=>h
 |cons y r o=>
  intro S B I h;have B:=lb.mp B;have O:∀x c,(x,c)∈S->x∉r.map (·.1)/\cells.lookup x=ab c:=λx c m=>⟨λq=>(I x c m).1<|bb _ q,(I x c m).2⟩;refine o _ B.2 ?_ ?_
  ·cases clV cells S y with
   |no e=>exact(ae e)▸O
   |yes c k P e=>
    refine e▸?_
    refineλx D m=>(aL.mp m).elim (λq=>?_)<|O x D
    (refine(show x=y.1 from congrArg K0 q)▸(show D=c from congrArg Prod.snd q)▸?_)
    exact⟨B.1,P⟩
  ·cases clV cells S y with
   |no e=>exact(ae e)▸h
   |yes c k P e=>refine e▸?_;refine Of.mpr ⟨λz N q=>?_,h⟩;have W:=I z.1 z.2 N;exact W.1<|(name_of_addr a (mem_of_lookup P)<|q▸mem_of_lookup W.2)▸bc
theorem mw:∀{l:List (am×z)} {x} {k:z},(l.map (·.1)).Nodup->(x,k)∈l->l.lookup x=ab k
 |[],_,_,_,h=>by simp at h
 |(n,Z)::r,x,k,B,h=>by
  simp only[bu,lb] at B;rcases aL.mp h with q|q
  ·cases q;simp[br]
  ·have X:(x==n)=false:=by
    rw[beq_eq_false_iff_ne];rintro rfl;exact B.1<|b2.mpr ⟨_,q,rfl⟩
   simp only[br,X];exact mw B.2 q
theorem qZ:∀{l:List (am×z)} {x} {k:z},(x,k)∈l->∃Z,l.lookup x=ab Z
 |[],_,_,h=>by simp at h
 |(n,Z)::r,x,k,h=>by
  cases R:x==n with
  |true=>exact⟨Z,by simp only[br,R]⟩
  |false=>
   rcases aL.mp h with q|q
   ·cases q;simp at R
   ·exact bd (qZ q) λa W=>⟨a,by simp only[br,R];exact W⟩
noncomputable def uL (Z:lV):am×fZ->am×NameKind:=λ(n,k)=>if(k==.free&&Z.scope.kind==.function&&Z.kindOf n==ab .cell) then(n,.cell) else(n,k)
theorem u2:∀{Y:List (am×fZ)} {x},(Y.map<|uL Z).lookup x=(Y.lookup x).map λk=>(uL Z (x,k)).2
 |[],x=>rfl
 |(n,k)::r,x=>by
  have J:(uL Z (n,k)).1=n:=by unfold uL;dsimp only;split<;>rfl
  refine bu▸?_
  cases d:uL Z (n,k) with
  |mk a b=>
   rw[d] at J;subst J;simp only[br]
   cases R:x==a with
   |true=>
    have:x=a:=by simpa using R
    subst this;simp[d]
   |false=>exact u2
theorem gm (h:jf Y scope=ao):scope.kind=.function/\(scope.names.map (·.1)).Nodup/\(∀x k,(x,k)∈scope.names->k≠.cell/\(k=.free->Y.names.lookup x=ab .cell)):=by unfold jf at h;simp only[bt,beq_iff_eq,decide_eq_true_eq,cm,gE,bne_iff_ne] at h;refine⟨h.1.1,h.1.2,λx k m=>?_⟩;have:=h.2 (x,k) m;exact⟨this.1,λq=>by rcases this.2 with r|r;exact absurd q r;exact r⟩
noncomputable abbrev N5 (Y:Cx) (scope:rF):Cx:=⟨scope.names,Y.glob,[]⟩
theorem sY {cl:List (am×bk)} (x):(AM scope cl C Z).kindOf x=(scope.names.lookup x).map λk=>(uL Z (x,k)).2:=u2
theorem C6 (T:dk X Y Z) (h:jf Y scope=ao):∀x,(x,iq)∈scope.names->Z.kindOf x=ab .cell/\∃c,Z.cells.lookup x=ab c:=λx m=>by
 have J:=T.ce x<|((gm h).2.2 x _ m).2 rfl
 exact⟨J,T.fe.has x<|.inl J⟩
theorem Pp (h:k≠.free):(uL Z (x,k)).2=k:=by
 unfold uL;have:(k==iq)=false:=by cases k<;>first|rfl|exact absurd rfl h
 simp[this]
theorem mem_lookup:∀{l:List (am×z)} {x} {k:z},l.lookup x=ab k->(x,k)∈l
 |(n,v)::r,x,k,h=>by
  rw[br] at h
  cases R:x==n with
  |true=>rw[R] at h;obtain rfl:=ai h;exact(beq_iff_eq.mp R)▸bc
  |false=>rw[R] at h;exact bb _ (mem_lookup h)
theorem Gd (T:dk X Y Z) (h:jf Y scope=ao) (x) (z:scope.names.lookup x=ab .free):∃c,(uc Z.cells scope.names []).lookup x=ab c/\Z.cells.lookup x=ab c:=by
 refine bC (C6 T h x<|mem_lookup z) λ_ S=>?_;refine bd S ?_;clear S;intro c P;refine bd (qZ<|RE Z.cells scope.names [] x c (mem_lookup z) P) λD G=>?_;rcases zJ _ _ _ _ _ (mem_lookup G) with q|⟨_,q⟩
 ·simp at q
 ·exact⟨D,G,q⟩
theorem Vr (T:dk X V Z) (h:jf V scope=ao) (R:Z.builtins=0):vy (AM scope (uc Z.cells scope.names []) C Z) where
 kind:=(gm h).1
 glob:=T.fe.glob
 bi:=R
 apart:=IS T.fe.apart scope.names [] (gm h).2.1 (by simp) BY
 has:=λx z=>by
  have j:scope.names.lookup x=ab .free:=by
   rw[sY] at z
   cases G:scope.names.lookup x with
   |none=>rw[G] at z;rcases z with q|q<;>exact aC q
   |some k=>
    rw[G] at z;by_cases Y:k=.free
    ·rw[Y]
    ·have W:=((gm h).2.2 x k<|mem_lookup G).1;simp only[ym,ajl,Pp Y] at z;rcases z with q|q
     ·exact absurd q W
     ·exact absurd q Y
  exact aH (Gd T h x j) λc P _=>⟨c,P⟩
theorem vr (T:dk X Y Z) (h:jf Y scope=ao):dk X (N5 Y scope) (AM scope (uc Z.cells scope.names []) C Z) where
 nd:=(gm h).2.1
 gi:=λx z=>by refine ag (sY ..) ?_;show(scope.names.lookup x).map _=_;exact(ae<|show scope.names.lookup x=ab .globalImplicit from z)▸rfl
 lc:=λx z=>by refine ag (sY ..) ?_;show(scope.names.lookup x).map _=_;exact(ae<|show scope.names.lookup x=ab .local from z)▸rfl
 ce:=λx z=>absurd rfl ((gm h).2.2 x _ (mem_lookup z)).1
 fe:=Vr T h T.fe.bi
 gl:=T.gl
theorem RH {i:Nat} (h:(ru V k)[i]?=ab (ab p)):∃j,k[i]?=ab (ab j)/\V[j]?=ab (ab p):=by
 unfold ru at h;rw[bY,a9] at h;refine aH h ?_;clear h;intro c P e
 cases c with
 |none=>exact aC e
 |some j=>
  refine⟨j,P,?_⟩;simp only[xn] at e
  cases u:V[j]? with
  |none=>rw[u] at e;exact aC e
  |some o=>rw[u] at e;simp at e;rw[e]
theorem Nl {K:aN} {O:List bk} (T:dk X Y Z) (h:jf Y scope=ao) (M:h'.Ns C λ_=>al) (z:K C=al) (t:C∉O) (B:C∉aX Z) (c:aS Z Y.ns V K O h'):
 aS (AM scope (uc Z.cells scope.names []) C Z) (N5 Y scope).ns (ru V<|kO Y scope.names) K O h':=by
 obtain⟨m,L,A,N,n,f⟩:=c;refine⟨_,M,z,t,λx d q=>?_,λi x p H F=>?_⟩
 ·rcases zJ _ _ _ _ _ q with l|⟨_,R⟩
  ·simp at l
  ·obtain⟨a,b,_,v,P⟩:=n x d (mem_of_lookup R);refine⟨a,b,?_,v,P⟩;rintro rfl;exact B<|by simp only[aX,aL,b2];exact .inr ⟨_,mem_of_lookup R,rfl⟩
 ·refine aH (RH F) λj Q u=>?_;have w:scope.names[i]?.map (·.1)=ab x:=by simpa[Cx.ns] using H
  rw[a9] at w;refine aH w ?_;clear w;intro S I U;obtain⟨y,k⟩:=S;subst U;unfold kO at Q;rw[bY,I] at Q;refine bC (cK<|ai Q) λs Q=>?_;obtain rfl:=eq_of_beq s;have E:=bq I;have o:=mw (gm h).2.1 E;refine bC (C6 T h y E) λG S=>?_;refine bd S ?_;clear S;intro c P;refine aH (Gd T h y o) λD J W=>?_;rcases f j y p (Qg Q) u with ⟨q,_⟩|⟨_,d,v,g,r,e⟩
  ·rw[G] at q;cases q
  ·rw[W] at g;obtain rfl:=ai g;refine .inr ⟨.inl ?_,D,v,J,r,e⟩
   (refine ag (sY ..) ?_;refine o▸?_)
   simp[uL,T.fe.kind,G]
theorem Nm {one:Bool} (h:jf Y scope=ao) (z:N6 scope.names W g one):∀j∈g,(ru V<|kO Y scope.names)[j]?=ab none:=by
 have a:∀(x:am) (i:Nat),ln scope.names x=ab i->(ru V<|kO Y scope.names)[i]?=ab none:=λx i D=>by
  refine bC (cK D) λhk D=>aH (lM.mp D) λF J _=>?_;have b:=eq_of_beq J;have s:scope.names.lookup x=ab scope.names[i].2:=mw (gm h).2.1<|by exact(b)▸hK F
  have C:scope.names[i].2=.local:=by
   rcases(gE _ _).mp hk with hk|hk
   ·exact ai<|ag s.symm<|eq_of_beq hk
   ·exact absurd rfl ((gm h).2.2 x _ (mem_lookup<|eq_of_beq hk)).1
  unfold ru kO
  (refine ag bY ?_;refine(ae bY)▸?_;refine(aO F)▸?_)
  show ab (GI (gd (scope.names[i].2==.free)<|Y.loc _) _)=_;refine C▸?_;rfl
 induction z with
 |one x S i D=>exactλj Q=>(aU.mp Q)▸a x i D
 |tup u k S g D=>obtain⟨l,_,rfl,C⟩:=tX u g D;intro j Q;refine aH (b2.mp Q) λq L Z=>?_;subst Z;exact a _ _ (C q L)
section
variable {KF K:aN}
theorem Inv.afb (N:Inv KF K O H M h) (g:K a=al) (t:a∉O) (z:∀b o,b≠a->h.get? b=ab o->h'.get? b=ab o) (Y:∀e∈M,∀L,e.frame=ab L->L≠a):Inv KF K O H M h':=
 ⟨N.par,N.stat,λb o e=>z b o (by rintro rfl;rw[g] at e;exact aC e)<|N.sub b o e,N.kf,
  ⟨N.ky.len,N.ky.nodup,λi b l D C=>by
   obtain⟨k,o,n,U,e,s,A,S⟩:=N.ky.at_ i b l D C
   exact⟨k,o,n,U,z b o (by rintro rfl;exact t<|bq D) e,s,A,S⟩⟩,
  ⟨λZ J=>by
   obtain⟨k,L,o,f,v,m,e,fo,fr⟩:=N.stk.all Z J
   exact⟨k,L,o,f,v,m,z L o (Y Z J L f) e,fo,fr⟩⟩⟩
theorem Inv.frames (Z:Inv KF K O H M h) (N:h.get? a=al):∀e∈M,∀L,e.frame=ab L->L≠a:=λe J L t q=>by refine na ?_;intro c;obtain⟨_,d,o,f,_,_,b,_⟩:=Z.stk.all e J;rw[f] at t;obtain rfl:=ai t;subst q;rw[N] at b;exact aC b
end
theorem Step.gc {K k:aN} (x:Step W K O g k J h₁) (N:g.get? D=fM) (z:k D=fM):Step W K O g (Internal.gc k D o) J h₁:=
 ⟨x.par,(λa u e=>by
  have m:=x.kle a u e;rw[db]
  ·exact m
  ·rintro rfl;rw[z] at m;exact aC m),
   (λa u e=>by
    by_cases q:a=D
    ·subst q;exact .inr N
    ·rw[db q] at e;exact x.new a u e),x.pre,x.there,x.keep,x.frs⟩
theorem H0 {K:aN} (z:K D=al) (R:bU K O r U):VR (gc K D {cls:=.type "list",dict:=al,data:=.seq (af U) k,slots:=#[]}) O (.lst r) (.ref D):=by
 refine⟨D,_,k,U,rfl,fj _ _ _,⟨rfl,rfl,rfl⟩,rfl,?_⟩
 have:=ro (K:=K) (K':=gc K D {cls:=.type "list",dict:=al,data:=.seq (af U) k,slots:=#[]}) (R:=[]) rfl (λa o e=>by
  rw[db]
  ·exact e
  ·rintro rfl;rw[z] at e;exact aC e) r U R
 simpa using this
def tz (V:bN) (k:List (Option Nat)) (g:List Nat) (one:Bool) (f:bN->IM Bool) (Q:bN->IM PV):PV->IM (Option PV):=qH (ru V k) g one f Q
def Dt (scope:rF) (Z:lV) (C:bk):Env:=AM scope (uc Z.cells scope.names []) C Z
def DK (w:dG) (X:aN) (n:Nat) (Y:Cx) (Z:lV) (scope:rF) (v:List bK) (f:bN->IM Bool):Prop:=∀C d,aa d=aa scope.names->aj w X [] n (aS (Dt scope Z C) (N5 Y scope).ns d) (f d) (KV)
 (forIn v ao λc r=>if r=ao then do let W <-pJ c (Dt scope Z C) (ip c<|Dt scope Z C);pure (e0 W) else pure (e0 r))
def KW (w:dG) (X:aN) (n:Nat) (Y:Cx) (Z:lV) (scope:rF) (A:bK) (Q:bN->IM PV):Prop:=∀C d,aa d=aa scope.names->aj w X [] n (aS (Dt scope Z C) (N5 Y scope).ns d) (Q d) e7 (ip A<|Dt scope Z C)
theorem wc (m:a∈aX (Dt scope env C)):a=C\/a∈aX env:=
 (aL.mp m).elim .inl λm=>aH (b2.mp m) λx t e=>(zJ _ _ _ _ _ t).elim (λq=>absurd q aY) λq=>.inr<|bb _ (b2.mpr ⟨_,mem_of_lookup q.2,e⟩)
theorem Nh {one:Bool} (T:dk X Y env) (t:jf Y scope=ao)
 (ht:N6 scope.names tgt g one)
 (hc:DK w X n Y env scope ifs cM) (he:KW w X n Y env scope elt eM)
 (ha:kl n A M) {K K₁:aN} {O dU:List bk} {H Z Hf:Hp} {p:PV} {v:Value} {L r:List PV} (N:Inv X K O H M s.heap) (dL:Step [] K O s.heap K₁ dU s₁.heap) (G:Inv X K₁ dU Z M s₁.heap)
 (c₀:aS env Y.ns V K O s.heap) (d:aS env Y.ns V K₁ dU s₁.heap) (hv:VR K₁ dU p v) (eL:et p Z=.ok L Z) (hL:aa L<=16777216) (h:aV s s₁)
 (e:hY (tz V (kO Y scope.names) g one cM eM) L [] Z=.ok r Hf) {use:Option (Value->jE Unit)} {Q:Value->bh->Prop} {E:Value->bh->Prop}
 (hR:∀C D F j l r i,hY (tz V (kO Y scope.names) g one cM eM) L [] Z=.ok r i->s.heap.get? C=al->C∉aX env->j C=al->C∉l->(∃m,F.heap.Ns C m)->Step [] K O s.heap j l F.heap->Inv X j l i M F.heap->aS env Y.ns V j l F.heap->VR j l (.lst r) (.ref D)->aV s F->
  V1 (MM w) A E use Q (.ref D) C (.ok .next) F):
 aD (MM w) A (Jl v) (λit s₂=>aD (MM w) A (aa9 []) (λS R=>
  aD (MM w) A (Jm scope env.globals (uc env.cells scope.names []) [] env.qual al .none<|ab env) (λcenv s₄=>
   nq (MM w) A (.compStart (.ListComp elt [⟨tgt,iter,ifs,0⟩] scope pos) 0 it S {cenv with scope:=relabel scope env}) (V1 (MM w) A E use Q S cenv.locals) s₄) E R) E s₂) E s₁:=by
 refine v7 G hv eL λfp P J o U ci hfr=>?_;generalize QR:s₁.heap.objs.size=I at U ci;have gI:s.heap.get? I=none:=dL.none<|by exact(QR)▸bW _
 have s1I:s₁.heap.get? I=none:=by exact(QR)▸bW _
 refine yi ?_ (by decide);refine wpAny_newFunctionEnv (λx hxm=>((gm t).2.2 x.1 x.2 hxm).1) (by simp) (λh' hns hsb=>?_) (gm t).1;dsimp only at hns hsb|-
 have kp1:de s₁.heap (s₁.heap.push o):=Ab _ _;generalize hh2:s₁.heap.push o=h2 at*;have hDs:h2.objs.size=I+1:=by(refine(hh2)▸ag (je ..) ?_;rw[QR])
 generalize hD:h2.objs.size=D at*;generalize hh3:h2.push {cls:=.type "list",data:=.seq (af ([]:List Value))}=h3 at*;have hCs:h3.objs.size=D+1:=by(refine(hh3)▸ag (je ..) ?_;rw[hD])
 generalize B:h3.objs.size=C at*;have hDI:D≠I:=hDs▸rx I;have hCD:C≠D:=hCs▸rx D;have hCI:C≠I:=oY<|hCs▸hDs▸iO (kq I)
 have k23:∀b o,h2.get? b=ab o->h3.get? b=ab o:=λb o e=>by exact(hh3)▸aQ _ e
 have hD3:h3.get? D=ab {cls:=.type "list",data:=.seq (af ([]:List Value))}:=by(refine(hh3)▸(hD)▸?_);exact b5 _ rfl
 have u:∀b o,h3.get? b=ab o->h'.get? b=ab o:=λb o e=>hsb.extBut b o (by exact(B)▸eR (dS e))<|aQ _ e
 have k2:∀b o,h2.get? b=ab o->h'.get? b=ab o:=λb o e=>u b o<|k23 b o e
 have c:Inv X K₁ dU Z M h2:=G.keep kp1;have c2:aS env Y.ns V K₁ dU h2:=dw _ _ _ _ _ _ d kp1.step;have s2D:h2.get? D=none:=by exact(hD)▸bW _
 have s3C:h3.get? C=none:=by exact(B)▸bW _
 have s2C:h2.get? C=none:=by
  cases q:h2.get? C with
  |none=>rfl
  |some o=>have:=k23 _ _ q;rw[s3C] at this;exact aC this
 have st2:Step [] K O s.heap K₁ dU h2:=dL.trans kp1.step;have gD:s.heap.get? D=none:=st2.none s2D;have gC:s.heap.get? C=none:=st2.none s2C;have kpA:de h2 h':=.of_keeps k2;have xZ:Inv X K₁ dU Z M h':=c.keep kpA;have c':aS env Y.ns V K₁ dU h':=dw _ _ _ _ _ _ c2 kpA.step;have y:K₁ C=none:=c.cN s2C;have mC:C∉dU:=c.dY s2C;have kD:K₁ D=none:=c.cN s2D;have mD:D∉dU:=c.dY s2D;have hCf:C∉aX env:=λq=>aH (lC c2 q) λoa ea _=>aC<|ag s2C.symm ea
 have hDf:D∉aX env:=λq=>aH (lC c2 q) λoa ea _=>aC<|ag s2D.symm ea
 have hcx:=vr (C:=C) T t;have cc:=Nl T t hns y mC hCf c';have adx:I∉aX env:=λq=>aH (lC d q) λoa ea _=>aC<|ag s1I.symm ea
 have ci':=vK U (W:=[]) (by simp) (by simp) _ _ _ _ _ _ ci (kpA.step);have ca':xH D [] K₁ dU h':=⟨[],0,u D _ hD3,eu,kD,mD⟩;have hIw:I∉aX (Dt scope env C):=λq=>(wc q).elim (λr=>hCI r.symm) adx;have hDw:D∉aX (Dt scope env C):=λq=>(wc q).elim (λr=>hCD r.symm) hDf;have ah3:∀a∈fp,a∉aX (Dt scope env C):=λa m q=>(ci.2.2.2.1 a m).elim (λe=>hIw<|e▸q) λx=>aH x λo' k' _=>(wc q).elim (λr=>aC<|ag y.symm<|r▸k') λr=>aH (lC c2 r) λ_ _ k0=>aC<|ag k0.symm k'
 have aih:D∉fp:=λm=>(ci.2.2.2.1 D m).elim hDI λx=>aH x λo' k' _=>aC<|ag kD.symm k'
 have z:Step [] K O s.heap K₁ dU h':=st2.trans kpA.step
 have loop:∀s₄:bh,s₄.heap=h'->aV s s₄->nq (MM w) A (.compLoop (.ListComp elt [⟨tgt,iter,ifs,0⟩] scope pos) 0 (.ref I) (.ref D)<|AM scope (uc env.cells scope.names []) C env) (V1 (MM w) A E use Q (.ref D) C) s₄:=by
  intro s₄ e4 so4
  refine Ng hcx ht (λx q=>((gm t).2.2 x _ (mem_lookup q)).1 rfl) (by simp[ru,kO]) (Nm t ht) (hc C) (he C) U ha
   (by exact(ae e4)▸xZ) (by refine(ae e4)▸?_;exact cc) (by refine(ae e4)▸?_;exact ci') (by refine(ae e4)▸?_;exact ca') hIw ah3 hDw hDI aih e (by simpa using hL) gI gD gC (by rw[e4];exact z) λF j l x5 H5 e5 st5 iv5 c5 ca5 so5=>?_
  refine na ?_;intro amm;refine AD ca5 λvs k eD rs kD5 mD5=>?_;cases c5 with|mk m5 hn5 kC5 mC5 _ _=>?_
  have iv6:=iv5.freeze eD kD5 mD5 λf=>absurd f.1<|by simp
  have st6:=st5.gc (o:={cls:=.type "list",dict:=al,data:=.seq (af vs) k,slots:=#[]}) gD kD5;exact hR C D F _ l x5 H5 (ag e e5.symm) gC hCf (ag (db hCD) kC5) mC5 ⟨m5,hn5⟩ st6 iv6 (dw _ _ _ _ _ _ c₀ st6) (H0 kD5 rs) (so4.trans so5)
 exact codeAny_compStart_list (loop _ rfl (h.trans ⟨rfl,rfl⟩))<|(U.walks A ha.hd).self 0 _ _ _ ci'.1 (loop _ rfl (h.trans ⟨rfl,rfl⟩))
theorem aea.{p,d,c,e,q} {j:Sort p} {l:Sort d} {m:Sort c} {n:Sort e} {o:Sort q} {a b f g i:j->l->m->n->o->Prop} {G:Prop} (h:∃x,∃y,∃z,∃u,∃v,a x y z u v/\b x y z u v/\f x y z u v/\g x y z u v/\i x y z u v) (k:∀x y z u v,a x y z u v->b x y z u v->f x y z u v->g x y z u v->i x y z u v->G):G:=h.elim λx h=>h.elim λy h=>h.elim λz h=>h.elim λu h=>h.elim λv h=>k x y z u v h.1 h.2.1 h.2.2.1 h.2.2.2.1 h.2.2.2.2
theorem PL (h:dt a H=.ok b H'):a=b/\H=H':=by cases h;exact⟨rfl,rfl⟩
theorem U2 (h:(.exc a H:j1 u)=.exc b H'):a=b/\H=H':=by cases h;exact⟨rfl,rfl⟩
def sh (E:IM PV) (f:PV->IM (Option PV)):IM PV:=aw (aw E et) λl=>if aa l<=16777216 then aw (hY f l []) λr=>ax (.lst r) else aP
theorem qI (Y:∀p H q i,f p H≠.exc q i):∀l S H q i,hY f l S H≠.exc q i
 |[],S,H,q,i=>by unfold hY;intro e;cases e
 |p::l,S,H,q,i=>by
  unfold hY;rw[fU]
  cases e:f p H with
  |ok r E=>cases r with
   |none=>exact qI Y l S E q i
   |some x=>exact qI Y l (S++[x]) E q i
  |exc C E=>exact absurd e<|Y _ _ _ _
  |stuck=>intro e;cases e
theorem P0:gV m H≠.exc q H':=by unfold gV;cases m H<;>nofun
theorem F9 {one:Bool} (p H q H'):tz V k g one f Q p H≠.exc q H':=by
 unfold tz qH
 cases f0 (ru V k) g one p with
 |none=>intro e;cases e
 |some d=>exact P0
theorem ME (t:jf Y scope=ao):∀x∈scope.names,x.2=.local->scope.names.lookup x.1=ab .local:=λx T h=>mw (gm t).2.1<|by exact(h)▸T
theorem Ni {E:IM PV} (Y:∀p H q i,f p H≠.exc q i) (h:sh E f H≠.stuck):
 (∃q i,E H=.exc q i/\sh E f H=.exc q i)\/∃p Z L r Hf,E H=.ok p Z/\et p Z=.ok L Z/\aa L<=16777216/\hY f L [] Z=.ok r Hf/\sh E f H=.ok (.lst r) Hf:=by
 unfold sh at h|-
 rw[fU,fU] at h|-
 cases e:E H with
 |stuck=>rw[e] at h;exact absurd rfl h
 |exc q i=>exact .inl ⟨q,i,rfl,rfl⟩
 |ok p Z=>
  rw[e] at h;dsimp only at h|-
  have u:et p Z≠.stuck:=λq=>by rw[q] at h;exact absurd rfl h
  refine bd (Bm u) λL a=>?_;rw[a] at h;refine a▸?_;dsimp only at h|-
  by_cases t:aa L<=16777216
  ·rw[if_pos t] at h|-
   rw[fU] at h|-
   cases X:hY f L [] Z with
   |stuck=>rw[X] at h;exact absurd rfl h
   |exc q i=>exact absurd X<|qI Y _ _ _ _ _
   |ok r Hf=>exact .inr ⟨p,Z,L,r,Hf,rfl,a,t,X,rfl⟩
  ·rw[if_neg t] at h;exact absurd rfl h
section
variable {one:Bool}
theorem zF (T:dk X Y Z) (t:jf Y scope=ao) (ht:N6 scope.names W g one) (hns:∀u k p,iter≠.Set u k p) (hi:aj w X [] n (aS Z Y.ns V) whole e7 (ip iter Z))
 (hc:DK w X n Y Z scope ifs cM) (he:KW w X n Y Z scope elt eM) {K:aN} (I:kl n A M) (N:Inv X K O H M s.heap) (c:aS Z Y.ns V K O s.heap) (b:sh whole (tz V (kO Y scope.names) g one cM eM) H=o) (ho:o≠.stuck)
 (hq:∀C D F j l r i,o=.ok (.lst r) i->s.heap.get? C=al->C∉aX Z->j C=al->C∉l->(∃m,F.heap.Ns C m)->Step [] K O s.heap j l F.heap->Inv X j l i M F.heap->aS Z Y.ns V j l F.heap->VR j l (.lst r) (.ref D)->aV s F->V1 (MM w) A E use Q (.ref D) C (.ok .next) F)
 (hE:∀p i j l y F,o=.exc p i->Step [] K O s.heap j l F.heap->Inv X j l i M F.heap->j2 s.heap j l p y F.heap->aV s F->E y F):
 aD (MM w) A (comprehension (.ListComp elt [⟨W,iter,ifs,0⟩] scope S) scope Z (firstIterPos [⟨W,iter,ifs,0⟩] S) (aa9 []) (firstAsync [⟨W,iter,ifs,0⟩]) (firstIter [⟨W,iter,ifs,0⟩] Z) use) Q E s:=by
 have hwh:whole H≠.stuck:=λq=>ho<|ag b.symm<|by unfold sh;rw[fU,fU,q]
 have a:=Ni (λp H q i=>F9 p H q i) λq=>ho<|ag b.symm q
 rw[b] at a;refine wpAny_comprehension_free rfl (r4 hns) (IR λx hm=>(C6 T t x hm).2) (gm t).1 (ME t) ?_;show aD _ A (ip iter Z) _ _ s;refine xC ?_;intro amd;refine aZ ((hi.keep dw) A s K O H M I N c hwh) (λv B z=>?_) λy B z=>?_
 ·cases z with|mk p H₁ K₁ J ep dL G f gu=>?_
  refine a.elim (λh=>?_) λh=>?_
  ·refine iB h λq i eq _=>?_;rw[ep] at eq;cases eq
  ·refine aea h λp' H₁' L r Hf eq eL hL eg R=>?_;have e2:=PL<|ag ep.symm eq
   rw[<-e2.1,<-e2.2] at eL;rw[<-e2.2] at eg;exact Nh T t ht hc he I N dL G c f.1 f.2 eL hL gu eg λC D F j l r' i er gC d kC mC hn st P c' e U=>hq C D F j l r' i (ag R (by have e3:=PL<|ag eg.symm er;(refine e3.1▸?_;rw[e3.2]))) gC d kC mC hn st P c' e U
 ·cases z with|mk p H₁ K₁ J ep dL G hex gu=>?_
  refine a.elim (λh=>?_) λh=>?_
  ·refine iB h λq i eq ee=>?_;have e2:=U2<|ag ep.symm eq
   exact hE p H₁ K₁ J y B (by(refine e2.1▸e2.2▸?_);exact ee) dL G hex gu
  ·refine aea h λp' H₁' L r Hf eq _ _ _ _=>?_;rw[ep] at eq;cases eq
theorem IP (T:dk X Y Z) (t:jf Y scope=ao)
 (ht:N6 scope.names W g one) (h:∀u k p,iter≠.Set u k p) (hi:aj w X [] n (aS Z Y.ns V) E e7 (ip iter Z))
 (hc:DK w X n Y Z scope v f) (J:KW w X n Y Z scope elt Q):
 aj w X [] n (aS Z Y.ns V) (sh E<|tz V (kO Y scope.names) g one f Q) e7 (ip (.ListComp elt [⟨W,iter,v,0⟩] scope S) Z):=by
 intro A s K O H M I N c L;refine kI (eval_ListComp ..)<|zF T t ht h hi hc J I N c rfl L (λC D F j l r i eo a d kC q B st P c' hvr U=>?_) λp i j l y F eo st P hex U=>⟨p,i,j,l,eo,st,P,hex,U⟩
 refine bd B λm B=>⟨m,B,λx G=>?_⟩;have z:∀b o,b≠C->F.heap.get? b=ab o->x.get? b=ab o:=λb o R e=>ag (G.2 b R) e;exact⟨.lst r,i,j,l,eo,st.ss a z,P.afb kC q z<|N.frames a,hvr,U.trans ⟨rfl,rfl⟩⟩
theorem Ga (T:dk X Y Z) (t:jf Y scope=ao)
 (ht:N6 scope.names tgt g one) (h:∀es k p,iter≠.Set es k p) (hi:aj w X [] n (aS Z Y.ns V) E e7 (ip iter Z))
 (hc:DK w X n Y Z scope v f) (J:KW w X n Y Z scope elt eM)
 (htg:Gv Y Z W V x i) (hW:Z.locals∈W) (hWf:∀a∈W,a∈aX Z):
 aj w X W n (aS Z Y.ns V) (aw (sh E<|tz V (kO Y scope.names) g one f eM) λp=>ax<|V.set i<|ab p) (λτ _=>aS Z Y.ns τ)
  (comprehension (.ListComp elt [⟨tgt,iter,v,0⟩] scope pos) scope Z (firstIterPos [⟨tgt,iter,v,0⟩] pos) (aa9 []) (firstAsync [⟨tgt,iter,v,0⟩]) (firstIter [⟨tgt,iter,v,0⟩] Z)<|ab<|assign (.Name x xpos) Z):=by
 intro A s K O H M I N c L;have j:=fU (sh E<|tz V (kO Y scope.names) g one f eM) (λp=>ax<|V.set i<|ab p) H;generalize aw (sh E<|tz V (kO Y scope.names) g one f eM) (λp=>ax<|V.set i<|ab p) H=o at j L|-
 refine xC ?_;intro ako;refine zF T t ht h hi hc J I N c rfl (λq=>L<|ag j<|by rw[q]) (λC D F K' l r H' eo gC d kC mC B st P c' hvr U=>?_) λp H' K' l y F eo st P hex U=>⟨p,H',K',l,ag j (by rw[eo]),st.mono HN,P,hex,U⟩;have e1:o=.ok (V.set i<|ab<|.lst r) H':=ag j<|by refine eo▸?_;rfl
 refine bd B λm B=>?_;show aD _ A (assign (.Name x xpos) Z<|.ref D) _ _ F;refine(qe T htg hW).run I P ⟨c',hvr⟩ rfl λu R qg Q iU S c₃ n7=>?_;have hCW:C∉W:=λq=>d<|hWf _ q
 refine se (id B) λoC _ _ eC _=>?_;have st4:=(st.mono HN).trans iU;refine⟨m,iU.ns B mC hCW,λh'' G=>?_⟩;have z:∀b o,b≠C->R.heap.get? b=ab o->h''.get? b=ab o:=λb o hb e=>ag (G.2 b hb) e;exact⟨V.set i<|ab<|.lst r,H',qg,Q,e1,st4.ss gC z,S.afb (iU.ls kC eC) (iU.lr mC eC) z<|N.frames gC,c₃.but z d,U.trans<|n7.trans ⟨rfl,rfl⟩⟩
end
section
variable (w:dG) (KF:aN) (n:Nat) (i7:nW)
def bI (e:bK):Prop:=∀(Y:Cx) (Z:lV) (V:bN) (F:Bool),dk KF Y Z->aj w KF [] n (aS Z Y.ns V) (bo i7 (bQ Y F e) V) e7 (ip e Z)
def iI (e:bK):Prop:=∀(Y:Cx) (Z:lV) (V:bN) (F:Bool),dk KF Y Z->aj w KF [] n (aS Z Y.ns V) (jW i7 (bQ Y F e) V<|bo i7 (bQ Y F e) V) (KV) (pJ e Z<|ip e Z)
structure jS:Prop where
 fn:∀a,(∃o fd,KF a=ab o/\o.data=.func fd)\/∀args,i7 a args=aP
 call:∀a args vs,aj w KF [] n (j9 args vs) (i7 a args) e7 (call (.ref a) vs [])
end
theorem dD (S env):∀u,u.any isStarred=ah->DQ S (qS u env)=(u.map λe=>ip e env).map λt=>(ah,t)
 |[],_=>rfl
 |e::r,h=>by
  simp only[vA,nE] at h;have o:=dD S env r h.2
  have:qS (e::r) env=(ah,ip e env)::qS r env:=by cases e<;>first|rfl|(exact nomatch h.1)
  rw[this];unfold DQ at o|-
  rw[bu,o];rfl
theorem Kw (Y V):∀u,nU B (pw Y u) V=Pd (u.map λe=>bo B (bQ Y ah e) V)
 |[]=>rfl
 |e::r=>congrArg (λm=>aw (bo B (bQ Y ah e) V) λa=>aw m λJ=>ax<|a::J)<|Kw Y V r
theorem qa (T:dk X Y Z) (G:u.any isStarred=ah) (h:∀e∈u,bI w X n B e):
 aj w X [] n (aS Z Y.ns V) (nU B (pw Y u) V) j9 (gv<|DQ U<|qS u Z):=by
 rw[dD U Z u G,Kw];refine py dw _ _ (by rw[aB,aB]) λi m t W z=>?_;rw[bY,a9] at W z;refine aH W ?_;clear W;intro e J S;subst S;refine aH z ?_;clear z;intro R a S;subst S;rw[J] at a;obtain rfl:=ai a;exact h e (bq J) Y Z V ah T
noncomputable def rX (c:CE):Bool:=by
 cases c
 case not=>exact ao
 case bool=>exact ao
 case fc=>exact ao
 case cmp=>exact ao
 all_goals exact ah
theorem M1 (h:rX c=ah) (V m):jW B c V m=aw m gP:=by cases c<;>first|rfl|cases h
theorem Ev (h:aj w X [] n C m e7 t):aj w X [] n C (aw m gP) (KV (u:=Bool)) (t>>=λv=>fY S>>=λ_=>dK [v]<|wy v):=
 cr h λp v=>bz<|jF<|qw p v
theorem Nu (T:dk X Y Z) (C:bI w X n B l) (d:bI w X n B r):
 aj w X [] n (aS Z Y.ns V) (bo B (bQ Y F<|.BinOp l I r S) V) e7 (ip (.BinOp l I r S) Z):=by
 rw[arm_eval_BinOp];exact cu (C Y Z V ah T) dw λa k=>cu (((d Y Z V ah T).weak λ_ _ _ c=>c.1).holding) (dw.and<|b9 a k) λb u=>bz<|Eg<|(L4 F I a b k u).weak λ_ _ _ c=>⟨c.1.2,c.2⟩
theorem L8 (T:dk X Y Z) (h:bI w X n B x):
 aj w X [] n (aS Z Y.ns V) (aw (bo B (bQ Y F x) V) Y4) e7 (ip (.UnaryOp .USub x S) Z):=by
 rw[afI];exact cr (h Y Z V F T) λp v=>bz<|jF<|HP p v
theorem L7 (T:dk X Y Z) (h:bI w X n B x):
 aj w X [] n (aS Z Y.ns V) (aw (bo B (bQ Y F x) V) λp=>aw (gP p) λb=>ax<|.bool<|!b) e7 (ip (.UnaryOp .Not x S) Z):=by
 rw[afI];refine cr (h Y Z V F T) λp v=>bz<|jF ?_
 have j:aj w X [] n (λK O _=>VR K O p v) (aw (gP p) λb=>ax<|.bool<|!b) e7 (wy v>>=λb=>jb<|mW<|!b):=
  cr (qw p v) λb r=>f8 λK O g e=>by subst e;exact tf
 unfold unaryOp;exact jF j
theorem My (T:dk X Y Z) (z:iI w X n B t) (I:bI w X n B a) (R:bI w X n B b):
 aj w X [] n (aS Z Y.ns V) (aw (jW B (bQ Y ah t) V<|bo B (bQ Y ah t) V) λc=>if c then bo B (bQ Y ah a) V else bo B (bQ Y ah b) V) e7 (ip (.IfExp t a b S) Z):=by
 rw[arm_eval_IfExp];refine cu (z Y Z V ah T) dw λc r=>?_;intro A s K O H M P N ⟨f,e⟩ L;subst e;cases c
 ·exact R Y Z V ah T A s K O H M P N f L
 ·exact I Y Z V ah T A s K O H M P N f L
theorem Ir (T:dk X Y Z) (z:iI w X n B t) (I:iI w X n B a) (R:iI w X n B b):
 aj w X [] n (aS Z Y.ns V) (aw (jW B (bQ Y ah t) V<|bo B (bQ Y ah t) V) λc=>if c then jW B (bQ Y ah a) V (bo B (bQ Y ah a) V) else jW B (bQ Y ah b) V (bo B (bQ Y ah b) V)) (KV) (pJ (.IfExp t a b S) Z d):=by
 rw[arm_isTrue_IfExp];refine cu (z Y Z V ah T) dw λc r=>?_;intro A s K O H M P N ⟨f,e⟩ L;subst e;cases c
 ·exact R Y Z V ah T A s K O H M P N f L
 ·exact I Y Z V ah T A s K O H M P N f L
theorem Li (T:dk X Y Z) (G:u.any isStarred=ah) (h:∀e∈u,bI w X n B e):
 aj w X [] n (aS Z Y.ns V) (aw (nU B (pw Y u) V) λl=>if aa l<=16777216 then ax (.tup l) else aP) e7 (ip (.Tuple u k S) Z):=by
 rw[aji];exact bz<|cr (qa T G h) λy U=>rU y U
theorem Ia (T:dk X Y Z) (G:u.any isStarred=ah) (h:∀e∈u,bI w X n B e):
 aj w X [] n (aS Z Y.ns V) (aw (nU B (pw Y u) V) λl=>if aa l<=16777216 then ly F l else aP) e7 (ip (.List u S) Z):=by
 rw[arm_eval_List];exact bz<|cr (qa T G h) λy U=>Ax F y U
theorem Lv (X:KF.P=w.params) (T:dk KF Y Z) (L:bI w KF n B o) (D:bI w KF n B i):
 aj w KF [] n (aS Z Y.ns V) (aw (bo B (bQ Y ah o) V) λa=>aw (bo B (bQ Y ah i) V) λb=>uH a b) e7 (ip (.Subscript o i S) Z):=by
 rw[Jp];exact cu (L Y Z V ah T) dw λa k=>cu (((D Y Z V ah T).weak λ_ _ _ c=>c.1).holding) (dw.and<|b9 a k) λb u=>bz<|(Ha X o i a b k u).weak λ_ _ _ c=>⟨c.1.2,c.2⟩
theorem IM.bind_assoc (m) (f:u->IM z) (g:z->IM B):aw (aw m f) g=aw m λa=>aw (f a) g:=by funext H;show(match (match m H with|.ok a i=>f a i|.exc p i=>.exc p i|.stuck=>.stuck) with|.ok a i=>g a i|.exc p i=>.exc p i|.stuck=>.stuck)=_;refine(ae (fU ..))▸?_;cases m H<;>rfl
theorem aj.acN {g:u->B} (x:aj w X W n C m R t) (h:∀a v K O k,R a v K O k->o (g a) v K O k):aj w X W n C (aw m λa=>ax<|g a) o t:=
 λA s K O H M I N c L=>aZ (x A s K O H M I N c λe=>L<|by(refine ag (fU ..) ?_;rw[e])) (λv F b=>y0.casesOn b λy i j l e st P d U=>⟨g y,i,j,l,by(refine ag (fU ..)<|e▸?_);rfl,st,P,h _ _ _ _ _ d,U⟩) λv F r=>yc.casesOn r λp i j l e f q Q T=>⟨p,i,j,l,by(refine ag (fU ..) ?_;rw[e]),f,q,Q,T⟩
theorem zi (m a b r q):aj w X [] n (λK O _=>VR K O a r/\VR K O b q) (bJ (E6 b) λ_=>isM m a) rh (iY (if m then .IsNot else .Is) r q):=
 eP λ_ e A s K O H M I N c L=>by obtain rfl:=E5 e;obtain rfl:=(c.2);exact Mx m a r A s K O H M I N c.1 L
theorem ub (I:Wf) (a b) (r q:Value):aj w X [] n (λK O _=>VR K O a r/\VR K O b q) (lF I a b) rh (iY I r q):=by
 induction I with
 |Eq=>exact(FX a b r q ah).post λx v _ _ _ h=>ag h<|congrArg mW<|pt x
 |NotEq=>exact(FX a b r q ao).acN λx v _ _ _ h=>ag h<|congrArg mW<|vC x
 |In=>exact Bq ah a b r q
 |NotIn=>exact Bq ao a b r q
 |Is=>exact zi ah a b r q
 |IsNot=>exact zi ao a b r q
 |Lt=>exact qB .Lt a b r q
 |LtE=>exact qB .LtE a b r q
 |Gt=>exact qB .Gt a b r q
 |GtE=>exact qB .GtE a b r q
theorem Md (h:e.ctorIdx≠7):markedBehindIn I e t=t:=
 markedBehindIn_of_false (by cases e<;>first|rfl|exact absurd rfl h)
theorem OJ (h:e.ctorIdx=7):bQ Y F e=.bad:=Expr.Set.elim e h λ_ _ _=>rfl
theorem Tg (Y):pw Y []=[]:=rfl
theorem OI (Y e r):pw Y (e::r)=bQ Y ah e::pw Y r:=rfl
theorem pC (h:Q () s) (U j):aD M A (So U j) Q E s:=by
 unfold So;generalize U.filter _=l
 induction l with
 |nil=>exact ar h
 |cons x r o=>
  induction r with
  |nil=>exact ar h
  |cons y r=>
   rw[release.go]
   ·exact ak<|a8<|mz o
   ·intro e;cases e
theorem YA {e:PV->IM Bool} {j:Value->jE Value} (B:fD [] C) (d:aj w X [] n C g e7 t)
 (W:∀b u,aj w X [] n (λK O h=>C K O h/\VR K O b u) (e b) rh<|j u):
 aj w X [] n (λK O h=>C K O h/\VR K O a k) (aw g λb=>aw (lF I a b) λc=>if c then e b else ax ah) rh
  (dK [k] t>>=λF=>fY S>>=λ_=>dK [k,F] (iY I k F)>>=λc=>So [k,F] [c]>>=λ_=>dK [c,F] (wy c)>>=λb=>if b=ao then j F else jb c):=by
 refine cu ((d.weak λ_ _ _ c=>c.1).holding) (B.and<|b9 a k) λb u=>bz<|cu (((ub I a b k u).weak λ_ _ _ c=>⟨c.1.2,c.2⟩).holding) ((B.and<|b9 a k).and<|b9 b u) λc i=>Aa () (λA Q E s h=>pC h _ _) ?_
 intro A s K O H M P N f L;obtain rfl:=(f.2);refine ak<|a8<|i0 ?_
 cases c with
 |true=>exact W b u A s K O H M P N ⟨f.1.1.1,f.1.2⟩ L
 |false=>exact ar ⟨ah,H,K,O,rfl,iM ..,N,rfl,.refl s⟩
theorem YB {e:PV->IM Bool} {j:Value->jE Bool} (B:fD [] C) (d:aj w X [] n C g e7 t)
 (W:∀b u,aj w X [] n (λK O h=>C K O h/\VR K O b u) (e b) (KV)<|j u):
 aj w X [] n (λK O h=>C K O h/\VR K O a k) (aw g λb=>aw (lF I a b) λc=>if c then e b else ax ah) (KV)
  (dK [k] t>>=λF=>fY S>>=λ_=>dK [k,F] (iY I k F)>>=λc=>So [k,F] [c]>>=λ_=>dK [c,F] (wy c)>>=λb=>if b=ao then j F else jb ah):=by
 refine cu ((d.weak λ_ _ _ c=>c.1).holding) (B.and<|b9 a k) λb u=>bz<|cu (((ub I a b k u).weak λ_ _ _ c=>⟨c.1.2,c.2⟩).holding) ((B.and<|b9 a k).and<|b9 b u) λc i=>Aa () (λA Q E s h=>pC h _ _) ?_
 intro A s K O H M P N f L;obtain rfl:=(f.2);refine ak<|a8<|i0 ?_
 cases c with
 |true=>exact W b u A s K O H M P N ⟨f.1.1.1,f.1.2⟩ L
 |false=>exact ar ⟨ah,H,K,O,rfl,iM ..,N,rfl,.refl s⟩
theorem Gc (T:dk X Y Z) (z):∀R,(∀e∈R,bI w X n B e)->∀a k,
 aj w X [] n (λK O h=>aS Z Y.ns V K O h/\VR K O a k) (pf B a z (pw Y R) V) rh (compareChain S k z<|aaz z R<|tm R Z)/\
 aj w X [] n (λK O h=>aS Z Y.ns V K O h/\VR K O a k) (pf B a z (pw Y R) V) (KV) (testChain S k z<|aaz z R<|tm R Z):=by
 induction z with
 |nil=>
  intro R _ a k
  induction R with
  |nil=>exact⟨be,be⟩
  |cons r R=>exact⟨be,be⟩
 |cons I z o=>
  intro R h a k
  cases R with
  |nil=>exact⟨be,be⟩
  |cons r R=>
   have d:=(h r bc) Y Z V ah T
   cases z with
   |cons p z=>
    have o:=o R λe m=>h e<|bb _ m
    exact⟨(YA dw d λb u=>(o b u).1).eqT (by cases R<;>rfl),(YB dw d λb u=>(o b u).2).eqT<|by cases R<;>rfl⟩
   |nil=>cases R with
    |cons E R=>exact⟨be,be⟩
    |nil=>
     by_cases f:r.ctorIdx=7
     ·have e:pf B a [I] (pw Y [r]) V=aP:=ag (congrArg (λc=>aw (bo B c V) λb=>lF I a b)<|OJ f) rfl;exact e▸⟨be,be⟩
     ·have J:aaz [I] [r] (tm [r] Z)=[ip r Z]:=congrArg (λt=>[t]) (Md f);refine J▸?_;have W:∀b u,aj w X [] n (λK O h=>(aS Z Y.ns V K O h/\VR K O a k)/\e7 b u K O h) (lF I a b) rh (PySem.operate [k,u]<|iY I k u):=λb u=>Eg<|(ub I a b k u).weak λ_ _ _ c=>⟨c.1.2,c.2⟩
      have G:=(d.weak (C:=λK O h=>aS Z Y.ns V K O h/\VR K O a k) λ_ _ _ c=>c.1).holding (U:=[k]);refine⟨cu G (dw.and<|b9 a k) λb u=>bz<|W b u,cu G (dw.and<|b9 a k) λb u=>bz ?_⟩;intro A s K O H M Q N c L
      exact ak (aZ (W b u A s K O H M Q N c L) (λx F g=>y0.casesOn g λy i j l e st P d U=>by
       cases d
       exact a8<|i0 ⟨y,i,j,l,e,st,P,rfl,U⟩) λ_ _ y=>y)
open IM renaming bind_assoc->pu
set_option backward.match.sparseCases true
theorem R4 {I:BoolOp} (h:aj w X [] n C m R x) (G:aj w X [] n C U R y):
 aj w X [] n (λK O g=>C K O g/\KV b t K O g) (if b=(I==.And) then m else U) R (match I,t with|.And,ah|.Or,ao=>y|_,_=>x):=by
 intro A s K O H M P N f L;obtain rfl:=(f.2)
 induction I with
 |And=>cases b with
  |false=>exact G A s K O H M P N f.1 L
  |true=>exact h A s K O H M P N f.1 L
 |Or=>cases b with
  |false=>exact h A s K O H M P N f.1 L
  |true=>exact G A s K O H M P N f.1 L
theorem Gl {S:nX} (T:dk X Y Z):∀U,(∀e∈U,bI w X n B e)->
 aj w X [] n (aS Z Y.ns V) (IC B (I==.And) (pw Y U) V) e7 (boolOp S I<|tm U Z):=by
 intro U
 induction U with
 |nil=>exactλ_=>be
 |cons x r o=>
  intro h;have i:=h x bc Y Z V ah T
  induction r with
  |nil=>exact i
  |cons y r=>exact cu i dw λp v=>bz<|cu (((qw p v).weak λ_ _ _ c=>c.2).holding) (dw.and<|b9 p v) λb t=>R4 ((o λe J=>h e<|bb _ J).weak λ_ _ _ c=>c.1)<|f8 λK O g c=>c.2
theorem Gm {V:bN} (T:dk X Y Z):∀U,(∀e∈U,iI w X n B e)->
 aj w X [] n (aS Z Y.ns V) (pg B (I==.And) (pw Y U) V) (KV) (allTrue I U Z):=by
 intro U
 induction U with
 |nil=>exactλ_=>by exact(arm_allTrue_nil ..)▸f8 λ_ _ _ _=>rfl
 |cons x r o=>intro h;refine(arm_allTrue_cons ..)▸?_;refine cu (h x bc Y Z V ah T) dw λb t=>?_;exact(R4 (o λe J=>h e<|bb _ J)<|f8 λ_ _ _ _=>rfl).eqT<|by cases I<;>cases t<;>rfl
theorem vU (T:dk X Y Z) (o) (h:∀e,o=ab e->bI w X n B e):aj w X [] n (aS Z Y.ns V) (bo B (GG Y o) V) e7 (valueOrNone<|evalOpt o Z):=by
 induction o with
 |none=>exact f8 λ_ _ _ _=>qO
 |some e=>exact h e rfl Y Z V ah T
theorem EH {lo D st:Option bK} (T:dk X Y Z) (L:bI w X n B o) (J:∀e,lo=ab e->bI w X n B e) (W:∀e,D=ab e->bI w X n B e)
 (E:∀e,st=ab e->bI w X n B e):
 aj w X [] n (aS Z Y.ns V) (aw (bo B (bQ Y ah o) V) λa=>aw (bo B (GG Y lo) V) λl=>aw (bo B (GG Y D) V) λh=>aw (bo B (GG Y st) V) λs=>l4 F a l h s) e7
  (ip (.Subscript o (.Slice lo D st f) S) Z):=by
 have e:(aw (bo B (bQ Y ah o) V) λa=>aw (bo B (GG Y lo) V) λl=>aw (bo B (GG Y D) V) λh=>aw (bo B (GG Y st) V) λs=>l4 F a l h s)=
  aw (bo B (bQ Y ah o) V) λa=>aw (aw (bo B (GG Y lo) V) λl=>aw (bo B (GG Y D) V) λh=>aw (bo B (GG Y st) V) λs=>ax (l,h,s)) λx=>l4 F a x.1 x.2.1 x.2.2:=by
  congr 1;funext a;simp only[pu];rfl
 (refine e▸(Jp ..)▸?_)
 refine cu (L Y Z V ah T) dw λa k=>cu (g:=VQ) (jF ?_) (dw.and<|b9 a k) λx p=>?_
 ·refine(arm_eval_Slice ..)▸?_;refine cu ((vU T lo J).weak λ_ _ _ c=>c.1) (dw.and<|b9 a k) λl b=>?_;exact cu (((vU T D W).weak λ_ _ _ c=>c.1.1).holding) ((dw.and<|b9 a k).and<|b9 l b) λh d=>cu (((vU T st E).weak λ_ _ _ c=>c.1.1.1).holding) (((dw.and<|b9 a k).and<|b9 l b).and<|b9 h d) λs R=>(y7 (l,h,s) b d R).weak λ_ _ _ c=>⟨c.1.1.2,c.1.2,c.2⟩
 ·exact bz<|(Ck F o (.Slice lo D st f) a x.1 x.2.1 x.2.2 k p).weak λ_ _ _ c=>⟨c.1.2,c.2⟩
theorem FM (T:dk X Y Z) (N:Y.gl x=ab p) (g:(x==("__debug__":am))=ah):
 aj w X [] n (aS Z Y.ns V) (ax p) e7 (ip (.Name x S) Z):=by
 have J:ip (.Name x S) Z=(fY S>>=λ_=>qT Z x):=by(refine ag (yl ..)<|g▸?_);rfl
 refine J▸?_;exact bz<|zo T.fe (T.gi x (Kp N).1)<|T.gl x p (Kp N).2
theorem aae {K:aN} (h:VG p=ab b) (x:VR K O p v):Jb X v/\∀y U,aj w X W n (j9 y U) (b y) e7 (call v U):=by
 rcases o9 h with h|h
 ·refine aH (bind_some h) λs G h=>?_;obtain rfl:=TP G;subst x;exact⟨.inl ⟨_,rfl⟩,tY (λs b=>∀y U,aj w X W n (j9 y U) (b y) e7<|call (.builtin s) U) RT (dn Ic<|dn HY<|dn HT<|dn I9<|dn G9<|dn I8<|dn IT<|dn CX trivial) h⟩
 ·refine aH (bind_some h) λs G h=>?_;obtain rfl:=PD G;subst x;exact⟨.inr<|.inl ⟨_,rfl⟩,tY (λs b=>∀y U,aj w X W n (j9 y U) (b y) e7<|call (.type s) U) Wm (dn Dv<|dn Ip<|dn Hg<|dn B9<|dn Fn<|dn Cs trivial) h⟩
set_option backward.match.sparseCases false
theorem po {R:PV->Value->xg} (o:fD [] C) (T:dk X Y Z) (N:Y.gl x=ab p) (hd:(x==("__debug__":am))=ah)
 (q:D.any isStarred=ah) (i:∀e∈D,bI w X n B e)
 (hF:∀(K:aN) (O:List bk) (v:Value),VR K O p v->(Jb X v/\∀y U,aj w X [] n (λK O h=>C K O h/\bU K O y U) (F y) R<|call v U [])\/∀y,F y=aP):
 aj w X [] n (λK O h=>aS Z Y.ns V K O h/\C K O h) (aw (nU B (pw Y D) V) F) R (ip (.Call (.Name x r) D [] S) Z):=by
 rw[dN];show aj w X [] n _ _ _ (ip (.Name x r) Z>>=λf=>iD S f [] (DQ S<|qS D Z) []);have hn:=FM (w:=w) (n:=n) (V:=V) (S:=r) T N hd;have j:aw (nU B (pw Y D) V) F=aw (ax p) λ_=>aw (nU B (pw Y D) V) F:=rfl;rw[j];have l:=qa (U:=S) (V:=V) T q i;rw[dD S Z D q] at l|-
 intro A s K O H M I iv c L;have b:=dw (Z:=Z) (Y:=Y.ns) (V:=V) |>.and o
 refine ak<|((hn.weak λ_ _ _ c=>c.1).keep b).run I iv c (show(ax p:IM PV) H=.ok p H from rfl) λv E k J Q G m W=>bC m λd hv=>?_
 have l:=l.weak (C:=λK O h=>aS Z Y.ns V K O h/\C K O h) λ_ _ _ c=>c.1
 have u:aj w X [] n (λK O h=>aS Z Y.ns V K O h/\C K O h) (aw (nU B (pw Y D) V) F) R (iD S v [] ((D.map λe=>ip e Z).map λt=>(ah,t)) []):=by
  rcases hF k J v hv with ⟨hp,P⟩|hst
  ·exact sm b hp l λy U=>(P y U).weak λ_ _ _ c=>⟨c.1.2,c.2⟩
  ·unfold iD;refine cr (g:=λ_ _ _ _ _=>True) ((r7 l).post λ_ _ _ _ _ _=>trivial).holding λy a=>?_;rw[hst y];exact be
 exact(u A E k J H M I G d).step Q W L
theorem Gf (L:jS w X n B) (T:dk X Y Z) (N:Y.gl x=ab (.ref a)) (g:(x==("__debug__":am))=ah)
 (G:D.any isStarred=ah) (i:∀e∈D,bI w X n B e):
 aj w X [] n (aS Z Y.ns V) (aw (nU B (pw Y D) V) λl=>B a l) e7 (ip (.Call (.Name x r) D [] S) Z):=
 (po fD.true T N g G i λK O v f=>by
  subst f;rcases L.fn a with ⟨o,fd,J,W⟩|h
  ·exact .inl ⟨.inr<|.inr ⟨a,o,fd,rfl,J,W⟩,λy U=>(L.call a y U).weak λ_ _ _ c=>c.2⟩
  ·exact .inr h).weak λ_ _ _ c=>⟨c,trivial⟩
theorem Gh (T:dk X Y Z) (N:Y.gl x=ab p) (R:VG p=ab b) (g:(x==("__debug__":am))=ah)
 (G:D.any isStarred=ah) (i:∀e∈D,bI w X n B e):
 aj w X [] n (aS Z Y.ns V) (aw (nU B (pw Y D) V) b) e7 (ip (.Call (.Name x r) D [] S) Z):=
 (po fD.true T N g G i λK O v f=>by
  exact bC (aae R f) λJ W=>.inl ⟨J,λy U=>(W y U).weak λ_ _ _ c=>c.2⟩).weak λ_ _ _ c=>⟨c,trivial⟩
theorem qM (h:C1 o=ah):attributeBase o a Z wh=wh:=by
 cases o<;>first|rfl|skip
 rename_i f D g p;cases f<;>first|rfl|skip
 cases D<;>first|rfl|skip
 cases g<;>first|rfl|skip
 exact nomatch h
theorem HU (T:dk X Y Z) (t:Y5 x=ab O) (k:(Q.endLine==S.line)=ao) (J:aa D<=29)
 (R:C1 o=ah) (L:bI w X n B o) (G:D.any isStarred=ah) (i:∀e∈D,bI w X n B e):
 aj w X [] n (aS Z Y.ns V) (aw (bo B (bQ Y ah o) V) λp=>Bg O p<|nU B (pw Y D) V) e7 (ip (.Call (.Attribute o x Q) D [] S) Z):=by
 refine bC (acM (w:=w) (X:=X) (W:=[]) (n:=n) t) λz b=>?_;rw[NJ,qM R,dD S Z D G];refine cu (L Y Z V ah T) dw λp v=>bz ?_;have l:=qa (U:=S) (V:=V) T G i;rw[dD S Z D G] at l;have j:=vX (o:=o) (Z:=Z) dw z b k (by rw[aB];exact Nat.lt_succ_of_le J) l p v;have e:aa (D.map λe=>ip e Z)=aa D+aa ([]:List abh):=aB ..;rw[e] at j;exact j
structure sA (w:dG) (KF:aN) (n:Nat) (i7:nW):Prop where
 heap:∀(cx:Cx) (env:lV) (σ:bN) (o:bK) (pos:nX),dk KF cx env->CZ o=ao->bI w KF n i7 o->aj w KF [] n (aS env cx.ns σ) (aw (bo i7 (bQ cx ah o) σ) QL) e7 (ip (.Attribute o "heap" pos) env)
 xF:∀(cx:Cx) (env:lV) (σ:bN) (ks:List (Option bK)) (vs:List bK) (kp vp:List PV) (x d:bK) (p1 p2 p3:nX),dk KF cx env->ks.mapM ou=ab kp->vs.mapM ot=ab vp->IL kp vp=ao->isStarred x=ah->isStarred d=ah->
  (p2.endLine==p3.line)=ao->bI w KF n i7 x->bI w KF n i7 d->
  aj w KF [] n (aS env cx.ns σ) (bo i7 (.xF kp vp (bQ cx ah x)<|bQ cx ah d) σ) e7 (ip (.Call (.Attribute (.Dict ks vs p1) "get" p2) [x,d] [] p3) env)
theorem FL (h:bI w X n B e) (D:∀Y F,rX (bQ Y F e)=ah) (z:∀Z d,pJ e Z d=(d>>=λv=>fY e.pos>>=λ_=>dK [v]<|wy v)):iI w X n B e:=
 λY Z V F T=>by
  (refine(M1 (D Y F) ..)▸(z ..)▸?_)
  exact Ev<|h Y Z V F T
theorem u8 (h:∀Y F,bQ Y F e=.bad) (z:∀Z d,pJ e Z d=(d>>=λv=>fY e.pos>>=λ_=>dK [v]<|wy v)):bI w X n B e/\iI w X n B e:=by
 have J:bI w X n B e:=λY Z V F T=>by exact(h ..)▸be
 exact⟨J,FL J (λY F=>by refine(h ..)▸?_;rfl) z⟩
theorem uE (h:∀c,o=ab c->rX c=ah):rX (Ae o)=false:=by
 cases o with
 |none=>rfl
 |some c=>exact h c rfl
theorem OG (Y x):rX (Ae<|P7 Y x)=false:=uE λc h=>by
 rcases o9 (cK h).2 with h|h
 ·refine aH (map_some h) λi _ S=>?_;subst S;rfl
 ·refine aH (map_some h) λi _ S=>?_;subst S;rfl
inductive tG (cx:Cx) (args:List bK) (pos:nX):bK->CE->Prop
 |f (x:am) (p:nX) (a:bk) (d:tx x=ao) (g:cx.gl x=ab (.ref a)):tG cx args pos (.Name x p) (.az a (pw cx args))
 |b (x:am) (p:nX) (q:PV) (b:BF) (d:tx x=ao) (g:cx.gl x=ab q) (h:VG q=ab b):tG cx args pos (.Name x p) (.bv b (pw cx args))
 |m (o:bK) (m:MN) (x:am) (p:nX) (hm:Y5 x=ab m) (l:(p.endLine==pos.line)=ao) (h:C1 o=ah):tG cx args pos (.Attribute o x p) (.gb m (bQ cx ah o) (pw cx args))
 |g (ks:List (Option bK)) (vs:List bK) (q p:nX) (kp vp:List PV) (x d:bK) (l:(p.endLine==pos.line)=ao) (h1:ks.mapM ou=ab kp) (h2:vs.mapM ot=ab vp) (h3:IL kp vp=ao) (e:args=[x,d]):
    tG cx args pos (.Attribute (.Dict ks vs q) "get" p) (.xF kp vp (bQ cx ah x)<|bQ cx ah d)
theorem RJ (h:Xk Y x (pw Y D)=ab c):tG Y D Z (.Name x p) c:=by
 refine bC (cK h) λd h=>aH (bind_some h) λq g h=>?_;rcases o9 h with h|h
 ·refine aH (map_some h) λa e S=>?_;subst S;obtain rfl:=uN e;exact .f x p a d g
 ·refine aH (map_some h) λb e S=>?_;subst S;exact .b x p q b d g e
theorem Tf (h:two (pw Y D)=ab y):∃x d,D=[x,d]/\y=(bQ Y ah x,bQ Y ah d):=by
 cases D with|nil=>exact aC h|cons a l=>?_
 cases l with|nil=>exact aC h|cons b l=>?_
 cases l with
 |nil=>exact⟨a,b,rfl,ae<|ai h⟩
 |cons f l=>exact aC h
theorem Qe (h:WL o O (p.endLine==S.line) (bQ Y ah o) (pw Y D)=ab c):tG Y D S (.Attribute o O p) c:=by
 refine bC (cK h) λl h=>?_;rcases o9 h with h|h
 ·refine aH (bind_some h) λm t h=>bC (cK h) λR h=>?_;obtain rfl:=ai h;exact .m o m O p t l<|uS R
 ·refine bC (cK h) λB h=>?_;obtain rfl:=eq_of_beq B;refine aH (bind_some h) λd V h=>aH (bind_some h) λr J h=>aH (bind_some h) λU W h=>aH (bind_some h) λy X h=>?_;refine bC (cK h) λE h=>?_;obtain rfl:=ai h;refine iB (Tf X) λx N e Z=>?_;subst Z;refine(Rt V)▸?_;exact .g _ _ _ _ _ _ x N l J W E e
theorem IW (L:jS w X n B) (s:sA w X n B) (i:∀e∈D,bI w X n B e)
 (N:∀o O Q,f=.Attribute o O Q->bI w X n B o) (T:dk X Y Z) (G:D.any isStarred=ah) (J:aa D<=29) (h:tG Y D S f c):
 aj w X [] n (aS Z Y.ns V) (bo B c V) e7 (ip (.Call f D [] S) Z):=by
 induction h with
 |f x p a d g=>exact Gf L T g (rT d) G i
 |b x p q b d g h=>exact Gh T g h (rT d) G i
 |m o m x p t l h=>exact HU T t l J h (N _ _ _ rfl) G i
 |g j U q p r R x d l P W E e=>subst e;have G:=(nE.mp G);exact s.xF Y Z V j U r R x d q p S T P W E G.1 (nE.mp G.2).1 l (i x bc)<|i d<|bb _ bc
theorem Gu (h:R2 D g=ao):D.any isStarred=ah/\g=[]/\aa D<=29:=
 ⟨uS (hO (hO h).1).1,kg.mp (hO (hO h).1).2,of_decide_eq_true (hO h).2⟩
theorem Gg (h:Xj Y f (OK Y f) (pw Y D) S=ab c):tG Y D S f c:=by
 cases f with
 |Name x p=>exact RJ h
 |Attribute o O p=>exact Qe h
 |_=>exact aC h
theorem tG.tst {f:bK} (h:tG Y D S f c):rX c=false:=by cases h<;>rfl
theorem No (L:jS w X n B) (s:sA w X n B) (i:∀e∈D,bI w X n B e)
 (Y:∀o O Q,f=.Attribute o O Q->bI w X n B o):bI w X n B (.Call f D g U):=by
 intro R Z V F T;refine D4 λc h=>bC (cK h) λN G=>?_;refine iZ (Gu N) λW S J=>?_;subst S;exact IW L s i Y T W J<|Gg G
theorem wN (Z):∀v:List bK,(forIn v ah λc r=>if r=ao then do let C <-pJ c Z (ip c Z);pure (e0 C) else pure (e0 r):jE Bool)=pure ah
 |[]=>rfl
 |e::r=>by exact ag (cA ..)<|wN Z r
theorem wM (T:dk X Y Z):∀v,(∀e∈v,iI w X n B e)->
 aj w X [] n (aS Z Y.ns V) (w8 B (pw Y v) V) (KV) (forIn v ao λc r=>if r=ao then do let C <-pJ c Z (ip c Z);pure (e0 C) else pure (e0 r)):=by
 intro v
 induction v with
 |nil=>exactλ_=>f8 λ_ _ _ _=>rfl
 |cons e r o=>
  intro h;rw[cA];have u:=(h e bc) Y Z V ah T;refine cu ((GF (f:=id) (o:=λ(a:Bool) (x:ForInStep Bool) _ _ _=>x=.yield a) u λa b _ _ _ e=>by refine e▸?_;rfl).zx<|by funext H;show _=aw _ _ H;refine(fU ..)▸?_;cases jW B (bQ Y ah e) V (bo B (bQ Y ah e) V) H<;>rfl) dw λb x=>?_;intro A s K O H M P N d L;refine bC d λc R=>?_;cases R
  induction b with
  |true=>exact o (λe m=>h e<|bb _ m) A s K O H M P N c L
  |false=>show aD _ _ (forIn r ah _) _ _ _;exact kI (wN ..)<|ar ⟨ah,H,K,O,rfl,iM ..,N,rfl,.refl s⟩
theorem ua (h:rY c=ah) (V m):rt B c V m=aw m et:=by cases c<;>first|rfl|cases h
inductive Xu (cx:Cx) (elt:bK) (scope:rF):List NY->CE->Prop
 |mk (tgt iter:bK) (ifs:List bK) (is:List Nat) (one:Bool) (hs:(iter.ctorIdx !=7)=ao) (he:rY (bQ cx ah iter)=ah) (hok:jf cx scope=ao) (ht:N6 scope.names tgt is one):
  Xu cx elt scope [⟨tgt,iter,ifs,0⟩] (.comp (bQ (N5 cx scope) ah elt) (bQ cx ah iter) (kO cx scope.names) is one<|pw (N5 cx scope) ifs)
theorem zG (h:KG Y scope (bQ (N5 Y scope) ah A) (toG Y (N5 Y scope) y)=ab c):Xu Y A scope y c:=by
 refine aH (bind_some h) λx T h=>bC (cK h) λZ h=>?_;refine aH (map_some h) λt z S=>?_;subst S
 cases y with
 |nil=>exact aC T
 |cons g e=>cases e with
  |cons n e=>obtain⟨a,b,c,d⟩:=g;exact aC T
  |nil=>obtain⟨W,iter,v,a⟩:=g;refine bC (cK T) λP T=>?_;obtain rfl:=ai T;refine bC (hO P) λI J=>bC (hO I) λI G=>?_;obtain rfl:=eq_of_beq I;exact .mk W iter v t.1 t.2 G (uS J) Z<|EA z
theorem KE {one:Bool} (J:rY iter=ah):bo B (.comp A iter k g one v) V=sh (bo B iter V) (tz V k g one (λd=>w8 B v d) λd=>bo B A d):=
 congrArg (λm=>aw m _) (ua J V _)
theorem BE (k:bI w X n B A) (N:∀W iter v a,y=[⟨W,iter,v,a⟩]->bI w X n B iter/\∀e∈v,iI w X n B e):
 bI w X n B (.ListComp A y scope S):=by
 intro Y Z V F T;refine D4 λc h=>?_
 cases zG h with
 |mk W iter v g one G J t z=>
  exact bC (N _ _ _ _ rfl) λD s=>(IP T t z (HQ G) (D Y Z V ah T)
   (λC d _=>wM (vr T t) v s) λC d _=>k _ _ d ah (vr T t)).zx<|KE J
section
variable {w:dG} {KF:aN} {n:Nat} {i7:nW}
theorem vY {e:bK} (h:bI w KF n i7 e) (D:∀Y F,rX (bQ Y F e)=ah) (z:∀Z d,pJ e Z d=(d>>=λv=>fY e.pos>>=λ_=>dK [v]<|wy v)):bI w KF n i7 e/\iI w KF n i7 e:=⟨h,FL h D z⟩
def Xr (w:dG) (KF:aN) (n:Nat) (i7:nW) (e:bK):Prop:=(∀lo D st j,e=.Slice lo D st j->(∀x,lo=ab x->bI w KF n i7 x)/\(∀x,D=ab x->bI w KF n i7 x)/\∀x,st=ab x->bI w KF n i7 x)/\
 ∀o O p,e=.Attribute o O p->bI w KF n i7 o
abbrev KU (w:dG) (KF:aN) (n:Nat) (i7:nW) (e:bK):Prop:=(bI w KF n i7 e/\iI w KF n i7 e)/\Xr w KF n i7 e
theorem pk {e:bK} (h:bI w KF n i7 e/\iI w KF n i7 e) (G:(e.ctorIdx !=26&&e.ctorIdx !=20)=ao):KU w KF n i7 e:=
 ⟨h,dn (λlo D st j q=>by rw[q] at G;cases G) λo O p q=>by rw[q] at G;cases G⟩
theorem mi {e:bK} (h:∀Y F,bQ Y F e=.bad) (z:∀Z d,pJ e Z d=(d>>=λv=>fY e.pos>>=λ_=>dK [v]<|wy v)) (G:(e.ctorIdx !=26&&e.ctorIdx !=20)=ao):KU w KF n i7 e:=pk (u8 h z) G
theorem pc {e:bK} (h:bI w KF n i7 e) (D:∀Y F,rX (bQ Y F e)=ah) (z:∀Z d,pJ e Z d=(d>>=λv=>fY e.pos>>=λ_=>dK [v]<|wy v)) (G:(e.ctorIdx !=26&&e.ctorIdx !=20)=ao):KU w KF n i7 e:=pk (vY h D z) G
inductive afp (cx:Cx):bK->CE×CE×CE->Prop
 |mk (lo hi st:Option bK) (p:nX):afp cx (.Slice lo hi st p) (GG cx lo,GG cx hi,GG cx st)
theorem OH {Y:Cx} {i:bK} {x:CE×CE×CE} (h:JL Y i=ab x):afp Y i x:=by
 cases i with
 |Slice lo D st p=>obtain rfl:=ai h;exact .mk lo D st p
 |_=>exact aC h
theorem OV (B:KF.P=w.params) {o i:bK} {p:nX} (L:bI w KF n i7 o) (D:bI w KF n i7 i) (G:Xr w KF n i7 i):bI w KF n i7 (.Subscript o i p):=by
 intro Y Z V F T;show aj w KF [] n _ (bo i7 (OY F (bQ Y ah o) (JL Y i)<|bQ Y ah i) V) _ _
 cases e:JL Y i with
 |none=>exact Lv B T L D
 |some x=>
  cases OH e with
  |mk lo A st j=>exact iZ (G.1 lo A st j rfl) λJ W E=>EH T L J W E
theorem Tb (F:Bool) (o i:CE) (s:Option (CE×CE×CE)):rX (OY F o s i)=false:=by cases s<;>rfl
theorem Nv (s:sA w KF n i7) {o:bK} {O:am} {p:nX} (h:bI w KF n i7 o):bI w KF n i7 (.Attribute o O p):=by intro Y Z V F T;refine D4 λc P=>bC (cK P) λJ P=>?_;obtain rfl:=ai P;obtain rfl:=eq_of_beq (hO J).1;exact s.heap Y Z V o p T (hO J).2 h
theorem G2 {b:Bool} {c:CE} (h:rX c=ah):rX (Ae<|gd b<|ab c)=false:=uE λd e=>by obtain rfl:=ai<|(cK e).2;exact h
theorem EI {u:List bK} {P:jE Value} {m:List PV->IM PV} {Y:Cx} {Z:lV} {V:bN} {c:CE} (h:u.any isStarred=ah->aj w KF [] n (aS Z Y.ns V) (bo i7 c V) e7 P):aj w KF [] n (aS Z Y.ns V) (bo i7 (Ae<|gd (!u.any isStarred)<|ab c) V) e7 P:=
 D4 λd e=>by obtain rfl:=ai<|(cK e).2;exact h<|uS (cK e).1
theorem S5 {I:UnaryOp} {x:bK} {p:nX} (h:bI w KF n i7 x/\iI w KF n i7 x):bI w KF n i7 (.UnaryOp I x p)/\iI w KF n i7 (.UnaryOp I x p):=by
 induction I with
 |USub=>exact vY (λY Z V F T=>L8 T h.1) (λY F=>rfl) λ_ _=>rfl
 |Not=>refine⟨λY Z V F T=>L7 T h.1,λY Z V F T=>?_⟩;refine(arm_isTrue_UnaryOp ..)▸?_;exact cr (h.2 Y Z V ah T) λb r=>f8 λK O g e=>congrArg (!·) e
 |Invert=>exact u8 (λY F=>rfl) λ_ _=>rfl
 |UAdd=>exact u8 (λY F=>rfl) λ_ _=>rfl
theorem Nt {I:BoolOp} {U:List bK} {p:nX} (h:∀e∈U,bI w KF n i7 e/\iI w KF n i7 e):bI w KF n i7 (.BoolOp I U p)/\iI w KF n i7 (.BoolOp I U p):=
 ⟨λY Z V F T=>by exact(arm_eval_BoolOp ..)▸Gl T U λe J=>(h e J).1,λY Z V F T=>by exact(arm_isTrue_BoolOp ..)▸Gm T U λe J=>(h e J).2⟩
theorem RD {l:bK} {z:List Wf} {R:List bK} {p:nX} (C:bI w KF n i7 l) (d:∀e∈R,bI w KF n i7 e/\iI w KF n i7 e):bI w KF n i7 (.Compare l z R p)/\iI w KF n i7 (.Compare l z R p):=by
 have j:=λ(Y:Cx) (Z:lV) (V:bN) (T:dk KF Y Z)=>Gc (S:=p) (V:=V) T z R λe J=>(d e J).1;refine⟨λY Z V F T=>?_,λY Z V F T=>?_⟩
 ·rw[arm_eval_Compare];exact cu (C Y Z V ah T) dw λa k=>(j Y Z V T a k).1.acN λb v K O g e=>by rw[show v=mW b from e];exact tf
 ·refine(arm_isTrue_Compare ..)▸?_;exact cu (C Y Z V ah T) dw λa k=>(j Y Z V T a k).2
mutual
theorem jL (B:KF.P=w.params) (L:jS w KF n i7) (s:sA w KF n i7):∀e:bK,KU w KF n i7 e
 |.Constant c k p=>pc (λY Z V F T=>D4 λd h=>by refine aH (map_some h) λq X S=>?_;subst S;exact F6 X) (λY F=>uE λd h=>by refine aH (map_some h) λq X S=>?_;subst S;rfl) (λ_ _=>rfl) rfl
 |.Name x p=>pc (λY Z V F T=>HS T i7) (λY F=>OG Y x) (λ_ _=>rfl) rfl
 |.BinOp l I r p=>pc (λY Z V F T=>Nu T (jL B L s l).1.1 (jL B L s r).1.1) (λY F=>rfl) (λ_ _=>rfl) rfl
 |.UnaryOp I x p=>pk (S5 (jL B L s x).1) rfl
 |.BoolOp I U p=>pk (Nt<|zm B L s U) rfl
 |.IfExp t a b p=>pk ⟨λY Z V F T=>My T (jL B L s t).1.2 (jL B L s a).1.1 (jL B L s b).1.1,λY Z V F T=>Ir T (jL B L s t).1.2 (jL B L s a).1.2 (jL B L s b).1.2⟩ rfl
 |.Compare l z R p=>pk (RD (jL B L s l).1.1<|zm B L s R) rfl
 |.Tuple u k p=>pc (λY Z V F T=>EI (m:=ax∘Wi) λh=>Li T h λe J=>(zm B L s u e J).1) (λY F=>G2 rfl) (λ_ _=>rfl) rfl
 |.List u p=>pc (λY Z V F T=>EI (m:=ax∘Wi) λh=>Ia T h λe J=>(zm B L s u e J).1) (λY F=>G2 rfl) (λ_ _=>rfl) rfl
 |.Subscript o i p=>pc (OV B (jL B L s o).1.1 (jL B L s i).1.1 (jL B L s i).2) (λY F=>Tb F _ _ _) (λ_ _=>rfl) rfl
 |.Slice lo W st j=>⟨u8 (λY F=>rfl) λ_ _=>rfl,dn (λa b c d q=>by cases q;exact⟨QU B L s lo,QU B L s W,QU B L s st⟩) λ_ _ _ q=>nomatch q⟩
 |.Attribute o O p=>⟨vY (Nv s (jL B L s o).1.1) (λY F=>G2 rfl) λ_ _=>rfl,dn (λ_ _ _ _ q=>nomatch q) λN v C q=>by cases q;exact(jL B L s o).1.1⟩
 |.Call f D g p=>pc (No L s (λe J=>(zm B L s D e J).1) λo O Q q=>(jL B L s f).2.2 o O Q q) (λY F=>uE λc h=>(Gg (cK h).2).tst) (λ_ _=>rfl) rfl
 |.ListComp A y scope p=>pc (BE (jL B L s A).1.1<|adH B L s y) (λY F=>uE λc h=>by cases zG h;rfl) (λ_ _=>rfl) rfl
 |.NamedExpr _ _ _=>mi (λY F=>rfl) (λ_ _=>rfl) rfl
 |.Lambda _ _ _ _=>mi (λY F=>rfl) (λ_ _=>rfl) rfl
 |.Dict _ _ _=>mi (λY F=>rfl) (λ_ _=>rfl) rfl
 |.Set _ _ _=>mi (λY F=>rfl) (λ_ _=>rfl) rfl
 |.SetComp _ _ _ _=>mi (λY F=>rfl) (λ_ _=>rfl) rfl
 |.DictComp _ _ _ _ _=>mi (λY F=>rfl) (λ_ _=>rfl) rfl
 |.GeneratorExp _ _ _ _=>mi (λY F=>rfl) (λ_ _=>rfl) rfl
 |.Await _ _=>mi (λY F=>rfl) (λ_ _=>rfl) rfl
 |.Yield _ _=>mi (λY F=>rfl) (λ_ _=>rfl) rfl
 |.YieldFrom _ _=>mi (λY F=>rfl) (λ_ _=>rfl) rfl
 |.FormattedValue _ _ _ _=>mi (λY F=>rfl) (λ_ _=>rfl) rfl
 |.JoinedStr _ _=>mi (λY F=>rfl) (λ_ _=>rfl) rfl
 |.Starred _ _=>mi (λY F=>rfl) (λ_ _=>rfl) rfl
theorem zm (B:KF.P=w.params) (L:jS w KF n i7) (s:sA w KF n i7):∀l:List bK,∀e∈l,bI w KF n i7 e/\iI w KF n i7 e
 |[]=>λe J=>absurd J aY
 |x::r=>λe J=>(aL.mp J).elim (λq=>q▸(jL B L s x).1)<|zm B L s r e
theorem QU (B:KF.P=w.params) (L:jS w KF n i7) (s:sA w KF n i7):∀o:Option bK,∀e,o=ab e->bI w KF n i7 e
 |none=>λe J=>aC J
 |some x=>λe J=>ai J▸(jL B L s x).1.1
theorem adH (B:KF.P=w.params) (L:jS w KF n i7) (s:sA w KF n i7):∀l:List NY,∀W iter v a,l=[⟨W,iter,v,a⟩]->bI w KF n i7 iter/\∀e∈v,iI w KF n i7 e
 |[]=>λ_ _ _ _ q=>nomatch q
 |⟨t,i,f,b⟩::r=>λW iter v a q=>by cases q;exact⟨(jL B L s i).1.1,λe J=>(zm B L s f e J).2⟩
end
end
section
variable (w:dG) (KF:aN) (n:Nat) (i7 Lp:nW)
def mj (s:rv):Prop:=∀(Y:Cx) (Z:lV) (V:bN),dk KF Y Z->aa V=aa Y.names->aj w KF (aX Z) n (aS Z Y.ns V) (Kv i7 Lp (Yv Y s) V) (io Z Y) (NH s Z)
def jk (l:List rv):Prop:=∀(Y:Cx) (Z:lV) (V:bN),dk KF Y Z->aa V=aa Y.names->aj w KF (aX Z) n (aS Z Y.ns V) (fR i7 Lp (lZ Y l) V) (io Z Y) (kc l Z)
end
theorem aj.KC (h:∀c,o=ab c->aj w X W n C (Kv B Q c V) R t):aj w X W n C (Kv B Q (Internal.KC o) V) R t:=by
 induction o with
 |none=>exact be
 |some c=>exact h c rfl
theorem bI.kw (h:bI w X n B e) (T:dk X Y Z) (F):aj w X (aX Z) n (aS Z Y.ns V) (bo B (bQ Y F e) V) (λq v K O g=>aS Z Y.ns V K O g/\e7 q v K O g) (ip e Z):=
 ((h Y Z V F T).keep dw).widen HN
theorem bI.kw2 (h:bI w X n B e) (R:fD [] D) (T:dk X Y Z) (F):aj w X (aX Z) n (λK O g=>aS Z Y.ns V K O g/\D K O g) (bo B (bQ Y F e) V) (λq v K O g=>(aS Z Y.ns V K O g/\D K O g)/\e7 q v K O g) (ip e Z):=
 (((h Y Z V F T).weak λ_ _ _ c=>c.1).keep<|dw.and R).widen HN
theorem eO (h:∀Y,Yv Y s=.bad):mj w X n B Q s:=by intro Y Z V T C;exact(h ..)▸be
theorem Pm (h:bI w X n B e):mj w X n B Q (.Return (ab e) p):=by intro Y Z V T C;refine(afF ..)▸?_;exact bz<|cr (h.kw T _) λq v=>f8 λK O g c=>⟨c.1,C,.ret c.2⟩
theorem RQ:mj w X n B Q (.Break p):=by intro Y Z V T C;refine(arm_exec_Break ..)▸?_;exact bz<|f8 λK O g c=>⟨c,C,.brk⟩
theorem Nc:mj w X n B Q (.Continue p):=by intro Y Z V T C;refine(arm_exec_Continue ..)▸?_;exact bz<|f8 λK O g c=>⟨c,C,.cont⟩
theorem UE (z:iI w X n B t) (I:jk w X n B Q a) (R:jk w X n B Q b):mj w X n B Q (.If t a b p):=by
 intro Y Z V T C;refine(exec_If ..)▸?_;show aj w X (aX Z) n _ (aw (jW B (bQ Y ah t) V<|bo B (bQ Y ah t) V) λc=>if c then fR B Q (lZ Y a) V else fR B Q (lZ Y b) V) _ _;refine bz<|cr (((z Y Z V ah T).keep dw).widen HN) λc r=>?_
 intro A s K O H M P N d L;refine bC d λf e=>?_;subst e;cases c
 ·exact R Y Z V T C A s K O H M P N f L
 ·exact I Y Z V T C A s K O H M P N f L
theorem P2:jk w X n B Q []:=λY Z V T C=>f8 λK O g c=>⟨c,C,.next⟩
theorem Nd (h:mj w X n B Q s) (d:jk w X n B Q r):jk w X n B Q (s::r):=by
 intro Y Z V T C
 refine cr (t:=λx=>match x.1 with
  |.next=>fR B Q (lZ Y r) x.2
  |f=>ax (f,x.2)) (h Y Z V T C) λx f=>?_
 intro A st K O H M P N c L;obtain⟨W,m⟩:=x
 induction W with
 |next=>cases c.f;exact d Y Z m T c.l A st K O H M P N c.c L
 |brk=>cases c.f;exact ar ⟨_,H,K,O,rfl,iM ..,N,c,.refl st⟩
 |cont=>cases c.f;exact ar ⟨_,H,K,O,rfl,iM ..,N,c,.refl st⟩
 |ret q=>
  obtain⟨v,rfl⟩:∃v,f=.ret v:=by cases c.f;exact⟨_,rfl⟩
  exact ar ⟨_,H,K,O,rfl,iM ..,N,c,.refl st⟩
theorem GV (z:iI w X n B t) (I:jk w X n B Q a):mj w X n B Q (.While t a [] p):=
 λY Z V T C=>Er (λd _=>z Y Z d ah T) (λd E=>I Y Z d T E) KS V C
noncomputable def C0 (e:bK):Bool:=e.ctorIdx==8||e.ctorIdx==9||e.ctorIdx==10
theorem xW (h:C0 v=ah):N8 v t l Z=pure false:=by cases v<;>first|rfl|cases h
theorem KD (h:C0 e=ao):e.ctorIdx=8\/∀Y F,bQ Y F e=.bad:=by
 rcases(gE _ _).mp h with h|h
 ·rcases(gE _ _).mp h with h|h
  ·exact .inl<|eq_of_beq h
  ·exact .inr<|agQ e (eq_of_beq h) λ_ _ _ _ _ _=>rfl
 ·exact .inr<|afX e (eq_of_beq h) λ_ _ _ _ _ _ _=>rfl
theorem A2 {D:xg} (T:dk X Y Z) (C:aa V=aa Y.names) (W:ln Y.names x=ab i):
 aj w X (aX Z) n (λK O g=>(aS Z Y.ns V K O g/\D K O g)/\e7 q v K O g) (ax (.next,V.set i<|ab q)) (io Z Y) (Jq Z x v>>=λ_=>jb lL):=by
 intro A s K O H M P N c L;refine ak<|(uj T (sP T (λ_ _ _ m=>m) C W)<|g9 Z).run P N ⟨c.1.1,c.2⟩ rfl λu B k J st G d U=>?_
 exact ar ⟨_,H,k,J,rfl,st,G,⟨d,ag (d6 ..) C,.next⟩,U⟩
theorem vt (T:dk X Y Z) (C:aa V=aa Y.names) (D:ln Y.names x=ab i) (h:bI w X n B e) (F:Bool)
 (G:N8 e (ab<|.Name x H) p.line Z=pure ah):
 aj w X (aX Z) n (aS Z Y.ns V) (Kv B Q (.assign i<|bQ Y F e) V) (io Z Y) (NH (.Assign [.Name x H] e p) Z):=by
 refine(exec_Assign_Name _ _ _ _ _ G)▸?_;exact bz<|cr (h.kw T F) λq v=>bz<|(A2 T C D).weak λ_ _ _ c=>⟨⟨c.1,trivial⟩,c.2⟩
open aj renaming KC->XM
theorem I3 (I:to) (a b r q):aj w X [] n (λK O _=>VR K O a r/\VR K O b q) (aah I a b) e7 (inplaceOp I r q):=by
 refine dm λx e=>dm λy V=>?_;subst e V;cases I<;>first|exact be|skip
 ·refine bD λA s K O Q E _ _ _ _ c _ h=>?_;refine bC c λS H=>bd S λt Z=>?_;subst Z;refine bd H λu L=>?_;subst L;exact AutoIntOps.iadd_0<|h _ _ _ (.refl _) ft
 ·refine bD λA s K O Q E _ _ _ _ c _ h=>?_;refine bC c λS H=>bd S λt Z=>?_;subst Z;refine bd H λu L=>?_;subst L;exact AutoIntOps.isub_0<|h _ _ _ (.refl _) ft
 ·refine aj.Y3 λG=>bD λA s K O Q E _ _ _ _ c _ h=>?_;rw[not_or] at G;refine bC c λS H=>bd S λt Z=>?_;subst Z;refine bd H λu L=>?_;subst L;exact AutoIntOps.ifloordiv_1 (by simpa using G.1) (by simpa using DT (wE.mp G.2))<|h _ _ _ (.refl _) ft
theorem H6 (r:vy Z) (T:Y[i]?=ab x) (z:Z.kindOf x=ab .local\/Z.kindOf x=ab .cell):
 aj w X [] n (aS Z Y V) (H8 V i) e7 (qT Z x):=by
 refine eP λp F=>bD λA s K O Q E _ _ _ _ c _ h=>?_;obtain⟨m,B,_,_,_,f⟩:=c;rcases f i x p T (DU.mp F) with ⟨a,v,b,c⟩|⟨a|a,c,v,b,d,e⟩
 ·exact wx r.kind a B b<|h _ _ s.toks (.refl _) c
 ·exact xI r.kind a b d<|h _ _ s.toks (.refl _) e
 ·rw[a] at z;rcases z with q|q<;>cases q
theorem RX (h:bI w X n B e):mj w X n B Q (.AugAssign t I e p):=by
 refineλY Z V T M=>XM λc P=>?_
 refine aH (map_some P) λi R S=>?_;subst S;refine aH (sM R) λS N R=>?_;obtain⟨x,H⟩:=S;subst N;have z:=sP T (λ_ _ _ m=>m) M R;rw[exec_AugAssign_Name];have J:=((H6 (w:=w) (X:=X) (n:=n) (V:=V) T.fe z.1<|z.2.2.imp id And.left).keep dw).widen (W:=aX Z) HN;refine bz<|cr J λa k=>?_
 refine cr ((h.kw2 (b9 a k) T ah).holding (U:=[k])) λb u=>bz ?_;have E:=((((I3 (w:=w) (X:=X) (n:=n) I a b k u).weak (C:=λK O g=>(aS Z Y.ns V K O g/\e7 a k K O g)/\e7 b u K O g) λ_ _ _ c=>⟨c.1.2,c.2⟩).keep<|(dw.and<|b9 a k).and<|b9 b u).widen (W:=aX Z) HN);exact cr (Eg E) λq v=>bz<|(A2 (D:=λ_ _ _=>True) T M R).weak λ_ _ _ c=>⟨⟨c.1.1.1,trivial⟩,c.2⟩
theorem Q3 (T:dk X Y Z) (C:aa V=aa Y.names) (D:bI w X n B j) (I:jk w X n B Q a) (G:(j.ctorIdx !=7)=ao) (J:rY (bQ Y ah j)=ah) (h:ln Y.names x=ab i):
 aj w X (aX Z) n (aS Z Y.ns V) (Kv B Q (.for [i] ao (bQ Y ah j) (lZ Y a)) V) (io Z Y) (NH (.For (.Name x H) j a [] p) Z):=
 (MO T h (HQ G) (λa h=>h) (λa h=>h) C (D Y Z V ah T) λd E=>I Y Z d T E).zx (congrArg (λm=>aw m λl=>gV<|ik (λd p=>f0 d [i] ao p) (λd=>fR B Q (lZ Y a) d) l V)<|ua J V _)
theorem G7 (A y scope S x H l Z):∃b,N8 (.ListComp A y scope S) (ab<|.Name x H) l Z=pure b:=⟨_,rfl⟩
theorem nc (m) (f:u->z) (g:z->B):aw (aw m λa=>ax<|f a) (λb=>ax<|g b)=aw m λa=>ax (g<|f a):=pu m _ _
theorem Dx (T:dk X Y Z) (U:aa V=aa Y.names) (D:ln Y.names x=ab i) (k:bI w X n B A) (N:∀W iter v a,y=[⟨W,iter,v,a⟩]->bI w X n B iter/\∀e∈v,iI w X n B e) (F):
 aj w X (aX Z) n (aS Z Y.ns V) (Kv B Q (.assign i<|bQ Y F<|.ListComp A y scope S) V) (io Z Y) (NH (.Assign [.Name x xp] (.ListComp A y scope S) p) Z):=by
 refine bd (G7 A y scope S x xp p.line Z) λb R=>?_
 induction b with
 |false=>exact vt T U D (BE k N) _ R
 |true=>
  rw[exec_Assign_Name_used (hs:=R)];refine bz ?_;show aj w X (aX Z) n (aS Z Y.ns V) (aw (bo B (Ae<|KG Y scope (bQ (N5 Y scope) ah A)<|toG Y (N5 Y scope) y) V) λq=>ax (Eh,V.set i<|ab q)) _ _
  cases hc:KG Y scope (bQ (N5 Y scope) ah A) (toG Y (N5 Y scope) y) with
  |none=>exact be
  |some c=>
  cases zG hc with
  |mk W iter v is one G J t l=>
  refine bC (N _ _ _ _ rfl) λM s=>?_
  have j:=Ga (xpos:=xp) (pos:=S) T t l (HQ G) (M Y Z V ah T)
   (λC d _=>wM (vr T t) v s) (λC d _=>k _ _ d ah (vr T t)) (sP T (λ_ _ _ m=>m) U D) (g9 Z) λa h=>h
  have I:=j.res (P:=λd=>aa d=aa Y.names) λH a H' e=>by refine iB (nN e) λq E _ e2=>?_;cases e2;exact ag (d6 ..) U
  have z:=GF (g:=λ_:Value=>()) (o:=λ(d:bN) (_:Unit) K O h=>aS Z Y.ns d K O h/\aa d=aa Y.names) I λd u K O g c=>c;have L:=GF (f:=λd:bN=>(Eh,d)) (g:=λ_:Unit=>lL) (o:=io Z Y) z λd u K O g c=>⟨c.1,c.2,.next⟩;rw[arm_evalThenUse_ListComp];refine L.zx ?_;rw[nc,nc];exact congrArg (λm=>aw m λp=>ax (Eh,V.set i<|ab p))<|KE J
theorem m7 (h:Z.scope.kind=.function):interactive Z=false:=by unfold interactive;rw[h];rfl
theorem MX (h:bI w X n B e):mj w X n B Q (.Expr e p):=by
 refineλY Z V T C=>XM λc P=>bC (cK P) λF P=>?_
 obtain rfl:=ai P
 cases L:C0 e with
 |true=>rcases KD L with q|q
        ·rw[q] at F;cases F
        ·rw[q];exact be
 |false=>
  rw[z3 _ _ _ (m7 T.fe.kind) (xW L)];refine bz<|cr (h.kw T ah) λq v=>?_
  exactλA s K O H M W N c U=>Gz ⟨_,H,K,O,rfl,iM ..,N,⟨c.1,C,.next⟩,.refl s⟩
theorem bU.setAt {K:aN} (c:VR K O q u):∀{U} (j),bU K O l U->bU K O (l.set j q) (U.set j u):=by
 induction l with
 |nil=>exactλj h=>by subst h;exact eu
 |cons p l o=>
  intro U j h;refine cL h ?_;clear h;intro v r S a b;subst S
  induction j with
  |zero=>exact b7 c b
  |succ j=>exact b7 a<|o j b
theorem Ap (p i q v k u):aj w X W n (λK O _=>VR K O p v/\VR K O i k/\VR K O q u) (yL p i q) (λ_ _ _ _ _=>True) (setItem v k u):=by
 refine aj.rS λj e=>dm λz V=>?_;subst e V;intro A s K O H M I N b L;refine iZ b λc d B=>aH c λa D e=>bd d λt V=>?_;subst e V;dsimp only at L|-
 cases e:H[j]? with
 |none=>rw[e] at L;exact absurd rfl L
 |some l=>
  rw[e] at L;by_cases G:0<=z/\z<aa l/\aa l<=16777216
  ·obtain⟨_,o,m,f,V,Z,g,R⟩:=N.ky.at_ j a l D e;obtain rfl:=J4 Z g;have J:=R.length;have C:IsL s.heap a (af f) m:=V;refine ki_setAt V G.1 (lK G.2.1<|fP (dI.mpr G.2.2)<|by decide) (by(refine aR▸?_;refine J▸?_);exact G.2.1) ?_;have S:=C.update λxs=>xs.setIfInBounds z.toNat u;have P:=N.Pb D (ds s.heap a<|fN λxs=>xs.setIfInBounds z.toNat u) S ⟨rfl,rfl,rfl⟩ (by rw[<-List.setIfInBounds_toArray])<|bU.setAt B _ R
   exact⟨(),_,K,O,if_pos G,Ci (bq D) (ds s.heap a _) ⟨_,S⟩,P,trivial,rfl,rfl⟩
  ·exact absurd (if_neg G) L
theorem Cm (T:dk X Y Z) (hl:aa V=aa Y.names) (L:bI w X n B o) (D:bI w X n B i) (f:bI w X n B v):
 aj w X (aX Z) n (aS Z Y.ns V) (Kv B Q (.setItem (bQ Y ah o) (bQ Y ah i)<|bQ Y ah v) V) (io Z Y) (NH (.Assign [.Subscript o i sp] v p) Z):=by
 rw[exec_Assign_Subscript _ _ _ _ _ (by cases v<;>rfl)];refine bz<|cr (f.kw T ah) λq F=>?_
 refine(arm_assign_Subscript ..)▸?_;have m:=L.kw2 (V:=V) (b9 q F) T ah
 have E:∀a k,aj w X (aX Z) n (λK O g=>(aS Z Y.ns V K O g/\e7 q F K O g)/\e7 a k K O g) (bo B (bQ Y ah i) V) (λb u K O g=>((aS Z Y.ns V K O g/\e7 q F K O g)/\e7 a k K O g)/\e7 b u K O g) (ip i Z):=λa k=>(((D Y Z V ah T).weak λK O g c=>c.1.1).keep<|(dw.and<|b9 _ _).and<|b9 _ _).widen HN
 have h:∀j:Value->Value->List Value,aj w X (aX Z) n (λK O g=>aS Z Y.ns V K O g/\e7 q F K O g) (aw (bo B (bQ Y ah o) V) λa=>aw (bo B (bQ Y ah i) V) λb=>yL a b q) (λ_ _=>aS Z Y.ns V) (do
  let ov <-holding [F] (ip o Z);let N <-holding [F,ov] (ip i Z)
  fY sp
  holding [F,ov,N] (setItem ov N F)
  So (j ov N) []):=by
  intro j;refine cr (jF m) λa k=>cr (jF<|E a k) λb u=>bz ?_;have hs:=(((Ap (w:=w) (X:=X) (n:=n) a b q k u F).weak (C:=λK O g=>((aS Z Y.ns V K O g/\e7 q F K O g)/\e7 a k K O g)/\e7 b u K O g) λK O g c=>⟨c.1.2,c.2,c.1.1.2⟩).keep<|((dw.and<|b9 _ _).and<|b9 _ _).and<|b9 _ _).widen (W:=aX Z) HN;intro A s K O H M P N c h0;exact ak<|a8<|aZ (hs A s K O H M P N c h0) (λr s₁ l=>y0.casesOn l λx S R J e st G d U=>pC ⟨x,S,R,J,e,st,G,d.1.1.1.1,U⟩ _ _) λ_ _ y=>y
 refine(cr (v:=io Z Y) (t:=λ_=>ax (Eh,V)) (z:=λ_=>jb lL) (h _) λ_ _=>f8 λK O g c=>⟨c,hl,.next⟩).zx ?_;rw[pu];exact congrArg (aw _)<|funext λa=>ae<|pu _ _ _
theorem tv (T:dk X Y Z) (C:aa V=aa Y.names) (t:G.mapM (qx Y.names)=ab W):
 aj w X (aX Z) n (λK O h=>aS Z Y.ns V K O h/\VR K O q F) (aw (yw (aa W) q) λl=>ax (.next,fL V W l)) (io Z Y) (Oc F [assign (.Tuple G k b) Z]>>=λ_=>jb lL):=by
 have o:=(uC (w:=w) (n:=n) (p:=q) (v:=F) T C t (g9 Z) (λ_ _ _ m=>m)<|b9 _ _).res (P:=λd=>aa d=aa Y.names) λH a U e=>by refine iB (nN e) λl E _ i=>?_;cases i;exact ag (ms ..) C
 have j:aj w X (aX Z) n (λK O h=>aS Z Y.ns V K O h/\VR K O q F) _ _ (Oc F [assign (.Tuple G k b) Z]):=(bz (S:=b) o).eqT<|by rw[<-afJ];rfl
 exact(GF (f:=λd:bN=>(Eh,d)) (g:=λ_:Unit=>lL) (o:=io Z Y) j λd u K O g c=>⟨c.1,c.2,.next⟩).zx (nc _ _ _).symm
theorem Es (T:dk X Y Z) (C:aa V=aa Y.names) (t:G.mapM (qx Y.names)=ab g) (f:bI w X n B v) (a:v.ctorIdx≠25):
 aj w X (aX Z) n (aS Z Y.ns V) (Kv B Q (.unpack g<|bQ Y ah v) V) (io Z Y) (NH (.Assign [.Tuple G k b] v p) Z):=by
 have m:NH (.Assign [.Tuple G k b] v p) Z=(do fY p;let r <-ip v Z;do {Oc r [assign (.Tuple G k b) Z];jb lL}):=by(refine ag (VZ ..) ?_;refine(show swapsWithSole [.Tuple G k b] v p.line Z=pure ah by cases v<;>rfl)▸?_;refine(show NG [.Tuple G k b] v Z=pure al by cases v<;>first|rfl|exact absurd rfl a)▸?_);rfl
 refine m▸?_;exact bz<|cr (f.kw T ah) λq F=>tv T C t
theorem Rf (Y V G):∀u,aa G=aa u->nU B (G5 Y G u) V=Pd ((G.zip u).map λe=>bo B (bQ Y (Kl Y e.1) e.2) V):=by
 induction G with
 |nil=>exactλu _=>by cases u<;>rfl
 |cons t G o=>
  intro u h
  induction u with
  |nil=>cases h
  |cons e r=>exact congrArg (λm=>aw (bo B (bQ Y (Kl Y t) e) V) λa=>aw m λJ=>ax<|a::J)<|o r<|nA h
theorem IB (T:dk X Y Z) (C:aa G=aa u) (R:u.any isStarred=ah) (h:∀e∈u,bI w X n B e):
 aj w X [] n (aS Z Y.ns V) (nU B (G5 Y G u) V) j9 (gv<|DQ W<|qS u Z):=by
 (refine(dD W Z u R)▸(Rf Y V G u C)▸?_)
 refine py dw _ _ (by(refine ag (aB ..) ?_;refine(ae (aB ..))▸ag sG ?_;refine C▸?_;rw[Nat.min_self])) λi m t U z=>?_;rw[bY] at U z;refine aH (map_some U) λe J S=>?_;subst S;refine aH (map_some z) λQ a S=>?_;subst S;rw[pN] at J;obtain rfl:=ai<|ag J.2.symm a
 exact h e.2 (bq J.2) Y Z V _ T
noncomputable def Cz (Z:lV) (line:Nat) (x:bK):Option am:=afA (λ_=>Option am) x (λid S=>if Z.kindOf id==ab .local&&S.line==line then ab id else al) λ_=>al
noncomputable def lq (Z:lV) (G:List bK):List am:=G.filterMap (Cz Z ((G.head?.map (·.pos.line)).getD 0))
theorem G8 {k z b R} (P:(U.all (np 8)&&!U.all (oP 8))=ah):
 NG [.Tuple G k b] (.Tuple U z R) Z=pure al\/(NG [.Tuple G k b] (.Tuple U z R) Z=pure (ab<|lq Z G)/\aa (lq Z G)=aa G):=by
 by_cases J:(!(aa G==2||aa G==3)||(aa U)!=(aa G)||Z.blockKind !=.function)=ao
 ·exact .inl<|if_pos J
 ·by_cases W:(U.any λx=>afB (λ_=>Bool) x (λ_ _=>ao) λ_=>ah)=ao
  ·exact .inl<|ag (if_neg J)<|if_pos W
  ·by_cases E:((aa<|lq Z G)!=(aa G)||(lq Z G).eraseDups.length !=aa (lq Z G))=ao
   ·exact .inl<|ag (if_neg J)<|ag (if_neg W)<|if_pos E
   ·by_cases X:U.all (oP 8)=ao
    ·exact .inl<|ag (if_neg J)<|ag (if_neg W)<|ag (if_neg E)<|if_pos X
    ·have Y:¬U.all (np 8)=true:=λq=>by rw[q,SD.mpr X] at P;cases P
     exact .inr ⟨ag (if_neg J)<|ag (if_neg W)<|ag (if_neg E)<|ag (if_neg X)<|if_neg Y,by
      cases e:((aa<|lq Z G)!=aa G) with
      |true=>rw[e] at E;exact absurd rfl E
      |false=>exact of_decide_eq_true (Bool.not_eq_false' ..▸e:)⟩
theorem bU.Pl {K:aN}:∀{U},bU K O l U->bU K O l.reverse U.reverse:=by
 induction l with
 |nil=>exactλh=>by subst h;exact eu
 |cons p l o=>
  intro U h;refine cL h λv r S a b=>?_;subst S
  (refine qh▸(ae qh)▸?_)
  exact(o b).append<|b7 a eu
theorem LW (f:b->am×nX) (l:List b) (h:aa (lq Z<|l.map λq=>.Name (f q).1 (f q).2)=aa (l.map λq=>yo (f q).1 (f q).2)):lq Z (l.map λq=>.Name (f q).1 (f q).2)=l.map λq=>(f q).1:=by
 unfold lq at h|-
 generalize (((l.map λq=>yo (f q).1 (f q).2).head?.map (·.pos.line)).getD 0)=line at h|-
 rw[Oj] at h|-
 rw[aB] at h
 induction l with
 |nil=>rfl
 |cons q l o=>
  rw[eV] at h|-
  cases c:(Z.kindOf (f q).1==ab .local&&(f q).2.line==line) with
  |true=>
   rw[show(Cz Z line∘λq=>yo (f q).1 (f q).2) q=ab (f q).1 from if_pos c] at h|-
   exact congrArg ((f q).1::·)<|o<|nA h
  |false=>rw[show(Cz Z line∘λq=>yo (f q).1 (f q).2) q=al from if_neg<|by exact c▸bp] at h;exact absurd (h▸List.length_filterMap_le _ l)<|Nat.not_succ_le_self _
theorem AW {k z tp R p} (T:dk X Y Z) (hl:aa V=aa Y.names) (hm:ts.mapM (qx Y.names)=ab g) (h3:(U.all (np 8)&&!U.all (oP 8))=ah) (h4:g.Nodup):
 ∃j:Value->jE D1,NH (.Assign [.Tuple ts k tp] (.Tuple U z R) p) Z=(do fY p;let r <-ip (.Tuple U z R) Z;j r)/\
  ∀q F,aj w X (aX Z) n (λK O h=>aS Z Y.ns V K O h/\VR K O q F) (aw (yw (aa g) q) λl=>ax (.next,fL V g l)) (io Z Y) (j F):=by
 have u:swapsWithSole [.Tuple ts k tp] (.Tuple U z R) p.line Z=pure false:=rfl;rcases G8 h3 with S|⟨S,hn⟩
 ·exact⟨λr=>do {Oc r [assign (.Tuple ts k tp) Z];jb lL},by(refine ag (VZ ..)<|u▸S▸?_);rfl,λq F=>tv T hl hm⟩
 ·obtain⟨l,rfl,rfl,hs⟩:=tX ts g hm;rw[LW (λq:(am×nX)×Nat=>q.1) l hn] at S;refine⟨λr=>do {rule "assign.swapped-stores";let items <-unpackItems r (aa<|l.map λq=>q.1.1) al;NI ((l.map λq=>q.1.1).reverse.map λn=>Jq Z n) items.reverse;jb lL},by(refine ag (VZ ..)<|u▸S▸?_);rfl,λq F=>Aa () (λA Q E s h=>mm h) ?_⟩
  (refine(ae (aB ..))▸(ae (aB ..))▸?_)
  have o:=(((oZ (w:=w) (X:=X) (W:=[]) (n:=n) (aa l) q F).weak (C:=λK O h=>aS Z Y.ns V K O h/\VR K O q F) λ_ _ _ c=>c.2).keep<|dw.and<|b9 q F).widen (W:=aX Z) HN;refine cr (o.res (P:=λy=>aa y=aa l) λH a i e=>Et e) λy f=>?_;intro A s K O H fs I N XS L;refine bC XS λt b=>bC t λzq3 D=>bC zq3 λc _=>?_;have key:=rf (w:=w) (X:=X) (W:=aX Z) (n:=n) T (g9 Z) (λx:am×nX=>x.1) (λx=>Jq Z x.1) (λq v M A Q E s h=>h) l.reverse y.reverse f.reverse V (by(refine ag kE<|(ae kE)▸?_;rw[b])) λq m=>sP T (λ_ _ _ m=>m) hl<|hs q<|List.mem_reverse.mp m
  rw[SP,yN _ _ _ h4 (by(refine ag (aB ..) ?_;rw[b]))] at key
  (refine(SP)▸?_;refine(ae gO)▸?_)
  exact ak<|key.run I N ⟨c,bU.Pl D⟩ (show(ax ():IM Unit) H=.ok () H from rfl) λr B K₁ J st G d so=>ar ⟨_,_,K₁,J,rfl,st,G,⟨d,ag (ms ..) hl,.next⟩,so⟩
theorem S6 (l):(if aa l=aa g/\aa l<=16777216 then ax (.next,fL V g l) else aP)=aw (if aa l<=16777216 then ax (.tup l) else aP) λq=>aw (yw (aa g) q) λl=>ax (Eh,fL V g l):=by
 by_cases Z:aa l<=16777216
 ·refine(if_pos Z)▸?_;show _=aw (if aa l=aa g then ax l else aP) _;by_cases c:aa l=aa g
  ·(refine ag (if_pos ⟨c,Z⟩)<|(if_pos c)▸?_);rfl
  ·(refine ag (if_neg λq=>c q.1)<|(if_neg c)▸?_);rfl
 ·(refine(if_neg Z)▸ag (if_neg λq=>Z q.2) ?_);rfl
theorem Lk {k z P R p} {V:bN} (T:dk X Y Z) (C:aa V=aa Y.names) (t:G.mapM (qx Y.names)=ab g) (J:U.any isStarred=ah) (W:aa U=aa G) (E:(U.all (np 8)&&!U.all (oP 8))=ah) (S:g.Nodup) (f:∀e∈U,bI w X n B e):
 aj w X (aX Z) n (aS Z Y.ns V) (Kv B Q (.mG g<|G5 Y G U) V) (io Z Y) (NH (.Assign [.Tuple G k P] (.Tuple U z R) p) Z):=by
 have u:aj w X (aX Z) n (aS Z Y.ns V) (aw (nU B (G5 Y G U) V) λl=>if aa l<=16777216 then ax (.tup l) else aP) (λq v K O h=>aS Z Y.ns V K O h/\VR K O q v) (ip (.Tuple U z R) Z):=by refine(aji ..)▸?_;exact(((bz<|cr (IB T W.symm J f) λy U=>rU y U)).keep dw).widen HN
 refine aH (AW (w:=w) (n:=n) T C t E S) λj b d=>b▸?_;refine(bz<|cr u d).zx<|(ae (pu ..))▸?_
 exact congrArg (aw _)<|funext λl=>S6 l
end
open CE renaming bin->nP,bv->aku,az->XQ,cmp->N2,comp->aju,list->ajt,tup->amE
open aS renaming kt->JF
open IM renaming bind_assoc->pu
open MB renaming sf->amD,found->kH,ite_no->sJ
open MN renaming append->iS,encode->aaW,find->XO,index->af5,join->pL,rfind->SH
open aj renaming KC->XM
section
open PySem PySem.W PySem.Calls PyProof.Rows PySem.SeqAt
open AutoSeq1 (wpAny_loadPart')
theorem xA (u:s.heap.IsTupleIter j t i) (z:s.heap.IsTuple t M) (T:M[i]?=ab x)
 (l:∀G,G.IsTupleIter j t (i+1)->fK j s.heap G->Q x {s with heap:=G}):aD (Ob m w) A (jp<|.ref j) Q E s:=by
 refine gG (id u) λo L P g=>?_;refine gG z λb a _ S=>bd S λnl UH=>?_;unfold jp
 refine ak (N7 u.typeIs F.slot_tuple_iterator_next
  (DN F.slot_tuple_iterator_next u.typeIs F.entry_tuple_iterator_next ?_ (F.args_tuple_iterator_next_1 _)))
 show aD _ _ (field (.ref j) 0>>=_) _ _ s;refine ak<|kQ L g rfl ?_
 show aD _ _ (if(f6 t==f7)=ao then _ else _) _ _ s;refine kI (if_neg<|bp) ?_;show aD _ _ (field (.ref j) 1>>=_) _ _ s;refine ak<|kQ L g rfl ?_
 show aD _ _ (DO (.ref t)>>=_) _ _ s;refine ak<|Jg a UH ?_
 simp only[ek,T];refine ak<|qR L g (by simp)<|ar ⟨x,rfl,ar<|l _ ?_ (ds ..)⟩
 exact⟨_,ei _ L (jU<|hZ g _),ag (xK ..) P,by
  refine ag (hZ g ..) ?_;simp[pI]⟩
theorem y5 (y:A.handled=al) (u:s.heap.IsTupleIter j t i) (z:s.heap.IsTuple t M) (T:M[i]?=al)
 (d:∀G e,tI j s.heap G->(∃o,G.get? e=ab o/\o.cls=.type "StopIteration")->E (.ref e) {s with heap:=G}):
 aD (Ob m w) A (jp<|.ref j) Q E s:=by
 refine gG (id u) λo L P g=>?_;refine gG z λb a _ S=>bd S λnl UH=>?_;unfold jp
 refine ak (N7 u.typeIs F.slot_tuple_iterator_next
  (DN F.slot_tuple_iterator_next u.typeIs F.entry_tuple_iterator_next ?_ (F.args_tuple_iterator_next_1 _)))
 show aD _ _ (field (.ref j) 0>>=_) _ _ s;refine ak<|kQ L g rfl ?_
 show aD _ _ (if(f6 t==f7)=ao then _ else _) _ _ s;refine kI (if_neg<|bp) ?_;show aD _ _ (field (.ref j) 1>>=_) _ _ s;refine ak<|kQ L g rfl ?_
 show aD _ _ (DO (.ref t)>>=_) _ _ s;refine ak<|Jg a UH ?_
 simp only[ek,T];refine ak<|mm<|ak<|qR L g (by simp) ?_
 show aD _ _ (newExc (.type "StopIteration") []>>=_) _ _ _;refine ak ?_;simp only[newExc,newTuple];refine ak<|rC ?_ (by size_fits)
 refine ak<|kP (by first|rfl|(simp only[firstArgMember];rfl)) ?_
 refine rC ?_ (by size_fits);unfold raiseNew;refine ak<|wpAny_handled ?_
 first|refine y▸?_|rw[y]
 refine oW<|wpAny_throw ?_
 exact d _ _ (((ds ..).extBut.push _).push _) ⟨_,b5 _ rfl,rfl⟩
theorem Rx (y:A.handled=al) (j l) (X:l≠j) (M):
 Draws m w A j [j,l] M.size (λi v=>M[i]?=ab v) (λi h=>h.IsTupleIter j l i/\h.IsTuple l M) where
 live:=λ_ _ st=>let⟨o,L,_⟩:=st.1;⟨o,L⟩
 frame:=λ_ _ _ st z=>⟨let⟨o,e,r⟩:=st.1;⟨o,z j (by simp) o e,r⟩,let⟨o,e,r⟩:=st.2;⟨o,z l (by simp) o e,r⟩⟩
 item:=λi s Q E D st Z=>by exact xA st.1 st.2 (x:=M[i]) (by simp[D]) λG a J=>Z _ G s.toks (by simp[D]) ⟨a,st.2.extBut J.extBut X⟩ J
 done:=λs Q E st d=>y5 y st.1 st.2 (by simp) d
theorem Pr (h:∀b,Q b s):aD M A (pure a) Q E s:=ar<|h a
theorem y9 (l items n dct p):
 Meets (lW.«enumerate.__new__» ⟨[.type "enumerate",.ref l],[]⟩) (λ_ R s=>s.heap.get? l=ab {cls:=.type "tuple",dict:=dct,data:=.seq items n,slots:=p}/\
  R (.ok<|.ret<|.ref (s.heap.push {cls:=.type "tuple_iterator",data:=.fields #[.ref l,.int 0 0]}).objs.size)
    {s with heap:=(s.heap.push {cls:=.type "tuple_iterator",data:=.fields #[.ref l,.int 0 0]}).push {cls:=.type "enumerate",data:=.fields #[.none,.bool ah,.ref s.heap.objs.size,pI 0,.none,.none]}}):=
 .of_wp λm w A R s h=>by
  obtain⟨F,g,d,tk,os⟩:=s;refine bC h λC h=>?_;have a:=sub_enumerate;have t:Heap.IsTuple (Shared.heap ⟨F,g,d,tk,os⟩) l items:=⟨_,C,rfl,n,rfl⟩
  wp_walk using wpAny_loadPart' C
  refine wpAny_stack_any λst=>Pr λb=>?_;cases b
  ·wp_walk using wpAny_loadPart' C,zZ t
   exact⟨_,rfl,h⟩
  ·wp_walk using wpAny_loadPart' C,zZ t
   exact⟨_,rfl,h⟩
theorem AF (t:s.heap.IsTuple l M)
 (h:∀G,aaI G (s.heap.objs.size+1) s.heap.objs.size 0 .none->G.IsTupleIter s.heap.objs.size l 0->G.objs.size=s.heap.objs.size+2->
  (∀b o,s.heap.get? b=ab o->G.get? b=ab o)->Q (.ref<|s.heap.objs.size+1) {s with heap:=G}):
 aD (Ob m w) A (call (.type "enumerate") [.ref l]) Q E s:=by
 refine gG t λS C P Z=>?_;obtain⟨c,dct,B,p⟩:=S;refine bd Z λn g=>?_;replace P:c=.type "tuple":=P;replace g:B=.seq M n:=g;subst P g
 refine callType_new F.called_enumerate rfl (F.typeCall_enumerate_1 _) (F.newCall_enumerate_1 _) (λa=>F.args_object_init_2 a _) F.entry_enumerate_new
  (y9 l M n dct p) ⟨C,?_⟩
 have N:(s.heap.push {cls:=.type "tuple_iterator",data:=.fields #[.ref l,.int 0 0]}).objs.size=s.heap.objs.size+1:=je ..;show _/\_;refine N▸?_
 have J:aaI ((s.heap.push {cls:=.type "tuple_iterator",data:=.fields #[.ref l,.int 0 0]}).push
  {cls:=.type "enumerate",data:=.fields #[.none,.bool ah,.ref s.heap.objs.size,pI 0,.none,.none]}) (s.heap.objs.size+1) s.heap.objs.size 0 .none:=by
  have:=b5 (s.heap.push {cls:=.type "tuple_iterator",data:=.fields #[.ref l,.int 0 0]})
   (o:={cls:=.type "enumerate",data:=.fields #[.none,.bool ah,.ref s.heap.objs.size,pI 0,.none,.none]}) rfl
  rw[N] at this;exact this
 refine⟨⟨_,J,rfl⟩,h _ J ⟨_,aQ _ (b5 _ rfl),rfl,rfl⟩ (by(refine ag (je ..) ?_;rw[N])) λb o x=>aQ _ (aQ _ x)⟩
end
section
open PySem PySem.W PySem.Calls PyProof.Rows PySem.SeqAt
section
variable {KF K:aN} {wr:List bk}
theorem Inv.RP (N:Inv KF K O H M h) (g:∀a∈wr,K a=al/\a∉O) (z:∀b o,b∉wr->h.get? b=ab o->h'.get? b=ab o) (Y:∀a∈wr,∀o,h.get? a=ab o->¬b4 o):Inv KF K O H M h':=
 ⟨N.par,N.stat,λb o e=>z b o (λm=>by rw[(g b m).1] at e;exact aC e)<|N.sub b o e,N.kf,
  ⟨N.ky.len,N.ky.nodup,λi b l D C=>by
   obtain⟨k,o,n,U,e,s,A,S⟩:=N.ky.at_ i b l D C
   exact⟨k,o,n,U,z b o (λm=>(g b m).2<|bq D) e,s,A,S⟩⟩,
  ⟨λZ J=>by
   obtain⟨k,L,o,f,v,m,e,fo,fr⟩:=N.stk.all Z J
   exact⟨k,L,o,f,v,m,z L o (λq=>Y L q o e fo) e,fo,fr⟩⟩⟩
theorem Hi (U:∀a∈wr,a∈W) (z:∀b o,b∉wr->h.get? b=ab o->h'.get? b=ab o) (Z:∀a∈wr,∃Y,h'.get? a=ab Y) (u:h.get? T=al) (B:K T=al):Step W K O h (gc K T y) O h':=
 ⟨rfl,(λb x k=>by
  rw[db]
  ·exact k
  ·rintro rfl;rw[B] at k;cases k),(λb x k=>by
  by_cases q:b=T
  ·subst q;exact .inr u
  ·rw[db q] at k;exact .inl k),⟨[],by simp,by simp⟩,λb o e=>by
   by_cases q:b∈wr
   ·exact Z b q
   ·exact⟨o,z b o q e⟩,
  λb o e _ B=>⟨o.slots,z b o (λq=>B<|U b q) e,.inl rfl⟩,λ_ q=>.inl q⟩
theorem Step.Nr (x:Step W K O g k J f) (N:∀a∈wr,g.get? a=fM) (z:∀b o,b∉wr->f.get? b=ab o->h'.get? b=ab o):Step W K O g k J h':=
 ⟨x.par,x.kle,x.new,x.pre,λa o e=>by
  exact bd (x.there a o e) λu V=>⟨u,z a u (λq=>by rw[N a q] at e;exact aC e) V⟩,
   λa o e t U=>by
    exact aH (x.keep a o e t U) λp V G=>⟨p,z a _ (λq=>by rw[N a q] at e;exact aC e) V,G⟩,x.frs⟩
end
structure KR (w:dG) (I:bk) (fp wr:List bk) (m:Nat) (Pt:Nat->Array Value->Prop) (J:Nat->eG->Prop) (Gy:Nat->bk->eG->Prop):Prop where
 walks:∀A:iF,A.handled=al->WalksT oh w A I fp wr m Pt J Gy
 own:∀i h,J i h->∀a∈wr,∃o,h.get? a=ab o/\¬b4 o
def tE (g r:List bk) (t:Nat->Array Value->Prop) (J:Nat->eG->Prop) (L:List PV) (i:Nat):xg:=λK O h=>
 J i h/\(∀a∈r,K a=al/\a∉O)/\(∀a∈g,a∈r\/∃o,K a=ab o/\h.get? a=ab o/\a∉O/\¬b4 o)/\
   ∀(j:Nat) (c:Array Value) (p:PV),L[j]?=ab p->t j c->∃y,p=.tup y/\bU K O y c.toList
theorem tE.stable (U:KR w I g r m t J Gy)
 (E:∀a∈r,a∉W) (b:∀a∈g,a∉W):fD W (tE g r t J L i):=by
 intro K O h S l G x st;refine vh x λQ z Y f=>?_
 have c:∀a∈r,∃o,h.get? a=ab o/\G.get? a=ab o:=λa Z=>by exact aH (U.own i h Q a Z) λo e n=>⟨o,e,st.same e (z a Z).2 (E a Z) n⟩
 have d:∀a∈g,∀o,h.get? a=ab o->G.get? a=ab o:=λa Z o e=>by
  rcases Y a Z with q|⟨u,k,V,m,n⟩
  ·refine aH (c a q) λu X T=>?_;rw[X] at e;obtain rfl:=ai e;exact T
  ·rw[V] at e;obtain rfl:=ai e;exact st.same V m (b a Z) n
 refine⟨(U.walks {handled:=al} rfl).frame i h G Q d,λa Z=>?_,λa Z=>?_,λj v p e q=>?_⟩
 ·exact aH (c a Z) λo e _=>⟨st.ls (z a Z).1 e,st.lr (z a Z).2 e⟩
 ·rcases Y a Z with q|⟨u,k,V,m,n⟩
  ·exact .inl q
  ·exact .inr ⟨u,st.kle _ _ k,st.same V m (b a Z) n,st.lr m V,n⟩
 ·exact aH (f j v p e q) λy s A=>⟨y,s,vH st A⟩
structure ai2 (w:dG) (KF:aN) (fp wr:List bk) (P:Nat->Array Value->Prop) (J:Nat->eG->Prop) (L:List PV) (K:aN) (μ:List bk) (H:Hp) (fs:List lV) (h h₂:eG) (T:bk) (oT:uz) (j:Nat) (p:PV):Prop where
 iv:Inv KF (gc K T oT) μ H fs h₂
 st:Step wr K μ h (gc K T oT) μ h₂
 ci:tE fp wr P J L (j+1) (gc K T oT) μ h₂
 hv:VR (gc K T oT) μ p (.ref T)
theorem Rh (U:KR w I g r (aa L) P J Gy) {K:aN}
 (N:Inv X K O H M h) (d:tE g r P J L j K O h) (F:L[j]?=ab p) (B:P j c) (W:h.get? T=al) (R:h₂.get? T=ab y) (E:y.cls=.type "tuple") (G:y.data=.seq c Z) (C:T∉r)
 (t:J (j+1) h₂) (z:∀b o,b∉r->h.get? b=ab o->h₂.get? b=ab o):ai2 w X g r P J L K O H M h h₂ T y j p:=by
 refine vh d λQ x ah4 adq=>?_;have Y:=N.cN W;have st:Step r K O h (gc K T y) O h₂:=Hi (λ_ q=>q) z (λa ha=>(U.own (j+1) _ t a ha).imp λ_ q=>q.1) W Y
 have f:tE g r P J L (j+1) (gc K T y) O h₂:=by
  refine⟨t,λa ha=>⟨?_,(x a ha).2⟩,λa ha=>?_,λi v p l q2=>?_⟩
  ·refine ag (db<|by rintro rfl;exact C ha) ?_;exact(x a ha).1
  ·rcases ah4 a ha with q|⟨o,k,e,m,n⟩
   ·exact .inl q
   ·exact .inr ⟨o,st.kle _ _ k,z a o (λq=>by rw[(x a q).1] at k;exact aC k) e,m,n⟩
  ·exact aH (adq i v p l q2) λps s A=>⟨ps,s,vH st A⟩
 refine⟨(N.RP x z λa ha o e=>?_).freeze R Y (N.dY W) (uV E<|by decide),st,f,?_⟩
 ·refine aH (U.own j _ Q a ha) λu V n=>?_;rw[V] at e;obtain rfl:=ai e;exact n
 ·refine aH (f.2.2.2 j c _ F B) λps S D=>?_;subst S;exact⟨T,y,Z,c.toList,rfl,fj _ _ _,E,by exact JD▸G,D⟩
inductive EnI (KF:aN) (W:List bk) (env:lV) (cx:Cx) (fp wr:List bk) (P:Nat->Array Value->Prop) (J:Nat->eG->Prop) (L:List PV) (is:List Nat) (bM:bN->IM (ge×bN)) (fs:List lV) (K:aN) (μ:List bk) (g:eG) (s:bh) (r:ge×bN) (Hf:Hp) (m:Nat) (s₁:bh):Prop
 |mk (j:Nat) (σ:bN) (K₁:aN) (dU:List bk) (H:Hp) (hm:m=aa L+1-j) (hj:j<=aa L) (st:Step W K μ g K₁ dU s₁.heap) (so:aV s s₁) (iv:Inv KF K₁ dU H fs s₁.heap) (c:aS env cx.ns σ K₁ dU s₁.heap) (l:aa σ=aa cx.names)
  (ci:tE fp wr P J L j K₁ dU s₁.heap) (e:ik (λτ p=>f0 τ is ah p) bM (L.drop j) σ H=.ok r Hf)
inductive afv (fg:bN->PV->Option bN) (bM:bN->IM (ge×bN)) (p:PV) (L:List PV) (σ:bN) (H:Hp) (r:ge×bN) (Hf:Hp):Prop
 |mk (τ:bN) (y:ge×bN) (H':Hp) (b:fg σ p=ab τ) (e:bM τ H=.ok y H') (k:DD (ik fg bM L) y H'=.ok r Hf)
theorem Iy (h:ik fg b (p::L) V H=.ok r Hf):afv fg b p L V H r Hf:=by
 unfold ik at h
 cases R:fg V p with
 |none=>rw[R] at h;cases h
 |some d=>rw[R] at h;exact iB (nN h) λy i e k=>⟨d,y,i,R,e,k⟩
theorem M2 (hx:dk X Y Z) (ht:es.mapM (qx Y.names)=ab is)
 (hW:∀a∈W,a∈aX Z) (hW':∀a∈aX Z,a∈W)
 (hb:∀V,aa V=aa Y.names->aj w X W n (aS Z Y.ns V) (bM V) (io Z Y) (kc body Z))
 (hw:KR w I fp wr (aa L) P J Gy)
 (ha:kl n A M) {K:aN} (iv:Inv X K μ H M s.heap) (c:aS Z Y.ns V K μ s.heap) (hl:aa V=aa Y.names)
 (ci:tE fp wr P J L 0 K μ s.heap) (hI:∀a∈wr,a∉aX Z) (hfp:∀a∈fp,a∉aX Z) (e:ik (λτ p=>f0 τ is ah p) bM L V H=.ok r Hf)
 (hg:∀a∈wr,g.get? a=al) (EC:Step W gH i g K μ s.heap)
 (hR:∀f F K' rq x H',dt x H'=.ok r Hf->Step W gH i g K' rq F.heap->Inv X K' rq H' M F.heap->io Z Y x f K' rq F.heap->aV s F->R (.ok f) F):
 nq (MM w) A (.forLoop (.Tuple es k tp) (.ref I) body [] Z) R s:=by
 refine ZI (EnI X W Z Y fp wr P J L is bM M gH i g s r Hf) (aa L+1) ⟨0,V,K,μ,H,rfl,hH _,EC,.refl s,iv,c,hl,ci,e⟩ ?_;intro m s₁ D N B E hN hS hB z hr;cases D with|mk j σ₁ K₁ dU H₁ hm hj dL h w0 d hl₁ re e₁=>?_
 subst hm;have Wk:=hw.walks A ha.hd;have hCi:∀j,fD W (tE fp wr P J L j):=λj=>tE.stable hw (λa O q=>hI a O<|hW _ q) λa O q=>hfp a O<|hW _ q
 rcases wF hj with hjlt|hje
 ·have hp:=aO hjlt;rw[zD hp] at e₁;cases Iy e₁ with|mk τ y ww hb0 ey e₂=>?_
  refine Wk.item j s₁ _ _ hjlt re.1 λT vals h₁ tk hP hTs hT₁ W4 hk₁=>hS _ _ ?_;refine xC ?_;intro akn;refine Wk.go es k tp j T {s₁ with heap:=h₁,toks:=tk} _ _ W4 λh₂ t W1=>?_;refine na ?_;intro amn;refine gG hT₁ λoT eT cT yR=>bd yR λnT dT=>?_;have C:=Wk.apart j T h₁ W4;have U:=Rh hw w0 re hp hP (iL hTs) (W1 T oT C eT) cT dT C t λb o hb e=>W1 b o hb<|hk₁ b o hb e
  have c₂:=JF (λa q=>hI a q) _ _ _ _ _ _ d U.st;refine(pG hx hl₁ (.tup es k tp is ht) (hW' _ (g9 Z)) λ_ _=>hW').run ha U.iv ⟨c₂,U.hv⟩ (show bindM σ₁ is ah L[j] H₁=.ok τ H₁ by unfold bindM;refine hb0▸?_;rfl) λu s₃ qg Q iU S QF n7=>?_;refine(hb _ (ag (BM hb0) hl₁)).run ha S QF ey λfl s₄ sy rK o5 pY rZ n6=>?_;have xd:=hCi _ _ _ _ _ _ _ (hCi _ _ _ _ _ _ _ U.ci iU) o5;have px:=((dL.hide U.st λa q=>.inr<|hg a q).trans iU).trans o5;have pA:=(h.trans<|js ⟨rfl,rfl⟩ n7).trans n6;have hlt:=oR (iO hjlt)<|kq j
  exact t8 (G:=λf=>B f s₄) rZ.f e₂ (λe=>hB _ _ hlt ⟨j+1,y.2,sy,rK,ww,rfl,hjlt,px,pA,pY,rZ.c,rZ.l,xd,e⟩) (λe=>z _ (hR _ _ sy rK _ _ e px pY ⟨rZ.c,rZ.l,.next⟩ pA)) λp v hv e=>hr _ _ (hR _ _ sy rK _ _ e px pY ⟨rZ.c,rZ.l,.ret hv⟩ pA)
 ·rw[hje] at re e₁;refine acP ?_;intro ajA;refine Wk.done s₁ _ _ re.1 λh' tk z=>?_;rw[m6] at e₁
  exact hN _ (ar (hR _ _ K₁ dU _ _ e₁ (dL.Nr hg z) (w0.RP re.2.1 z λa ha o e=>by
   refine aH (hw.own _ _ re.1 a ha) λo' e' nf=>?_
   rw[e'] at e;obtain rfl:=ai e;exact nf) ⟨d.RP z hI,hl₁,.next⟩ (h.trans ⟨rfl,rfl⟩)))
theorem rd:∀l i,aa (jr i l)=aa l
 |[],_=>rfl
 |_::l,i=>by simp[jr,rd l<|i+1]
theorem vg:∀(l) (i j) (p:PV),(jr i l)[j]?=ab p->∃q,l[j]?=ab q/\p=.tup [.int ((i+j:Nat):Int),q]
 |[],_,_,_,h=>by simp[jr] at h
 |x::l,i,0,p,h=>by simp[jr] at h;exact⟨x,rfl,by simp[h]⟩
 |x::l,i,j+1,p,h=>by simp only[jr,List.getElem?_cons_succ] at h;exact aH (vg l (i+1) j p h) λq J W=>⟨q,by simpa using J,by(refine ag W ?_;rw[show i+1+j=i+(j+1) by rw[d8,gh 1 j]])⟩
def Sh (w:dG) (g:eG) (p:PV) (v:Value):xg:=λK O h=>∃(e j:bk) (Z:List bk) (P:Nat->Array Value->Prop) (J:Nat->eG->Prop) (Gy:Nat->bk->eG->Prop),
 v=.ref e/\KR w e Z [e,j] (aa<|vf p) P J Gy/\tE Z [e,j] P J (vf p) 0 K O h/\g.get? e=al/\g.get? j=al
def tF (g:eG):xg:=λ_ _ h=>∀a o,g.get? a=ab o->∃u,h.get? a=ab u
theorem tF.stable (g):fD W (tF g):=λ_ _ _ _ _ _ c st a o e=>by exact bd (c a o e) λu V=>st.there a u V
open tF renaming stable->aaX
theorem tF.none {K:aN} (c:tF g K O h) (e:h.get? a=al):g.get? a=none:=by
 cases q:g.get? a with
 |none=>rfl
 |some o=>refine bd (c a o q) λu V=>?_;rw[e] at V;exact aC V
theorem Bu (x:∀b o,h.get? b=ab o->h'.get? b=ab o):de h h':=λb o e=>⟨o.slots,x b o e,.inl rfl⟩
theorem FY {K:aN} {St:Nat->eG->Prop} (F:vf p=jr 0 l) (k:∀i h,St i h->∃D,h.get? d=ab D/\¬b4 D)
 (Y:∀A:iF,A.handled=al->WalksT oh w A (d+1) [d+1,d,a] [d+1,d] f.toArray.size (λi c=>∃t x,(af f)[i]?=ab x/\c=#[.int i t,x]) (λi h=>(∃s,aaI h (d+1) d i s)/\St i h) Gy)
 (T:aaI h (d+1) d 0 .none) (G:St 0 h) (Z:bU K O l f) (v:K (d+1)=al/\d+1∉O) (y:K d=al/\d∉O) (I:h.get? a=ab o) (S:K a=ab o) (z:a∉O) (n:¬b4 o) (H:g.get? (d+1)=al) (V:g.get? d=al):Sh w g p (.ref<|d+1) K O h:=by
 have C:aa (vf p)=f.toArray.size:=by rw[F,rd,aR,Z.length]
 refine⟨d+1,d,[d+1,d,a],λi c=>∃t x,(af f)[i]?=ab x/\c=#[.int i t,x],λi h=>(∃s,aaI h (d+1) d i s)/\St i h,Gy,rfl,⟨λA P=>by refine C▸?_;exact Y A P,λi h Q b R=>?_⟩,⟨⟨⟨_,T⟩,G⟩,λb R=>(aL.mp R).elim (λq=>q▸v) λm=>(aU.mp m)▸y,λb R=>?_,λj c q L B=>?_⟩,H,V⟩
 ·refine bd Q.1 λs J=>(aL.mp R).elim (λq=>by refine q▸?_;exact⟨_,J,uV rfl<|by decide⟩) λm=>(aU.mp m)▸k i h Q.2
 ·exact(aL.mp R).elim (λq=>.inl<|q▸bc) λm=>(aL.mp m).elim (λq=>.inl<|q▸bb _ (jc _)) λm=>.inr<|by exact(aU.mp m)▸⟨o,S,I,z,n⟩
 ·rw[F] at L;refine aH (vg l 0 j q L) λr J W=>iB B λt x E e=>aH (Z.get J) λu X U=>?_;rw[f5,X] at E
  (refine e▸((ai E))▸?_)
  exact⟨_,W,by exact(fO ..)▸b7 ft (b7 U eu)⟩
theorem FZ (g y U):aj w X [] n (λK O h=>tF g K O h/\bU K O y U) (F0 y) (Sh w g) (call (.type "enumerate") U []):=by
 refine eP λp Q=>eP λl e=>?_;intro A s K O H M I N c _;refine cL (tW Q▸c.2:bU K O [p] U) λv r d L b=>?_
 (refine d▸b▸?_)
 have Y:=bW s.heap;have Z:s.heap.get? (s.heap.objs.size+1)=none:=iL<|eh _
 have B:s.heap.objs.size+1≠s.heap.objs.size:=rx _;rcases J6 e with rfl|rfl
 ·obtain⟨a,o,k,f,rfl,t,P,V,R⟩:=L;have j:=N.sub _ _ t;have x:=dS j;refine AF ⟨o,j,P,k,V⟩ λG J u F z=>?_;have T:=Bu z;refine⟨_,H,K,O,rfl,T.step,N.keep T,FY rfl (λi h q=>?_) (λA S=>WalksT.enumerateD (Rx (A:=A.in1) S s.heap.objs.size a (eR x)<|af f) (s.heap.objs.size+1) B ?_ bc) J ⟨u,o,z _ _ j,P,k,V⟩ R ⟨N.cN Z,N.dY Z⟩ ⟨N.cN Y,N.dY Y⟩ (z _ _ j) t (N.ze t) (N.kf _ _ t) (c.1.none Z)<|c.1.none Y,rfl,rfl⟩
  ·refine gG q.1 λD W E _=>⟨D,W,uV E<|by decide⟩
  ·exactλm=>(aL.mp m).elim B λm=>absurd (aU.mp m)<|oY<|iO x
 ·obtain⟨a,o,k,f,rfl,t,P,V,R⟩:=L;have j:=N.sub _ _ t;have x:=dS j;refine call_enumerate_list ⟨o,j,P.1,k,V⟩ λG J u F z=>?_;have T:=Bu z;refine⟨_,H,K,O,rfl,T.step,N.keep T,FY rfl (λi h q=>?_) (λA S=>WalksT.enumerate S (s.heap.objs.size+1) s.heap.objs.size a B (eR<|iO x) (eR x)<|af f) J ⟨u,o,z _ _ j,P.1,k,V⟩ R ⟨N.cN Z,N.dY Z⟩ ⟨N.cN Y,N.dY Y⟩ (z _ _ j) t (N.ze t) (N.kf _ _ t) (c.1.none Z)<|c.1.none Y,rfl,rfl⟩;refine gG q.1 λD W E _=>⟨D,W,uV E<|by decide⟩
theorem U3 (c V m):rt B (.enum c) V m=aw (aw (nU B [c] V) F0) λp=>ax (vf p):=by refine(pu ..)▸?_;exact ae<|pu (bo B c V) (λa=>ax [a]) λl=>aw (F0 l) λp=>ax<|vf p
theorem C7 (T:dk X Y env) (C:aa V=aa Y.names) (N:bI w X n B arg) (I:jk w X n B Q a)
 (hs:isStarred arg=ah) (hd:tx nm=ao) (hgl:Y.gl nm=ab (.ty "enumerate")) (z:u.mapM (qx Y.names)=ab is):
 aj w X (aX env) n (aS env Y.ns V) (Kv B Q (.for is ah (.enum<|bQ Y ah arg) (lZ Y a)) V) (io env Y) (NH (.For (.Tuple u k tp) (.Call (.Name nm xp) [arg] [] S) a [] p) env):=by
 refine amB ?_ (congrArg (λm=>aw m λl=>gV<|ik (λd p=>f0 d is ah p) (λd=>fR B Q (lZ Y a) d) l V)<|U3 (bQ Y ah arg) V _);intro A s K O H M hA iv c L
 have hcall:=po (V:=V) (r:=xp) (S:=S) (D:=[arg]) (R:=Sh w s.heap) (aaX _) T hgl (rT hd) (by(refine ag vA<|(ae hs)▸?_);rfl) (λe m=>(aU.mp m)▸N)
  (λK O v hv=>by
   obtain rfl:=(show v=.type "enumerate" from hv)
   exact .inl ⟨.inr<|.inl ⟨_,rfl⟩,λps vs=>FZ s.heap ps vs⟩)
 rw[OI,Tg] at hcall;generalize hM:aw (nU B [bQ Y ah arg] V) F0=M0 at hcall L|-
 refine Mh ?_;intro amy;refine afz ?_ (r4<|by intros;intro q;cases q);have hwh:M0 H≠.stuck:=λq=>by apply L;rw[fU,fU,q]
 refine aZ ((hcall.keep<|dw.and<|aaX _) A s K O H M hA iv ⟨c,λb o e=>⟨o,e⟩⟩ hwh) (λv s₁ ⟨p,H₁,K₁,dU,ep,dL,G,F,h⟩=>?_) λy s₁ Ye=>yc.casesOn Ye λp H₁ K₁ dU ep dL G hex h=>?_
 ·have eo:aw (aw M0 λp=>ax<|vf p) (λl=>gV<|ik (λd p=>f0 d is ah p) (λd=>fR B Q (lZ Y a) d) l V) H=gV (ik (λd p=>f0 d is ah p) (λd=>fR B Q (lZ Y a) d) (vf p) V) H₁:=by
   rw[fU,fU,ep];rfl
  rw[eo] at L|-
  refine iB (y3 L) λr Hf e e'=>?_;refine(ae e')▸?_;refine ad7 F.2 λe₀ j fp P J Gy yR U ci g1 g2=>?_;obtain rfl:=yR;have c₁:=F.1.1;refine(U.walks A hA.hd).self 0 s₁ _ _ ci.1 ?_;have hgn:∀b∈[e₀,j],s.heap.get? b=none:=λb hb=>(aL.mp hb).elim (λq=>q▸g1) λq=>(aU.mp q)▸g2
  have hI:∀b∈[e₀,j],b∉aX env:=λb hb q=>by refine aH (lC c q) λoa x _=>?_;rw[hgn b hb] at x;exact aC x
  refine M2 (W:=aX env) (n:=n) (Y:=Y) (gH:=K) (i:=O) (g:=s.heap) T z (λ_ q=>q) (λ_ q=>q) (λd E=>I Y env d T E) U hA G c₁ C ci hI (λb hb q=>?_) e hgn (dL.mono HN) λf s' K' rq x' H' ex st xZ hf so=>⟨x',H',K',rq,ae ex,st,xZ,hf,h.trans so⟩;rcases ci.2.2.1 b hb with q'|⟨o',Z,_⟩
  ·exact hI b q' q
  ·refine aH (lC c₁ q) λoa _ t=>?_;rw[t] at Z;exact aC Z
 ·exact⟨p,H₁,K₁,dU,by rw[fU,fU,ep],dL.mono HN,G,hex,h⟩
inductive aat (cx:Cx) (body:List CS):bK->bK->CS->Prop
 |one (x:am) (xp:nX) (it:bK) (i:Nat) (hs:(it.ctorIdx !=7)=ao) (he:rY (bQ cx ah it)=ah) (h:ln cx.names x=ab i):aat cx body (.Name x xp) it (.for [i] ao (bQ cx ah it) body)
 |en (es:List bK) (k:Nat) (tp:nX) (is:List Nat) (h:es.mapM (qx cx.names)=ab is) (nm:am) (xp:nX) (arg:bK) (pos:nX) (hd:tx nm=ao) (hg:cx.gl nm=ab (.ty "enumerate")) (hs:isStarred arg=ah):
  aat cx body (.Tuple es k tp) (.Call (.Name nm xp) [arg] [] pos) (.for is ah (.enum<|bQ cx ah arg) body)
theorem UQ (h:adO Y W j body=ab c):aat Y body W j c:=by
 refine aH (bind_some h) λZ T h=>?_;obtain⟨g,one⟩:=Z;have z:=EA T;dsimp only at z
 induction z with
 |one x S i D=>refine bC (cK h) λN h=>?_;obtain rfl:=ai h;exact .one x S j i (hO N).1 (uS (hO N).2) D
 |tup u k S g D=>
  refine aH (map_some h) λa I Z=>?_;subst Z;refine aH (bind_some I) λd X I=>aH (bind_some I) λx T I=>bC (cK I) λN I=>aH (bind_some I) λR J I=>?_;refine bC (cK I) λG I=>?_;cases I;refine aH (bind_some<|eq_of_beq (hO N).2) λq L e=>?_;obtain rfl:=PD e
  (refine(zC X)▸(vj T)▸?_;refine(tW J)▸(kg.mp (hO (hO N).1).2)▸?_)
  exact .en u k S g D x.1 x.2 a _ (hO (hO N).1).1 L (uS G)
theorem FR (D:bI w X n B j) (d:∀O H arg S,j=.Call (.Name O H) [arg] [] S->bI w X n B arg) (I:jk w X n B Q a):mj w X n B Q (.For W j a [] p):=by
 refineλY Z V T C=>XM λc P=>?_
 cases UQ P with
 |one x H j i G J h=>exact Q3 T C D I G J h
 |en u k b U h O H arg S g N G=>exact C7 T C (d _ _ _ _ rfl) I G g N h
inductive DF (g:eG) (p:PV) (v:Value) (K:aN) (μ:List bk) (h:eG):Prop
 |mk (a:bk) (oe:uz) (d:bk) (od:uz) (es:Array cE) (n:Nat) (x t:Value) (e:v=.ref a) (ga:g.get? a=al) (ho:h.get? a=ab oe) (c:oe.cls=.ref uF) (di:oe.dict=ab d) (da:oe.data=.fields #[t,.none,.none,.none,.bool ah,.none])
  (ka:K a=al) (ma:a∉μ) (kd:K d=ab od) (dd:od.data=.dict es n) (sk:ur es) (f:kR es "value"=ab x) (r:VR K μ p x)
def Xv (X:aN) (C:bk):Prop:=∃(O q:am) (N:bk) (I a:List Value) (l:Bool) (n:List am) (sub:List Value) (T:Bool) (m:Option Bool) (dd:Option bk) (k0 k1 z u R:Option Value) (i:String),
    X C=ab (Eb O q C N I a l n sub T m dd k0 k1 z u R i)/\a.contains (.type "BaseException")=ao
structure tC (w:dG) (KF:aN) (n:Nat) (Lp:nW):Prop where
 cls:Xv KF uF
 fn:∀a,(∃o fd,KF a=ab o/\o.data=.func fd)\/∀args,Lp a args=aP
 call:∀g a args vs,aj w KF [] n (λK μ h=>tF g K μ h/\bU K μ args vs) (Lp a args) (DF g) (call (.ref a) vs [])
section
variable {sub:List Value}
theorem HB (c:a.contains (.type "BaseException")=ao) (y:A.handled=al)
 (h:aD M A x (λv B=>∃e j t,v=.ref e/\B.heap.get? C=ab (Eb O q C N I a l n sub T m dd k0 k1 z u R i)/\
  B.heap.get? e=ab j/\j.cls=.ref C/\j.data=.fields #[t,.none,.none,.none,.bool ah,.none]/\E (.ref e) B) E s):
 aD M A (raiseStmt Z (ab x) al) Q E s:=by
 have r:(f6 C::a).contains (.type "BaseException")=true:=by rw[List.contains_cons,c,GO]
 unfold raiseStmt;refine ak<|aZ h (λv B f=>?_) λ_ _ x=>x
 refine IH f ?_;clear f;intro e j t S Y J k o X;subst S;obtain⟨F,g,d,tk,os⟩:=B;obtain⟨b,V,p,w⟩:=j;replace k:b=.ref C:=k;replace o:p=.fields #[t,.none,.none,.none,.bool ah,.none]:=o;subst k o
 repeat (first|with_reducible refine i4 J ?_|with_reducible refine i4 Y ?_|(with_reducible refine Xy Y ?_;refine(ae r)▸?_)|wp_step)
 exact wpAny_raiseNew_none y X
end
inductive R9 (cx:Cx):Option bK->CS->Prop
 |mk (x:am) (xp:nX) (args:List bK) (cp:nX) (a:bk) (hs:args.any isStarred=ah) (hd:tx x=ao) (hg:cx.gl x=ab (.ref a)):R9 cx (ab (.Call (.Name x xp) args [] cp)) (.raise a (pw cx args))
theorem LO (h:Pq Y o=ab c):R9 Y o c:=by
 refine aH (bind_some h) λe S T=>?_;subst S;refine aH (bind_some T) λd g h=>aH (bind_some h) λx Z h=>bC (cK h) λN h=>aH (bind_some h) λq L h=>?_;refine aH (map_some h) λa I S=>?_;subst S;obtain rfl:=uN I;refine iZ (Gu (hO N).1) λG z _=>?_
 (refine(zC g)▸(vj Z)▸?_;refine z▸?_)
 exact .mk x.1 x.2 _ _ a G (hO N).2 L
theorem HC (z:tC w X n Q) (hargs:∀e,bI w X n B e):mj w X n B Q (.Raise o al pos):=by
 refineλY env V hx hl=>XM λc hc=>?_
 cases LO hc with
 |mk x xp D cpos a hs hd hgl=>
 refine(arm_exec_Raise ..)▸?_;refine bz<|amB ?_ (pu (nU B (pw Y D) V) (λl=>Q a l) λp=>(ad3 p:IM (ge×bN))).symm
 refine ad8 z.cls λO q N I bm hdct S=>?_;refine ad8 S ?_;clear S;intro sn sub T col dd k0 rc2;refine Rq rc2 ?_;clear rc2;intro k1 k2 k3 R i hC hbase;intro A s K μ H M P iv c L
 have g:=po (V:=V) (r:=xp) (S:=cpos) (aaX _) hx hgl (rT hd) hs (λe _=>hargs e)
  (λK μ v f=>by
   obtain rfl:=(show v=.ref a from f);rcases z.fn a with ⟨o,fd,h1,W⟩|h
   ·exact .inl ⟨.inr<|.inr ⟨a,o,fd,rfl,h1,W⟩,λps vs=>z.call s.heap a ps vs⟩
   ·exact .inr h)
 generalize hM:(aw (nU B (pw Y D) V) λl=>Q a l)=M0 at g L|-
 have h0:M0 H≠.stuck:=λq=>L<|by(refine ag (fU ..) ?_;rw[q])
 refine Mh ?_;intro amv;refine HB (C:=uF) (O:=O) (q:=q) (N:=N) (I:=I) (a:=bm) (l:=hdct) (n:=sn) (sub:=sub) (T:=T) (m:=col) (dd:=dd) (k0:=k0) (k1:=k1) (z:=k2) (u:=k3) (R:=R) (i:=i) hbase P.hd ?_;refine xC ?_;intro ame;refine ak<|aZ (g A s K μ H M P iv ⟨c,λb o e=>⟨o,e⟩⟩ h0) (λv s₁ ⟨p,Z,k,J,ep,dL,G,f,gu⟩=>ak<|cb<|ar ?_) λy s₁ XV=>yc.casesOn XV λp Z k J ep dL G hex gu=>?_
 ·obtain⟨e,j,d,od,es,m,u,t,rfl,h0',h1,W,E,h4,U,h6,h7,F,h9,h10,h11⟩:=f;exact⟨e,j,t,rfl,G.sub _ _ (G.stat _ _ hC),h1,W,h4,⟨p,Z,k,J,by(refine ag (fU ..) ?_;refine(ae ep)▸?_);rfl,dL.mono HN,G,⟨e,j,d,_,od,es,m,u,rfl,h0',h1,W,E,h4,U,h6,h7,F,h9,h10,h11,.no rfl⟩,gu⟩⟩
 ·exact⟨p,Z,k,J,by(refine ag (fU ..) ?_;rw[ep]),dL.mono HN,G,hex,gu⟩
inductive NF (cx:Cx):List bK->bK->CS->Prop
 |name (x:am) (xp:nX) (v:bK) (i:Nat) (mu:Bool) (h:ln cx.names x=ab i):NF cx [.Name x xp] v (.assign i (bQ cx mu v))
 |mG (ts:List bK) (k:Nat) (tp:nX) (vs:List bK) (k2:Nat) (vp:nX) (is:List Nat) (hm:ts.mapM (qx cx.names)=ab is) (h1:vs.any isStarred=ah) (h2:aa vs=aa ts) (h3:(vs.all (np 8)&&!vs.all (oP 8))=ah) (h4:is.Nodup):NF cx [.Tuple ts k tp] (.Tuple vs k2 vp) (.mG is (G5 cx ts vs))
 |unp (ts:List bK) (k:Nat) (tp:nX) (v:bK) (is:List Nat) (hm:ts.mapM (qx cx.names)=ab is) (h:v.ctorIdx≠25):NF cx [.Tuple ts k tp] v (.unpack is (bQ cx ah v))
 |item (o i:bK) (sp:nX) (v:bK):NF cx [.Subscript o i sp] v (.setItem (bQ cx ah o) (bQ cx ah i) (bQ cx ah v))
theorem Ta (t:G.mapM (qx Y.names)=ab g) (h:Yu Y G g v=ab c):NF Y [.Tuple G k b] v c:=by
 unfold Yu at h;by_cases q:v.ctorIdx=25
 ·rw[if_pos q] at h;refine aH (bind_some h) λy I h=>bC (cK h) λN h=>?_;obtain rfl:=ai h;refine(yd I)▸?_;refine bC (hO N) λN X=>?_;exact bC (hO N) λN E=>bC (hO N) λJ W=>.mG _ _ _ _ _ _ _ t (uS J) (eq_of_beq W) (uS E) (of_decide_eq_true X)
 ·rw[if_neg q] at h;obtain rfl:=ai h;exact .unp _ _ _ _ _ t q
theorem VK (h:afl Y X v=ab c):NF Y X v c:=by
 refine aH (bind_some h) λt z h=>(tW z)▸?_;rcases o9 h with h|h
 ·refine aH (map_some h) λi D S=>?_;subst S;refine aH (sM D) λx e G=>?_;subst e;exact .name _ _ _ _ _ G
 ·rcases o9 h with h|h
  ·refine aH (bind_some h) λx T h=>aH (bind_some h) λg Z h=>(yd T)▸?_;exact Ta Z h
  ·refine aH (bind_some h) λx T h=>bC (cK h) λ_ h=>?_;obtain rfl:=ai h;refine(Vc T)▸?_;exact .item _ _ _ _
theorem R0 (d:∀e,bI w X n B e) (u:∀e,iI w X n B e):mj w X n B Q (.Assign G v p):=by
 refineλY Z V T C=>XM λc P=>?_
 cases VK P with
 |name x H v i F D=>
  cases L:C0 v with
  |false=>exact vt T C D (d v) _ (xW L)
  |true=>
   rcases KD L with q|q
   ·exact afW v q λA y scope S=>Dx T C D (d A) (λM iter N a _=>⟨d iter,λe _=>u e⟩) F
   ·exact(q ..)▸be
 |mG G k b U z R g t J W E O=>exact Lk T C t J W E O λe _=>d e
 |unp G k b v g t h=>exact Es T C t (d v) h
 |item o i j v=>exact Cm T C (d o) (d i)<|d v
mutual
theorem Zx (d:∀e,bI w X n B e) (u:∀e,iI w X n B e) (z:tC w X n Q):∀s,mj w X n B Q s
 |.Return al p=>eO λ_=>rfl
 |.Return (ab e) p=>Pm<|d e
 |.Assign G v p=>R0 d u
 |.AugAssign t I v p=>RX<|d v
 |.Expr e p=>MX<|d e
 |.If t a b p=>UE (u t) (pd d u z a)<|pd d u z b
 |.While t b [] p=>GV (u t)<|pd d u z b
 |.While t b (_::_) p=>eO λ_=>rfl
 |.For W j b [] p=>FR (d j) (λ_ _ arg _ _=>d arg)<|pd d u z b
 |.For W j b (_::_) p=>eO λ_=>rfl
 |.Break p=>RQ
 |.Continue p=>Nc
 |.Raise e al p=>HC z d
 |.Raise e (ab _) p=>eO λ_=>rfl
 |.FunctionDef ..=>eO λ_=>rfl
 |.AsyncFunctionDef ..=>eO λ_=>rfl
 |.ClassDef ..=>eO λ_=>rfl
 |.Delete ..=>eO λ_=>rfl
 |.TypeAlias ..=>eO λ_=>rfl
 |.AnnAssign ..=>eO λ_=>rfl
 |.AsyncFor ..=>eO λ_=>rfl
 |.With ..=>eO λ_=>rfl
 |.AsyncWith ..=>eO λ_=>rfl
 |.Match ..=>eO λ_=>rfl
 |.Try ..=>eO λ_=>rfl
 |.TryStar ..=>eO λ_=>rfl
 |.Assert ..=>eO λ_=>rfl
 |.Import ..=>eO λ_=>rfl
 |.ImportFrom ..=>eO λ_=>rfl
 |.Global ..=>eO λ_=>rfl
 |.Nonlocal ..=>eO λ_=>rfl
 |.Pass ..=>eO λ_=>rfl
theorem pd (d:∀e,bI w X n B e) (u:∀e,iI w X n B e) (z:tC w X n Q):∀l,jk w X n B Q l
 |[]=>P2
 |s::r=>Nd (Zx d u z s)<|pd d u z r
end
noncomputable def fw (a:Nat) (y:List PV):bN:=y.map ab++aW (a-aa y) al
noncomputable def sQ:bN->Nat->List PV->bN
 |σ,_,[]=>σ
 |σ,j,p::y=>sQ (σ.set j<|ab p) (j+1) y
theorem uJ:∀y pre m,aa y<=m->sQ (pre++aW m al) (aa pre) y=pre++(y.map ab++aW (m-aa y) al)
 |[],pre,m,_=>by simp[sQ]
 |p::y,pre,0,h=>by simp at h
 |p::y,pre,m+1,h=>by
  have e:(pre++aW (m+1) (al:Option PV)).set (aa pre) (ab p)=(pre++[ab p])++aW m none:=by simp[List.replicate_succ]
  have o:=uJ y (pre++[ab p]) m<|by simpa using h
  simp only[sQ];refine e▸?_;have C:aa (pre++[ab p])=aa pre+1:=by simp
  rw[C] at o;refine ag o ?_;simp
theorem Cn (w ps) (h:aa ps<=w):sQ (aW w al) 0 ps=fw w ps:=by have:=uJ ps [] w h;simpa[fw] using this
theorem uf:∀Y n S x,((∃c,S.lookup x=ab c)\/Y.lookup x=ab .cell)->∃c,(xl n Y S).lookup x=ab c
 |[],n,S,x,h=>by
  rcases h with h|h
  ·exact h
  ·simp at h
 |(y,k)::r,n,S,x,h=>by
  unfold xl;rw[br] at h;by_cases z:(k==Su)=ao
  ·refine(if_pos z)▸?_;refine uf r (n+1) _ x ?_;rw[br]
   cases j:x==y with
   |true=>exact .inl ⟨n,rfl⟩
   |false=>rw[j] at h;exact h
  ·refine(if_neg z)▸?_;refine uf r n S x ?_;rcases h with h|h
   ·exact .inl h
   ·cases j:x==y with
    |true=>rw[j] at h;obtain rfl:=ai h;exact absurd rfl z
    |false=>rw[j] at h;exact .inr h
theorem afd (J:vy Z) (g:Y.Nodup) (f) (I:∀n v u,f (n,v) u=(do afC Z n v;pure (.yield ⟨⟩)))
 {K:aN}:
 ∀(d:List (am×Value)) (W:List PV) (j:Nat) (V:bN) (s:bh) (Q:PUnit->bh->Prop),
  (∀i x v,d[i]?=ab (x,v)->Y[j+i]?=ab x/\(Z.kindOf x=ab .local\/Z.kindOf x=ab .cell))->bU K O W (d.map (·.2))->j+aa d<=aa V->Inv X K O H M s.heap->aS Z Y V K O s.heap->
  (∀F,Step (aX Z) K O s.heap K O F.heap->Inv X K O H M F.heap->aS Z Y (sQ V j W) K O F.heap->aV s F->Q ⟨⟩ F)->aD (MM w) A (forIn d ⟨⟩ f) Q E s:=by
 intro d
 induction d with
 |nil=>
  intro W j V s Q _ a _ N fr h
  induction W with
  |nil=>exact ar<|h s (iM ..) N fr<|.refl s
  |cons p W=>cases a.length
 |cons b r o=>
  intro W j V s Q R a S N fr h;refine na ?_;intro D;cases W with|nil=>cases a.length|cons p W=>?_
  (refine kI (cA ..)<|(I ..)▸?_)
  refine cL a λB G e L a=>?_;have C:=z7 e;rw[<-C.2] at a;rw[<-C.1] at L;have k:=R 0 b.1 b.2 rfl;have U:=kS (w:=w) (A:=A) (E:=E) J k.1 g (lJ (jn<|mn _) S) (k.2.imp id λq=>⟨q,λ_ m=>m⟩) bc N ⟨fr,L⟩;refine ak<|ak<|aZ U (λ_ F z=>ar ?_) λ_ _ x=>x
  refine o W (j+1) _ F Q (λi y u q=>?_) (vH z.1 a) (by(refine(ae d6)▸?_;refine(d8 ..)▸?_;refine(ae (gh 1 ..))▸?_);exact S) z.2.1 z.2.2.1 λc T t l P=>h c (z.1.trans T) t l<|z.2.2.2.trans P
  refine(ae<|show j+1+i=j+(i+1) by rw[d8,gh 1 i])▸?_;exact R (i+1) y u q
noncomputable def tB (K:aN) (L:bk):aN:=⟨K.P,K.f,λa=>K.fr a\/a=L⟩
theorem Inv.tB {K:aN} (N:Inv X K O H Y h) (L):Inv X (Internal.tB K L) O H Y h:=
 ⟨N.par,N.stat,N.sub,N.kf,⟨N.ky.len,N.ky.nodup,λi a l D C=>by
  obtain⟨k,o,n,U,e,c,d,r⟩:=N.ky.at_ i a l D C;have:=ro (K:=K) (K':=Internal.tB K L) (R:=[]) rfl (λ_ _ e=>e) l U r
  exact⟨k,o,n,U,e,c,d,by simpa using this⟩⟩,⟨λZ J=>by
  obtain⟨k,M,o,f,v,m,e,fo,fr⟩:=N.stk.all Z J
  exact⟨k,M,o,f,v,m,e,fo,.inl fr⟩⟩⟩
theorem uX {code:Value} {K:aN} {O:List bk} {H:Hp} {M:List lV} {E:Value->bh->Prop} {Q:lV->bh->Prop}
 (hk:scope.kind=.function) (g:(scope.names.map (·.1)).Nodup) (hfree:∀x∈scope.names,x.2≠.free)
 (R:∀(i:Nat) (x:am) (v:Value),d[i]?=ab (x,v)->(scope.names.map (·.1))[i]?=ab x/\(scope.names.lookup x=ab .local\/scope.names.lookup x=ab .cell))
 (hps:bU K O y (d.map (·.2))) (J:aa d<=aa scope.names) (N:Inv X K O H M s.heap)
 (hQ:∀env F j,env=newEnv scope s.heap.objs.size 3 (xl (s.heap.objs.size+1) scope.names []) qual Z code al 0->vy env->(∀a∈aX env,s.heap.get? a=al)->Step [] K O s.heap j O F.heap->Inv X j O H (env::M) F.heap->
  aS env (scope.names.map (·.1)) (fw (aa scope.names) y) j O F.heap->aV s F->Q env F):
 aD (MM w) A (Jm scope 3 [] d qual Z code al 0) Q E s:=by
 simp only[Jm,Option.isSome_none,bO,if_false];refine ak<|wpAny_alloc ?_
 refine ak<|wpAny_layCells _ (λname kind cells=>by cases hkc:kind==Su<;>simp[hkc]) _ _ _ _ ?_
 have C:=cellsFrom_ok scope.names (s.heap.push {cls:=.type "frame",data:=.dict #[]}) (s.heap.objs.size+1) [] ⟨λ_ _ t=>(nomatch t),BY⟩<|by exact(je ..)▸bS _
 rw[je] at C;refine(je ..)▸?_;generalize l:newEnv scope s.heap.objs.size 3 (xl (s.heap.objs.size+1) scope.names []) qual Z code al 0=env;have D:env.cells=xl (s.heap.objs.size+1) scope.names []:=by refine(l)▸?_;rfl
 have L:env.locals=s.heap.objs.size:=by refine(l)▸?_;rfl
 have f:env.scope=scope:=by refine(l)▸?_;rfl
 have B:∀x,env.kindOf x=scope.names.lookup x:=λx=>by unfold SB;rw[f]
 have r:vy env:=⟨by exact f▸hk,by refine(l)▸?_;rfl,by refine(l)▸?_;rfl,by exact D▸C.apart,λx hx=>by
  rw[B] at hx;refine D▸?_;rcases hx with hx|hx
  ·exact uf _ _ _ x (.inr hx)
  ·exact absurd rfl<|hfree _ (mem_of_lookup hx)⟩
 have kp:de s.heap (xj (s.heap.push {cls:=.type "frame",data:=.dict #[]}) scope.names):=λb o e=>⟨o.slots,GA _ _ b o (aQ _ e),.inl rfl⟩;have k:=(N.keep kp).tB env.locals
 have ahS:bU (Internal.tB K env.locals) O y (d.map (·.2)):=by have:=ro (K:=K) (K':=Internal.tB K env.locals) (R:=[]) rfl (λ_ _ e=>e) _ _ hps;simpa using this
 have h:s.heap.get? env.locals=none:=by exact(ae L)▸bW _
 have hLo:(xj (s.heap.push {cls:=.type "frame",data:=.dict #[]}) scope.names).get? env.locals=ab {cls:=.type "frame",data:=.dict #[]}:=by exact(ae L)▸GA _ _ _ _ (b5 _ rfl)
 have G:Inv X (Internal.tB K env.locals) O H (env::M) (xj (s.heap.push {cls:=.type "frame",data:=.dict #[]}) scope.names):=by
  refine⟨k.par,k.stat,k.sub,k.kf,k.ky,⟨λV he=>?_⟩⟩;rcases aL.mp he with rfl|he
  ·exact⟨by(refine(ae f)▸(ae hk)▸?_);decide,V.locals,_,by refine(l)▸?_;rfl,N.cN h,N.dY h,hLo,⟨rfl,_,_,rfl⟩,.inr rfl⟩
  ·exact k.stk.all V he
 have hcn:∀x c,(x,c)∈env.cells->s.heap.get? c=al/\c≠env.locals:=λx c P=>by rw[D] at P;have:=(C.empty x c P).2;exact⟨iL<|eS this,by exact(ae L)▸oY this⟩
 have m:∀a∈aX env,s.heap.get? a=none:=λa I=>by
  simp only[aX,aL,b2] at I;rcases I with rfl|⟨⟨x,c⟩,P,rfl⟩
  ·exact h
  ·exact(hcn x c P).1
 have W:aS env (scope.names.map (·.1)) (aW (aa scope.names) al) (Internal.tB K env.locals) O (xj (s.heap.push {cls:=.type "frame",data:=.dict #[]}) scope.names):=by
  refine⟨λ_=>al,?_,N.cN h,N.dY h,λx c P=>?_,λi x p _ hp=>?_⟩
  ·exact(ae L)▸(Heap.Ns.new s.heap<|.type "frame").keeps (GA _ _)
  ·refine bC (hcn x c P) λh1 h2=>?_;rw[D] at P;exact⟨N.cN h1,N.dY h1,h2,al,(C.empty x c P).1⟩
  ·rw[GD] at hp;split at hp<;>cases hp
 refine ak<|afd r g _ (λn v u=>by refine(l)▸?_;rfl) d y 0 (aW (aa scope.names) al) {s with heap:=xj (s.heap.push {cls:=.type "frame",data:=.dict #[]}) scope.names} _ (λi x v q=>?_) ahS (by simpa using J) G W λF st xZ Y U=>ar ?_
 ·have:=R i x v q
  (refine(ae (fO ..))▸(ae (B ..))▸?_);exact this
 ·have T:aa y<=aa scope.names:=by have:=hps.length;simp at this;exact cP (bj [aa d,aa scope.names,aa y] [] [(1,aJ,bf),(1,ct,aJ),(1,xi bf,ct)] rfl (cl J)<|cl<|an<|ae this)
  rw[Cn _ _ T] at Y
  have st0:Step [] K O s.heap (Internal.tB K env.locals) O (xj (s.heap.push {cls:=.type "frame",data:=.dict #[]}) scope.names):=
   have z:=kp.step (K:=K) (μ:=O)
   ⟨z.par,z.kle,z.new,z.pre,z.there,z.keep,λa q=>by
     rcases q with q|q
     ·exact .inl q
     ·refine(ae q)▸?_;exact .inr h⟩
  have S:Step [] K O s.heap (Internal.tB K env.locals) O F.heap:=st0.hide st λa I=>.inr<|m a I
  have:=hQ env F _ l.symm r m S xZ Y U;rw[<-l] at this;exact this
theorem Ej:∀(Y:List am) (c:List Value),aa Y=aa c->∀n∈Y,∃v,(Y.zip c).lookup n=ab v
 |[],_,_,n,h=>by simp at h
 |a::r,[],h,_,_=>by simp at h
 |a::r,v::U,h,n,B=>by
  (refine pq▸?_;rw[br])
  cases q:n==a with
  |true=>exact⟨v,rfl⟩
  |false=>
   rcases aL.mp B with e|e
   ·subst e;simp at q
   ·exact Ej r U (by simpa using h) n e
theorem FS:∀l:List u,(∀a∈l,f a=g a)->l.filterMap f=l.filterMap g
 |[],_=>rfl
 |a::r,h=>by rw[eV,eV,h a (by simp),FS r λb R=>h b<|by simp[R]]
theorem JH:∀(Y:List am) (c:List Value),aa Y=aa c->Y.Nodup->(Y.filterMap λn=>((Y.zip c).lookup n).map (n,·))=Y.zip c
 |[],[],_,_=>rfl
 |[],_::_,h,_=>by simp at h
 |a::r,[],h,_=>by simp at h
 |a::r,v::U,h,B=>by
  rw[lb] at B;have o:=JH r U (by simpa using h) B.2
  (refine pq▸ag eV ?_)
  have J:gX a ((a,v)::r.zip U)=ab v:=by refine ag br ?_;simp
  refine J▸?_;dsimp only[ym];congr 1;refine ag ?_ o;refine FS r λn t=>?_;rw[br]
  have:(n==a)=false:=by
   cases q:n==a with
   |true=>have:=beq_iff_eq.mp q;subst this;exact absurd t B.1
   |false=>rfl
  rw[this]
structure jR (p:jy):Prop where
 pos:p.posonlyargs=[]
 var:p.vararg=al
 kwo:p.kwonlyargs=[]
 kwa:p.kwarg=al
theorem jR.eq (h:jR p):p=⟨[],p.args,al,[],p.kw_defaults,al,p.defaults⟩:=by
 cases p with|mk a b c d e f g=>?_
 cases h with|mk J W E X=>?_
 subst J;subst W;subst E;subst X;rfl
noncomputable def yK (x:am×Value) (r:List (am×Value)):jE (ForInStep<|List<|am×Value):=if(r.lookup x.1).isNone=ao then pure (.yield<|r++[(x.1,x.2)]) else pure (.yield r)
theorem Mf (L:List (am×Value)):(∀x∈L,∃v,slots.lookup x.1=ab v)->(forIn L slots yK:jE _)=pure slots:=by
 induction L with
 |nil=>exactλ_=>rfl
 |cons x r o=>
  intro h;refine bd (h x bc) λv f=>?_
  (refine ag (cA ..)<|(show yK x slots=pure (.yield slots) from if_neg<|by rw[f];exact bp)▸?_)
  exact o λx T=>h x<|bb _ T
def jZ (h:eG) (v:Value) (D:List Value):Prop:=(v=.none/\D=[])\/∃d o n,v=.ref d/\h.get? d=ab o/\o.data=.seq (af D) n
theorem ys (h:jZ s.heap v D) (l:∀o:Option (Array Value),(o.getD #[]).toList=D->Q o s):aD M A (DO v) Q E s:=by
 rcases h with ⟨rfl,rfl⟩|⟨d,o,n,rfl,L,g⟩
 ·exact ar<|l al rfl
 ·exact Jg L g<|l _ rfl
theorem qK (F:jR fd.params) (g:jZ s.heap fd.defaults D)
 (J:aa c<=aa (fd.params.args.map (·.arg)))
 (W:(((fd.params.args.map (·.arg)).take (aa (fd.params.args.map (·.arg))-aa (D.drop (aa D-aa (fd.params.args.map (·.arg)))))).filter λn=>(((fd.params.args.map (·.arg)).zip c).lookup n).isNone).isEmpty=ao)
 (Z:(forIn (((fd.params.args.map (·.arg)).drop (aa (fd.params.args.map (·.arg))-aa (D.drop (aa D-aa (fd.params.args.map (·.arg)))))).zip (D.drop (aa D-aa (fd.params.args.map (·.arg))))) ((fd.params.args.map (·.arg)).zip c) yK:jE _)=pure r)
 (X:((fd.params.args.map (·.arg)).filterMap λn=>(r.lookup n).map (n,·))=res) (l:Q res s):aD M A (qU fd ⟨c,[]⟩) Q E s:=by
 unfold qU;rw[F.eq];refine ak<|kP rfl<|ak<|ys g λo L=>?_
 rw[<-L] at W Z;refine sJ (λh=>absurd (of_decide_eq_true ((bt _ _).mp h).1)<|cW.mpr J)<|sJ (λh=>absurd (ag W.symm<|jV _▸h) kh) ?_
 refine ak<|kP Z ?_
 refine ak<|kP rfl<|ar ?_
 show Q (tH (λn=>(r.lookup n).map (n,·)) (fd.params.args.map (·.arg)++[])) s;rw[fh];exact X▸l
theorem iC {fd:wI} (F:jR fd.params) (g:jZ s.heap fd.defaults D) (C:aa (fd.params.args.map (·.arg))=aa c) (B:(fd.params.args.map (·.arg)).Nodup)
 (l:Q ((fd.params.args.map (·.arg)).zip c) s):aD M A (qU fd ⟨c,[]⟩) Q E s:=by
 have N:=Ej _ c C;refine qK F g (an C.symm) ?_ (Mf _ λx T=>N _ (List.mem_of_mem_drop (List.of_mem_zip T).1)) (JH _ c C B) l;rw[kg,ju];intro n B;refine bd (N n<|List.mem_of_mem_take B) λv f=>?_;rw[f];exact bp
theorem AH (F:jR fd.params) (I:fd.params.args=[a,b]) (G:(b.arg==a.arg)=ah) (g:jZ s.heap fd.defaults [d])
 (l:Q [(a.arg,v),(b.arg,d)] s):aD M A (qU fd ⟨[v],[]⟩) Q E s:=by
 have t:fd.params.args.map (·.arg)=[a.arg,b.arg]:=by rw[I];rfl
 have y:gX a.arg [(a.arg,v)]=ab v:=by rw[br,beq_self_eq_true]
 have D:gX b.arg [(a.arg,v)]=none:=by rw[br,G];rfl
 refine qK (r:=[(a.arg,v),(b.arg,d)]) F g ?_ ?_ ?_ ?_ l<;>rw[t]
 ·exact eh 1
 ·show(afP _ [a.arg]).isEmpty=ao;rw[gy<|by rw[show gX a.arg (XB [a.arg,b.arg] [v])=ab v from y];exact bp];rfl
 ·show forIn [(b.arg,d)] [(a.arg,v)] yK=_;rw[cA,show yK (b.arg,d) [(a.arg,v)]=pure (.yield<|[(a.arg,v)]++[(b.arg,d)]) from if_pos<|by rw[D];rfl];rfl
 ·rw[eV,show gX a.arg [(a.arg,v),(b.arg,d)]=ab v by rw[br,beq_self_eq_true],eV,show gX b.arg [(a.arg,v),(b.arg,d)]=ab d by rw[br,G,br,beq_self_eq_true]];rfl
def jj (F:bk->Prop) (S:List bk) (h G:eG):Prop:=∀b o,b∉S->h.get? b=ab o->∃p,G.get? b=ab {o with slots:=p}/\(p=o.slots\/(b4 o/\F b))
theorem jj.trans (x:jj F S h f) (y:jj F S f h₂):jj F S h h₂:=λb o R e=>by
 refine aH (x b o R e) λp m q1=>aH (y b _ R m) λn i c=>⟨n,i,?_⟩;rcases q1 with rfl|q1
 ·exact c
 ·exact .inr q1
theorem jj.mono (x:jj F S h h') (G:∀b∈S,b∈T):jj F T h h':=λb o R e=>x b o (λq=>R<|G b q) e
theorem Inv.kA {X K:aN} (N:Inv X K O H M h) (W:∀b∈S,K b=al/\b∉O/\∀o,h.get? b=ab o->¬b4 o) (x:jj K.fr S h h'):Inv X K O H M h':=
 ⟨N.par,N.stat,λb o e=>by
    refine aH (x b o (λm=>by rw[(W b m).1] at e;cases e)<|N.sub b o e) λp Y q=>?_;rcases q with rfl|q
    ·exact Y
    ·exact absurd q.1<|N.kf b o e,N.kf,
  ⟨N.ky.len,N.ky.nodup,λi b l D C=>by
   obtain⟨k,o,n,U,e,c,r,A⟩:=N.ky.at_ i b l D C;refine aH (x b o (λm=>(W b m).2.1<|bq D) e) λp Y q=>?_;rcases q with rfl|q
   ·exact⟨k,o,n,U,Y,c,r,A⟩
   ·exact absurd q.1<|N.ky.Bf D e⟩,
  ⟨λZ J=>by
   obtain⟨k,L,o,f,v,m,e,fo,fr⟩:=N.stk.all Z J
   exact aH (x L o (λq=>(W L q).2.2 o e fo) e) λp Y _=>⟨k,L,_,f,v,m,Y,fo,fr⟩⟩⟩
theorem Step.kA {K K₁:aN} (st:Step W K O g K₁ J h) (Y:∀b∈S,g.get? b=fM) (x:jj K₁.fr S h h'):Step W K O g K₁ J h':=
 ⟨st.par,st.kle,st.new,st.pre,λa o e=>by
     refine bd (st.there a o e) λu V=>aH (x a u (λq=>by rw[Y a q] at e;cases e) V) λp m _=>?_;exact⟨_,m⟩,
  λa o e t U=>by
   refine aH (st.keep a o e t U) λp V hs=>aH (x a _ (λq=>by rw[Y a q] at e;cases e) V) λn m Z=>?_;refine⟨n,m,?_⟩;rcases hs with rfl|hs
   ·refine Z.imp id λq=>⟨q.1,?_⟩;rcases st.frs a q.2 with r|r
    ·exact r
    ·rw[e] at r;cases r
   ·exact .inr hs,st.frs⟩
noncomputable def Y0:Heap:={objs:=#[]}
theorem va {K:aN}:∀{M},vu K O M h->h.FunFrames Y0 M
 |[],_=>trivial
 |env::M,st=>by
  obtain⟨k,L,o,f,v,m,e,fo,fr⟩:=st.all env<|by simp
  refine bC fo λc S=>kY S λu n d=>?_;exact⟨k,⟨L,o,f,rfl,e,λU q=>by rw[d] at q;cases q⟩,va ⟨λenv J=>st.all env<|by simp[J]⟩⟩
theorem vu.Br {K:aN} (st:vu K O M h) (R:b∈M.filterMap (·.frame)):∃o,h.get? b=ab o/\b4 o/\K.fr b:=by rw[List.mem_filterMap] at R;refine aH R λZ J e=>?_;obtain⟨k,L,o,f,v,m,V,fo,fr⟩:=st.all Z J;rw[f] at e;obtain rfl:=ai e;exact⟨o,V,fo,fr⟩
theorem AA {K:aN} (st:vu K O M h) (x:Heap.SlotsOnly (M.filterMap (·.frame)) h h') (S):jj K.fr S h h':=λb o _ e=>by
 by_cases q:b∈M.filterMap (·.frame)
 ·refine gG (st.Br q) λu V fo fr=>?_;rw[e] at V;obtain rfl:=ai V;exact bd (x.2.2 b o e) λp m=>⟨p,m,.inr ⟨fo,fr⟩⟩
 ·exact⟨o.slots,by exact ag (x.2.1 b q)<|e,.inl rfl⟩
theorem CQ (h o S):jj F S h (h.push o):=λ_ u _ e=>⟨u.slots,aQ o e,.inl rfl⟩
theorem oi (h a f):jj F [a] h (h.update a f):=λb o R e=>⟨o.slots,by
 refine ag (fJ _ _ λq=>R<|by simp[q]) ?_;exact e,.inl rfl⟩
theorem w9 {K:aN} (C:A.frames=ab (Z::fs)) (st:vu K O (Z::fs) s.heap) (Y:Z.frame=ab L)
 (J:s.heap.get? e=ab j) (g:j.data=.fields U) (V:1<U.size)
 (h:∀G T y ts,jj K.fr [e] s.heap G->s.heap.get? T=al->T≠e->G.get? T=ab y->y.data=.fields ts->ts[3]?=ab f7->
  G.get? e=ab (j.mapFields (·.setIfInBounds 1 (.ref T)))->Q () {s with heap:=G}):
 aD M A (do let a <-frameOf Z;let D <-entryPlaceOf L hadNext;let b <-D2 B a .none (pI L) .none D;setField (.ref e) 1 b) (λ_ F=>aD M A (xh (.ref e) al) Q E F) E s:=by
 have ah6:e∉(Z::fs).filterMap (·.frame):=λt=>by refine gG (st.Br t) λo ho fo _=>?_;rw[J] at ho;obtain rfl:=ai ho;refine bC fo λ_ S=>kY S λu n d=>?_;rw[g] at d;cases d
 refine ak<|wpAny_frameOf_fun C (va st) Y λh₁ H=>?_
 have i:=AA st H [e];refine ak<|wpAny_entryPlaceOf λD hpl=>?_
 unfold D2 newFields;refine ak<|rC ?_ (hpl.sizeOk5 _ _ _ _ _)
 have r:=ag (H.2.1 e ah6) J;generalize hT0:({cls:=.type "traceback",dict:=al,data:=.fields (af<|[B,.ref L,.none,pI L,.none]++(if D.isEmpty then aW 6 f7 else D))}:uz)=k;have v:k.data=.fields (af<|[B,.ref L,.none,pI L,.none]++(if D.isEmpty then aW 6 f7 else D)):=by rw[<-hT0]
 have ah2:=jU v;have N:=aQ k r;refine qR N g V ?_;have w:=oY<|dS r
 have I:=hZ g (·.setIfInBounds 1 (f6 h₁.objs.size));have P:=ei (nz (·.setIfInBounds 1 (f6 h₁.objs.size))) N<|jU I
 have z:=ag (fJ (h₁.push k) (nz (·.setIfInBounds 1 (f6 h₁.objs.size)))<|jm w)<|b5 h₁ ah2
 unfold xh;refine ak<|kQ P I (x:=.ref h₁.objs.size) (by simp[V]) ?_
 refine kI (if_pos rfl) ?_
 have X:3<([B,.ref L,.none,pI L,.none]++(if D.isEmpty then aW 6 f7 else D)).toArray.size:=by(refine aR▸aI▸?_);exact lJ (by decide:3<5)<|cn _ _
 refine qR z v X ?_;have c:=hZ v (·.setIfInBounds 3 ((al:Option bk).elim f7 λf=>pI f))
 have W:s.heap.get? h₁.objs.size=none:=by have:=H.1;exact this▸bW _
 refine h _ h₁.objs.size _ _ ?_ W w (ei _ z (jU c)) c (by
  refine ag z9 ?_
  simp only[if_true,if_pos X];rfl) ?_
 ·intro b o R eo;exact aH ((i.trans ((CQ h₁ k [e]).trans (oi (h₁.push k) e (nz (·.setIfInBounds 1 (f6 h₁.objs.size)))))) b o R eo) λp m l=>⟨p,by refine ag (fJ _ _ λq=>by rw[<-q,W] at eo;exact aC eo) ?_;exact m,l⟩
 ·refine ag (fJ _ _ w) ?_;exact P
theorem w6 {A:iF} (h:A.guards=ab []):(A.deeper Z).guards=ab []:=h
theorem zl {A:iF} (h:A.guards=ab []) (P:c.guards=[]):(A.under c).guards=ab []:=by show pushGuards c.guards A.guards=_;exact(ae P)▸h
theorem BA (o:uz) (f):(o.mapFields f).dict=o.dict:=by obtain⟨c,d,B,p⟩:=o;cases B<;>rfl
theorem Inv.pop {X K:aN} (N:Inv X K O H (Z::M) h):Inv X K O H M h:=
 ⟨N.par,N.stat,N.sub,N.kf,N.ky,⟨λe J=>N.stk.all e<|by simp[J]⟩⟩
theorem y1 {X K gH:aN} (C:A.frames=ab (Z::fs)) (N:Inv X K O H (Z::fs) s.heap)
 (x:j2 g K O p e s.heap) (Y:Z.frame=ab L) (st:Step W gH tq g K O s.heap)
 (l:∀F,Inv X K O H (Z::fs) F.heap->Step W gH tq g K O F.heap->j2 g K O p e F.heap->aV s F->Q () F):aD M A (Oa e Z) (λ_ t=>aD M A (xh e al) Q E t) E s:=by
 obtain⟨a,oe,d,U,od,u,n,v,rfl,ga,I,k,P,B,ka,ma,r,m,q,D,hv,htb⟩:=x
 have nfe:∀o,s.heap.get? a=ab o->¬b4 o:=λo e f=>by rw[I] at e;obtain rfl:=ai e;refine bC f λ_ S=>kY S λu n d=>?_;rw[B] at d;cases d
 unfold Oa;simp only[Y];rcases htb with J|⟨T,y,ts,J,gT,hTa,kT,mT,hT,c,h3⟩
 ·refine acP ?_;intro akO;refine ak<|kQ I B J ?_
  refine kI (if_neg<|by decide)<|w9 C N.stk Y I B (fF.mp J).1 λh' T' oT' ts' k' w h V d' t' j=>?_
  have xZ:=(N.kA (λb R=>by simp at R;subst R;exact⟨ka,ma,nfe⟩) k');have z:=st.kA (λb R=>by simp at R;subst R;exact ga) k'
  exact l _ xZ z ⟨a,_,d,_,od,u,n,v,rfl,ga,j,ag (xK ..) k,ag (BA ..) P,hZ B _,ka,ma,r,m,q,D,hv,
   .at T' oT' ts' (by simp[(fF.mp J).1]) (st.none w) h (N.cN w) (N.dY w) V d' t'⟩ ⟨rfl,rfl⟩
 ·have nfT:∀o,s.heap.get? T=ab o->¬b4 o:=λo e f=>by
   rw[hT] at e;obtain rfl:=ai e;refine bC f λ_ S=>kY S λu n d=>?_;rw[c] at d;cases d
  refine ak<|kQ I B J ?_
  refine kI (if_pos<|by simp)<|ak<|kQ hT c h3 ?_
  refine kI (if_neg<|by simp[pI])<|ak<|qR hT c (fF.mp h3).1 ?_
  have i:jj K.fr [a,T] s.heap (s.heap.update T (nz (·.setIfInBounds 3 f7))):=(oi s.heap T _).mono<|by simp
  have hS:∀b∈[a,T],K b=al/\b∉O/\∀o,s.heap.get? b=ab o->¬b4 o:=λb R=>by
   simp only[aL,aY,or_false] at R;rcases R with rfl|rfl
   ·exact⟨ka,ma,nfe⟩
   ·exact⟨kT,mT,nfT⟩
  have hG:∀b∈[a,T],g.get? b=none:=λb R=>by
   simp only[aL,aY,or_false] at R;rcases R with rfl|rfl
   ·exact ga
   ·exact gT
  have G:=N.kA hS i;have ha₁:(s.heap.update T (nz (·.setIfInBounds 3 f7))).get? a=ab oe:=by refine ag (fJ _ _ hTa) ?_;exact I
  refine w9 C G.stk Y ha₁ B (fF.mp J).1 λh' T' oT' ts' k' w h V d' t' j=>?_;have k₂:=i.trans<|k'.mono<|by simp
  have xZ:=(N.kA hS k₂);have z:=st.kA hG k₂;have dL:=st.kA hG i
  exact l _ xZ z ⟨a,_,d,_,od,u,n,v,rfl,ga,j,ag (xK ..) k,ag (BA ..) P,hZ B _,ka,ma,r,m,q,D,hv,
   .at T' oT' ts' (by simp[(fF.mp J).1]) (dL.none w) h (G.cN w) (G.dY w) V d' t'⟩ ⟨rfl,rfl⟩
theorem Fp {X K G:aN} (C:A.frames=ab (Z::V)) (N:Inv X K O H (Z::V) s.heap)
 (x:j2 g K O p e s.heap) (Y:Z.frame=ab L) (st:Step W G i g K O s.heap)
 (l:∀F,Inv X K O H V F.heap->Step W G i g K O F.heap->j2 g K O p e F.heap->aV s F->Q () F):aD M A (leaving Z e) Q E s:=
 ak (y1 C N x Y st λF P=>l F P.pop)
mutual
noncomputable def i8:PV->Bool
 |.dR _=>ah
 |.tup l=>gS l
 |.lst l=>gS l
 |.dct _ l=>gS l
 |.xD _ l=>gS l
 |.none=>ao
 |.bool _=>ao
 |.int _=>ao
 |.str _=>ao
 |.bytes _=>ao
 |.ref _=>ao
 |.ty _=>ao
 |.blt _=>ao
 |.JV _ _=>ao
 |.tZ=>ao
 |.Au=>ao
noncomputable def gS:List PV->Bool
 |[]=>ao
 |p::l=>i8 p&&gS l
end
mutual
theorem VR.i8 {K:aN}:∀p v,Internal.i8 p=ao->VR K O p v->VR K R p v
 |.none,_,_,h|.bool _,_,_,h|.int _,_,_,h|.str _,_,_,h|.bytes _,_,_,h|.ref _,_,_,h|.ty _,_,_,h|.blt _,_,_,h|.Au,_,_,h|.tZ,_,_,h|.JV _ _,_,_,h=>h
 |.tup l,v,q,h|.lst l,v,q,h=>by obtain⟨a,o,n,U,e,k,c,d,r⟩:=h;exact⟨a,o,n,U,e,k,c,d,bU.i8 l U q r⟩
 |.dR i,v,q,h=>nomatch q
 |.dct j l,v,q,h|.xD j l,v,q,h=>by obtain⟨a,o,n,u,e,k,c,d,b,E,z,r⟩:=h;exact⟨a,o,n,u,e,k,c,d,b,E,z,bU.i8 l _ q r⟩
theorem bU.i8 {K:aN}:∀l U,gS l=ao->bU K O l U->bU K R l U
 |[],_,_,h=>h
 |p::l,U,q,h=>by refine cL h λv r e a b=>?_;exact⟨v,r,e,VR.i8 p v (hO q).1 a,bU.i8 l r (hO q).2 b⟩
end
theorem lu:i8 (.tup l)=gS l:=rfl
theorem lw:i8 (.str l)=true:=rfl
theorem iV:i8 (.bytes l)=true:=rfl
theorem lx:i8 (.int i)=true:=rfl
theorem fi:gS (p::l)=(i8 p&&gS l):=rfl
theorem f9:gS []=true:=rfl
noncomputable def cZ (H:Hp):Bool:=H.all gS
def callEnd (j:Bool) (n:Nat) (H':Hp) (p:PV):j1 PV:=if j then .ok p H' else if cZ (H'.take n) then(wU p).elim (if i8 p then .ok p (H'.take n) else .stuck) λi=>if n<=i then(H'[i]?).elim .stuck λl=>if gS l then .ok (.lst l) (H'.take n) else .stuck else .stuck else .stuck
inductive ai9 (n:Nat) (H':Hp) (p:PV) (o:j1 PV):Prop
 |keep (e:o=.ok p H')
 |lst (i:Nat) (l:List PV) (hp:p=.dR i) (hi:n<=i) (hl:H'[i]?=ab l) (hn:gS l=ao) (hok:cZ (H'.take n)=ao) (e:o=.ok (.lst l) (H'.take n))
 |val (hn:i8 p=ao) (hok:cZ (H'.take n)=ao) (e:o=.ok p (H'.take n))
theorem aip (h:callEnd keep n H' p≠.stuck):ai9 n H' p (callEnd keep n H' p):=by
 unfold callEnd at h|-
 by_cases z:keep=ao
 ·exact(if_pos z)▸.keep rfl
 rw[if_neg z] at h|-
 by_cases t:cZ (H'.take n)=ao
 case neg=>rw[if_neg t] at h;exact absurd rfl h
 rw[if_pos t] at h|-
 cases e:wU p with
 |none=>
  rw[e] at h;by_cases B:i8 p=ao
  ·exact .val B t<|if_pos B
  ·exact absurd (if_neg B) h
 |some i=>
  rw[e] at h;by_cases D:n<=i
  case neg=>exact absurd (if_neg D) h
  cases C:H'[i]? with
  |none=>exact absurd (ag (if_pos D)<|by refine C▸?_;rfl) h
  |some l=>
   by_cases B:gS l=ao
   ·exact .lst i l (yY e) D C B t<|ag (if_pos D)<|by exact C▸if_pos B
   ·exact absurd (ag (if_pos D)<|by exact C▸if_neg B) h
noncomputable def Dd (n:Nat) (H':Hp) (p:PV):j1 PV:=if cZ (H'.take n)&&i8 p then .exc p (H'.take n) else .stuck
def iH (j:Bool) (m:IM PV):IM PV:=λH=>match m H with
 |.ok p i=>callEnd j (aa H) i p
 |.exc p i=>Dd (aa H) i p
 |.stuck=>.stuck
theorem aby (u n):u+3+10*n<=u+10*(n+1):=by(refine(Nat.mul_succ ..)▸(ae (d8 ..))▸(ae (gh 3 ..))▸?_);exact dH (dH (by decide) _) _
section
variable {KF K gH:aN}
theorem Inv.mf (N:Inv KF K (O++R) H M h) (B:cZ (H.take<|aa O)=ao):Inv KF K O (H.take<|aa O) M h:=by
 have J:=N.ky.len;rw[aI] at J;refine⟨N.par,N.stat,N.sub,N.kf,⟨by(refine rm▸?_;refine(J)▸?_);exact ae<|eJ<|cn _ _,(fI.mp N.ky.nodup).1,λi a l D C=>?_⟩,⟨λZ Y=>?_⟩⟩
 ·have F:=(aA.mp D).1;have g:H[i]?=ab l:=by rw[List.getElem?_take_of_lt F] at C;exact C
  obtain⟨k,o,n,U,e,c,d,r⟩:=N.ky.at_ i a l (by refine ag (dh F) ?_;exact D) g;refine⟨k,o,n,U,e,c,d,bU.i8 l U ?_ r⟩;unfold cZ at B;rw[cm] at B;exact B l<|bq C
 ·obtain⟨k,L,o,f,v,m,e,fo,fr⟩:=N.stk.all Z Y;exact⟨k,L,o,f,v,λq=>m<|j5 _ q,e,fo,fr⟩
theorem Step.mf (st:Step W gH O g K (O++R) h):Step W gH O g K O h:=⟨st.par,st.kle,st.new,⟨[],by simp,by simp⟩,st.there,st.keep,st.frs⟩
theorem Step.FQ (st:Step W gH O g K (O++R) h) (z:K a=fM) (I:a∈R):Step W gH O g (Internal.gc K a o) O h:=by
 have N:g.get? a=fM:=by refine aH st.pre λd e Q=>?_;have:=List.append_cancel_left e;subst this;exact Q a I
 refine⟨st.par,λb x k=>?_,λb x k=>?_,⟨[],by simp,by simp⟩,st.there,st.keep,st.frs⟩
 ·rw[db]
  ·exact st.kle b x k
  ·rintro rfl;have:=st.kle b x k;rw[z] at this;exact aC this
 ·by_cases q:b=a
  ·subst q;exact .inr N
  ·rw[db q] at k;exact st.new b x k
end
structure FnAt (KF:aN) (a:bk) (params:jy) (body:List rv) (scope:rF) (defs:List PV):Prop where
 kind:scope.kind=.function
 gen:scope.isGenerator=ah
 cor:scope.isCoroutine=ah
 nd:(scope.names.map (·.1)).Nodup
 free:∀x∈scope.names,x.2≠.free
 par:jR params
 args:∃rest,scope.names.map (·.1)=params.args.map (·.arg)++rest
 Xo:∀x∈params.args,scope.names.lookup x.arg=ab .local\/scope.names.lookup x.arg=ab .cell
 ex:∃o fd,KF a=ab o/\o.data=.func fd/\fd.scope=scope/\fd.params=params/\fd.body=.stmts body/\fd.closure=[]/\fd.globals=3/\fd.builtins=0/\
  (∃c oc vs t,fd.code=.ref c/\KF c=ab oc/\oc.data=.fields vs/\vs[1]?=ab (.str fd.qualname t))/\
  ((fd.defaults=.none/\defs=[])\/∃d od n By,fd.defaults=.ref d/\KF d=ab od/\od.data=.seq (af By) n/\bU KF [] defs By)
structure uk (KF:aN):Prop where
 lim:∃o es n,KF 2=ab o/\o.data=.dict es n/\ur es/\kR es "sys.recursionlimit"=al
 glob:∀x p,x0 x=ab p->Je KF x p
def Q4 (B Q:nW) (j:Bool) (scope:rF) (body:List CS) (y:List PV) (J:List Arg) (q:List PV):IM PV:=
 bJ (one y) λp=>bJ (two J) λa=>bJ (one q) λd=>if(a.2.arg==a.1.arg)=ah then iH j (kJ B Q (aa scope.names) body [p,d]) else aP
def fnM (B Q:nW) (j:Bool) (params:jy) (scope:rF) (body:List CS) (q:List PV) (y:List PV):IM PV:=
 if aa y=aa params.args then iH j (kJ B Q (aa scope.names) body y)
 else Q4 B Q j scope body y params.args q
noncomputable def YH:ge->PV
 |.ret p=>p
 |_=>.none
noncomputable def abL:D1->Value
 |.ret v=>v
 |_=>.none
theorem io.val {f:D1} {K:aN} (x:io Z Y r f K O h):VR K O (YH r.1) (abL f):=by
 cases r with|mk a b=>?_
 cases x.f with
 |ret h=>exact h
 |_=>exact qO
theorem Tw (e:fR B Q body (fw len g) H=.ok r H₂):kJ B Q len body g H=.ok (YH r.1) H₂:=by
 show aw (fR B Q body<|fw len g) _ H=_
 (refine ag (fU ..)<|e▸?_)
 cases r with|mk a b=>?_
 cases a<;>rfl
theorem Tv (e:fR B Q body (fw len g) H=.stuck):kJ B Q len body g H=.stuck:=by
 show aw (fR B Q body<|fw len g) _ H=_
 (refine ag (fU ..) ?_;rw[e])
theorem YF (e:fR B Q body (fw len g) H=.exc p H₂):kJ B Q len body g H=.exc p H₂:=by
 show aw (fR B Q body<|fw len g) _ H=_
 (refine ag (fU ..) ?_;rw[e])
theorem j2.drop {K:aN} (x:j2 g K (O++R) p e h) (B:i8 p=ao):j2 g K O p e h:=by
 cases x with|mk a j d I V u m v l c f w o Y t z r b i k n C=>?_
 refine⟨a,j,d,I,V,u,m,v,l,c,f,w,o,Y,t,λq=>z<|j5 _ q,r,b,i,k,VR.i8 p v B n,?_⟩
 induction C with
 |no q=>exact .no q
 |«at» T y G s A S D E F H J=>exact .at T y G s A S D (λq=>E<|j5 _ q) F H J
section
variable {K K₂:aN}
theorem IY (st:Step [] K μ s.heap K₂ z s₂.heap) (N:Inv X K₂ z g M s₂.heap) (f:VR K₂ z p v) (U:aV s s₂) (a:aa μ=m) (L:callEnd keep m g p≠.stuck):y0 X [] M K μ s e7 (callEnd keep m g p) v s₂:=by
 refine aH st.pre λZ e _=>?_;rw[e] at st N f;subst a
 cases aip L with
 |keep e=>exact⟨p,g,K₂,_,e,st,N,f,U⟩
 |val B t e=>exact⟨p,_,K₂,μ,e,st.mf,N.mf t,VR.i8 p v B f,U⟩
 |lst i l F D C B t e=>
  rw[F] at f;refine aH f λb R d=>?_;obtain⟨S,ob,k,I,J,h,o,u⟩:=N.ky.at_ i b l R C;rw[cj D] at R;have c:=bq R;have n:b∉μ:=λq=>(fI.mp N.ky.nodup).2.2 b q b c rfl;refine d▸?_
  exact⟨.lst l,_,Internal.gc K₂ b ob,μ,e,st.FQ S c,(N.mf t).freeze J S n (uV h.1<|by decide),⟨b,ob,k,I,rfl,fj _ _ _,h,o,
   ro (K:=K₂) (K':=Internal.gc K₂ b ob) rfl (λx y q=>ag (db λr=>aC<|ag S.symm<|r▸q) q) l I (bU.i8 (R:=[]) l I B u)⟩,U⟩
theorem MZ (st:Step [] K O s.heap K₂ z s₂.heap) (N:Inv X K₂ z H₂ M s₂.heap) (T:j2 s.heap K₂ z p x s₂.heap) (U:aV s s₂) (a:aa O=m) (L:Dd m H₂ p≠.stuck):yc X [] M K O s (Dd m H₂ p) x s₂:=by
 refine na ?_;intro b;refine aH st.pre λR e _=>?_;rw[e] at st N T;subst a
 cases q:cZ (H₂.take<|aa O)&&i8 p with
 |false=>exact absurd (if_neg<|by exact q▸bp) L
 |true=>have r:=(bt _ _).mp q;exact⟨p,_,K₂,O,if_pos q,st.mf,N.mf r.1,T.drop r.2,U⟩
end
theorem KO (Y:FnAt X a params body scope defs) (hS:uk X) (hgood:jk w X n i7 Lp body)
 {K:aN} (I:kl (n+1) A M) (N:Inv X K O H M s.heap) (hqs:bU K O qs us) (J:aa qs=aa params.args)
 (hbind:∀(o:uz) (fd:wI) (Q:List (am×Value)->bh->Prop),X a=ab o->o.data=.func fd->fd.params=params->((fd.defaults=.none/\defs=[])\/∃d V n By,fd.defaults=.ref d/\X d=ab V/\V.data=.seq (af By) n/\bU X [] defs By)->
  Q ((params.args.map (·.arg)).zip us) s->∀E,aD (MM w) A.in1 (qU fd ⟨vs,[]⟩) Q E s):
 Sat w X [] A M K O s e7 (iH j (kJ i7 Lp (aa scope.names) (lZ ⟨scope.names,x0,muts⟩ body) qs) H) (call (.ref a) vs []):=by
 generalize eo:iH j (kJ i7 Lp (aa scope.names) (lZ ⟨scope.names,x0,muts⟩ body) qs) H=o';intro L;refine xC ?_;intro akj;refine na ?_;intro ami;refine ZW Y.ex λo fd hk hd e1 e2 e3 F e5 yR=>iZ yR λe6 Z e11=>?_;refine aee Z λc oc cvs t P e8 e9 b=>?_;have hroom:=I.d0;refine oB<|SL hroom (N.sub _ _ (N.stat _ _ hk)) hd (by refine e1▸?_;exact Y.cor) (by exact e1▸Y.gen) e3 ⟨c,oc,cvs,t,P,N.sub _ _ (N.stat _ _ e8),e9,b⟩ ?_
 refine hbind o fd _ hk hd e2 e11 ?_ _
 (refine e1▸F▸e5▸e6▸?_)
 refine bd Y.args λrest hargs=>?_;have hul:=hqs.length
 have hlz:((params.args.map (·.arg)).zip us).map (·.2)=us:=by rw[rj];simp[hul,J]
 refine uX (y:=qs) Y.kind Y.nd Y.free (λi x v hi=>?_) (by refine(ae hlz)▸?_;exact hqs) ?_ N λenv s₁ k l hF hfw dL G W h=>?_
 ·rw[pN] at hi;refine hargs▸?_;have hi1:=hi.1;refine⟨by refine ag (dh (aA.mp hi1).1) ?_;exact hi1,?_⟩;rw[bY,a9] at hi1;refine aH hi1 λy hy yR=>?_;subst yR;exact Y.Xo y<|bq hy
 ·have:=congrArg aa hargs;simp only[aB,aI] at this
  (refine sG▸(ae (aB ..))▸this▸?_)
  exact aM (Nat.min_le_left _ _)<|cn _ _
 have hsc:env.scope=scope:=by refine l▸?_;rfl
 have hfr:env.frame=ab s.heap.objs.size:=by refine l▸?_;rfl
 have B:∀x,env.kindOf x=scope.names.lookup x:=λx=>by unfold SB;rw[hsc]
 have T:dk X ⟨scope.names,x0,muts⟩ env:=⟨Y.nd,λx q=>by exact ag (B ..)<|q,λx q=>by exact ag (B ..)<|q,λx q=>by exact ag (B ..)<|q,hF,λx p q=>hS.glob x p q⟩;refine⟨?_,codeAny_func ?_⟩
 ·refine II hS.lim λoL es m hL hLd hLs hLf=>?_;exact⟨kR es,⟨oL,es,m,G.sub _ _ (G.stat _ _ hL),hLd,hLs,λ_=>rfl⟩,hLf⟩
 have hA:kl n (A.deeper env) (env::M):=⟨I.hd,by have:=I.dp;rw[gh n 1,<-d8] at this;exact this,bX (uu (aby A.units n) 20) I.un,th I.fr,w6 I.gd⟩;have hne:fR i7 Lp (lZ ⟨scope.names,x0,muts⟩ body) (fw (aa scope.names) qs) H≠.stuck:=λq=>L<|ag eo.symm<|by unfold iH;rw[Tv q]
 have hfl:aa (fw (aa scope.names) qs)=aa scope.names:=by
  have:=congrArg aa hargs;simp only[aB,aI] at this
  (rewrite[fw];refine ag aI<|(ae (aB ..))▸tg▸?_;refine(ae J)▸this▸?_;rw[gz])
 refine xC ?_;intro aki;refine Mh ?_;intro akq;refine aZ (hgood ⟨scope.names,x0,muts⟩ env (fw (aa scope.names) qs) T hfl (A.deeper env) s₁ k O H (env::M) hA G W hne) (λf s₂ z=>?_) λe s₂ z=>?_
 ·cases z with|mk r g C abu er D u hr U=>?_
  have e2:callEnd j (aa H) g (YH r.1)=o':=ag (by unfold iH;rw[Tw er]) eo
  have key:y0 X [] M K O s e7 o' (abL f) s₂:=by
   rw[<-e2] at L|-
   exact IY (dL.hide D λa q=>.inr<|hfw a q) u.pop hr.val (h.trans U) N.ky.len L
  cases f<;>exact key
 ·cases z with|mk p g C abu er D u hex U=>?_
  have e2:Dd (aa H) g p=o':=ag (by unfold iH;rw[YF er]) eo;refine Fp (th I.fr) u (hex.back dL) hfr (dL.hide D λa q=>.inr<|hfw a q) λR S iU Zp n7=>?_;rw[<-e2] at L|-
  exact MZ iU S Zp ((h.trans U).trans n7) N.ky.len L
theorem FnAt.nodup (Y:FnAt X a params body scope q):(params.args.map (·.arg)).Nodup:=by refine bd Y.args λj h=>?_;have:=Y.nd;rw[h] at this;exact(fI.mp this).1
theorem KB {K:aN} (N:Inv X K O H M h) (x:(v=.none/\q=[])\/∃d V n e,v=.ref d/\X d=ab V/\V.data=.seq (af e) n/\bU X [] q e):∃D,jZ h v D/\bU X [] q D:=by
 rcases x with ⟨J,rfl⟩|⟨d,V,m,e,J,W,E,Z⟩
 ·exact⟨[],.inl ⟨J,rfl⟩,eu⟩
 ·exact⟨e,.inr ⟨d,V,m,J,N.sub _ _ (N.stat _ _ W),E⟩,Z⟩
theorem Nn (Y:FnAt X a params body scope q) (b:uk X) (x:jk w X n B Lp body) (y U):
 aj w X [] (n+1) (j9 y U) (Q4 B Lp j scope (lZ ⟨scope.names,x0,e⟩ body) y params.args q) e7 (call (.ref a) U []):=by
 refine eP λp q1=>eP λT c=>eP λd q3=>cU λG=>?_;obtain rfl:=tW q1;obtain rfl:=tW q3;have h:=G1 c;intro A s K O H M I N hvs ho;refine xC ?_;intro amh;refine Mh ?_;intro amx;refine cL hvs λv r S F Z=>?_;subst S;subst Z;refine ZW Y.ex λo fd z g m i C e4 k S=>iZ S λe6 P L=>?_;refine aH (KB N L) λD J S=>cL S λdv r2 Z V rc3=>?_;subst Z;subst rc3;have ah7:=N1 (R:=O) N.par N.stat d dv V;refine KO Y b x I N (b7 F<|b7 ah7 eu) (by refine h▸?_;rfl) (λu fd' Q t f W _ l E=>?_) ho;obtain rfl:=ai<|ag z.symm t
 cases ag g.symm f;refine AH (by refine i▸?_;exact Y.par) (by exact i▸h) G J ?_;rw[h] at l;exact l
theorem Vs (Y:FnAt X a params body scope q) (b:uk X) (x:jk w X n B W body) (y U):
 aj w X [] (n+1) (j9 y U) (fnM B W j params scope (lZ ⟨scope.names,x0,e⟩ body) q y) e7 (call (.ref a) U []):=by
 unfold fnM;by_cases C:aa y=aa params.args
 ·refine(if_pos C)▸?_;intro A s K O H M I N Z;refine KO Y b x I N Z C λo fd Q _ _ i L l E=>aH (KB N L) λD J _=>?_;subst i;exact iC Y.par J (by(refine ag (aB ..)<|ag (ae C) ?_;rw[vI Z])) Y.nodup l
 ·refine(if_neg C)▸?_;exact Nn Y b x y U
structure FE where
 addr:bk
 k:Nat
 keep:Bool
 muts:List am
 defs:List PV
def fnOf (B Q:nW) (f:FE):List PV->IM PV:=fnM B Q f.keep (bF f.k).1 (bF f.k).2.2 (Ds f.k f.muts) f.defs
noncomputable def iG (v Q:nW):List FE->nW
 |[]=>v
 |f::r=>λa y=>if a=f.addr then fnOf (iG v Q r) Q f y else iG v Q r a y
theorem tC.more (h:tC w X n Lp) (z:n<=k):tC w X k Lp:=⟨h.cls,h.fn,λg a D U=>(h.call g a D U).more z⟩
theorem jS.more (h:jS w X n i7) (z:n<=k):jS w X k i7:=⟨h.fn,λa D U=>(h.call a D U).more z⟩
theorem E9 (X:KF.P=w.params) (b:uk KF) (R:jS w KF n v) (z:tC w KF n Q) (s:∀k B,jS w KF k B->sA w KF k B):
 ∀l,(∀f∈l,FnAt KF f.addr (bF f.k).1 (bF f.k).2.1 (bF f.k).2.2 f.defs)->jS w KF (n+aa l) (iG v Q l)
 |[],_=>R
 |f::r,h=>by
  have Z:=E9 X b R z s r λg N=>h g<|by simp[N]
  have Y:=h f<|by simp
  have c:=s _ _ Z;have d:∀e,bI w KF (n+aa r) (iG v Q r) e:=λe=>(jL X Z c e).1.1;have u:∀e,iI w KF (n+aa r) (iG v Q r) e:=λe=>(jL X Z c e).1.2;have x:=pd d u (z.more<|cn _ _) (bF f.k).2.1;refine⟨λa=>?_,λa y U=>?_⟩
  ·by_cases q:a=f.addr
   ·subst q;exact cL Y.ex λo fd J W _=>.inl ⟨o,fd,J,W⟩
   ·rcases Z.fn a with h'|h'
    ·exact .inl h'
    ·exact .inr λy=>by unfold iG;exact ag (if_neg q)<|h' y
  ·unfold iG;by_cases q:a=f.addr
   ·refine(if_pos q)▸?_;subst q;exact Vs Y b x y U
   ·refine(if_neg q)▸?_;exact(Z.call a y U).more<|by simp
end
open VR renaming i8->amA
section
open PySem PySem.W
def aen (l:List rv) (j:Nat):jy×List rv×Scope:=fnO l[j]?
noncomputable def ag9 (s:rv):List Stmt:=if h:s.ctorIdx=2 then afL (motive_2:=λ_=>List rv) s h λ_ _ _ body _ _ _ _ _ _ _=>body else[]
def tj (k j:Nat):jy×List rv×Scope:=aen (((bR.main.body)[k]?).elim [] ag9) j
namespace H
noncomputable abbrev N:Value:=.none
noncomputable abbrev T:Value:=.bool ao
noncomputable abbrev F:Value:=.bool ah
noncomputable abbrev i (a:Int) (t:Nat):Value:=.int a t
noncomputable abbrev s (a:String) (t:Nat):Value:=.str (fk a) t
noncomputable abbrev y (a:List UInt8) (t:Nat):Value:=.bytes ⟨a⟩ t
noncomputable abbrev r (a:Nat):Value:=.ref a
noncomputable abbrev ty (a:String):Value:=.type a
noncomputable abbrev bl (a:String):Value:=.builtin a
noncomputable abbrev xs (l:List Value):Obj:=⟨.type "tuple",al,.seq ⟨l⟩ 0,#[]⟩
noncomputable abbrev fd (l:List Value):Obj:=⟨.none,al,.fields ⟨l⟩,#[]⟩
noncomputable abbrev cd (l:List Value):Obj:=⟨.type "code",al,.fields ⟨l⟩,#[]⟩
noncomputable abbrev e (P:cF) (a:String) (t:Nat) (v:Value):DictEntry:=⟨gg P<|fk a,.str (fk a) t,v⟩
noncomputable abbrev fu (k:jy×List rv×rF) (O p:V4) (g:bk) (df doc A cd b:Value) (a:bk):FuncData:={name:=O,qualname:=p,params:=k.1,body:=.stmts k.2.1,scope:=k.2.2,globals:=g,closure:=[],defaults:=df,kwdefaults:=.none,doc:=doc,pyModule:=A,annotations:=al,code:=cd,closureTuple:=b,builtins:=a}
noncomputable abbrev pb:Obj:=⟨ty "builtin_function_or_method",al,.fields ⟨[bl "type.__prepare__",ty "type"]⟩,#[]⟩
noncomputable abbrev fr (c l:Nat) (v:Value):Obj:=⟨ty "frame",al,.plain,#[ab (r c),ab (r 3),ab (r l),al,ab v,al,ab (r 0)]⟩
noncomputable abbrev ib (a:Nat):Obj:=⟨ty "builtin_function_or_method",al,.fields ⟨[bl "object.__init_subclass__",r a]⟩,#[]⟩
noncomputable abbrev su (a:Nat):Obj:=⟨ty "super",al,.fields ⟨[r a,r a,r a]⟩,#[]⟩
noncomputable abbrev di (c:String) (l:List cE) (n:Nat):Obj:=⟨ty c,al,.dict ⟨l⟩ n,#[]⟩
noncomputable abbrev k (O:String) (t:Nat) (L:Int) (R:Nat):Obj:=cd [s O t,s O<|t+1,s "/claim/cut.py"<|t+2,i L 0,i 0 0,i 0 0,i 0 0,i 0 0,r R,F,i 181 0,r<|R+1,N,N,N,N,i (t+3:Nat) 0,i L 0,s "/claim/cut.py"<|t+4]
noncomputable abbrev w (k:jy×List rv×rF) (O p:String) (df:Value) (md:String) (t c:Nat):Obj:=⟨ty "function",al,.func<|fu k (fk O) (fk p) 3 df N (s md t) (r c) N 0,#[]⟩
noncomputable def g (P:cF) (v:Value) (l:List cE) (n:Nat):Obj:=di "dict" (e P "__name__" 165 v::l) n
def h (l:List Nat):Obj:=fd<|j4 [] (λx _ R=>.int (jG<|x / 10000) 0::i 0 0::r (x%10000)::R) l
noncomputable def sNm (s:rv):Option (V4×Nat):=if h:s.ctorIdx=0 then wD (motive_2:=λ_=>Option<|V4×Nat) s h λname _ _ _ _ _ _ _ _ S=>ab (name,S.line) else al
noncomputable def nl (k:Nat):V4×Nat:=(((bR.main.body)[k]?).bind sNm).getD (fk "",0)
noncomputable abbrev fz {α:Type} (n:Nat) (k:Nat->α):α:=xL (k 0) (λm _=>k<|aaF m) n
abbrev lv (f:jy×List rv×rF) (k:List V4->uz):Obj:=j4 (λk=>k []) (λx _ R k=>NameKind.rec (R λl=>k<|x.1::l) (R k) (R k) (R k) (R k) x.2) f.2.2.names k
abbrev tk (l:List V4) (t:Nat) (k:List Value->uz):Obj:=j4 (λt k=>k []) (λa _ R t k=>fz t λt=>R (t+1) λl=>k<|.str a t::l) l t k
noncomputable abbrev cq (O p:V4) (m a c b t u:Nat) (x y:Value):Obj:=fz m λm=>fz a λa=>fz (c-1) λc=>fz b λb=>fz (b+1) λI=>fz t λt=>fz (t+1) λt1=>fz (t+2) λt2=>fz u λu=>fz (u+1) λd=>cd [.str O t,.str p t1,s "/claim/cut.py" t2,.int (jG m) 0,.int (jG a) 0,i 0 0,i 0 0,i 3 0,r b,T,i 181 0,r I,N,x,y,r c,.int (jG u) 0,.int (jG m) 0,s "/claim/cut.py" d]
abbrev iz (d n:Nat) (x y:uz):Obj:=tK y x<|nC d n
abbrev fo (f:jy×List rv×rF) (O p:V4) (m:Nat) (df md:Value) (B:Bool) (c t d:Nat):Obj:=fz c λc=>iz d 0 ⟨ty "function",al,.func<|fu f O p 3 df N md (r c) N 0,#[]⟩ (iz d 2 ⟨N,al,.func<|fu f O p 0 N N N N N 0,#[]⟩ (tK
 (iz d 1 (lv f λl=>fz (c-3) λe=>fz (c-2) λg=>cq O p m f.1.args.length c (c-5) t (t+3+l.length) (r e)<|r g)<|iz d 5 (fd [])<|iz d 4 (lv f λl=>tk l (t+3) xs)<|xs [])
 (iz d 1 (cq O p m f.1.args.length c (c-3) t (t+3) N N)<|iz d 3 (fd [])<|xs []) B))
noncomputable def md (t:Nat):Value:=bif nB 1476 t then s "law_sf0044_01" 1476 else bif nB 1064 t then s "methodrows.string_builtins" 1064 else bif nB 782 t then s "methodrows.strings" 782 else bif nB 753 t then s "methodrows.arrays" 753 else bif nB 544 t then s "methodrows.values" 544 else bif nB 405 t then s "methodrows.octets" 405 else bif nB 330 t then s "methodrows.kind_terms" 330 else bif nB 268 t then s "methodrows.forms" 268 else bif nB 194 t then s "methodrows.errors" 194 else s "__main__" 164
noncomputable def df (k:Nat):Value:=bif k.beq 9 then(r 77) else bif k.beq 19 then(r 131) else bif k.beq 83 then(r 510) else N
noncomputable def big:Nat:=367111816533641113164236211061623360109916133591092160735710871601354108215903531075158435010701571349106315653461058155734410511550342104415433401037153333810301526336102315193351016151333210111503331100414973280999148832609921478322098514683200978146231809711456316096414493140957144331209501434308093614183060929140930409221400302091513923000908138429809011375296089413672940887135829208801350290087313422880866133428608591326284085213182820845131028008381302278083112932760824128227508171276273081212702700807126226808001254267079312482640788123926307811233260077612252580769121725607621209254075512002520748119125007411182248073411722460727116424407201156242071311472400706113923806991132236069211232340685111623206781108213066010582100655105120806481040204064110322020634102420106271018198062210081960615100119506080995192060309881900596098118805890972186058209631840575095518205680947180056109381790554093217605490923174054209131720535090417005280897168052108891670514088316405080873162050108661600494085815804870850156048008421540473083515204660827150045908191360450077213504430766132043807571260431074312404240727122041707151200410070411904030698117039806921120393068111003860673108037906650950289053809302840532090027905250890272051908602670510084026005010820253049208002460482078023904730760232046107402250454072021804470700211043506802040426066019704190540189039805201820391051017503850480170037604701630370044015803630420151035504001440345038013703370300125032202801180314026011103060240104029902200970292020009002850180083027700000200187
noncomputable def X (j:Nat):Nat:=big / 10^(11*j)%10^11
abbrev fx (x a:Nat):Obj:=fz x λx=>fo (bF<|x / 200000000) (nl<|x / 200000000).1 (nl<|x / 200000000).1 (nl<|x / 200000000).2 (df<|x / 200000000) (md<|x%10000) (nC (x / 100000000%2) 1) (x / 10000%10000) (x%10000)<|x / 10000%10000+1-a
abbrev ff (a:Nat):Obj:=fx (xL 0 (λj R=>tK R (X j)<|nB (X j / 10000%10000-tK 5 3 (nC (X j / 100000000%2) 1)) a) 141) a
abbrev me (k j:Nat) (O p:String) (m c t:Nat) (d:Value) (a:Nat):Obj:=fo (tj k j) (fk O) (fk p) m d (md t) ah c t<|c+1-a
noncomputable abbrev li (n:Nat) (l:List uz) (a:Nat):Obj:=(l[a-n]?).getD<|xs []
abbrev sg (l:List (Nat×(Nat->uz))) (a:Nat):Obj:=j4 (xs []) (λx _ R=>tK R (x.2 a)<|nB x.1 a) l
abbrev ov (f:Nat->uz) (l:List (Nat×uz)) (a:Nat):Obj:=j4 (f a) (λx _ R=>tK R x.2<|nC x.1 a) l
def gen (f:Nat->uz) (n:Nat):BT:=xL (λ_ _=>.nil) (λ_ R a b=>tK (.node (f b) (R (2*a)<|a+b)<|R (2*a)<|2*a+b) .nil<|nB n b) 11 1 0
noncomputable def acZ (P:cF) (x:Nat):List DictEntry:=[e P "__doc__" 166 N,e P "__package__" 167 N,e P "__loader__" 168<|bl "__main__.__loader__#opaque",e P "__spec__" 169 N,e P "__annotations__" 170<|r 6,e P "__builtins__" 171<|r 4,e P "__file__" 173<|s "/claim/cut.py" 172,e P "__cached__" 174 N]
noncomputable def acY (P:cF) (x:Nat):List DictEntry:=acZ P x++[e P "_wall" 193<|r 21,e P "RowsError" 226<|r 39,e P "MachineFault" 242<|r 52]
noncomputable def acX (P:cF) (x:Nat):List DictEntry:=acY P x++[e P "Thrown" 267<|r 71,e P "NOTHING" 271<|r 74,e P "TRUE" 273<|r 75,e P "FALSE" 275<|r 76,e P "int_value" 284<|r 84,e P "bool_value" 291<|r 91,e P "text_value" 298<|r 98,e P "error_kind" 305<|r 105,e P "error_value" 313<|r 112,e P "thrown" 321<|r 119,e P "thrown_text" 329<|r 126,e P "ANY" 334<|r 128,e P "BOTTOM" 336<|r 129,e P "named" 344<|r 138,e P "union_of" 354<|r 145,e P "parts_of_kind" 362<|r 152,e P "shown_name" 369<|r 159,e P "binder_text" 375<|r 164,e P "bound_text" 384<|r 171,e P "written_kind" 390<|r 176,e P "kind_text" 397<|r 183,e P "kind_key" 404<|r 190,e P "MOST_CODE" 408<|i 1114111 407,e P "FIRST_BAD" 410<|i 55296 409,e P "LAST_BAD" 412<|i 57343 411,e P "LIMITS" 418<|r 191,e P "is_bad" 425<|r 198,e P "size_of_code" 434<|r 205,e P "encoded" 446<|r 212,e P "lead_of" 453<|r 219,e P "is_following" 460<|r 226,e P "whole_at" 472<|r 233,e P "decoded" 481<|r 240]
noncomputable def acW (P:cF) (x:Nat):List DictEntry:=acX P x++[e P "is_start" 491<|r 247,e P "next_index" 500<|r 254,e P "prev_index" 509<|r 261,e P "starts_of" 518<|r 268,e P "codes_of" 524<|r 273,e P "length" 531<|r 280,e P "is_valid" 537<|r 285,e P "joined_codes" 543<|r 290,e P "MOST_BITS_values" 547<|i 4000 546,e P "MOST_OPEN" 549<|i 100 548,e P "ESCAPES" 560<|r 296,e P "Thing" 593<|r 313,e P "Heap" 664<|r 369,e P "array_kind" 672<|r 380,e P "plain_text" 680<|r 387,e P "escaped" 690<|r x,e P "escaped_values" 691<|r 394,e P "told_octets" 697<|r 399,e P "sizes_text" 703<|r 404,e P "pieces_of" 714<|r 411,e P "listed" 726<|r 418,e P "value_text" 742<|r 425,e P "printed_text" 752<|r 432,e P "MOST_ITEMS" 756<|i 20000 755,e P "many_of" 765<|r 439,e P "check_sizes" 771<|r 444,e P "made" 781<|r 451,e P "MOST_OCTETS" 785<|i 200000 784,e P "MOST_BITS_strings" 787<|i 4000 786,e P "FIGURES" 789<|y [48,49,50,51,52,53,54,55,56,57,97,98,99,100,101,102,103,104,105,106,107,108,109,110,111,112,113,114,115,116,117,118,119,120,121,122] 788,e P "BLANKS" 796<|r 452,e P "SHORT_ESCAPES" 818<|r 453]
noncomputable def acV (P:cF) (x:Nat):List DictEntry:=acW P x++[e P "check_index" 826<|r 460,e P "check_start" 834<|r 467,e P "bounded" 841<|r 474,e P "code_at" 849<|r 481,e P "next_at" 857<|r 488,e P "prev_at" 865<|r 495,e P "last_start" 872<|r 502,e P "sub" 881<|r 509,e P "joined" 888<|r 515,e P "repeated" 896<|r 522,e P "reversed_signs" 903<|r 529,e P "is_whole" 912<|r 536,e P "find_first" 922<|r 543,e P "find_last" 931<|r 550,e P "split" 937<|r 555,e P "replaced" 946<|r 562,e P "compare" 954<|r 569,e P "starts_with" 962<|r 576,e P "ends_with" 971<|r 583,e P "stripped" 980<|r 590,e P "raised" 987<|r 597,e P "lowered" 994<|r 604,e P "with_codes" 1000<|r 609,e P "check_base" 1007<|r 616,e P "number_text" 1017<|r 623,e P "number_in" 1023<|r 628,e P "hex_octets" 1031<|r 635,e P "escaped_strings" 1039<|r 642,e P "written" 1050<|r 649]
noncomputable def acU (P:cF) (x:Nat):List DictEntry:=acV P x++[e P "written_sign" 1057<|r 656,e P "indices_of" 1063<|r 661,e P "UNTOLD" 1067<|i 65533 1066,e P "MOST_PRINTED" 1069<|i 20000 1068,e P "STRING" 1074<|r 663,e P "CHAR" 1079<|r 665,e P "INT" 1084<|r 667,e P "BOOL" 1089<|r 669,e P "SYMBOL" 1094<|r 671,e P "KINDS" 1107<|r 672]
noncomputable def acT (P:cF) (x:Nat):List DictEntry:=acU P x++[e P "part_in" 1115<|r 679,e P "whole_in" 1122<|r 686,e P "index_in" 1131<|r 693,e P "sign_value" 1138<|r 700,e P "octets_of_piece" 1146<|r 707,e P "row_value" 1155<|r 714,e P "deed_length" 1163<|r 721,e P "deed_size" 1171<|r 728,e P "deed_octet" 1181<|r 735,e P "deed_at" 1190<|r 742,e P "deed_next" 1199<|r 749,e P "deed_prev" 1208<|r 756,e P "deed_last" 1216<|r 763,e P "deed_is_start" 1224<|r 770,e P "deed_is_valid" 1232<|r 777,e P "deed_indices" 1238<|r 782,e P "deed_sub" 1247<|r 789,e P "deed_joined" 1253<|r 794,e P "deed_repeated" 1261<|r 801,e P "deed_reversed" 1269<|r 808,e P "deed_split" 1275<|r 813,e P "deed_replaced" 1281<|r 818,e P "deed_find" 1292<|r 825,e P "deed_find_last" 1301<|r 832,e P "deed_compare" 1309<|r 839,e P "deed_starts" 1317<|r 846,e P "deed_ends" 1325<|r 853,e P "deed_strip" 1333<|r 860,e P "deed_upper" 1341<|r 867,e P "deed_lower" 1349<|r 874,e P "deed_number_text" 1357<|r 881,e P "deed_number_in" 1366<|r 888,e P "deed_code" 1374<|r 895,e P "deed_sign" 1383<|r 902]
noncomputable def ahI (P:cF) (x:Nat):List DictEntry:=acT P x++[e P "deed_raised_sign" 1391<|r 909,e P "deed_lowered_sign" 1399<|r 916,e P "deed_written" 1408<|r 923,e P "deed_symbol" 1417<|r 930,e P "deed_symbol_text" 1425<|r 937,e P "always" 1433<|r 944,e P "pure" 1442<|r 951,e P "sign_rows" 1448<|r 958,e P "search_rows" 1455<|r 965,e P "array_rows" 1461<|r 972,e P "text_rows" 1467<|r 979,e P "string_rows" 1475<|r 986,e P "_law_vat" 1487<|r 993,e P "_law_dip" 1496<|r 1000,e P "_law_octets" 1502<|r 1005,e P "_law_pieces" 1512<|r 1012,e P "_law_begins" 1518<|r 1017,e P "_law_code" 1525<|r 1024,e P "_law_int" 1532<|r 1031,e P "_law_index" 1542<|r 1038,e P "_law_worth" 1549<|r 1045,e P "_law_has_room" 1556<|r 1052,e P "_law_beyond" 1564<|r 1059,e P "_law_index_calls" 1570<|r 1064,e P "_law_sub" 1583<|r 1071,e P "_law_places" 1589<|r 1076,e P "_law_cut" 1600<|r 1083,e P "_law_search_calls" 1606<|r 1088,e P "_law_whole_calls" 1612<|r 1093,e P "_law_figures" 1622<|r 1100,e P "_law_number_calls" 1641<|r 1107,e P "_law_heard" 1652<|r 1114,e P "law" 1658<|r 1119]
noncomputable def WU:List Nat:=[]
noncomputable def WT:List Nat:=WU++[10020,50027,110048]
noncomputable def WS:List Nat:=WT++[130060,220083,240090,260097,280104,300111,320118,340125,390137,410144,540151,650158,670163,730170,760175,960182,980189,1050197,1070204,1140211,1260218,1360225,1380232,1500239]
noncomputable def WR:List Nat:=WS++[1550246,1650253,1700260,1750267,1810272,1830279,1850284,1870289,1930302,1990323,2210379,2230386,2420393,2470398,2490403,2510410,2640417,2710424,2880431,3000438,3050443,3080450]
noncomputable def WQ:List Nat:=WR++[3190459,3220466,3260473,3290480,3320487,3360494,3400501,3420508,3480514,3510521,3560528,3580535,3600542,3670549,3720554,3820561,3860568,3900575,3920582,3950589,4020596,4040603,4060608,4080615,4110622,4200627,4330634,4350641,4440648]
noncomputable def WP:List Nat:=WQ++[4520655,4560660]
noncomputable def WO:List Nat:=WP++[4670678,4710685,4770692,4820699,4840706,4940713,4960720,4980727,5000734,5050741,5080748,5110755,5140762,5160769,5180776,5200781,5220788,5270793,5290800,5310807,5330812,5360817,5390824,5440831,5470838,5490845,5510852,5530859,5550866,5570873,5590880,5610887,5660894,5680901]
noncomputable def ac0:List Nat:=WO++[5730908,5750915,5770922,5860929,5910936,5930943,5950950,5970957,5990964,6020971,6040978,6060985,6120992,6160999,6231004,6261011,6331016,6361023,6381030,6401037,6471044,6491051,6511058,6531063,6601070,6731075,6791082,6881087,6961092,7031099,7091106,7251113,7331118]
noncomputable def acH (P:cF):Obj:=⟨N,al,.dict ⟨[e P "type.__subclasses__.Exception.0" 223<|i 39 0,e P "type.__subclasses__.Exception.n" 224<|i 1 0]⟩ 2,#[]⟩
def acG (P:cF):Obj:=⟨(ty "function"),al,.func<|fu (tj 2 0) "__init__" "RowsError.__init__" 3 (r 29) N (s "methodrows.errors" 194) (r 35) N 0,#[]⟩
noncomputable def WI (P:cF):Obj:=di "dict" [e P "__module__" 203<|s "methodrows.errors" 194,e P "__firstlineno__" 207<|i 5 206,e P "__init__" 216<|r 36,e P "__static_attributes__" 219<|r 37,e P "__weakref__" 221<|r 40,e P "__doc__" 222 N] 3
noncomputable def acF (P:cF):Obj:=⟨(ty "type"),al,.cls ⟨"RowsError",[ty "Exception"],[r 39,ty "Exception",ty "BaseException",ty "object"],38,"RowsError",ao,[],[r 52],ah,al,ah⟩,#[ab (r 22),al,ab (s "RowsError" 196),ab (s "RowsError" 204),ab (bl "Exception.__new__"),ab T]⟩
noncomputable def WH (P:cF):Obj:=⟨(ty "type"),al,.cls ⟨"RowsError",[ty "Exception"],[r 39,ty "Exception",ty "BaseException",ty "object"],38,"RowsError",ao,[],[r 52,r 71],ah,al,ah⟩,#[ab (r 22),al,ab (s "RowsError" 196),ab (s "RowsError" 204),ab (bl "Exception.__new__"),ab T]⟩
def acE (P:cF):Obj:=⟨(ty "function"),al,.func<|fu (tj 4 0) "__init__" "Thrown.__init__" 3 N N (s "methodrows.errors" 194) (r 67) N 0,#[]⟩
noncomputable def WG (P:cF):Obj:=di "dict" [e P "__module__" 250<|s "methodrows.errors" 194,e P "__firstlineno__" 254<|i 13 253,e P "__init__" 262<|r 68,e P "__static_attributes__" 264<|r 69,e P "__doc__" 265 N] 2
noncomputable def WF (P:cF):Obj:=⟨(ty "type"),al,.cls ⟨"Thrown",[r 39],[r 71,r 39,ty "Exception",ty "BaseException",ty "object"],70,"Thrown",ao,[],[],ah,al,ah⟩,#[ab (r 55),al,ab (s "Thrown" 243),ab (s "Thrown" 251),ab (bl "Exception.__new__"),ab T]⟩
def YX (P:cF):Obj:=⟨(ty "function"),al,.func<|fu (tj 53 0) "__init__" "Heap.__init__" 3 N N (s "methodrows.values" 544) (r 330) N 0,#[]⟩
noncomputable def PX (P:cF):Obj:=di "dict" [e P "__module__" 601<|s "methodrows.values" 544,e P "__firstlineno__" 605<|i 199 604,e P "__init__" 612<|r 331,e P "put" 620<|r 338,e P "new_object" 629<|r 345,e P "new_array" 639<|r 352,e P "new_box" 647<|r 359,e P "object" 655<|r 366,e P "__static_attributes__" 657<|r 367,e P "__dict__" 659<|r 370,e P "__weakref__" 661<|r 371,e P "__doc__" 662 N] 4
noncomputable def PW (P:cF):Obj:=⟨(ty "type"),al,.cls ⟨"Heap",[ty "object"],[r 369,ty "object"],368,"Heap",ao,[],[],ah,al,ah⟩,#[al,al,ab (s "Heap" 594),ab (s "Heap" 602),ab (bl "object.__new__"),ab T]⟩
noncomputable def PU (P:cF):Obj:=fd []
noncomputable def CK (P:cF):Obj:=cd [s "always" 1426,s "always" 1427,s "/claim/cut.py" 1428,i 593 0,i 1 0,i 0 0,i 0 0,i 3 0,r 938,T,i 181 0,r 939,N,r 940,r 941,r 942,i 1431 0,i 593 0,s "/claim/cut.py" 1432]
def PT (P:cF):Obj:=⟨(ty "function"),al,.func<|fu (bF 155) "always" "always" 3 N N (s "methodrows.string_builtins" 1064) (r 943) N 0,#[]⟩
def ob (P:cF):Nat->Obj:=sg [(945,ff),
 (938,li 938 [xs [],PU P,xs [s "kind" 1429],xs [s "kind" 1430],⟨N,al,.func<|fu (bF 155) "always" "always" 0 N N N N N 0,#[]⟩,CK P,PT P]),
 (673,ff),
 (662,li 662 [di "frame" [e P "name" 1071<|s "String" 1070,e P "params" 1072<|r 130] 2,xs [s "name" 1073,s "String" 1070,r 130],di "frame" [e P "name" 1076<|s "Char" 1075,e P "params" 1077<|r 130] 2,xs [s "name" 1078,s "Char" 1075,r 130],di "frame" [e P "name" 1081<|s "Int64" 1080,e P "params" 1082<|r 130] 2,xs [s "name" 1083,s "Int64" 1080,r 130],di "frame" [e P "name" 1086<|s "Bool" 1085,e P "params" 1087<|r 130] 2,xs [s "name" 1088,s "Bool" 1085,r 130],di "frame" [e P "name" 1091<|s "Symbol" 1090,e P "params" 1092<|r 130] 2,xs [s "name" 1093,s "Symbol" 1090,r 130],di "dict" [e P "text" 1095<|s "String" 1096,e P "char" 1097<|s "Char" 1098,e P "sym" 1099<|s "Symbol" 1100,e P "int" 1101<|s "Int64" 1102] 4]),
 (511,ff),
 (510,li 510 [xs [y [] 882]]),
 (454,ff),
 (452,li 452 [xs [i 9 790,i 10 791,i 11 792,i 12 793,i 13 794,i 32 795],di "dict" [⟨10,i 10 797,(y [92,110] 798)⟩,⟨9,i 9 799,(y [92,116] 800)⟩,⟨13,i 13 801,(y [92,114] 802)⟩,⟨0,i 0 803,(y [92,48] 804)⟩,⟨92,i 92 805,(y [92,92] 806)⟩,⟨36,i 36 807,(y [92,36] 808)⟩,⟨34,i 34 809,(y [92,34] 810)⟩] 7]),
 (374,ff),
 (367,li 367 [xs [s "things" 656],PX P,PW P,⟨(ty "getset_descriptor"),al,.fields ⟨[s "__dict__" 658,r 369,bl "function.__dict__",bl "function.__dict__#set"]⟩,#[]⟩,⟨(ty "getset_descriptor"),al,.fields ⟨[s "__weakref__" 660,r 369,bl "ExceptionGroup.__weakref__",N]⟩,#[]⟩,su 369,ib 369]),
 (360,me 53 5 "object" "Heap.object" 217 365 648 N),
 (353,me 53 4 "new_box" "Heap.new_box" 214 358 640 N),
 (346,me 53 3 "new_array" "Heap.new_array" 211 351 630 N),
 (339,me 53 2 "new_object" "Heap.new_object" 208 344 621 N),
 (332,me 53 1 "put" "Heap.put" 204 337 613 N),
 (325,me 53 0 "__init__" "Heap.__init__" 201 330 606 N),
 (311,li 311 [xs [s "fields" 583,s "kind" 584,s "sizes" 585],di "dict" [e P "__module__" 568<|s "methodrows.values" 544,e P "__firstlineno__" 572<|i 193 571,e P "__init__" 582<|r 310,e P "__static_attributes__" 586<|r 311,e P "__dict__" 588<|r 314,e P "__weakref__" 590<|r 315,e P "__doc__" 591 N] 4,⟨(ty "type"),al,.cls ⟨"Thing",[ty "object"],[r 313,ty "object"],312,"Thing",ao,[],[],ah,al,ah⟩,#[al,al,ab (s "Thing" 561),ab (s "Thing" 569),ab (bl "object.__new__"),ab T]⟩,⟨(ty "getset_descriptor"),al,.fields ⟨[s "__dict__" 587,r 313,bl "function.__dict__",bl "function.__dict__#set"]⟩,#[]⟩,⟨(ty "getset_descriptor"),al,.fields ⟨[s "__weakref__" 589,r 313,bl "ExceptionGroup.__weakref__",N]⟩,#[]⟩,su 313,ib 313,xs [],pb,di "dict" [e P "__module__" 601<|s "methodrows.values" 544,e P "__qualname__" 603<|s "Heap" 602,e P "__firstlineno__" 605<|i 199 604,e P "__init__" 612<|r 331,e P "put" 620<|r 338,e P "new_object" 629<|r 345,e P "new_array" 639<|r 352,e P "new_box" 647<|r 359,e P "object" 655<|r 366,e P "__static_attributes__" 657<|r 367] 10,xs [],fd [i 201 0,i 4 0,r 330,i 204 0,i 4 0,r 337,i 208 0,i 4 0,r 344,i 211 0,i 4 0,r 351,i 214 0,i 4 0,r 358,i 217 0,i 4 0,r 365],k "Heap" 596 199 321,fr 323 320<|s "methodrows.values" 544]),
 (304,me 52 0 "__init__" "Thing.__init__" 195 309 573 N),
 (291,li 291 [xs [s "\\" 550,s "\\\\" 551],xs [s "$" 552,s "\\$" 553],xs [s "\n" 554,s "\\n" 555],xs [s "\r" 556,s "\\r" 557],xs [s "\t" 558,s "\\t" 559],xs [r 291,r 292,r 293,r 294,r 295],xs [],pb,di "dict" [e P "__module__" 568<|s "methodrows.values" 544,e P "__qualname__" 570<|s "Thing" 569,e P "__firstlineno__" 572<|i 193 571,e P "__init__" 582<|r 310,e P "__static_attributes__" 586<|r 311] 5,xs [],fd [i 195 0,i 4 0,r 309],k "Thing" 563 193 300,fr 302 299<|s "methodrows.values" 544]),
 (192,ff),
 (191,li 191 [xs [i 128 413,i 2048 414,i 65536 415,i 1114112 417]]),
 (132,ff),
 (127,li 127 [xs [],xs [s "name" 332,s "Any" 333,r 127],xs [s "bottom" 335],xs [],xs [r 130]]),
 (78,ff),
 (69,li 69 [xs [s "value" 263],WG P,WF P,su 71,ib 71,xs [s "nothing" 270],xs [s "bool" 272,T],xs [s "bool" 274,F],xs [s "Int64" 276]]),
 (62,me 4 0 "__init__" "Thrown.__init__" 15 67 255 N),
 (37,li 37 [xs [s "message" 217,s "spot" 218],WI P,WH P,⟨(ty "getset_descriptor"),al,.fields ⟨[s "__weakref__" 220,r 39,bl "ExceptionGroup.__weakref__",N]⟩,#[]⟩,su 39,ib 39,xs [r 39],pb,di "dict" [e P "__module__" 234<|s "methodrows.errors" 194,e P "__qualname__" 236<|s "MachineFault" 235,e P "__firstlineno__" 238<|i 11 237,e P "__static_attributes__" 239<|r 50] 4,xs [],fd [],k "MachineFault" 229 11 46,fr 48 45<|s "methodrows.errors" 194,xs [],di "dict" [e P "__module__" 234<|s "methodrows.errors" 194,e P "__firstlineno__" 238<|i 11 237,e P "__static_attributes__" 239<|r 50,e P "__doc__" 240 N] 2,⟨(ty "type"),al,.cls ⟨"MachineFault",[r 39],[r 52,r 39,ty "Exception",ty "BaseException",ty "object"],51,"MachineFault",ao,[],[],ah,al,ah⟩,#[ab (r 43),al,ab (s "MachineFault" 227),ab (s "MachineFault" 235),ab (bl "Exception.__new__"),ab T]⟩,su 52,ib 52,xs [r 39],pb,di "dict" [e P "__module__" 250<|s "methodrows.errors" 194,e P "__qualname__" 252<|s "Thrown" 251,e P "__firstlineno__" 254<|i 13 253,e P "__init__" 262<|r 68,e P "__static_attributes__" 264<|r 69] 5,xs [],fd [i 15 0,i 4 0,r 67],k "Thrown" 245 13 58,fr 60 57<|s "methodrows.errors" 194]),
 (30,me 2 0 "__init__" "RowsError.__init__" 7 35 208<|r 29),
 (22,li 22 [xs [ty "Exception"],pb,di "dict" [e P "__module__" 203<|s "methodrows.errors" 194,e P "__qualname__" 205<|s "RowsError" 204,e P "__firstlineno__" 207<|i 5 206,e P "__init__" 216<|r 36,e P "__static_attributes__" 219<|r 37] 5,xs [],fd [i 7 0,i 4 0,r 35],k "RowsError" 198 5 25,fr 27 24<|s "methodrows.errors" 194,xs [N]]),
 (15,ff),
 (0,li 0 [boot_o_0 P,V2 P,acH P,g P (s "law_sf0044_01" 1476) (ahI P 642) 183,boot_o_4 P,boot_o_5 P,boot_o_6 P,boot_o_7 P,boot_o_8 P,boot_o_9 P,boot_o_10 P,xs [],h ac0,k "<module>" 182 1 11,fr 13 3<|s "__main__" 164])]
def t7 (P:cF):BT:=gen (ob P) 1120
def t0 (P:cF):BT:=gen (ov (ob P) [(2,boot_o_2 P),(3,g P (s "__main__" 164) (acZ P 394) 9),(12,h WU)]) 15
def t1 (P:cF):BT:=gen (ov (ob P) [(3,g P (s "methodrows.errors" 194) (acY P 394) 12),(12,h WT),(39,acF P)]) 55
def t2 (P:cF):BT:=gen (ov (ob P) [(3,g P (s "methodrows.octets" 405) (acX P 394) 45),(12,h WS)]) 241
def t3 (P:cF):BT:=gen (ov (ob P) [(3,g P (s "methodrows.strings" 782) (acW P 394) 77),(12,h WR)]) 454
def t4 (P:cF):BT:=gen (ov (ob P) [(3,g P (s "methodrows.strings" 782) (acV P 642) 106),(12,h WQ)]) 650
def t5 (P:cF):BT:=gen (ov (ob P) [(3,g P (s "methodrows.string_builtins" 1064) (acU P 642) 116),(12,h WP)]) 673
def t6 (P:cF):BT:=gen (ov (ob P) [(3,g P (s "methodrows.string_builtins" 1064) (acT P 642) 150),(12,h WO)]) 903
end H
open H renaming t7->abq
def tR:Env:={scope:=oh.main.scope,locals:=mainNs,globals:=mainNs,cells:=[],code:=.ref 13,frame:=ab 14}
def gj:Code:=.body oh.main.body tR
noncomputable def Ex:List Frame:=[topFrame ⟨0,0,0,0⟩]
noncomputable def lN (t:cF->BT) (n k:Nat) (w:dG) (os:gN):SharedT:=⟨t w.params,n,{},#[],{},k,os⟩
def xQ (a b:Nat):List Stmt:=(oh.main.body.drop a).take b
def sR (w:dG) (k:Nat) (s:abd) (a n:Nat) (p:nX):Option (D1×abd×Code×nX):=Fast.tw10110043849684766642 Fast.tw14364793385576792824 oh w 11 (ab<|.ref 6) 1 k s ⟨(Fast.tw12563942051412417395 (xQ a n) tR).wrap doneF deadEnd id id,gj,p,Ex⟩
theorem abJ (w:dG) (k:Nat) (s:abd) (a n:Nat) (p:nX):segRunT oD oh w 11 (ab<|.ref 6) 1 k s (piecesOf (xQ a n) tR gj p Ex)=sR w k s a n p:=by unfold piecesOf;rw[Fast.te10110043849684766642,oU,Fast.te12563942051412417395];rfl
theorem ch1 (w:dG) (os:gN):sR w 783 (lN H.t0 15 187 w os) 0 4 ⟨0,0,0,0⟩=ab (.next,lN H.t1 55 243 w os,gj,⟨11,0,12,8⟩):=by kernel_rfl
theorem ch2 (w:dG) (os:gN):sR w 1370 (lN H.t1 55 243 w os) 4 36 ⟨11,0,12,8⟩=ab (.next,lN H.t2 241 482 w os,gj,⟨150,0,154,42⟩):=by kernel_rfl
theorem ch3 (w:dG) (os:gN):sR w 1751 (lN H.t2 241 482 w os) 40 35 ⟨150,0,154,42⟩=ab (.next,lN H.t3 454 819 w os,gj,⟨318,0,318,13⟩):=by refine byRow2 "special-get-raises" (P:=λw=>∀os:gN,sR w 1751 (lN H.t2 241 482 w os) 40 35 ⟨150,0,154,42⟩=ab (.next,lN H.t3 454 819 w os,gj,⟨318,0,318,13⟩)) ?_ ?_ w os<;>(intro w os;kernel_rfl)
theorem ch4 (w:dG) (os:gN):sR w 1173 (lN H.t3 454 819 w os) 75 30 ⟨318,0,318,13⟩=ab (.next,lN H.t4 650 1051 w os,gj,⟨444,0,451,40⟩):=by kernel_rfl
theorem ch5 (w:dG) (os:gN):sR w 753 (lN H.t4 650 1051 w os) 105 11 ⟨444,0,451,40⟩=ab (.next,lN H.t5 673 1108 w os,gj,⟨466,0,466,5⟩):=by refine byRow2 "special-get-raises" (P:=λw=>∀os:gN,sR w 753 (lN H.t4 650 1051 w os) 105 11 ⟨444,0,451,40⟩=ab (.next,lN H.t5 673 1108 w os,gj,⟨466,0,466,5⟩)) ?_ ?_ w os<;>(intro w os;kernel_rfl)
theorem ch6 (w:dG) (os:gN):sR w 1317 (lN H.t5 673 1108 w os) 116 34 ⟨466,0,466,5⟩=ab (.next,lN H.t6 903 1384 w os,gj,⟨568,0,572,25⟩):=by kernel_rfl
theorem ch7 (w:dG) (os:gN):sR w 1295 (lN H.t6 903 1384 w os) 150 34 ⟨568,0,572,25⟩=ab (.next,lN abq 1120 1659 w os,gj,⟨733,0,743,94⟩):=by kernel_rfl
def sh0 (w:dG) (os:gN):Shared:=(lN H.t0 15 187 w os).abs
theorem Zs (w:dG) (os:gN):topGo oD oh w 11 (ab<|.ref 6) 12 ⟨ql w.params,Wh [],aaD,afH,os⟩ (topStub oh)=
 ab ((lN H.t0 15 187 w os).abs,⟨denote oD gj,gj,⟨0,0,0,0⟩,Ex⟩):=by
 rw[Fast.te15667345088766844465,oU,Fast.te11892475500146522536];kernel_rfl
theorem QP (w:dG) (os:gN):segRun oD oh w 11 (ab<|.ref 6) 1 1 (lN H.t0 15 187 w os).abs (blockOf oh.main.body tR gj ⟨0,0,0,0⟩ Ex)=
 ab (.next,(lN H.t0 15 187 w os).abs,gj,⟨0,0,0,0⟩):=by kernel_rfl
theorem Zt (w:dG) (os:gN):aaw oD oh w 11 (ab<|.ref 6) 2 (lN abq 1120 1659 w os).abs ⟨doneF .next,gj,⟨733,0,743,94⟩,Ex⟩=ab (lN abq 1120 1659 w os).abs:=by rw[Fast.te14082659384304107361,oU];kernel_rfl
theorem UK:opening oh=plainProg oh.main.scope.names:=by kernel_rfl
theorem QO (s:bh):fenceModules? oh s=ab s:=by kernel_rfl
def wb (P:cF):Heap:=absHeap (abq P) 1120 {}
theorem UI (w:dG):((ql w.params).isNs D8&&(#[]:Array GenState).size==0,(ql w.params).objs.size,(ql w.params).nsMap D8 "__annotations__")=(ao,11,ab<|.ref 6):=by kernel_rfl
def o0 (a:Nat):List Stmt:=oh.main.body.drop a
theorem An (a n:Nat):o0 a=xQ a n++o0 (a+n):=by unfold o0 xQ;rw[<-List.drop_drop,fa]
theorem og {w:dG} {a n N k:Nat} {s F:abd} {r:bh} {p C:nX} (h:sR w k s a n p=ab (.next,F,gj,C))
 (q:aaw oD oh w 11 (ab<|.ref 6) N F.abs (restOf (o0<|a+n) tR gj C Ex)=ab r):aaw oD oh w 11 (ab<|.ref 6) (k+N) s.abs (restOf (o0 a) tR gj p Ex)=ab r:=by
 rw[An a n];exact piece_app (segRun_of<|ag (abJ ..) h) q
theorem Ew:o0 184=[]:=by kernel_rfl
theorem Zr (w:dG) (os:gN):aaw oD oh w 11 (ab<|.ref 6) 8457 ⟨ql w.params,Wh [],aaD,afH,os⟩ (topStub oh)=ab (lN abq 1120 1659 w os).abs:=by
 have a:aaw oD oh w 11 (ab<|.ref 6) 2 (lN abq 1120 1659 w os).abs (restOf (o0 184) tR gj ⟨733,0,743,94⟩ Ex)=ab (lN abq 1120 1659 w os).abs:=by rw[Ew];exact piece_nil<|Zt w os
 have e:=og (ch7 w os) a;have U:=og (ch6 w os) e;have X:=og (ch5 w os) U;have E:=og (ch4 w os) X;have W:=og (ch3 w os) E;have J:=og (ch2 w os) W;have T:=og (ch1 w os) J;have R:=piece_block (QP w os) T;have F:=go_top (Zs w os) R;exact F
def qX:Program:={oh with main:={oh.main with body:=o0 183}}
def zb:List Str:=oh.boundNames.filter λn=>!(n==("law":V4))
def abK (w:dG) (os:gN):Shared:=(lN abq 1120 1659 w os).abs
theorem Uf:importedModules oh.main.body=[]:=by kernel_rfl
theorem Qh (w:dG):namesBound oh (wb w.params)=true:=by kernel_rfl
theorem Ug (w:dG):laidKept (ql w.params) (wb w.params)=true:=by kernel_rfl
theorem Ud (w:dG):staticsOk [] (ql w.params) (wb w.params)=true:=by kernel_rfl
theorem Uh (w:dG) (os:gN):gensDone (abK w os)=true:=by kernel_rfl
theorem Ue (w:dG) (os:gN):openSeen qX zb [] (λ_=>ao) ao (abK w os)=openGood qX zb:=by rw[Fast.te4187177175401517315];kernel_rfl
end
section
open PySem PySem.W PySem.Calls PyProof.Rows
theorem QN:LeftO oh qX zb (λ_=>ao) (λs=>(s.heap,s.toks)) (λw=>(wb w.params,1659)) 9000:=
 LeftO.of_pieces (H₀:=ql) (H₁:=wb) (gs₀:=Wh []) (gs₁:=#[]) (d₀:=aaD) (d₁:={}) (k₀:=afH) (k₁:=1659) (m₀:=11) (ann:=ab<|.ref 6) (M:=8457)
  (boot_open UK (by kernel_rfl) QO) UI Zr (by kernel_rfl) λw=>by funext os;rw[Uf];have J:=Qh w;have W:=Ug w;have E:=Ud w;have X:=Uh w os;have U:=Ue w os;rw[J,W,E];exact Prod.ext (by rw[show gensDone ⟨wb w.params,#[],{},1659,os⟩=ao from X];rfl)<|Prod.ext U rfl
abbrev Zw:List am->am->Bool:=@Fast.tw3471404346716756564 am<|@instBEqOfDecidableEq am Fast.sDec
theorem lo1:Fast.tw11788848310118352699 oh.main=true:=by kernel_rfl
theorem lo2:((BZ oh.main.body).isEmpty||Fast.tw12862048085361865435 (BZ oh.main.body) oh.main.body)=true:=by kernel_rfl
theorem lo3:Fast.tw8377067652309620493 oh=true:=by kernel_rfl
theorem lo4:(R.allR (Fast.tw18344453789297297638 oh) λn=>!Zw Fast.tw14412699480532031325 n)=true:=by kernel_rfl
theorem ahF:R.filterR (AU oh oh.main.body) [{cps:={toList:=[118,97,114,115]}},{cps:={toList:=[100,105,114]}},{cps:={toList:=[108,111,99,97,108,115]}}]=[]:=by kernel_rfl
theorem ahE:(!R.allR (B1 oh.main.body) (Zw AT))=false:=by kernel_rfl
theorem lo6:(Fast.tw17119622794617984870 oh oh.main.body λx n=>Fast.tw17868728402115742887 n)=true:=by kernel_rfl
theorem lo5:B0 {strict:=ah,foot:=al,bare:=[]} oh.main.body=true:=by kernel_rfl
theorem ahD:B0 {strict:=!R.allR (B1 oh.main.body) (Zw AT),foot:=al,bare:=R.filterR (AU oh oh.main.body) [{cps:={toList:=[118,97,114,115]}},{cps:={toList:=[100,105,114]}},{cps:={toList:=[108,111,99,97,108,115]}}]} oh.main.body=true:=by rw[ahF,ahE];exact lo5
theorem Y7:Fast.tw12908688711261696721 oh=true:=qk (qk (qk (qk (qk lo1 lo2) lo3) lo4) ahD) lo6
abbrev lX:OpenLaw:=cR
theorem abQ:B2 (B3 lX)=true:=by
 unfold B2
 iterate 13 (refine qk ?_ (by kernel_rfl))
 exact Y7
theorem aha:AS (B3 lX)=true:=by
 unfold AS
 iterate 2 (refine qk ?_ (by kernel_rfl))
 exact abQ
theorem UJ:lX.wellSaid=true:=by
 rw[Fast.te9446332074065402090];unfold Fast.tw9446332074065402090
 iterate 18 (refine qk ?_ (by kernel_rfl))
 exact aha
def dX:DefRec:=((defOf qX ("law":V4)).getD (⟨"law",(bF 183).1,(bF 183).2.1,(bF 183).2.2,⟨0,0,0,0⟩⟩,[])).1
theorem Zu:defOf qX ("law":V4)=ab (dX,[]):=by kernel_rfl
theorem Zq:oh.theDef ("law":V4)=ab (dX.params,dX.body,dX.scope):=by kernel_rfl
def Told (w:dG) (h:eG):Prop:=∀b o,(wb w.params).get? b=ab o->h.get? b=ab o
theorem adC:kwWritten? dX.params.kwonlyargs dX.params.kw_defaults=ab []:=by kernel_rfl
theorem adB:(chainsOk qX&&opensWell oh&&(frees cR.row.toRowW&&cR.row.within.isEmpty))=true:=by kernel_rfl
theorem FK:cR.row.toRowW.promised:=⟨[.list []],by decide+kernel,by decide+kernel⟩
theorem MD (call:WalkX qX zb (λ_ _=>True) (λs=>(s.heap,s.toks)) (λw=>(wb w.params,1659)) cR.row.toRowW dX [] λf U=>PySem.call f U):cR.Holds:=
 holds_law UJ λa=>PySem.W.holds_openX (q:=qX) (loose:=zb) (Xt:=λ_=>ao) (XP:=λ_ _=>True) (Yf:=λs=>(s.heap,s.toks)) (Ya:=λw=>(wb w.params,1659)) (N:=9000) QN
  (λ_ _=>trivial) (λ_ _ _ _ _=>trivial) Zu Zq adC (λs _=>recFacts_nil rfl) rfl a adB ⟨rfl,rfl,rfl,rfl,rfl,by decide+kernel⟩ FK call
noncomputable def Ww (o:uz):Bool:=by
 cases o.data
 case freed=>exact ah
 case dict=>
  cases o.cls
  case type s=>exact s !="frame"
  all_goals exact ao
 all_goals exact ao
def cC (P:cF):aN:=⟨P,λa=>gd (Nat.blt a 1120)<|((H.t7 P).get a).bind λo=>gd (Ww o&&!nC a 939)<|ab o,λ_=>False⟩
theorem Kk (h:cC P a=ab o):a<1120/\(H.t7 P).get a=ab o/\Ww o=true:=by refine bC (cK h) λJ W=>aH (bind_some W) λu g E=>bC (cK E) λk e=>?_;obtain rfl:=ai e;exact⟨Nat.blt_eq.mp J,g,(hO k).1⟩
theorem Fq (t:Told w h) (e:cC w.params a=ab o):h.get? a=ab o:=by refine iZ (Kk e) λJ W E=>t a o ?_;unfold wb;refine ag (abs_get J W) ?_;obtain⟨c,d,B,p⟩:=o;cases B<;>first|rfl|cases E
theorem Zb (e:cC P a=ab o):¬b4 o:=by refine iZ (Kk e) λJ W E=>?_;rintro ⟨c,u,n,d⟩;obtain⟨b,V,B,p⟩:=o;replace c:b=.type "frame":=c;replace d:B=.dict u n:=d;subst c d;have:("frame"!="frame")=true:=E;exact absurd this<|by decide
theorem Un (P):cC P 939=none:=rfl
noncomputable def fnB (x:jy×List rv×rF):Bool:=
 (x.2.2.kind==.function)&&!x.2.2.isGenerator&&!x.2.2.isCoroutine&&decide (x.2.2.names.map (·.1)).Nodup&&x.2.2.names.all (λy=>y.2 !=.free)&&x.1.posonlyargs.isEmpty&&x.1.vararg.isNone&&x.1.kwonlyargs.isEmpty&&x.1.kwarg.isNone&&
   (x.1.args.map (·.arg)).isPrefixOf (x.2.2.names.map (·.1))&&x.1.args.all λy=>x.2.2.names.lookup y.arg==ab .local||x.2.2.names.lookup y.arg==ab .cell
noncomputable def aep:Data->Option wI
 |.func f=>ab f
 |_=>al
theorem Vm (h:aep d=ab f):d=.func f:=by cases d<;>first|exact aC h|exact congrArg _ (ai h)
noncomputable def aeq:Data->Option (Array Value)
 |.fields f=>ab f
 |_=>al
theorem Vn (h:aeq d=ab f):d=.fields f:=by cases d<;>first|exact aC h|exact congrArg _ (ai h)
noncomputable def vStr:Value->Option am
 |.str j _=>ab j
 |_=>al
theorem B7 (h:vStr v=ab i):∃t,v=.str i t:=by cases v<;>first|exact aC h|exact⟨_,by rw[ai h]⟩
noncomputable def Kq (K:aN) (a:bk):Option FuncData:=(K a).bind λo=>aep o.data
noncomputable def Ct (K:aN) (c:bk):Option am:=(K c).bind λo=>(aeq o.data).bind λU=>(U[1]?:Option Value).bind vStr
theorem TF {K:aN} (h:Ct K c=ab s):∃b U t,K c=ab b/\b.data=.fields U/\U[1]?=ab (.str s t):=by refine aH (bind_some h) λo e h=>aH (bind_some h) λU d h=>aH (bind_some h) λv m h=>bd (B7 h) λt a=>?_;exact⟨o,U,t,e,Vn d,by(refine ag m ?_;rw[a])⟩
theorem ZH {K:aN} (h:Kq K a=ab f):∃o,K a=ab o/\o.data=.func f:=by exact aH (bind_some h) λo e h=>⟨o,e,Vm h⟩
noncomputable def C8 (f:wI):=(f.params,f.body,f.scope,f.globals,f.closure,f.builtins,f.code,f.qualname,f.defaults)
theorem UR {K:aN} (h:fnB x=ao)
 (Y:(Kq K a).map C8=ab (x.1,.stmts x.2.1,x.2.2,3,[],0,.ref c,p,E)) (hq:Ct K c=ab p)
 (g:(E=.none/\defs=[])\/∃d V n e,E=.ref d/\K d=ab V/\V.data=.seq (af e) n/\bU K [] defs e):
 FnAt K a x.1 x.2.1 x.2.2 defs:=by
 simp only[fnB,bt,JC,vB,decide_eq_true_eq,beq_iff_eq,cm,bne_iff_ne,kg,AP,gE,List.isPrefixOf_iff_prefix] at h;refine bC h λS w=>bC S λZ u=>?_;refine bC Z λH X=>bC H λL W=>?_;refine bC L λz T=>bC z λM O=>?_;refine bC M λR N=>bC R λG J=>?_;refine bC G λv D=>bC v λI Q=>?_;refine bd u λj q=>?_;refine aH (a9.mp Y) λf y l=>aH (ZH y) λo ho m=>?_;simp only[C8,AO] at l;refine aeh l λe1 i C F k s P S=>bC S λA r=>?_;refine wi (TF hq) λb U t c1 c2 B=>⟨I,Q,D,J,N,⟨O,T,W,X⟩,⟨j,ae q⟩,w,o,f,ho,m,C,e1,i,k,F,s,⟨c,b,U,t,P,c1,c2,by refine A▸?_;exact B⟩,?_⟩;exact r▸g
theorem adP {K:aN} {a c k:Nat} (h:fnB (bF k)=ao)
 (Y:(Kq K a).map C8=ab ((bF k).1,.stmts (bF k).2.1,(bF k).2.2,3,[],0,.ref c,p,E)) (L:Ct K c=ab p)
 (g:(E=.none/\defs=[])\/∃d V n e,E=.ref d/\K d=ab V/\V.data=.seq (af e) n/\bU K [] defs e):
 FnAt K a (bF k).1 (bF k).2.1 (bF k).2.2 defs:=UR h Y L g
noncomputable def MW:List FE:=[⟨112,13,ah,[],[]⟩,⟨105,12,ah,[],[]⟩,⟨98,11,ah,[],[]⟩]
def r6:List FE:=[⟨794,133,ah,[],[]⟩,⟨707,120,ah,[],[]⟩,⟨432,63,ah,[],[]⟩,⟨888,147,ah,[],[]⟩,⟨628,100,ah,[],[]⟩,⟨590,94,ah,[],[]⟩,⟨881,146,ah,[],[]⟩,⟨902,149,ah,[],[]⟩,⟨801,134,ah,[],[]⟩,⟨522,84,ah,[],[]⟩,⟨930,153,ah,[],[]⟩,⟨923,152,ah,[],[]⟩,⟨649,104,ah,["found"],[]⟩,⟨425,62,ah,["found","left"],[]⟩,⟨387,55,ah,[],[]⟩,⟨656,105,ah,[],[]⟩,⟨642,102,ah,[],[]⟩,⟨635,101,ah,[],[]⟩,⟨623,99,ah,["found"],[]⟩,⟨616,98,ah,[],[]⟩,⟨808,135,ah,[],[]⟩,⟨529,85,ah,[],[]⟩,⟨290,47,ah,[],[]⟩,⟨777,130,ah,[],[]⟩,⟨285,46,ah,[],[]⟩,⟨763,128,ah,[],[]⟩,⟨502,81,ah,[],[]⟩,⟨721,122,ah,[],[]⟩,⟨280,45,ah,[],[]⟩,⟨818,137,ah,[],[]⟩,⟨562,90,ah,[],[]⟩,⟨555,89,ah,["found"],[]⟩,⟨273,44,ah,[],[]⟩,⟨268,43,ah,["found"],[]⟩,⟨212,35,ah,["found"],[]⟩,⟨515,83,ah,[],[.bytes []]⟩,⟨474,77,ah,[],[]⟩,⟨853,142,ah,[],[]⟩,⟨583,93,ah,[],[]⟩,⟨846,141,ah,[],[]⟩,⟨576,92,ah,[],[]⟩,⟨832,139,ah,[],[]⟩,⟨550,88,ah,[],[]⟩,⟨825,138,ah,[],[]⟩,⟨543,87,ah,[],[]⟩,⟨536,86,ah,[],[]⟩,⟨789,132,ah,[],[]⟩,⟨509,82,ah,[],[]⟩,⟨770,129,ah,[],[]⟩,⟨91,10,ah,[],[]⟩,⟨756,127,ah,[],[]⟩,⟨495,80,ah,[],[]⟩,⟨261,42,ah,[],[]⟩,⟨749,126,ah,[],[]⟩,⟨488,79,ah,[],[]⟩,⟨254,41,ah,[],[]⟩,⟨742,125,ah,[],[]⟩,⟨481,78,ah,[],[]⟩,⟨240,39,ah,[],[]⟩,⟨467,76,ah,[],[]⟩,⟨247,40,ah,[],[]⟩,⟨233,38,ah,[],[]⟩,⟨205,34,ah,[],[]⟩,⟨198,33,ah,[],[]⟩,⟨219,36,ah,[],[]⟩,⟨226,37,ah,[],[]⟩,⟨700,119,ah,[],[]⟩,⟨735,124,ah,[],[]⟩,⟨460,75,ah,[],[]⟩,⟨84,9,ah,[],[cV "Int64"]⟩,⟨693,118,ah,[],[]⟩,⟨686,117,ah,[],[]⟩,⟨679,116,ah,[],[]⟩]
noncomputable def rr:List FE:=[⟨1071,175,ah,[],[]⟩,⟨1093,179,ah,[],[]⟩,⟨1064,174,ah,[],[]⟩,⟨1024,168,ah,[],[]⟩,⟨1107,181,ah,[],[]⟩,⟨1100,180,ah,[],[]⟩,⟨1088,178,ah,[],[]⟩,⟨1083,177,ah,["found"],[]⟩,⟨1059,173,ah,[],[]⟩,⟨1031,169,ah,[],[]⟩,⟨1052,172,ah,[],[]⟩,⟨1045,171,ah,[],[]⟩,⟨1076,176,ah,[],[]⟩,⟨1017,167,ah,[],[]⟩,⟨1012,166,ah,["found"],[]⟩,⟨1038,170,ah,[],[]⟩,⟨1005,165,ah,[],[]⟩,⟨1000,164,ah,[],[]⟩,⟨993,163,ao,["return"],[]⟩]
def dd (k:Nat):List PV:=bif nC k 9 then[cV "Int64"] else bif nC k 19 then[.tup []] else bif nC k 83 then[.bytes []] else[]
def Sg (K:aN) (f:FE):Prop:=FnAt K f.addr (bF f.k).1 (bF f.k).2.1 (bF f.k).2.2 f.defs
theorem nbF {a b:Nat} (h:¬a=b):nC a b=false:=SD.mpr λe=>h<|K3 e
theorem aem (P:cF) (k:Nat):(H.df k=.none/\dd k=[])\/∃d V n By,H.df k=.ref d/\cC P d=ab V/\V.data=.seq (af By) n/\bU (cC P) [] (dd k) By:=by
 by_cases J:k=9
 ·subst J;exact .inr ⟨77,H.xs [H.s "Int64" 276],0,[H.s "Int64" 276],rfl,by kernel_rfl,rfl,b7 (qf) eu⟩
 by_cases W:k=19
 ·subst W;exact .inr ⟨131,H.xs [H.r 130],0,[H.r 130],rfl,by kernel_rfl,rfl,b7 (⟨130,H.xs [],0,[],rfl,by kernel_rfl,rfl,rfl,eu⟩) eu⟩
 by_cases E:k=83
 ·subst E;exact .inr ⟨510,H.xs [H.y [] 882],0,[H.y [] 882],rfl,by kernel_rfl,rfl,b7 (jQ) eu⟩
 left;unfold H.df dd;rw[nbF J,nbF W,nbF E];exact⟨rfl,rfl⟩
abbrev feV (P:cF) (f:FE):=(fnB<|bF f.k,(Kq (cC P) f.addr).map C8,Ct (cC P)<|f.addr-1,f.defs)
abbrev feD (f:FE):=(ao,ab ((bF f.k).1,FuncBody.stmts (bF f.k).2.1,(bF f.k).2.2,(3:bk),([]:List (am×bk)),(0:bk),f6<|f.addr-1,(H.nl f.k).1,H.df f.k),ab (H.nl f.k).1,dd f.k)
theorem T9 {u z:Type} {F G:u->z} {l:List u} (e:l.map F=j4 [] (λf _ R=>G f::R) l):∀f∈l,F f=G f:=by
 induction l with
 |nil=>exactλ_ h=>absurd h aY
 |cons a l o=>exact bC (z7 e) λJ W=>List.forall_mem_cons.mpr ⟨J,o W⟩
theorem FV (P:cF) {l:List FE} (e:l.map (feV P)=j4 [] (λf _ R=>feD f::R) l):∀f∈l,Sg (cC P) f:=λf Y=>by have h:=T9 e f Y;refine adP (congrArg (·.1) h) (congrArg (·.2.1) h) (congrArg (·.2.2.1) h) ?_;rw[show f.defs=dd f.k from congrArg (·.2.2.2) h];exact aem P f.k
theorem mc {P:cF} {a k:Nat} (e:[(⟨a,k,ah,[],[]⟩:FE)].map (feV P)=[feD ⟨a,k,ah,[],[]⟩]):FnAt (cC P) a (bF k).1 (bF k).2.1 (bF k).2.2 []:=FV P e _ bc
theorem UZ (P:cF):∀f∈MW,Sg (cC P) f:=FV P rfl
theorem UY (P:cF):∀f∈r6,Sg (cC P) f:=FV P rfl
theorem UX (P:cF):∀f∈rr,Sg (cC P) f:=FV P rfl
def N3 (u:List cE) (x:am):Option Value:=(u.find? λe=>(vStr e.key).elim ah λn=>K6 n x).map (·.val)
theorem Mw (x v):v.isStr x=(vStr v).elim ah λn=>K6 n x:=by
 induction v with
 |str n t=>
  show(n==x)=K6 n x
  cases q:K6 n x with
  |true=>exact(ae<|abl.mp q)▸beq_self_eq_true x
  |false=>exact beq_false_of_ne λg=>by rw[abl.mpr g] at q;exact kh q
 |_=>rfl
theorem qC (u x):kR (af u) x=N3 u x:=by unfold kR wA N3;rw[Og];exact congrArg (λp=>(u.find? p).map (·.val))<|funext λe=>Mw x e.key
noncomputable def vInt:Value->Option Int
 |.int j _=>ab j
 |_=>al
noncomputable def Oy:Value->Option (Array UInt8)
 |.bytes j _=>ab j
 |_=>al
noncomputable def Le:Value->Option bk
 |.ref j=>ab j
 |_=>al
noncomputable def vTy:Value->Option String
 |.type j=>ab j
 |_=>al
noncomputable def aeo:Data->Option (Array Value)
 |.seq U _=>ab U
 |_=>al
noncomputable def RB:Data->Option (Array cE)
 |.dict u _=>ab u
 |_=>al
theorem JI {i:Int} (h:vInt v=ab i):∃t,v=.int i t:=by cases v<;>first|exact aC h|exact⟨_,by rw[ai h]⟩
theorem Lf (h:Oy v=ab i):∃t,v=.bytes i t:=by cases v<;>first|exact aC h|exact⟨_,by rw[ai h]⟩
theorem B8 (h:Le v=ab i):v=.ref i:=by cases v<;>first|exact aC h|exact congrArg _ (ai h)
theorem Ox (h:vTy v=ab i):v=.type i:=by cases v<;>first|exact aC h|exact congrArg _ (ai h)
theorem Vl (h:aeo d=ab i):∃n,d=.seq i n:=by cases d<;>first|exact aC h|exact⟨_,by rw[ai h]⟩
theorem F5 (h:RB d=ab i):∃n,d=.dict i n:=by cases d<;>first|exact aC h|exact⟨_,by rw[ai h]⟩
def uI (l:List cE):Bool:=l.all λe=>(vStr e.key).isSome
theorem jH (h:uI u=ao):ur (af u):=λe J=>by exact bd (kB.mp<|cm.mp h e<|by simpa using J) λn B=>bd (B7 B) λt e=>⟨n,t,e⟩
noncomputable def zE (K:aN) (a:bk):Option (List cE):=(K a).bind λo=>(RB o.data).map oM
theorem nL {K:aN} (h:zE K a=ab u):∃o n,K a=ab o/\o.data=.dict (af u) n:=by refine aH (bind_some h) λo z e=>?_;refine aH (a9.mp e) λl C S=>?_;subst S;exact bd (F5 C) λn e=>⟨o,n,z,e⟩
def u1 (P:cF):List DictEntry:=(zE (cC P) 3).getD []
def RU (P:cF):List DictEntry:=(zE (cC P) 0).getD []
noncomputable def ikB:List Int->List cE->Bool
 |[],u=>u.isEmpty
 |k::j,u=>match u with
  |e::u=>decide (e.hash=hashInt k)&&decide (vInt e.key=ab k)&&ikB j u
  |[]=>ah
noncomputable def S8 (K:aN) (v:Value):Option (Array Value):=(Le v).bind λa=>(K a).bind λo=>(aeo o.data).filter λ_=>decide<|vTy o.cls=ab "tuple"
noncomputable def C4 (K:aN) (v:Value):Option (Array cE):=(Le v).bind λa=>(K a).bind λo=>(RB o.data).filter λ_=>decide (vTy o.cls=ab "dict")&&o.dict.isNone&&o.slots.isEmpty&&!nC a 1
mutual
noncomputable def vrB (K:aN) (p:PV) (v:Value):Bool:=match p with
 |.int i=>decide<|vInt v=ab i
 |.bool i=>decide<|v=.bool i
 |.str l=>decide ((vStr v).map (·.cps.toList)=ab l)
 |.bytes l=>decide ((Oy v).map (·.toList)=ab l)
 |.ref a=>(Le v).elim ah<|nC a
 |.blt s=>decide<|v=.builtin s
 |.ty s=>decide<|v=.type s
 |.tup l=>(S8 K v).elim ah λU=>Ld K l U.toList
 |.xD j l=>(C4 K v).elim ah λu=>ikB j u.toList&&Ld K l (u.toList.map (·.val))
 |_=>ah
noncomputable def Ld (K:aN) (l:List PV) (U:List Value):Bool:=match l with
 |[]=>U.isEmpty
 |p::l=>match U with
  |v::U=>vrB K p v&&Ld K l U
  |[]=>ah
end
theorem Zm:∀{j u},ikB j u=ao->aa j=aa u/\∀(i:Nat) (k:Int) (e:cE),j[i]?=ab k->u[i]?=ab e->e.hash=hashInt k/\∃t,e.key=.int k t:=by
 intro j
 induction j with
 |nil=>intro u h;cases u with
  |nil=>exact⟨rfl,λi k e h=>by cases i<;>cases h⟩
  |cons _ _=>cases h
 |cons k j o=>intro u h;cases u with
  |nil=>cases h
  |cons e u=>
   refine bC ((fA.mp h)) λJ E=>bC ((fA.mp J)) λJ W=>bC (o E) λX U=>⟨congrArg (· +1) X,λi Z V a b=>?_⟩
   induction i with
   |zero=>cases a;cases b;exact⟨of_decide_eq_true J,JI<|of_decide_eq_true W⟩
   |succ i=>exact U i Z V a b
theorem S7 {K:aN} (h:S8 K v=ab U) (F:P U.toList):vx K AJ P v:=by exact aH (bind_some h) λa J h=>aH (bind_some h) λo W h=>bC (pp.mp h) λE X=>bd (Vl E) λn Z=>⟨a,o,n,U.toList,B8 J,W,Ox<|of_decide_eq_true X,Z,F⟩
theorem Mz {K:aN} (h:C4 K v=ab u) (t:m=u.size) (Y:C u) (F:P (u.toList.map (·.val))):aau K m C P v:=by refine aH (bind_some h) λa J h=>aH (bind_some h) λo W h=>bC (pp.mp h) λE X=>bd (F5 E) λn U=>?_;simp only[bt,decide_eq_true_eq,AP,Oo,JC,vB] at X;refine bC X λS w=>bC S λZ f=>?_;refine bC Z λl c=>?_;exact⟨a,o,n,u,B8 J,W,⟨Ox l,c,f⟩,Nat.ne_of_beq_eq_false w,U,t,Y,F⟩
mutual
theorem vM {K:aN} {O:List bk} (p v) (h:vrB K p v=ao):VR K O p v:=by
 cases p with
 |int i=>exact JI<|of_decide_eq_true h
 |bool i=>exact(of_decide_eq_true h:v=.bool i)
 |str l=>exact aH (a9.mp<|of_decide_eq_true h) λs J W=>bd (B7 J) λt E=>⟨t,by(refine ag E ?_;rw[<-W])⟩
 |bytes l=>exact aH (a9.mp<|of_decide_eq_true h) λs J W=>bd (Lf J) λt E=>⟨t,by(refine ag E ?_;rw[<-W])⟩
 |ref a=>
  have h:(Le v).elim ah (nC a)=true:=h
  cases q:Le v with
  |none=>rw[q] at h;cases h
  |some b=>rw[q] at h;rw[B8 q,K3 h];rfl
 |blt s=>exact(of_decide_eq_true h:v=.builtin s)
 |ty s=>exact(of_decide_eq_true h:v=.type s)
 |tup l=>
  have h:((S8 K v).elim ah λU=>Ld K l U.toList)=true:=h
  cases q:S8 K v with
  |none=>rw[q] at h;cases h
  |some U=>rw[q] at h;exact S7 q<|tQ l U.toList h
 |xD j l=>
  have h:((C4 K v).elim ah λu=>ikB j u.toList&&Ld K l (u.toList.map (·.val)))=true:=h
  cases q:C4 K v with
  |none=>rw[q] at h;cases h
  |some u=>rw[q] at h;exact bC (fA.mp h) λJ W=>bC (Zm J) λE X=>Mz q (by simpa using E) X<|tQ l _ W
 |_=>cases h
theorem tQ {K:aN} (l vs) (h:Ld K l vs=ao):bU K O l vs:=by
 cases l with
 |nil=>cases vs with
  |nil=>exact eu
  |cons _ _=>cases h
 |cons p l=>cases vs with
  |nil=>cases h
  |cons v vs=>have q:=fA.mp h;exact b7 (vM p v q.1)<|tQ l vs q.2
end
def glB (K:aN) (g b:List cE) (e:am×PV):Bool:=match N3 g e.1 with
 |some v=>vrB K e.2 v
 |none=>(match N3 b e.1 with
  |some v=>vrB K e.2 v
  |none=>ah)
theorem Zz (P):adK.all (glB (cC P) (u1 P)<|RU P)=true:=by kernel_rfl
theorem sX (P):zE (cC P) 3=ab (u1 P):=rfl
theorem RR (P):zE (cC P) 0=ab (RU P):=rfl
theorem pX (P):uI (u1 P)=true:=rfl
theorem Gn (P):uI (RU P)=true:=rfl
def O2 (P:cF):List DictEntry:=(zE (cC P) 2).getD []
theorem Tp (P):zE (cC P) 2=ab (O2 P):=rfl
theorem Lz (P):uI (O2 P)=true:=rfl
theorem To (P):N3 (O2 P) "sys.recursionlimit"=none:=rfl
theorem jI (P):uk (cC P):=by
 refine⟨?_,λx p T=>?_⟩
 ·exact iB (nL<|Tp P) λo n J W=>⟨o,_,n,J,W,jH<|Lz P,by exact ag (qC ..)<|To P⟩
 ·have t:=mem_of_lookup T;have R:=cm.mp (Zz P) _ t;unfold glB at R;refine iB (nL<|sX P) λo n J W=>?_
  cases q:N3 (u1 P) x with
  |some v=>simp only[q] at R;exact⟨v,vM p v R,o,_,n,J,W,jH<|pX P,.inl<|by exact ag (qC ..)<|q⟩
  |none=>
   simp only[q] at R
   cases c:N3 (RU P) x with
   |none=>simp only[c] at R;cases R
   |some v=>simp only[c] at R;exact iB (nL<|RR P) λu w E X=>⟨v,vM p v R,o,_,n,J,W,jH<|pX P,.inr ⟨by exact ag (qC ..)<|q,u,_,w,E,X,jH<|Gn P,by exact ag (qC ..)<|c⟩⟩
end
section
open PySem PySem.W PySem.Calls PyProof.Rows PySem.SeqAt
theorem wm (Y:FnAt X a params body scope defs) (hS:uk X)
 {K:aN} (I:kl (n+1) A M) (N:Inv X K O H M s.heap) (hqs:bU K O g us) (J:aa g=aa params.args)
 (hbind:∀(o:uz) (fd:wI) (Q:List (am×Value)->bh->Prop),X a=ab o->o.data=.func fd->fd.params=params->((fd.defaults=.none/\defs=[])\/∃d V n By,fd.defaults=.ref d/\X d=ab V/\V.data=.seq (af By) n/\bU X [] defs By)->
  Q ((params.args.map (·.arg)).zip us) s->∀E,aD (MM w) A.in1 (qU fd ⟨U,[]⟩) Q E s)
 (hbody:∀env B k,dk X ⟨scope.names,x0,[]⟩ env->kl n (A.deeper env) (env::M)->(∀a∈aX env,s.heap.get? a=al)->Step [] K O s.heap k O B.heap->Inv X k O H (env::M) B.heap->
  aS env (scope.names.map (·.1)) (fw (aa scope.names) g) k O B.heap->aV s B->aa (fw (aa scope.names) g)=aa scope.names->
  (∃o fd q,X a=ab o/\o.data=.func fd/\env=newEnv scope s.heap.objs.size 3 (xl (s.heap.objs.size+1) scope.names []) q (ab a) fd.code al 0)->
  aD (MM w) (A.deeper env) (kc body env) (λf s₂=>R (.ok<|.ret (match f with|.ret v=>v|_=>.none)) s₂) (λ_ _=>False) B):
 nq (MM w) A (.call (.ref a) ⟨U,[]⟩) R s:=by
 refine ZW Y.ex λo fd z hd e1 e2 C F e5 S=>iZ S λe6 Z L=>?_;refine aee Z λc oc cvs t P e8 r b=>?_;have hroom:A.depth<recursionLimit:=by have:=I.dp;exact bX (cn _ _)<|by assumption
 refine(SL hroom (N.sub _ _ (N.stat _ _ z)) hd (by refine e1▸?_;exact Y.cor) (by exact e1▸Y.gen) C ⟨c,oc,cvs,t,P,N.sub _ _ (N.stat _ _ e8),r,b⟩ ?_);refine hbind o fd _ z hd e2 L ?_ _
 (refine(ae e1)▸F▸e5▸e6▸?_)
 refine bd Y.args λj hargs=>?_;have hul:=hqs.length
 have hlz:((params.args.map (·.arg)).zip us).map (·.2)=us:=by rw[rj];simp[hul,J]
 refine uX (y:=g) Y.kind Y.nd Y.free (λi x v D=>?_) (by refine(ae hlz)▸?_;exact hqs) ?_ N λenv B k l hF hfw dL G W gu=>?_
 ·rw[pN] at D;refine hargs▸?_;have hi1:=D.1;refine⟨by refine ag (dh (aA.mp hi1).1) ?_;exact hi1,?_⟩;rw[bY,a9] at hi1;refine aH hi1 λy hy S=>?_;subst S;exact Y.Xo y<|bq hy
 ·have:=congrArg aa hargs;simp only[aB,aI] at this;simp only[sG,aB];exact cP<|bj [aa params.args,aa j,aa scope.names,min (aa params.args)<|aa us] [] [(1,.a aJ bf,ct),(1,ig,aJ),(1,xi ct,ig)] rfl (cl<|an<|ae this)<|cl<|an<|eJ<|cP<|bj [aa params.args,aa g,aa us] [] [(1,aJ,bf),(1,bf,ct),(1,xi ct,aJ)] rfl (cl<|an<|ae J)<|cl<|an<|ae hul
 have hsc:env.scope=scope:=by refine l▸?_;rfl
 have hko:∀x,env.kindOf x=scope.names.lookup x:=λx=>by unfold SB;rw[hsc]
 have T:dk X ⟨scope.names,x0,[]⟩ env:=⟨Y.nd,λx q=>by exact ag (hko ..)<|q,λx q=>by exact ag (hko ..)<|q,λx q=>by exact ag (hko ..)<|q,hF,λx p q=>hS.glob x p q⟩;refine⟨?_,codeAny_func ?_⟩
 ·refine II hS.lim λoL u m hL hLd hLs hLf=>?_;exact⟨kR u,⟨oL,u,m,G.sub _ _ (G.stat _ _ hL),hLd,hLs,λ_=>rfl⟩,hLf⟩
 have hA:kl n (A.deeper env) (env::M):=⟨I.hd,by have:=I.dp;show A.depth+1+n<_;exact cP<|bj [A.depth,n,nh] [] [(1,xi<|.a aJ<|xi bf,ct),(1,xi ct,xi<|.a (xi aJ) bf)] rfl<|cl this,by have:=I.un;show A.units+3+10*n+20<_;exact cP<|bj [A.units,n,yk] [] [(1,xi<|.a (.a aJ<|.m 10<|xi bf)<|.n 20,ct),(1,xi ct,xi<|.a (.a (.a aJ<|.n 3)<|.m 10 bf)<|.n 20)] rfl<|cl this,th I.fr,w6 I.gd⟩
 have hfl:aa (fw (aa scope.names) g)=aa scope.names:=by have:=congrArg aa hargs;simp only[aB,aI] at this;simp only[fw,aI,aB,tg];exact cf (cP<|bj [aa scope.names-aa g,aa g,aa scope.names] [] [(1,.a aJ bf,ct),(1,xi ct,.a bf aJ)] rfl<|cl<|an<|bP<|cP<|bj [aa g,aa params.args,aa j,aa scope.names] [] [(1,aJ,bf),(1,.a bf ct,ig),(1,xi ig,aJ)] rfl (cl<|an J)<|cl<|an<|ae this)<|cP<|bj [aa scope.names,aa scope.names-aa g,aa g] [] [(1,aJ,.a bf ct),(1,xi<|.a ct bf,aJ)] rfl<|cl<|an<|ae<|bP<|cP<|bj [aa g,aa params.args,aa j,aa scope.names] [] [(1,aJ,bf),(1,.a bf ct,ig),(1,xi ig,aJ)] rfl (cl<|an J)<|cl<|an<|ae this
 refine aZ (hbody env B k T hA hfw dL G W gu hfl ⟨o,fd,_,z,hd,l⟩) (λf s₂ h=>?_) λe s₂ h=>h.elim;cases f<;>exact h
theorem jP (Y:FnAt X a params body scope q) (b:uk X)
 {K:aN} (I:kl (n+1) A M) (N:Inv X K O H M s.heap) (i:bU K O g S) (J:aa g=aa params.args)
 (j:∀(o:uz) (fd:wI) (Q:List (am×Value)->bh->Prop),X a=ab o->o.data=.func fd->fd.params=params->((fd.defaults=.none/\q=[])\/∃d V n e,fd.defaults=.ref d/\X d=ab V/\V.data=.seq (af e) n/\bU X [] q e)->
  Q ((params.args.map (·.arg)).zip S) s->∀E,aD (MM w) A.in1 (qU fd ⟨U,[]⟩) Q E s)
 (l:∀Z B k,dk X ⟨scope.names,x0,[]⟩ Z->kl n (A.deeper Z) (Z::M)->(∀a∈aX Z,s.heap.get? a=al)->Step [] K O s.heap k O B.heap->Inv X k O H (Z::M) B.heap->
  aS Z (scope.names.map (·.1)) (fw (aa scope.names) g) k O B.heap->aV s B->aa (fw (aa scope.names) g)=aa scope.names->
  aD (MM w) (A.deeper Z) (kc body Z) (λf t=>Q (match f with|.ret v=>v|_=>.none) t) (λ_ _=>False) B):
 aD (MM w) A (call (.ref a) U []) Q E s:=
 oB (wm Y b I N i J j λZ B k T P m c G W h x _=>l Z B k T P m c G W h x)
end
section
open PySem PySem.W PySem.Calls PyProof.Rows PySem.SeqAt Builtin Builtin.ObjectAttr
def k0 (P:cF):Frag:=[(39,H.WH P),(71,H.WF P),(38,H.WI P),(70,H.WG P),(36,H.acG P),(68,H.acE P),(2,H.acH P)]
theorem zf (x:∀a o,cC P a=ab o->h.get? a=ab o):(k0 P).In h:=by
 intro a o e;refine x a o ?_;unfold k0 at e;simp only[br,Ah] at e
 repeat' split at e
 all_goals first
  |(cases e;rename_i q;rw[beq_iff_eq] at q;subst q;kernel_rfl)
  |(exact aC e)
theorem Qo (P):readsIn (k0 P) 39 (.type "type")=true:=rfl
theorem Mq (P):findCls (k0 P) (.ref 39) (.type "type") "__init__"=ab (.val<|.ref 36):=rfl
theorem Uw (P):specialIn (k0 P) (.ref 39) "__getattribute__"=ab (ab<|.builtin "type.__getattribute__"):=rfl
theorem Mp (P):oG (k0 P) (.ref 71) "__init__"=ab (ab<|.ref 68):=rfl
theorem Qp (P):findCls (k0 P) (.type "Exception") (.type "type") "__init__"=ab (.val<|.builtin "Exception.__init__"):=rfl
theorem ac7 (P):oG (k0 P) (.ref 71) "__setattr__"=ab (ab<|.builtin "object.__setattr__"):=rfl
theorem Ig (P):oG (k0 P) (.ref 71) "message"=ab none:=rfl
theorem Ut (P):oG (k0 P) (.ref 71) "spot"=ab none:=rfl
theorem Fu (P):oG (k0 P) (.ref 71) "value"=ab none:=rfl
theorem Zh (P):mroIn (k0 P) 71 (.type "Exception")=ab true:=rfl
theorem Zg (P):mroIn (k0 P) 71 (.type "object")=ab true:=rfl
theorem Uu (P):mroIn (k0 P) 71 (.ref 71)=ab true:=rfl
theorem ac9 (P):typeIn (k0 P) (.ref 68)=ab (.type "function"):=rfl
theorem tu (B:s.heap.Ns1 a m)
 (h:∀G,G.Ns1 a (λx=>if x=name then ab v else m x)->fK a s.heap G->vz a s.heap G->Q () {s with heap:=G,toks:=s.toks+1}):
 aD M A (nsSet a name v) Q E s:=λd p _=>Bd B.ns<|Sem.wp_nsSet1 M d (λe _ F=>E e F) p s B name v (λu _ F=>vz a s.heap F.heap->Q u F) h
def KX (h:eG) (d:bk):Prop:=∃o,h.get? d=ab o/\o.cls=.type "dict"
inductive TS (e:bk) (m:am->Option Value) (ns:List am):Option bk->eG->Prop
 |no {h:eG} (t:Value) (sl:Array (Option Value)) (he:h.get? e=ab ⟨.ref 71,al,.fields #[t,.none,.none,.none,.bool ah,.none],sl⟩) (hm:m=λ_=>al):TS e m ns al h
 |yes {h:eG} (d:bk) (t:Value) (sl:Array (Option Value)) (ne:d≠e) (he:h.get? e=ab ⟨.ref 71,ab d,.fields #[t,.none,.none,.none,.bool ah,.none],sl⟩) (hd:h.Ns1 d m) (hw:Within m ns) (hc:KX h d):TS e m ns (ab d) h
theorem TS.get (x:TS e m j D h):∃t p,h.get? e=ab ⟨.ref 71,D,.fields #[t,.none,.none,.none,.bool ah,.none],p⟩:=by
 induction x with
 |no t p J=>exact⟨t,p,J⟩
 |yes d t p H J _ _ _=>exact⟨t,p,J⟩
theorem tpe (J:h.get? e=ab o) (P:o.cls=.ref 71):wG M h (sD<|.ref e) (.ref 71):=by obtain⟨c,d,B,p⟩:=o;replace P:c=.ref 71:=P;subst P;exact(Looks.ld J).andThen .now
section
variable {os:gN}
theorem PA (P):∃cd,clsIn (k0 P) 71=ab cd/\cd.mro=[.ref 71,.ref 39,.type "Exception",.type "BaseException",.type "object"]/\cd.hasDict=true:=⟨_,rfl,rfl,rfl⟩
theorem Tn (X:(k0 w.params).In h) (x:TS e m j D h) (I:oG (k0 w.params) (.ref 71) name=ab al) (hl:aa j<=900)
 (L:∀G z N,TS e (λy=>if y=name then ab v else m y) (name::j) (ab N) G->(∀b o,b≠e->b≠N->h.get? b=ab o->G.get? b=ab o)->(D=ab N\/(D=al/\h.get? N=al))->Q (.done<|.ret .none) ⟨G,g,d,z,os⟩):
 aD (MM w) A (lW.«object.__setattr__» ⟨[.ref e,.str name tk,v],[]⟩) Q E ⟨h,g,d,t,os⟩:=by
 refine gG (PA w.params) λcd P Z f=>?_;have hm:wG (MM w) h (mroOf<|.ref 71) cd.mro:=(Ea X P).andThen .now;have L2:=nj (M:=MM w) X I;refine kY x.get λt0 p J=>?_;have T:=tpe (M:=MM w) J rfl
 (refine kI (osa_eq ..)<|(refuse_eq ..)▸?_)
 refine ak<|ak<|T.here<|ak<|hm.here ?_
 (refine Z▸kI (aje ..)<|kI (aje ..)<|kI (BU.passes<|.ref e) ?_)
 refine ar<|ak<|T.here<|ak<|L2.here<|ak<|ar ?_
 have B:=X 71 _ rfl;refine oW<|ak<|fX (λ_ _ h=>Jh J h) ?_
 cases x with
 |no t0' n he' hm0=>
  refine ak<|(Ea X P).here ?_
  (refine(ae f)▸?_;refine kI (if_neg<|by decide) ?_)
  subst hm0;have r:(h.push {cls:=.type "dict",data:=.dict #[]}).get? e=ab ⟨.ref 71,al,.fields #[t0,.none,.none,.none,.bool ah,.none],p⟩:=aQ _ J;have W:e≠h.objs.size:=eR<|dS J
  refine ak<|wpAny_alloc' ?_
  refine ak<|wpAny_update' r ?_
  refine ar ?_
  have H:((h.push {cls:=.type "dict",data:=.dict #[]}).update e λo=>{cls:=o.cls,dict:=ab h.objs.size,data:=o.data,slots:=o.slots}).get? h.objs.size
   =ab {cls:=.type "dict",data:=.dict #[]}:=
   ag (gL _ _ _ _ W.symm) (Sy rfl rfl)
  have hnd:((h.push {cls:=.type "dict",data:=.dict #[]}).update e λo=>{cls:=o.cls,dict:=ab h.objs.size,data:=o.data,slots:=o.slots}).Ns h.objs.size (λ_=>al):=
   ⟨_,#[],_,H,rfl,λe J=>absurd J (by simp),λ_=>rfl⟩
  have heu:((h.push {cls:=.type "dict",data:=.dict #[]}).update e λo=>{cls:=o.cls,dict:=ab h.objs.size,data:=o.data,slots:=o.slots}).get? e
   =ab ⟨.ref 71,ab h.objs.size,.fields #[t0,.none,.none,.none,.bool ah,.none],p⟩:=ei _ r rfl
  show aD _ _ (D7 h.objs.size (.str name tk) name v) _ _ _;unfold D7 newKeyGuard;refine oW<|ak<|tu (Heap.Ns1.of_empty hnd) λG c hs k=>?_
  refine wi (c.count<|xJ name v abb) λl esD a V S O=>?_;refine ak<|DL V (by refine(ae S)▸?_;exact DP<|aM O<|by(refine(ae bL)▸?_;refine(ae d7)▸?_;refine(ae bg)▸?_);exact cg _ _) ?_
  refine ar<|L G _ _ (.yes _ t0 p W.symm (ag (hs.2 e W) heu) c (λy hy=>by have q:=xJ name v abb y hy;simp only[aU] at q;simp[q]) (by refine cL k λo u e1 i C=>?_;rw[H] at e1;obtain rfl:=ai e1;exact⟨u,i,C⟩)) (λb o hbe s R=>?_) (.inr ⟨rfl,bW h⟩)
  exact ag (hs.2 b s)<|ag (gL _ _ _ _ hbe)<|aQ _ R
 |yes dx t0' n hne he' hd U Y=>
  refine ak<|(Ea X P).here ?_
  (refine(ae f)▸?_;refine kI (if_neg<|by decide) ?_)
  refine ar ?_;show aD _ _ (D7 dx (.str name tk) name v) _ _ _;unfold D7 newKeyGuard;refine oW<|ak<|tu hd λG c hs k=>?_
  refine wi (c.count<|xJ name v U) λl esD a V S O=>?_;refine ak<|DL V (by refine(ae S)▸?_;exact DP<|aM O<|by(refine(ae bL)▸?_;refine(ae bg)▸?_);exact bX (by assumption)<|by decide) ?_
  refine ar<|L G _ _ (.yes _ t0 p hne (ag (hs.2 e hne.symm) J) c (xJ name v U) (by refine cL k ?_;clear k;intro o u e1 i C;refine aH Y λo₀ e4 e5=>?_;rw[e4] at e1;obtain rfl:=ai e1;exact⟨u,i,ag C e5⟩)) (λb o _ s R=>ag (hs.2 b s) R) (.inl rfl)
theorem abH (X:(k0 w.params).In h) (x:TS e m j D h) (I:oG (k0 w.params) (.ref 71) name=ab al) (C:aa j<=900)
 (Z:∀G z N,TS e (λy=>if y=name then ab v else m y) (name::j) (ab N) G->(∀b o,b≠e->b≠N->h.get? b=ab o->G.get? b=ab o)->(D=ab N\/(D=al/\h.get? N=al))->Q () ⟨G,g,d,z,os⟩):
 aD (MM w) A (setAttr (.ref e) name v) Q E ⟨h,g,d,t,os⟩:=by
 have SF:=BU;refine kY x.get λt0 p J=>?_;have T:=tpe (M:=MM w) J rfl;have sub:wG (MM w) h (Jo (.ref e)<|.type "object") true:=T.andThen<|D9 X<|Zg _
 have L:=nj (M:=MM w) X<|ac7 w.params
 refine ak<|Sm<|ak<|ak<|fX (λ_ _ h=>T.here h)<|L.here<|a8<|ak ?_
 refine kI (SF.slot.bind ..)<|ar<|ak<|oB ?_
 refine wB SF.slot.plain SF.entry<|@check_slot (MM w) _ _ _ "object.__setattr__" "object" "__setattr__" (.ref e) [.str name t,v] [] _ SF.kind SF.split sub (SF.args (.ref e) (.str name t) v) ?_
 exact Tn X x I C λG z N a b c=>ar<|ar<|Z G z N a b c
end
section
variable {os:gN}
noncomputable abbrev MY:List Value:=[.ref 39,.type "Exception",.type "BaseException",.type "object"]
theorem Bc (X:(k0 P).In h):h.get? 71=ab (Eb "Thrown" "Thrown" 71 70 [.ref 39] MY ao [] [] ah al al (ab<|.ref 55) al (ab<|.str (fk "Thrown") 243) (ab<|.str (fk "Thrown") 251) (ab<|.bool ao) "Exception.__new__"):=
 X 71 _ rfl
theorem acK (X:(k0 w.params).In h) (W:aa j<=i5)
 (L:R (.ok<|.ret<|.ref<|h.objs.size+1) ⟨(h.push {cls:=.type "tuple",data:=.seq (af j)}).push
  {cls:=.ref 71,data:=.fields #[.ref h.objs.size,.none,.none,.none,.bool ah,.none]},g,d,t,os⟩):
 nq (MM w) A (.builtin "Exception.__new__" ⟨.ref 71::j,[]⟩) R ⟨h,g,d,t,os⟩:=by
 have F:=oX;have B:=Bc X;have e:=F.ends;have r:(f6 71::MY).contains (.type "Exception")=true:=by decide+kernel
 have a:(f6 71::MY).contains (.type "AttributeError")=false:=by decide+kernel
 have b:(f6 71::MY).contains (.type "NameError")=false:=by decide+kernel
 refine codeAny_builtinAt F.entry ?_;unfold lW.«BaseException.__new__»;refine SM ?_;show PySem.wpAt _ _ _ (stack>>=_) _ _ _;refine SM<|PySem.wpAt_stack λp c=>KZ ?_
 wp_walk
 refine KZ<|F.owner▸?_
 repeat (first|with_reducible refine wpAny_madeHere_exc F.canon B ?_|with_reducible refine i4 B ?_|(with_reducible refine Xy B ?_;first|refine r▸?_|rw[a]|rw[b])|wp_step)
 show R _ _;refine(je ..)▸?_;exact L
end
section
variable {os:gN}
noncomputable abbrev ut (A:iF) (v:Value):Around:=A.under<|.builtin "type.__call__" ⟨[.ref 71,v],[]⟩
theorem GX (X:(k0 w.params).In h)
 (L:∀G e (Y:bk),(∀b o,h.get? b=ab o->G.get? b=ab o)->h.get? e=al->G.get? e=ab ⟨.ref 71,al,.fields #[.ref Y,.none,.none,.none,.bool ah,.none],#[]⟩->
  aD (MM w) A (call (.ref 68) [.ref e,v]) (λr W=>r=.none/\Q (.done<|.ret<|.ref e) W) E ⟨G,g,d,t,os⟩):
 aD (MM w) A (lW.«type.__call__» ⟨[.ref 71,v],[]⟩) Q E ⟨h,g,d,t,os⟩:=by
 have F:=oX;have B:=Bc X
 repeat (first|with_reducible refine i4 B ?_|with_reducible refine wpAny_madeBy_exc B ?_|wp_step)
 refine codeAny_call_builtin_code (On _ F.quiet)<|wpAny_check_new_subU F (by decide+kernel) .base B<|acK X (by show 1<=i5;rw[bg];exact cg _ _) ?_
 show aD _ _ _ _ _ _;have k:∀b o,h.get? b=ab o->((h.push {cls:=.type "tuple",data:=.seq [v].toArray}).push {cls:=.ref 71,data:=.fields #[.ref h.objs.size,.none,.none,.none,.bool ah,.none]}).get? b=ab o:=λb o e=>aQ _ (aQ _ e);have a:=X.keeps k
 have c:((h.push {cls:=.type "tuple",data:=.seq [v].toArray}).push {cls:=.ref 71,data:=.fields #[.ref h.objs.size,.none,.none,.none,.bool ah,.none]}).get? (h.objs.size+1)=ab
  {cls:=.ref 71,data:=.fields #[.ref h.objs.size,.none,.none,.none,.bool ah,.none]}:=by heap_get
 have T:=tpe (M:=MM w) c rfl;have t1:=D9 (M:=MM w) a<|Uu _
 have s:=nj (M:=MM w) a<|Mp w.params
 have I:=bind_fn (M:=MM w) a (.ref<|h.objs.size+1)<|ac9 w.params
 unfold Jo;refine ak<|ak<|T.here<|t1.here ?_
 simp only[vB,bO,if_false];unfold callSpecial? afD;refine ak<|a8<|ak<|fX (λ_ _ h=>T.here h)<|s.here<|a8<|ak<|I.here ?_
 refine ak<|aZ (L _ (h.objs.size+1) h.objs.size k (iL<|eh _) c) (λr W Z=>?_) λ_ _ x=>x
 refine bC Z ?_;clear Z;intro S l;subst S;exact ar<|ar l
theorem Z5 (X:(k0 w.params).In h)
 (L:∀G e (Y:bk),(∀b o,h.get? b=ab o->G.get? b=ab o)->h.get? e=al->G.get? e=ab ⟨.ref 71,al,.fields #[.ref Y,.none,.none,.none,.bool ah,.none],#[]⟩->
  aD (MM w) (ut A v) (call (.ref 68) [.ref e,v]) (λr F=>r=.none/\Q (.ref e) F) E ⟨G,g,d,t,os⟩):
 aD (MM w) A (call (.ref 71) [v]) Q E ⟨h,g,d,t,os⟩:=by
 have B:=Bc X;have l:=tc_lookup;have T:=tc_bind<|.ref 71
 have u:(⟨h,g,d,t,os⟩:bh).TypeIs (.ref 71) "type":=⟨_,B,rfl⟩;refine oB<|codeAny_of_tree ?_
 show aD _ _ (callAny (.ref 71) _) _ _ _
 repeat (any_goals (first|assumption|with_reducible refine i4 B ?_|wp_step))
 refine⟨rfl,?_⟩;refine codeAny_call_builtin_at (On _ (by decide+kernel)) entry_typeCall<|wpAny_check_type_call_sub B<|GX X λG e Y a b c=>?_
 exact L G e Y a b c
end
section
variable {os:gN}
theorem U1 (X:(k0 w.params).In h) (J:h.get? e=ab ⟨.ref 71,al,.fields #[.ref t0,.none,.none,.none,.bool ah,.none],p⟩)
 (L:∀G t1,G.get? e=ab ⟨.ref 71,al,.fields #[t1,.none,.none,.none,.bool ah,.none],p⟩->(∀b o,b≠e->h.get? b=ab o->G.get? b=ab o)->Q .none ⟨G,g,d,t,os⟩):
 aD (MM w) A (call (.builtin "Exception.__init__") [.ref e,v]) Q E ⟨h,g,d,t,os⟩:=by
 have F:=oX;have T:=tpe (M:=MM w) J rfl;have sub:wG (MM w) h (Jo (.ref e)<|.type "Exception") true:=T.andThen<|D9 X<|Zh _
 refine oB<|wB F.init.plain F.initEntry ?_
 have a:=F.noStar;simp only[checkBuiltinCall,F.initKind,F.initSplit,F.initRow];refine fX (λ_ _ h=>sub.here h) ?_;simp only[vB,bO,if_false];have B:=Bc X
 repeat (first|(with_reducible refine i4 J ?_)|with_reducible refine i4 B ?_|wp_step)
 wp_walk
 have Z:=(eR<|dS J).symm;refine L _ _ (ei _ (aQ _ J) rfl) λb o R i=>?_;refine ag (fJ _ _ (jm R)) ?_;exact aQ _ i
end
def jD (X:aN) (x:am) (v:Value):Prop:=∃o u n,X 3=ab o/\o.data=.dict u n/\ur u/\
 (kR u x=ab v\/(kR u x=al/\∃Z L w,X 0=ab Z/\Z.data=.dict L w/\ur L/\kR L x=ab v))
theorem on (h:N3 (u1 P) x=ab v):jD (cC P) x v:=by exact iB (nL<|sX P) λo n J W=>⟨o,_,n,J,W,jH<|pX P,.inl<|by exact ag (qC ..)<|h⟩
theorem zp (h:N3 (u1 P) x=al) (W:N3 (RU P) x=ab v):jD (cC P) x v:=by exact iB (nL<|sX P) λo n J E=>iB (nL<|RR P) λu w X U=>⟨o,_,n,J,E,jH<|pX P,.inr ⟨by exact ag (qC ..)<|h,u,_,w,X,U,jH<|Gn P,by exact ag (qC ..)<|W⟩⟩
theorem adJ (P):jD (cC P) "Exception" (.type "Exception"):=zp rfl rfl
theorem ZC (P):jD (cC P) "RowsError" (.ref 39):=on rfl
theorem FP (P):jD (cC P) "Thrown" (.ref 71):=on rfl
section
variable {K:aN}
theorem ij (r:vy Z) (g:(x==("__debug__":am))=ah) (z:Z.kindOf x=ab .globalImplicit) (N:Inv X K O H M s.heap) (V:jD X x v) (l:Q v s):aD (MM w) A (eval (.Name x S) Z) Q E s:=by
 refine II V λo u m W b j D=>?_
 have J:eval (.Name x S) Z=(fY S>>=λ_=>qT Z x):=by(refine ag (yl ..)<|g▸?_);rfl
 have d:s.heap.Ns Z.globals (kR u):=by exact r.glob▸⟨o,u,m,N.sub _ _ (N.stat _ _ W),b,j,λ_=>rfl⟩
 refine kI J<|ak<|cb ?_
 unfold qT;simp only[Env.blockKind,r.kind,z,ScopeKind.isAnnotationScope,XH,bO,if_false];rcases D with Y|⟨Y,R,L,U,T,e,k,i⟩
 ·exact Ef d Y l
 ·exact D3 d Y (by exact r.bi▸⟨R,L,U,N.sub _ _ (N.stat _ _ T),e,k,λ_=>rfl⟩) i l
theorem gF {i:Nat} (r:vy Z) (g:(x==("__debug__":am))=ah) (P:(x==("__classdict__":am))=ah) (T:Y[i]?=ab x) (F:V[i]?=ab (ab p)) (fr:aS Z Y V K O s.heap)
 (l:∀v,VR K O p v->Q v s):aD (MM w) A (eval (.Name x S) Z) Q E s:=by
 have J:eval (.Name x S) Z=(fY S>>=λ_=>qT Z x):=by(refine ag (yl ..)<|g▸?_);rfl
 refine kI J<|ak<|cb ?_
 obtain⟨m,B,_,_,_,f⟩:=fr;rcases f i x p T F with ⟨a,v,b,c⟩|⟨a|a,c,v,b,d,e⟩
 ·exact wx r.kind a B b<|l v c
 ·exact xI r.kind a b d<|l v e
 ·exact Xx r.kind a b d (l v e) P
end
noncomputable abbrev eW (e:bk) (D:Option bk):List Addr:=e::D.toList
structure Gy (KF K:aN) (μ:List bk) (H:Hp) (fs:List lV) (env:lV) (names:List am) (σ:bN) (e:bk) (m:am->Option Value) (ns:List am) (D:Option bk) (h:eG):Prop where
 iv:Inv KF K μ H fs h
 fr:aS env names σ K μ h
 ts:TS e m ns D h
 ke:K e=al
 me:e∉μ
 kd:∀d,D=ab d->K d=al/\d∉μ
 ne:∀a∈aX env,a≠e/\∀d,D=ab d->a≠d
theorem TS.dict (x:TS e m j (ab d) h):h.Ns1 d m/\KX h d/\d≠e:=by
 cases x with
 |yes _ t p H J g U P=>exact⟨g,P,H⟩
def VT (D a:Option bk) (h:eG):Prop:=a=D\/(D=al/\∃d,a=ab d/\h.get? d=al)
section
variable {KF K:aN}
theorem i9 (fr:aS Z Y V K O h) (I:a∈aX Z):∃o,h.get? a=ab o:=(lC fr I).imp λ_ q=>q.1
theorem Hh (i:TS e U l a h') (z:∀b o,b≠e->(∀d,a=ab d->b≠d)->h.get? b=ab o->h'.get? b=ab o):Step (eW e a) K O h K O h':=
 ⟨rfl,λ_ _ e=>e,λ_ _ e=>.inl e,⟨[],by simp,by simp⟩,λb o R=>by
     by_cases q:b=e
     ·subst q;exact kY i.get λt p J=>⟨_,J⟩
     ·by_cases c:a=ab b
      ·subst c;refine bC i.dict λS _=>se S λu _ _ V _=>?_;exact⟨u,V⟩
      ·exact⟨o,z b o q (λd g=>by rintro rfl;exact c g) R⟩,
  λb o R _ B=>⟨o.slots,z b o (λq=>B<|by simp[q]) (λd g=>by rintro rfl;exact B<|by simp[g]) R,.inl rfl⟩,λ_ q=>.inl q⟩
theorem adg (N:Inv KF K μ H M h) (G:TS e m j D h) (x:K e=al) (me:e∉μ) (r:∀d,D=ab d->K d=al/\d∉μ) (R:VT D a h)
 (z:∀b o,b≠e->(∀d,a=ab d->b≠d)->h.get? b=ab o->X.get? b=ab o):Inv KF K μ H M X/\∀d,a=ab d->K d=al/\d∉μ:=by
 have k:∀d,a=ab d->K d=al/\d∉μ:=λd g=>by
  rcases R with q|⟨_,Y,q,f⟩
  ·exact r d<|q▸g
  ·rw[q] at g;obtain rfl:=ai g;exact⟨N.cN f,N.dY f⟩
 refine⟨N.kA (S:=eW e a) (λb hb=>?_) (λb o hb i=>⟨o.slots,z b o (λq=>hb<|by simp[q]) (λd g=>by rintro rfl;exact hb<|by simp[g]) i,.inl rfl⟩),k⟩;simp only[eW,aL,NM] at hb;rcases hb with rfl|hb
 ·refine⟨x,me,λo L fo=>?_⟩;refine kY G.get λt p J=>?_;rw[J] at L;obtain rfl:=ai L;cases fo.1
 ·refine⟨(k b hb).1,(k b hb).2,λo L fo=>?_⟩;rcases R with q|⟨_,Y,q,f⟩
  ·rw[q] at hb;subst hb;refine iZ G.dict λ_ Z _=>aH Z λu V c=>?_;rw[V] at L;obtain rfl:=ai L;rw[fo.1] at c;exact absurd c<|by decide
  ·rw[q] at hb;obtain rfl:=ai hb;rw[f] at L;exact aC L
theorem Gy.HF (M:Gy KF K O H W Z Y V e m j D h) (i:TS e U l D' h') (R:VT D D' h)
 (z:∀b o,b≠e->(∀d,D'=ab d->b≠d)->h.get? b=ab o->h'.get? b=ab o):Gy KF K O H W Z Y V e U l D' h':=by
 have X:∀a∈aX Z,a≠e/\∀d,D'=ab d->a≠d:=λa I=>⟨(M.ne a I).1,λd g=>by
  rcases R with q|⟨_,N,q,f⟩
  ·exact(M.ne a I).2 d (q▸g)
  ·rw[q] at g;obtain rfl:=ai g;rintro rfl;refine bd (i9 M.fr I) λo L=>?_
   rw[f] at L;cases L⟩
 have c:∀a∈aX Z,a∉eW e D':=λa I q=>by
  simp only[eW,aL,NM] at q;rcases q with q|q
  ·exact(X a I).1 q
  ·exact(X a I).2 a q rfl
 exact bC (adg M.iv M.ts M.ke M.me M.kd R z) λP k=>⟨P,JF (λa m q=>c a q m) _ _ _ _ _ _ M.fr (Hh i z),i,M.ke,M.me,k,X⟩
end
section
variable {K:aN}
 {A:iF} {E:Value->bh->Prop} {s:bh}
theorem Pa (x:D=ab N\/(D=al/\h.get? N=al)):VT D (ab N) h:=by
 rcases x with x|⟨x,y⟩
 ·exact .inl x.symm
 ·exact .inr ⟨x,N,rfl,y⟩
theorem yO {i:Nat} (M:Gy (cC w.params) K O H u Z Y V e m j D s.heap) (r:vy Z)
 (h:Y[0]?=ab ("self":am)) (k:V[0]?=ab (ab<|.ref e)) (T:Y[i]?=ab x) (l:V[i]?=ab (ab p)) (n:(x==("__debug__":am))=ah) (P:(x==("__classdict__":am))=ah)
 (I:oG (k0 w.params) (.ref 71) name=ab al) (C:aa j<=900)
 (hq:∀F N v,VR K O p v->Gy (cC w.params) K O H u Z Y V e (λy=>if y=name then ab v else m y) (name::j) (ab N) F.heap->Step (eW e<|ab N) K O s.heap K O F.heap->VT D (ab N) s.heap->aV s F->Q .next F):
 aD (MM w) A (exec (.Assign [.Attribute (.Name "self" p1) name p2] (.Name x p3) U) Z) Q E s:=by
 refine nO<|gF r n P T l M.fr λv f=>gF r (by decide) (by decide) h k M.fr λo L=>?_
 replace L:_=_:=L;subst L;obtain⟨B,g,d,t,os⟩:=s;have X:=zf λa o q=>M.iv.sub _ _ (M.iv.stat _ _ q);refine abH X M.ts I C λR z N a b c=>?_;have G:=Pa c;have S:∀b o,b≠e->(∀d,ab N=ab d->b≠d)->B.get? b=ab o->R.get? b=ab o:=λb o J W=>‹∀(b:bk) (o:uz),b≠e->b≠N->B.get? b=ab o->R.get? b=ab o› b o J (W N rfl);exact hq _ N v f (M.HF a G S) (Hh a S) G ⟨rfl,rfl⟩
theorem f36 (P):FnAt (cC P) 36 (tj 2 0).1 (tj 2 0).2.1 (tj 2 0).2.2 [.none]:=
 UR rfl rfl rfl (.inr ⟨29,_,_,_,rfl,rfl,rfl,b7 qO eu⟩)
theorem f68 (P):FnAt (cC P) 68 (tj 4 0).1 (tj 4 0).2.1 (tj 4 0).2.2 []:=
 UR rfl rfl rfl (.inl ⟨rfl,rfl⟩)
end
theorem yF (h:aD M A t1 (λy l=>aD M A t2 (λe q=>Q [y,e] q) E l) E s):aD M A (gv [(ah,t1),(ah,t2)]) Q E s:=by
 rw[gv];refine ak<|aZ h (λy l J=>?_) λ_ _ x=>x
 simp only[bO,if_false];refine oW<|ak<|a8 ?_
 rw[gv];refine ak<|aZ J (λe q W=>?_) λ_ _ x=>x
 simp only[bO,if_false];refine oW<|ak<|a8 ?_
 rw[gv];exact ar<|ar<|ar W
theorem yG (h:aD M A t1 (λy l=>Q [y] l) E s):aD M A (gv [(ah,t1)]) Q E s:=by
 rw[gv];refine ak<|aZ h (λy l J=>?_) λ_ _ x=>x
 simp only[bO,if_false];refine oW<|ak<|a8 ?_
 rw[gv];exact ar<|ar J
theorem tA
 (h:aD (MM w) A (gv<|(t1::G).map λt=>(ah,t)) (λU s1=>((∃id,f=.builtin id)\/(∃a o fd,f=.ref a/\s1.heap.get? a=ab o/\o.data=.func fd)\/wG (MM w) s1.heap (nk f) .machine)/\aD (MM w) A (call f (first++U) []) Q E s1) E s):
 aD (MM w) A (iD S f first ((t1::G).map λt=>(ah,t)) []) Q E s:=by
 unfold iD;refine ak<|a8<|JB<|aZ h (λU s1 c=>bC c λY u=>?_) λ_ _ x=>x
 refine fX (λ_ _ h=>cb h) ?_;have e:((((t1::G).map λt=>(ah,t)).any (·.1))||(([]:List (Option am×jE Value)).any (·.1.isNone)))=false:=by simp
 have tail:∀{t:jE Value},aD (MM w) A t Q E s1->aD (MM w) A (t>>=λr=>dK [r] point>>=λ_=>jb r) Q E s1:=
  λz=>ak<|aZ z (λr Z d=>ak<|a8<|mz<|ar d) λ_ _ x=>x
 refine(ae e)▸?_;rcases Y with ⟨id,rfl⟩|⟨b,o,fd,rfl,R,g⟩|hk
 ·refine ak (ar ?_);exact tail u
 ·refine ak ?_;unfold nk;refine fX (λ_ _ h=>ul R h)<|g▸?_
  refine ar ?_;dsimp only;split
  ·exact tail u
  ·exact tail<|by unfold aaC;exact xP u
 ·exact ak<|hk.here<|tail u
theorem im
 (h:aD (MM w) A (gv<|(t1::G).map λt=>(ah,t)) (λU l=>((∃id,f=.builtin id)\/(∃a o fd,f=.ref a/\l.heap.get? a=ab o/\o.data=.func fd)\/wG (MM w) l.heap (nk f) .machine)/\aD (MM w) A (call f U []) Q E l) E s):
 aD (MM w) A (iD S f [] ((t1::G).map λt=>(ah,t)) []) Q E s:=
 tA h
theorem Bp (z:Z.scope.kind=.function) (k:(B.endLine==pos.line)=ao)
 (j:isStarred i=ah) (g:isStarred N=ah)
 (h:aD (MM w) A (eval (.Name C u) Z) (λv l=>v=c/\∀D,aD (MM w) A (xk c "__init__" D) (λr Y=>r=(f,[])/\aD (MM w) A (eval i Z) (λy m=>aD (MM w) A (eval N Z) (λe b=>
  ((∃id,f=.builtin id)\/(∃a o fd,f=.ref a/\b.heap.get? a=ab o/\o.data=.func fd)\/wG (MM w) b.heap (nk f) .machine)/\aD (MM w) A (call f [y,e] []) (λ_ F=>Q .next F) E b) E m) E Y) E l) E s):
 aD (MM w) A (exec (.Expr (.Call (.Attribute (.Name C u) "__init__" B) [i,N] [] pos) p) Z) Q E s:=by
 refine kI (z3 _ _ _ (m7 z) (xW rfl))<|fX (λ_ _ h=>cb h) ?_
 (refine(NJ ..)▸?_;rewrite[qM rfl];refine(dD pos Z [i,N]<|by simp[j,g])▸?_)
 refine ak<|ak<|aZ h (λv l H=>bC H λT J=>?_) λ_ _ x=>x
 subst T;refine ak<|cb ?_
 have q:∀(n:Nat) (G:List (jE Value)),n=2->aa G=2->ni n (G.map λt=>(ah,t)) ([]:List (Option am×jE Value))=true:=λn G J W=>by unfold ni;simp[J,W]
 have S:oO ao (.Name C u) Z B pos=pure pos:=by unfold oO;simp[k]
 show aD (MM w) A (um (.Name C u) "__init__" B pos Z v 2 ([eval i Z,eval N Z].map λt=>(ah,t)) []) _ _ _;unfold um
 (refine(q 2 [eval i Z,eval N Z] rfl rfl)▸S▸?_)
 refine ak<|a8<|aZ (J _) (λr Y I=>bC I λd W=>?_) λ_ _ x=>x
 subst d;refine oW<|im<|yF<|aZ W (λy m V=>aZ V (λe b X=>?_) λ_ _ x=>x) λ_ _ x=>x
 exact⟨X.1,aZ X.2 (λv F U=>Gz U) λ_ _ x=>x⟩
theorem QW (X:(k0 w.params).In s.heap) (h:Q (.ref 36,[]) {s with toks:=s.toks+1}):aD (MM w) A (xk (.ref 39) "__init__" D) Q E s:=
 method_cls X (Uw _) (cls_value X (Qo _) (Mq _) rfl h)
theorem Ys:sD (.type "Exception")=pure (.type "type"):=rfl
theorem YQ:opaqueClassAbove (.type "Exception")=pure none:=rfl
theorem Qn (P):oG (k0 P) (.type "type") "__getattribute__"=ab (ab<|.builtin "type.__getattribute__"):=rfl
theorem Uv:hookBefore (.type "type")=pure none:=rfl
theorem ac6 (P):subIn (k0 P) (.type "type") (.type "type")=ab true:=rfl
theorem UM (X:(k0 w.params).In s.heap) (h:Q (.builtin "Exception.__init__",[]) {s with toks:=s.toks+1}):aD (MM w) A (xk (.type "Exception") "__init__" D) Q E s:=by
 have T:wG (MM w) s.heap (sD<|.type "Exception") (.type "type"):=m4 Ys;have L:=nj (M:=MM w) X<|Qn w.params
 unfold xk afD;refine ak<|fX (λ_ _ h=>T.here h)<|L.here ?_
 dsimp only;refine kI (if_pos canon_tga)<|ak<|cls_open X (m4 YQ) T (Qn _) (m4 Uv) (ac6 _) (Qp _)<|ar ?_
 show aD _ _ (handedOut _) _ _ _;exact kI (handedOut_of rfl)<|ar<|ar h
theorem I0 (F:jR fd.params) (I:fd.params.args=[a,b,c])
 (e:(b.arg==a.arg)=ah) (f:(c.arg==a.arg)=ah) (i:(c.arg==b.arg)=ah) (g:jZ s.heap fd.defaults [d])
 (l:Q [(a.arg,v),(b.arg,u),(c.arg,d)] s):aD M A (qU fd ⟨[v,u],[]⟩) Q E s:=by
 have t:fd.params.args.map (·.arg)=[a.arg,b.arg,c.arg]:=by refine I▸?_;rfl
 have y:∀r,gX a.arg ((a.arg,v)::r)=ab v:=λr=>by(refine ag br ?_;rw[beq_self_eq_true])
 have D:∀r,gX b.arg ((a.arg,v)::(b.arg,u)::r)=ab u:=λr=>by(refine ag br ?_;refine e▸ag br ?_;rw[beq_self_eq_true])
 have U:∀r,gX c.arg ((a.arg,v)::(b.arg,u)::r)=gX c.arg r:=λr=>by(refine ag br ?_;refine f▸ag br ?_;rw[i])
 refine qK (r:=[(a.arg,v),(b.arg,u),(c.arg,d)]) F g ?_ ?_ ?_ ?_ l<;>refine t▸?_
 ·exact eh 2
 ·show(afP _ [a.arg,b.arg]).isEmpty=ao;rw[gy (by rw[show gX a.arg (XB [a.arg,b.arg,c.arg] [v,u])=ab v from y _];exact bp),gy<|by rw[show gX b.arg (XB [a.arg,b.arg,c.arg] [v,u])=ab u from D _];exact bp];rfl
 ·show forIn [(c.arg,d)] [(a.arg,v),(b.arg,u)] yK=_;rw[cA,show yK (c.arg,d) [(a.arg,v),(b.arg,u)]=pure (.yield<|[(a.arg,v),(b.arg,u)]++[(c.arg,d)]) from if_pos<|by rw[U];rfl];rfl
 ·rw[eV,y,eV,D,eV,U,br,beq_self_eq_true];rfl
theorem aaa:(tj 2 0).2.1=[.Expr (.Call (.Attribute (.Name "Exception" ⟨8,8,8,17⟩) "__init__" ⟨8,8,8,26⟩) [.Name "self" ⟨8,27,8,31⟩,.Name "message" ⟨8,33,8,40⟩] [] ⟨8,8,8,41⟩) ⟨8,8,8,41⟩,
 .Assign [.Attribute (.Name "self" ⟨9,8,9,12⟩) "message" ⟨9,8,9,20⟩] (.Name "message" ⟨9,23,9,30⟩) ⟨9,8,9,30⟩,
 .Assign [.Attribute (.Name "self" ⟨10,8,10,12⟩) "spot" ⟨10,8,10,17⟩] (.Name "spot" ⟨10,20,10,24⟩) ⟨10,8,10,24⟩]:=rfl
section
variable {K:aN}
theorem Rl (st:Step W K O h j rq G) (J:h.get? e=ab ⟨.ref 71,al,.fields #[.ref C,.none,.none,.none,.bool ah,.none],p⟩) (x:K e=al) (me:e∉O) (U:e∉W):
 G.get? e=ab ⟨.ref 71,al,.fields #[.ref C,.none,.none,.none,.bool ah,.none],p⟩/\j e=al/\e∉rq:=
 ⟨st.same J me U (λf=>by cases f.1),st.ls x J,st.lr me J⟩
theorem Zk (I:kl (n+1) A M) (iv:Inv (cC w.params) K O H M s.heap) (he:s.heap.get? e=ab ⟨.ref 71,al,.fields #[.ref ta,.none,.none,.none,.bool ah,.none],sl⟩)
 (ke:K e=al) (me:e∉O) (hm:VR K O pm vm)
 (L:∀F j N m' l,aa l<=10->Step (eW e<|ab N) K O s.heap j O F.heap->Inv (cC w.params) j O H M F.heap->TS e m' l (ab N) F.heap->j e=al->j N=al->N∉O->s.heap.get? N=al->aV s F->Q .none F):
 aD (MM w) A (call (.ref 36) [.ref e,vm] []) Q E s:=by
 refine jP (f36 _) (jI _) I iv (g:=[.ref e,pm,.none]) (b7 rfl<|b7 hm<|b7 qO eu) rfl (λo fd Q' z g hp t hQ u=>?_) λZ B k T P hfw c G W gu x=>?_
 ·have QM:jZ s.heap fd.defaults [.none]:=by
   rcases t with ⟨_,q⟩|⟨d,od,m,By,J,h2,h3,h4⟩
   ·cases q
   ·refine cL h4 ?_;clear h4;intro v r S U rc2;subst S;subst rc2;replace U:_=_:=U;subst U;exact .inr ⟨d,od,m,J,iv.sub _ _ (iv.stat _ _ h2),h3⟩
  refine I0 (by refine hp▸?_;exact(f36 w.params).par) (by rw[hp];rfl) (by decide) (by decide) (by decide) QM ?_;exact hQ
 refine iZ (Rl c he ke me<|by simp) λW2 Ql Kf=>?_;have R6:=zf λa o q=>G.sub _ _ (G.stat _ _ q);have ai4:Gy (cC w.params) k O H (Z::M) Z _ _ e (λ_=>al) [] al B.heap:=⟨G,W,.no _ sl W2 rfl,Ql,Kf,(λd g=>nomatch g),λa h=>⟨λq=>absurd (q▸hfw _ h) (by exact(ae he)▸λh=>aC h.symm),(λd g=>nomatch g)⟩⟩;refine aaa▸?_;refine ak<|Bp T.fe.kind rfl rfl rfl<|ij T.fe (by decide) (T.gi _ rfl) G (adJ _) ⟨rfl,λD=>UM R6 ⟨rfl,?_⟩⟩
 refine gF (i:=0) (p:=.ref e) T.fe (by decide) (by decide) rfl rfl W λy X=>gF (i:=1) (p:=pm) T.fe (by decide) (by decide) rfl rfl W λv2 hv2=>⟨.inl ⟨_,rfl⟩,?_⟩;replace X:_=_:=X;subst X;refine U1 R6 W2 λh' t1 he' z=>?_;have kb:∀b o,b≠e->(∀d,(al:Option bk)=ab d->b≠d)->B.heap.get? b=ab o->h'.get? b=ab o:=λb o J _=>z b o J;have T2:TS e (λ_=>al) [] al h':=.no _ sl he' rfl;have aap:=ai4.HF T2 (.inl rfl) kb;have S2:=Hh (K:=k) (O:=O) T2 kb;refine ak<|yO (i:=1) (p:=pm) aap T.fe rfl rfl rfl rfl (by decide) (by decide) (Ig _) (by simp) λR d1 v3 _ VS S3 G3 Y=>?_
 refine ak<|yO (i:=2) (p:=.none) VS T.fe rfl rfl rfl rfl (by decide) (by decide) (Ut _) (by simp) λV d2 v4 _ Sc S4 G4 n6=>?_
 refine ar ?_
 have ah8:d2=d1:=by
  rcases G4 with q|⟨q,_⟩
  ·obtain rfl:=ai q;rfl
  ·cases q
 subst ah8
 have C:h'.get? d2=none:=by
  rcases G3 with q|⟨_,d,q,f⟩
  ·cases q
  ·obtain rfl:=ai q;exact f
 have Sa:Step (eW e<|ab d2) K O s.heap k O h':=(c.mono<|by simp).trans<|S2.mono<|by simp
 refine L V k d2 _ _ ?_ (Sa.trans<|S3.trans S4) Sc.iv.pop Sc.ts Sc.ke (Sc.kd _ rfl).1 (Sc.kd _ rfl).2 (Sa.none C) ((gu.trans ⟨rfl,rfl⟩).trans<|Y.trans n6);simp
end
theorem Z9:(tj 4 0).2.1=[.Expr (.Call (.Attribute (.Name "RowsError" ⟨16,8,16,17⟩) "__init__" ⟨16,8,16,26⟩) [.Name "self" ⟨16,27,16,31⟩,.Constant (.str "a value is thrown") 0 ⟨16,33,16,52⟩] [] ⟨16,8,16,53⟩) ⟨16,8,16,53⟩,
 .Assign [.Attribute (.Name "self" ⟨17,8,17,12⟩) "value" ⟨17,8,17,18⟩] (.Name "value" ⟨17,21,17,26⟩) ⟨17,8,17,26⟩]:=rfl
theorem qb (h:Q (.str x s.toks) {s with toks:=s.toks+1}):aD M A (eval (.Constant (.str x) k S) Z) Q E s:=
 λ_ _ _=>h
section
variable {K:aN}
theorem Zj (I:kl (n+2) A M) (iv:Inv (cC w.params) K O H M s.heap) (J:s.heap.get? e=ab ⟨.ref 71,al,.fields #[.ref ta,.none,.none,.none,.bool ah,.none],sl⟩)
 (ke:K e=al) (me:e∉O) (f:VR K O p v)
 (hq:∀F j N (U:am->Option Value) l v',Step (eW e<|ab N) K O s.heap j O F.heap->Inv (cC w.params) j O H M F.heap->TS e (λy=>if y=("value":am) then ab v' else U y) l (ab N) F.heap->VR j O p v'->j e=al->j N=al->N∉O->s.heap.get? N=al->aV s F->Q .none F):
 aD (MM w) A (call (.ref 68) [.ref e,v] []) Q E s:=by
 refine jP (f68 _) (jI _) I iv (g:=[.ref e,p]) (b7 rfl<|b7 f eu) rfl (λo fd Q' hk g hp hdf hQ E'=>?_) λZ B k T hA hfw c G W gu x=>?_
 ·have QM:jZ s.heap fd.defaults []:=by
   rcases hdf with ⟨q,_⟩|⟨d,od,m,By,h1,h2,h3,h4⟩
   ·exact .inl ⟨q,rfl⟩
   ·have:=h4.length
    induction By with
    |nil=>exact .inr ⟨d,od,m,h1,iv.sub _ _ (iv.stat _ _ h2),h3⟩
    |cons a b=>simp at this
  refine iC (by refine hp▸?_;exact(f68 w.params).par) QM (by refine hp▸?_;rfl) (by refine hp▸?_;decide+kernel) ?_;refine hp▸?_;exact hQ
 refine iZ (Rl c J ke me<|by simp) λr Ql Kf=>?_;have R6:=zf λa o q=>G.sub _ _ (G.stat _ _ q);have hne:∀a∈aX Z,a≠e:=λa h q=>absurd (q▸hfw _ h)<|by exact J▸λh=>aC h.symm
 refine Z9▸?_;refine ak<|Bp T.fe.kind rfl rfl rfl<|ij T.fe (by decide) (T.gi _ rfl) G (ZC _) ⟨rfl,λpl=>QW R6 ⟨rfl,?_⟩⟩
 refine gF (i:=0) T.fe (by decide) (by decide) rfl rfl W λv1 X=>qb ⟨.inr<|.inl ⟨36,_,_,rfl,R6 36 _ rfl,rfl⟩,?_⟩;replace X:_=_:=X;subst X;refine Zk hA G r Ql Kf qf λt C d2 m2 ns2 S S2 u T2 ke2 z P D V=>?_
 have no:∀a∈aX Z,a∉eW e (ab d2):=λa h q=>by
  simp only[eW,K1,aL,aY,or_false] at q;rcases q with q|q
  ·exact hne a h q
  ·refine bd (i9 W h) λo L=>?_;subst q;rw[show B.heap.get? a=al from D] at L;exact aC L
 have p0:=JF (λa m q=>no a q m) _ _ _ _ _ _ W S2;have aap:Gy (cC w.params) C O H (Z::M) Z _ _ e m2 ns2 (ab d2) t.heap:=⟨u,p0,T2,ke2,Kf,λd g=>by obtain rfl:=ai g;exact⟨z,P⟩,λa h=>⟨hne a h,λd g q=>no a h (by obtain rfl:=ai g;simp[q])⟩⟩;refine ak<|yO (i:=1) (p:=p) aap T.fe rfl rfl rfl rfl (by decide) (by decide) (Fu _) (by exact aM (by assumption)<|by decide) λR d3 v3 hv3 VS S3 G3 Y=>?_
 refine ar ?_
 have g:d3=d2:=by
  rcases G3 with q|⟨q,_⟩
  ·obtain rfl:=ai q;rfl
  ·cases q
 subst g;exact hq R C d3 _ _ v3 ((c.mono<|by simp).trans<|S2.trans S3) VS.iv.pop VS.ts hv3 ke2 z P (c.none D) ((gu.trans V).trans Y)
end
theorem tcw (v):(xu "type.__call__" ⟨[.ref 71,v],[]⟩).weight=1:=rfl
theorem aak (I:kl (n+1) A fs):kl n (ut A v) fs:=by
 obtain⟨J,W,E,X,U⟩:=I;refine⟨J,?_,?_,X,zl U rfl⟩
 ·show A.depth+(xu "type.__call__" ⟨[.ref 71,v],[]⟩).weight+n<_;exact(tcw ..)▸cP (bj [A.depth,n,nh] [] [(1,xi<|.a aJ<|xi bf,ct),(1,xi ct,xi<|.a (xi aJ) bf)] rfl<|cl W)
 ·show A.units+1+10*n+20<_;exact cP<|bj [A.units,n,yk] [] [(1,xi<|.a (.a aJ<|.m 10<|xi bf)<|.n 20,ct),(1,xi ct,xi<|.a (.a (xi aJ)<|.m 10 bf)<|.n 20)] rfl<|cl E
section
variable {K:aN}
theorem Ez (I:kl (n+3) A M) (iv:Inv (cC w.params) K O H M s.heap) (hv:VR K O p v) (hg:∀a,s.heap.get? a=al->g.get? a=al)
 (hq:∀e F j,Step [] K O s.heap j O F.heap->Inv (cC w.params) j O H M F.heap->DF g p (.ref e) j O F.heap->aV s F->Q (.ref e) F):
 aD (MM w) A (call (.ref 71) [v] []) Q E s:=by
 obtain⟨y,gn,d,t,os⟩:=s;have X:=zf λa o q=>iv.sub _ _ (iv.stat _ _ q);refine Z5 X λh' e C k W J=>?_;have x:=iv.cN W;have me:=iv.dY W;have r:de y h':=λb o q=>⟨o.slots,k b o q,.inl rfl⟩;refine Zj (aak I) (iv.keep r) J x me hv λF j N U l B S2 c T2 h G z P D V=>⟨rfl,?_⟩;refine kY T2.get λt0 sl he2=>?_;refine iZ T2.dict λS Z hne=>?_;refine aef S ?_;clear S;intro od u ep L hd hsk _ Y;refine aH Z ?_;clear Z;intro od' T m;rw[L] at T;obtain rfl:=ai T;have nf:¬b4 od:=λf=>by rw[f.1] at m;exact absurd m<|by decide
 have i:y.get? N=none:=by
  cases q:y.get? N with
  |none=>rfl
  |some o=>exact absurd (k _ _ q)<|by exact(show h'.get? N=al from D)▸nofun
 have S1:Step [] K O y K O h':=r.step
 have S3:=S1.hide S2 λa q=>.inr (by
  simp only[eW,K1,aL,aY,or_false] at q;rcases q with rfl|rfl
  ·exact W
  ·exact i)
 have kle:∀a o,j a=ab o->gc j N od a=ab o:=λa o q=>by
  rw[db]
  ·exact q
  ·rintro rfl;rw[z] at q;exact aC q
 refine hq e F (gc j N od) (S3.gc i z) (c.freeze L z P nf) ?_ ⟨V.1,V.2⟩;refine .mk e _ N od u ep B t0 rfl (hg _ W) he2 rfl rfl rfl ?_ me (fj _ _ _) hd hsk ?_ ?_
 ·refine ag (db<|jm hne) ?_;exact G
 ·refine ag (Y ..) ?_;simp
 ·have:=N1 (K:=j) (K':=gc j N od) (R:=[]) rfl kle p B h;simpa using this
end
noncomputable def abI (s:rv):Option Expr:=if h:s.ctorIdx=3 then ajk s h λe _=>e else al
def Xn (l:List rv):Expr:=(((one l).bind abI).bind λe=>(Bx e).bind λc=>one c.2.1).getD<|.Constant .none 0 default
def IF (m:IM PV):IM PV:=λH=>match m H with
 |.ok p H'=>if cZ (H'.take<|aa H)&&i8 p then .ok p (H'.take<|aa H) else .stuck
 |.exc _ _=>.stuck
 |.stuck=>.stuck
theorem U7 (e:m H=.ok p H') (h:(cZ (H'.take<|aa H)&&i8 p)=ao):IF m H=.ok p (H'.take<|aa H):=by unfold IF;exact e▸if_pos h
theorem Rj (h:IF m H≠.stuck):∃p H',m H=.ok p H'/\(cZ (H'.take<|aa H)&&i8 p)=true:=by
 unfold IF at h
 cases e:m H with
 |ok p H'=>
  rw[e] at h;by_cases q:(cZ (H'.take<|aa H)&&i8 p)=ao
  ·exact⟨p,H',rfl,q⟩
  ·exact absurd (if_neg q) h
 |exc p H'=>rw[e] at h;exact absurd rfl h
 |stuck=>rw[e] at h;exact absurd rfl h
def Lo (B:nW) (k:Nat) (y:List PV):IM PV:=
 if aa y=(bF k).1.args.length then IF (bo B (bQ (Z2 k []) ah<|Xn (bF k).2.1)<|fw (bF k).2.2.names.length y) else aP
theorem Qm (X:(k0 w.params).In h):wG (MM w) h (nk<|.ref 71) .machine:=λA Q E s k l=>by obtain⟨y,g,d,t,os⟩:=s;exact wpAny_keeperOf_exc (Bc<|X.keeps k) l
theorem AX (hf:FnAt (cC w.params) a (bF k).1 (bF k).2.1 (bF k).2.2 []) (R:(bF k).2.1=[.Return (ab<|.Call (.Name "Thrown" xp) [inner] [] cp) rp])
 (hgi:(bF k).2.2.names.lookup ("Thrown":am)=ab .globalImplicit) (hst:isStarred inner=ah) (hgood:bI w (cC w.params) (n+3) i7 inner) (g) (args) (vs):
 aj w (cC w.params) [] (n+4) (λK O h=>tF g K O h/\bU K O args vs) (Lo i7 k args) (DF g) (call (.ref a) vs []):=by
 intro A s K O H M I N Yd L;refine bC Yd λgr hvs=>?_;unfold Lo at L|-
 by_cases hl:aa args=(bF k).1.args.length
 case neg=>rw[if_neg hl] at L;exact absurd rfl L
 rw[if_pos hl] at L|-
 have ea:Xn (bF k).2.1=inner:=by refine R▸?_;rfl
 rw[ea] at L|-
 refine iB (Rj L) λp H' Q hon=>?_;have eE:=U7 Q hon;have hok:=(hO hon).1;have hnp:=(hO hon).2;have hvl:=hvs.length;refine jP hf (jI _) I N hvs hl (λo fd Q' hk hd F hdf hQ E'=>?_) λZ B K₁ T P hfw c G W gu hfl=>?_
 ·have QM:∃D,jZ s.heap fd.defaults D:=by
   rcases hdf with ⟨q,_⟩|⟨d,V,m,By,J,h2,E,X⟩
   ·exact⟨[],.inl ⟨q,rfl⟩⟩
   ·exact⟨By,.inr ⟨d,V,m,J,N.sub _ _ (N.stat _ _ h2),E⟩⟩
  refine bd QM λD QM=>?_;refine iC (by refine F▸?_;exact hf.par) QM (by refine F▸?_;simp[hvl,hl]) (by exact F▸hf.nodup) ?_;exact F▸hQ
 refine R▸?_;show aD _ _ (exec _ Z>>=_) _ _ _;refine(afF ..)▸?_;refine ak<|ak<|cb<|ak ?_
 refine kI (dN ..) ?_;show aD (MM w) _ (eval (.Name "Thrown" xp) Z>>=λf=>iD cp f [] (DQ cp<|qS [inner] Z) []) _ _ _;refine(dD cp Z [inner]<|by simp[hst])▸?_;refine fX (λ_ _ h=>ij T.fe (by decide) (T.gi _ hgi) G (FP _) h) ?_;have hin:=hgood (Z2 k []) Z (fw (bF k).2.2.names.length args) ah T (A.deeper Z) B K₁ O H (Z::M) P G W<|by exact Q▸wV
 refine im<|yG<|aZ hin (λv s₂ z2=>y0.casesOn z2 λp' H₂ C z i lk u hv U=>⟨.inr<|.inr<|Qm<|zf λa o q=>u.sub _ _ (u.stat _ _ q),?_⟩) λx s₂ XZ=>yc.casesOn XZ λp' H₂ C z i _ _ _ _=>by rw[Q] at i;cases i
 rw[Q] at i;cases i;refine Ez (g:=g) P u hv (λb q=>?_) λe s₃ qg y S hT Y=>?_
 ·cases r:g.get? b with
  |none=>rfl
  |some o=>refine bd (gr b o r) λo1 l=>bd (c.there b o1 l) λo2 q2=>bd (lk.there b o2 q2) λo3 q3=>?_;rw[q] at q3;exact aC q3
 ·refine ar (ar ?_);refine eE▸?_;have hml:=N.ky.len;refine aH lk.pre λν yR hν=>?_;subst yR;have pY:=S.pop.mf<|by exact hml▸hok
  rw[hml] at pY;refine⟨p,_,qg,O,rfl,(c.trans<|lk.trans y).mf,pY,?_,gu.trans<|U.trans Y⟩;obtain⟨a',j,d,V,es,m,x,t,l,q2,q3,q4,q5,q6,q7,q8,q9,q10,q11,q12,q13⟩:=hT;exact .mk a' j d V es m x t l q2 q3 q4 q5 q6 q7 (λq=>q8<|j5 _ q) q9 q10 q11 q12<|amA p x hnp q13
def fW:nW:=λ_ _=>aP
def rR:nW:=iG fW fW MW
def dF:nW:=λa y=>if a=119 then Lo rR 14 y else if a=126 then Lo rR 15 y else aP
theorem Xg (P):Xv (cC P) uF:=⟨_,_,70,[.ref 39],MY,ao,[],[],ah,al,al,_,_,_,_,_,_,(by kernel_rfl:cC P 71=ab (Eb "Thrown" "Thrown" 71 70 [.ref 39] MY ao [] [] ah al al (ab<|.ref 55) al (ab<|.str (fk "Thrown") 243) (ab<|.str (fk "Thrown") 251) (ab<|.bool ao) "Exception.__new__")),by decide+kernel⟩
theorem pO:jS w (cC w.params) n fW:=⟨λ_=>.inr λ_=>rfl,λ_ _ _=>be⟩
theorem vP:tC w (cC w.params) n fW:=⟨Xg _,λ_=>.inr λ_=>rfl,λ_ _ _ _=>be⟩
theorem J7 (s:∀k B,jS w (cC w.params) k B->sA w (cC w.params) k B):jS w (cC w.params) 3 rR:=
 E9 rfl (jI _) pO vP s MW (UZ _)
theorem ad2 (P):FnAt (cC P) 119 (bF 14).1 (bF 14).2.1 (bF 14).2.2 []:=mc rfl
theorem ad1 (P):FnAt (cC P) 126 (bF 15).1 (bF 15).2.1 (bF 15).2.2 []:=mc rfl
theorem abC (s:∀k B,jS w (cC w.params) k B->sA w (cC w.params) k B):tC w (cC w.params) 4 dF:=by
 have L:=J7 s;have d:∀e,bI w (cC w.params) 3 rR e:=λe=>(jL rfl L (s _ _ L) e).1.1;refine⟨Xg _,λa=>?_,λg a D U=>?_⟩
 ·by_cases J:a=119
  ·subst J;exact cL ((ad2 w.params).ex) λo fd l c _=>.inl ⟨o,fd,l,c⟩
  ·by_cases W:a=126
   ·subst W;exact cL ((ad1 w.params).ex) λo fd l c _=>.inl ⟨o,fd,l,c⟩
   ·exact .inr λy=>by unfold dF;(refine ag (if_neg J) ?_;rw[if_neg W])
 ·unfold dF;by_cases J:a=119
  ·subst J;refine(if_pos rfl)▸?_;exact AX (ad2 _) rfl rfl rfl (d _) g D U
  ·refine(if_neg J)▸?_;by_cases W:a=126
   ·subst W;refine(if_pos rfl)▸?_;exact AX (ad1 _) rfl rfl rfl (d _) g D U
   ·exact(if_neg W)▸be
def k1 (P:cF):Frag:=[(369,H.PW P),(368,H.PX P)]
theorem Ft (x:∀a o,cC P a=ab o->h.get? a=ab o):(k1 P).In h:=by
 intro a o e;refine x a o ?_;unfold k1 at e;simp only[br,Ah] at e
 repeat' split at e
 all_goals first
  |(cases e;rename_i q;rw[beq_iff_eq] at q;subst q;kernel_rfl)
  |(exact aC e)
theorem ac5 (P):oG (k1 P) (.ref 369) "__getattribute__"=ab (ab<|.builtin "object.__getattribute__"):=rfl
theorem Ur (P):oG (k1 P) (.ref 369) "heap"=ab none:=rfl
theorem Us (P):hasDictIn (k1 P) 369=true:=rfl
theorem Kg (g:o.data=.dict u n) (f:kR u x=ab v):lookIn x o=ab (ab v):=by
 unfold lookIn;refine g▸?_;simp only[kR,wA,a9] at f;refine aH f λa J W=>?_;rw[<-Array.find?_toList] at J;simp only[]
 (refine(show(λ(z:cE)=>z.key.isStr x)=(λz=>Value.isStr z.key x) from rfl)▸J▸?_)
 simp[W]
theorem UG (Y Z V o S) (T:dk (cC w.params) Y Z) (R:CZ o=ao) (N:bI w (cC w.params) n B o):
 aj w (cC w.params) [] n (aS Z Y.ns V) (aw (bo B (bQ Y ah o) V) QL) e7 (eval (.Attribute o "heap" S) Z):=by
 cases o<;>try (cases R)
 rename_i x H;refine(aaE ..)▸?_;show aj w (cC w.params) [] n _ _ _ (eval (.Name x H) Z>>=λov=>fY S.atName>>=λ_=>dK [ov] (aba ov "heap" ao)>>=λr=>Jn (.Name x H) ov r>>=λ_=>pure r);refine cu (N Y Z V ah T) dw λp v=>bz ?_;cases p
 case tZ=>
  refine bD λA s K O Q E _ _ _ b c sub h=>?_;obtain⟨a,ob,d,W,u,m,rfl,t,P,i,e,M,g,C,f⟩:=(c.2);have X:=Ft λa o q=>sub _ _ (b _ _ q);have I:InstAt s.heap a ob 369 (ab W):=⟨sub _ _ t,P,by unfold notCls;rw[e],by exact i▸sub _ _ M⟩;have U:findObj (k1 w.params) 369 (ab W) "heap"=ab (.value<|.ref a):=findObj_own (Us _) (Ur _) rfl<|Kg g f
  refine ak<|a8<|get_value X I (ac5 _) U rfl ?_
  exact oW<|ar<|h _ _ _ (.refl _) c.2
 all_goals exact be
theorem xS:V5 "bytes" "__hash__" "bytes.__hash__":=
 .of (owner:="bytes") (n:="__hash__") (by(refine ag (lR ..)<|(ae iJ)▸?_);kernel_rfl) (by decide+kernel) (by decide+kernel) (by decide+kernel)
  (by first|exact .inl (by decide+kernel)|exact .inr<|by decide+kernel) (by refine ag (nn ..) ?_;kernel_rfl)
theorem Ri:AL table "bytes.__hash__"=ab lW.«bytes.__hash__»:=kZ rfl
theorem VL (a):lI "bytes.__hash__" ⟨[a],[]⟩:=by unfold lI;kernel_rfl
theorem YE (b) (t:GB):lW.«bytes.__hash__» ⟨[.bytes b t],[]⟩=(strHash ⟨b.map (·.toNat)⟩>>=λi=>retInt i):=rfl
noncomputable def YL (i:Int):Int:=if(-(2^63:Int)<=i&&i<2^63)=ao then(if(i==-1)=ao then -2 else i) else
 (if((if i<0 then -((i.natAbs:Int)%(2^61-1)) else(i.natAbs:Int)%(2^61-1))==-1)=ao then -2 else(if i<0 then -((i.natAbs:Int)%(2^61-1)) else(i.natAbs:Int)%(2^61-1)))
theorem La {i:Int} (h:Q (YL i) s):aD (Ob m w) A (vE i) Q E s:=by
 unfold vE;unfold YL at h;split
 ·rename_i q;rw[if_pos q] at h;exact ar h
 ·rename_i q;rw[if_neg q] at h;exact ak<|mm<|ar h
noncomputable def W3 (w:dG) (b:List UInt8):Int:=YL (hashStr w ⟨b.toArray.map (·.toNat)⟩)
theorem Cu (h:Q (W3 w b) {s with toks:=s.toks+1}):aD (Ob m w) A (pyHash<|.bytes (af b) t) Q E s:=by
 have u:s.TypeIs (.bytes b.toArray t) "bytes":=rfl;unfold pyHash;show aD _ _ (agy _) _ _ _;unfold agy;have f:[abc b.toArray t].any Value.onHeap=false:=rfl;refine ak ?_
 (rewrite[cRoomFor];refine kI (if_neg<|by rw[f];exact bp) ?_);refine ar ?_
 refine ak<|ux u xS.lookup ?_
 rw[if_neg<|by decide+kernel];refine ak<|ux u xS.lookup ?_
 show aD _ _ (callSpecialIfBoundUnlessNone? (.bytes (af b) t) "__hash__" _>>=_) Q E s;refine ak<|wpAny_callSpecialIfBoundUnlessNone?_slot u xS<|DN xS u Ri ?_ (VL _)
 rw[YE];unfold strHash;refine ak<|fX (λ_ _ h=>afy h)<|ar<|wpAny_ret_mkInt ?_
 exact La h
noncomputable def Value.Bn (x:List UInt8) (v:Value):Bool:=by
 cases v
 case bytes y _=>exact y.toList==x
 all_goals exact ah
theorem ic (h:Value.Bn x v=ao):∃t,v=.bytes (af x) t:=by
 cases v<;>first|exact absurd h bp|skip
 rename_i a t;exact⟨t,by rw[<-eq_of_beq h]⟩
noncomputable def bytesKind (m:Program) (w:dG):KeyKind m w (List UInt8) where
 is:=Value.Bn
 hash:=W3 w
 inj:=λv a b I R=>by
  refine bd (ic I) λt S=>?_;subst S;refine bd (ic R) λu h=>?_;injection h with h
  exact congrArg oM h
 byValue:=λk v h=>by refine bd (ic h) λt S=>?_;subst S;rfl
 pyHash:=λf h=>by refine bd (ic f) λt S=>?_;subst S;exact Cu h
 eqBool:=λ{A E s a b u v Q} V f h=>by
  refine bd (ic V) λt S=>?_;subst S;refine bd (ic f) λu S=>?_;subst S;refine zy (af a) t (af b) u _ _ _ _ ?_;have:(a.toArray.toList==b.toArray.toList)=decide (a=b):=by simp[Bool.beq_eq_decide_eq]
  rw[this];exact h
 «strs»:=λk x t v h=>absurd h bp
def CV (p:PV) (v:Value):Prop:=∀K O,VR K O p v
inductive Xw:List PV->List Value->Prop
 |nil:Xw [] []
 |cons {p:PV} {v:Value} {l:List PV} {r:List Value}:CV p v->Xw l r->Xw (p::l) (v::r)
theorem Xw.length {l:List PV} {r:List Value} (h:Xw l r):aa l=aa r:=by
 induction h with
 |nil=>rfl
 |cons _ _ o=>exact congrArg aaF o
section
variable {w:dG} {A:iF} {E:Value->bh->Prop} {s:bh} {env:lV}
theorem F7 {c:Const} {p:PV} {k:Nat} {S:nX} {Q:Value->bh->Prop} (h:wk c=ab p) (l:∀v tk,CV p v->Q v {s with toks:=tk}):aD (MM w) A (eval (.Constant c k S) env) Q E s:=by
 show aD _ _ (constValue env c) _ _ _
 induction c with
 |none=>rw[<-ai h] at l;exact ar<|l _ s.toks λ_ _=>qO
 |bool b=>rw[<-ai h] at l;exact ar<|l _ s.toks λ_ _=>tf
 |int i=>rw[<-ai h] at l;exact D6<|l _ _ λ_ _=>ft
 |str x=>rw[<-ai h] at l;exactλd q a=>l (.str x s.toks) (s.toks+1) λ_ _=>qf
 |bytes b=>rw[<-ai h] at l;exactλd q a=>l (.bytes _ s.toks) (s.toks+1) λ_ _=>jQ
 |_=>exact aC h
theorem vo {o:bK} {p:PV} (h:ot o=ab p):∃c k S,o=.Constant c k S/\wk c=ab p:=by exact aH (bind_some h) λx T h=>⟨x.1,x.2.1,x.2.2,Bw T,h⟩
theorem vq {o:Option bK} {p:PV} (h:ou o=ab p):∃c k S,o=ab (.Constant c k S)/\wk c=ab p:=by refine aH (bind_some h) λe Z T=>?_;subst Z;refine se (vo T) λc k S Z J=>?_;subst Z;exact⟨c,k,S,rfl,J⟩
theorem iu {u z:Type} {f:u->Option z} {a:u} {l:List u} {r:List z} (h:(a::l).mapM f=ab r):∃b bs,r=b::bs/\f a=ab b/\l.mapM f=ab bs:=by
 rw[BX] at h
 cases I:f a with
 |none=>rw[I] at h;exact aC h
 |some b=>
  rw[I] at h
  cases R:l.mapM f with
  |none=>rw[R] at h;exact aC h
  |some bs=>rw[R] at h;obtain rfl:=ai h;exact⟨b,bs,rfl,rfl,rfl⟩
theorem lz {u z:Type} {f:u->Option z} {r:List z} (h:([]:List u).mapM f=ab r):r=[]:=by rw[List.mapM_nil] at h;obtain rfl:=ai h;rfl
theorem u0 {u z:Type} {f:u->Option z}:∀{l:List u} {r:List z},l.mapM f=ab r->aa l=aa r
 |[],r,h=>by refine(lz h)▸?_;rfl
 |a::l,r,h=>by refine cL (iu h) λb I S _ W=>?_;subst S;simp[u0 W]
variable {K':Type} [DecidableEq K'] {knd:KeyKind bR w K'} {f:PV->Option K'}
theorem PC (Y:∀p k v,f p=ab k->CV p v->knd.is k v=ao) {M:nX} (j:List (Option bK)):∀(U:List bK) (r R:List PV) (P:List K') (s:bh) (Q:List (Value×Value)->bh->Prop),
 j.mapM ou=ab r->U.mapM ot=ab R->r.mapM f=ab P->aa j=aa U->(∀l lv tk,Carries knd l (P.zip lv)->Xw R lv->Q l {s with toks:=tk})->aD (MM w) A (evalPairs<|pairTrees j U env M) Q E s:=by
 induction j with
 |nil=>intro U r R P s Q J W V C T;obtain rfl:=cw.mp C.symm;have m:=lz J;subst m;have i:=lz W;subst i;have L:=lz V;subst L;exact evalPairs_nil<|T [] [] s.toks trivial .nil
 |cons k j o=>
  intro U r R P s Q J W V C T;cases U with|nil=>cases C|cons v U=>?_
  refine cL (iu J) λb I S O Z=>?_;subst S;refine cL (iu W) λc D S N n=>?_;subst S;refine cL (iu V) λd q S g a=>?_;subst S;refine se (vq O) λc1 k1 H S O=>?_;subst S;refine se (vo N) λc2 z G S N=>?_;subst S;refine ajh<|F7 O λy t1 X=>?_
  refine ak<|F7 N λe t2 h=>ak<|cb<|ar ?_
  exact o U I D q _ _ Z n a (nA C) λl lv tk t F=>T ((y,e)::l) (e::lv) tk ⟨Y _ _ _ g X,rfl,t⟩<|.cons h F
end
section
variable [DecidableEq K']
theorem HV (more):∀(S:List (K'×Value)),(more.map (·.1)).Nodup->(∀k∈more.map (·.1),k∉S.map (·.1))->aay S more=S++more:=by
 induction more with
 |nil=>exactλS _ _=>ae<|fh S
 |cons y r o=>
  intro S B g;have B:=lb.mp B;have T:=lU.mpr λx Y q=>g y.1 bc<|b2.mpr ⟨x,Y,of_decide_eq_true q⟩
  have e:aay S (y::r)=aay (S++[(y.1,y.2)]) r:=by show aay (stored S y.1 y.2) r=_;unfold stored;rw[T];rfl
  rw[e,o (S++[(y.1,y.2)]) B.2 λZ t q=>?_,eZ]
  ·rfl
  ·rw[b3] at q;refine(eB.mp q).elim (g Z<|bb _ t) λq=>B.1<|(aU.mp q)▸t
theorem Yq {K:aN} (g:VR K O d E) (k:K') (h:Xw R lv):∀(P:List K'),VR K O (((P.zip R).lookup k).getD d) ((valueAt (P.zip lv) k).getD E):=by
 induction h with
 |nil=>intro P;cases P<;>exact g
 |cons J W o=>
  intro P;cases P with|nil=>exact g|cons a P=>?_
  rw[pq,pq,br];unfold valueAt;rw[V9];by_cases q:a=k
  ·rw[q,beq_self_eq_true,decide_eq_true rfl];exact J K O
  ·rw[beq_false_of_ne<|jm q,decide_eq_false q];exact o P
end
def Sd (a:bk) (o:uz):xg:=λ_ O h=>h.get? a=ab o/\a∉O
theorem Sd.stable (Y:¬b4 o):fD [] (Sd a o):=λ_ _ _ _ _ _ c st=>⟨st.same c.1 c.2 (by simp) Y,st.lr c.2 c.1⟩
section
variable [DecidableEq K'] {knd:KeyKind bR w K'}
theorem MI (T:dk X Y Z) (gx:bI w X n B x) (gd:bI w X n B i)
 (g:(d==oE)=ah) (hm:∀h:eG,h.get? d=ab o->h.MapOf knd d (valueAt<|P.zip lv)) (hf:¬b4 o) (F:Xw R lv)
 (QQ:∀p q:PV,nv r R p q=aP\/∃k,nv r R p q=ax (KA P R k q)/\∀K O v,VR K O p v->knd.is k v=ao):
 aj w X [] n (λK O h=>aS Z Y.ns V K O h/\Sd d o K O h) (aw (bo B (bQ Y ah x) V) λp=>aw (bo B (bQ Y ah i) V) λq=>nv r R p q) e7
  (iD S (.builtin "dict.get") [.ref d] [(ah,eval x Z),(ah,eval i Z)] []):=by
 intro A s K O H M I N c L;have b:=(dw (Z:=Z) (Y:=Y.ns) (V:=V)).and<|Sd.stable (a:=d) hf
 have m:=fU (bo B (bQ Y ah x) V) (λp=>aw (bo B (bQ Y ah i) V) λq=>nv r R p q) H;have h1:bo B (bQ Y ah x) V H≠.stuck:=λq=>L<|by(refine ag m ?_;rw[q])
 have l:=(gx Y Z V ah T).weak (λ_ _ _ c=>c.1) |>.keep b
 refine wpAny_dict_get2 (knd:=knd) g<|aZ (l A s K O H M I N c h1) (λv s₁ Yh=>y0.casesOn Yh λp H₁ K₁ J Q dL G zq1 gu=>bC zq1 λc₁ f=>?_) λe s₁ Yg=>yc.casesOn Yg λp H₁ K₁ J Q dL G hex gu=>⟨p,H₁,K₁,J,by(refine ag m ?_;rw[Q]),dL,G,hex,gu⟩
 rw[Q] at m;have e1':(aw (bo B (bQ Y ah x) V) λp=>aw (bo B (bQ Y ah i) V) λq=>nv r R p q) H=(aw (bo B (bQ Y ah i) V) λq=>nv r R p q) H₁:=m;rw[e1'] at L|-
 have e2:=fU (bo B (bQ Y ah i) V) (λq=>nv r R p q) H₁;have h2:bo B (bQ Y ah i) V H₁≠.stuck:=λq=>L<|by(refine ag e2 ?_;rw[q])
 have s2:=(gd Y Z V ah T).weak (C:=λK O h=>(aS Z Y.ns V K O h/\Sd d o K O h)/\VR K O p v) (λ_ _ _ c=>c.1.1) |>.keep (b.and<|b9 p v)
 refine aZ (s2 A s₁ K₁ J H₁ M I G ⟨c₁,f⟩ h2) (λE t X9=>y0.casesOn X9 λq H₂ K₂ z j D u zq2 U=>bC zq2 λzq3 hdv=>bC zq3 λy hv₂=>?_) λe t X8=>yc.casesOn X8 λq H₂ K₂ z j D u hex U=>⟨q,H₂,K₂,z,by(refine ag e2 ?_;rw[j]),dL.trans D,u,hex.back dL,gu.trans U⟩;have W:(aw (bo B (bQ Y ah i) V) λq=>nv r R p q) H₁=nv r R p q H₂:=by(refine ag e2 ?_;rw[j])
 rw[W] at L|-
 rcases QQ p q with hs|⟨k,hk,hkey⟩
 ·rw[hs] at L;exact absurd rfl L
 ·refine⟨k,_,hkey _ _ _ hv₂,hm _ y.2.1,?_⟩;refine(ae hk)▸?_;exact⟨_,H₂,K₂,z,rfl,dL.trans D,u,Yq hdv k F P,gu.trans U⟩
theorem R5 {j:List (Option bK)} (h:j.mapM ou=ab r):j.all (·.isSome)=true:=by
 induction j generalizing r with
 |nil=>rfl
 |cons a l o=>refine cL (iu h) λb I S J W=>?_;subst S;refine se (vq J) λc k Z S _=>?_;subst S;simpa using o W
theorem BB (E:∃o,X 3=ab o) (T:dk X cx Z) (z:j.mapM ou=ab r) (hv:vs.mapM ot=ab R)
 (a:r.mapM f=ab keys) (hok:zd keys R=ao) (hf:∀p k v,f p=ab k->CV p v->knd.is k v=ao)
 (QQ:∀p q:PV,nv r R p q=aP\/∃k,nv r R p q=ax (KA keys R k q)/\∀K O v,VR K O p v->knd.is k v=ao)
 (d:isStarred x=ah) (c:isStarred i=ah) (hline:(P.endLine==G.line)=ao) (gx:bI w X n B x) (gd:bI w X n B i):
 aj w X [] n (aS Z cx.ns V) (bo B (.xF r R (bQ cx ah x)<|bQ cx ah i) V) e7 (eval (.Call (.Attribute (.Dict j vs m) "get" P) [x,i] [] G) Z):=by
 intro A s K O H M I N fr L;simp only[zd,decide_eq_true_eq] at hok;refine vh hok λg hne J hlv=>?_;have y:=u0 z;have D:=u0 hv;have U:=u0 a;have Q:=R5 z;have Zo:aa j=aa vs:=by exact cf (cP<|bj [aa keys,aa R,aa j,aa r,aa vs] [] [(1,aJ,bf),(1,ct,ig),(1,bf,.v 4),(1,ig,aJ),(1,xi<|.v 4,ct)] rfl (cl<|an hlv) (cl<|an y) (cl<|an<|ae D)<|cl<|an U)<|cP<|bj [aa R,aa keys,aa r,aa j,aa vs] [] [(1,aJ,bf),(1,ct,ig),(1,.v 4,aJ),(1,bf,ct),(1,xi ig,.v 4)] rfl (cl<|an<|ae hlv) (cl<|an<|ae y) (cl<|an D)<|cl<|an<|ae U
 have hpl:=pairTrees_length j vs Z m Q Zo;have htr:=dD G Z [x,i]<|by simp[d,c]
 refine wpAny_Call_method2_late (qM rfl) hline htr<|wpAny_Dict_pairs (zip_pairTrees j vs Z m Q Zo) (λq=>?_) (by exact cP<|bj [aa keys,aa j,aa r,aa<|pairTrees j vs Z m] [] [(1,aJ,.n 15),(1,bf,ct),(1,ct,aJ),(1,ig,bf),(1,xi<|.n 15,ig)] rfl (cl J) (cl<|an y) (cl<|an U)<|cl<|an hpl)<|PC hf j vs r R keys _ _ z hv a Zo λl lv tk t hcv=>⟨keys.zip lv,t,?_,λh' Y hs'=>?_⟩
 ·have:=congrArg aa q;rw[hpl,d7] at this;apply hne;apply z6;exact cf (cP<|bj [aa r,aa j,aa keys] [] [(1,aJ,bf),(1,ct,aJ),(1,bf,ef),(1,xi ef,ct)] rfl (cl<|an<|ae y) (cl<|an<|ae U)<|cl<|an this)<|cP<|bj [aa keys] [] [(1,xi aJ,ef)] rfl
 ·exact⟨_,#[],0,Sy rfl rfl,⟨rfl,rfl,rfl⟩,rfl,λe he=>absurd he (by simp),by first|exact trivial|exact .nil|(unfold Pairs;simp),by simp⟩
 ·have kpa:de s.heap h':=λb o q=>⟨o.slots,ag (hs'.2 b<|eR<|dS q)<|aQ _ q,.inl rfl⟩;have hlc:=hcv.length;have hmap:(keys.zip lv).map (·.1)=keys:=by rw[rk];exact cP<|bj [aa keys,aa R,aa lv] [] [(1,aJ,bf),(1,bf,ct),(1,xi ct,aJ)] rfl (cl<|an hlv)<|cl<|an hlc
  rw[HV (keys.zip lv) [] (by exact(ae hmap)▸g) (by simp),gA] at Y;have hMO:=Y.mapOf;refine wi (id hMO) λo u ep C hex W=>?_;have nf:¬b4 o:=λq=>by have q1:=q.1;rw[hex.1] at q1;exact absurd q1<|by decide
  have hsys:(s.heap.objs.size==oE)=false:=by
   refine bd E λo3 e3=>?_;have:=dS<|N.sub _ _ (N.stat _ _ e3)
   rw[beq_eq_false_iff_ne];exact oY<|Jt (by decide:1<3) this
  refine⟨"dict","dict.get",BV,PySem.F.slot_dict_get,PySem.F.type_dict_get,hMO.typeIs,hMO.noDict,?_⟩;have key:=MI (V:=V) (S:=G) T gx gd hsys (λh q=>⟨o,u,ep,q,hex,W⟩) nf hcv QQ;exact(key A _ K O H M I (N.keep kpa) ⟨dw _ _ _ _ _ _ fr kpa.step,C,N.dY<|bW _⟩).step kpa.step ⟨rfl,rfl⟩ L
end
theorem zM (h:bytesOf p=ab b):p=.bytes b:=by cases p<;>first|exact aC h|exact congrArg _ (ai h)
theorem OZ (h:tS p=ab b):∃s,p=.str s/\b=⟨af s⟩:=by cases p<;>first|exact aC h|exact⟨_,rfl,ae<|ai h⟩
theorem BI (w p k v) (h:bytesOf p=ab k) (c:∃K O,VR K O p v):(bytesKind bR w).is k v=true:=by refine kY c λK O c=>?_;rw[zM h] at c;exact bd c λt e=>(show v=_ from e)▸beq_self_eq_true k
theorem JS (w p k v) (h:tS p=ab k) (c:∃K O,VR K O p v):(XA bR w).is k v=true:=by
 refine kY c λK O c=>aH (OZ h) λs m i=>?_;rw[m] at c;refine bd c λt e=>?_
 (refine(show v=_ from e)▸i▸?_);exact beq_self_eq_true _
theorem iW:sA w (cC w.params) n i7:=by
 refine⟨λY Z V o H T B N=>UG Y Z V o H T B N,λY Z V j U L R x d m P G T A f e M Q X F gd=>?_⟩;have E:∃o,cC w.params 3=ab o:=by exact iB (nL<|sX w.params) λo n J _=>⟨o,J⟩
 have g:=cC w.params
 cases C:L.mapM bytesOf with
 |some l=>
  refine BB E T A f C (by unfold IL at e;rw[C] at e;exact e) (λp k v h c=>BI w p k v h ⟨g,[],c _ _⟩) (λp q=>?_) M Q X F gd
  have W:L.mapM tS=none:=by
   induction L with
   |nil=>unfold IL at e;rw[C,lz C] at e;exact absurd rfl (of_decide_eq_true<|show zd ([]:List (List UInt8)) R=ao from e).2.1
   |cons a r=>
    refine cL (iu C) λb I _ J _=>?_
    cases q:(a::r).mapM tS with
    |none=>rfl
    |some z=>refine cL (iu q) λc D _ W _=>?_;rw[zM J] at W;exact aC W
  cases p with
  |bytes b=>exact .inr ⟨b,by unfold nv;refine C▸?_;rfl,λK O v f=>BI w _ _ _ rfl ⟨K,O,f⟩⟩
  |str s=>left;unfold nv;refine W▸?_;rfl
  |_=>exact .inl rfl
 |none=>
  cases S:L.mapM tS with
  |none=>unfold IL at e;rw[C,S] at e;exact kh e
  |some l=>
   refine BB E T A f S (by unfold IL at e;rw[C,S] at e;exact e) (λp k v h c=>JS w p k v h ⟨g,[],c _ _⟩) (λp q=>?_) M Q X F gd
   cases p with
   |str s=>exact .inr ⟨⟨af s⟩,by unfold nv;refine S▸?_;rfl,λK O v f=>JS w _ _ _ rfl ⟨K,O,f⟩⟩
   |bytes b=>left;unfold nv;refine C▸?_;rfl
   |_=>exact .inl rfl
theorem LZ:jS w (cC w.params) 3 rR:=J7 λ_ _ _=>iW
theorem vO:tC w (cC w.params) 4 dF:=abC λ_ _ _=>iW
def b6:nW:=iG rR dF r6
theorem xV:jS w (cC w.params) (4+aa r6) b6:=
 E9 rfl (jI _) (LZ.more<|eh _) vO (λ_ _ _=>iW) r6 (UY _)
end
section
open PySem PySem.W PySem.Calls PyProof.Rows PySem.SeqAt
theorem Vk:dX.name="law":=rfl
theorem Y9 (P):N3 (u1 P) "law"=ab (.ref 1119):=rfl
theorem UA {K:aN} (h:abi vs j):bU K O (j.map .int) vs:=by
 induction h with
 |nil=>exact eu
 |cons n t h o=>exact b7 (ft) o
theorem ZN (P):FnAt (cC P) 986 (bF 161).1 (bF 161).2.1 (bF 161).2.2 []:=mc rfl
theorem Rd (P):FnAt (cC P) 1114 (bF 182).1 (bF 182).2.1 (bF 182).2.2 []:=mc rfl
theorem acS:aa r6=73:=by decide+kernel
theorem ahG:aa rr<=40:=by decide+kernel
def j7 (lo D:PV) (d:am) (b:Bool):PV:=.tup [lo,D,(x0 d).getD .none,.Au,.bool b]
noncomputable def cG:List (List Nat):=[("text_length":am).cps.toList,("text_size":am).cps.toList,("text_octet":am).cps.toList,("text_at":am).cps.toList,("text_next":am).cps.toList,("text_prev":am).cps.toList,("text_last":am).cps.toList,("text_is_start":am).cps.toList,("text_is_valid":am).cps.toList,("text_sub":am).cps.toList,("text_repeated":am).cps.toList,("text_reversed":am).cps.toList,("text_replaced":am).cps.toList,("text_strip":am).cps.toList,("text_upper":am).cps.toList,("text_lower":am).cps.toList,("text_of_number":am).cps.toList,("text_joined":am).cps.toList,("text_written":am).cps.toList,("text_find":am).cps.toList,("text_find_last":am).cps.toList,("text_compare":am).cps.toList,("text_starts":am).cps.toList,("text_ends":am).cps.toList,("text_number":am).cps.toList,("text_split":am).cps.toList,("text_indices":am).cps.toList,("char_code":am).cps.toList,("char_of":am).cps.toList,("char_upper":am).cps.toList,("char_lower":am).cps.toList,("symbol_of":am).cps.toList,("symbol_text":am).cps.toList]
def d5:List PV:=[
 j7 (.int 1) (.int 1) "deed_length" ao,
 j7 (.int 1) (.int 1) "deed_size" ao,
 j7 (.int 2) (.int 2) "deed_octet" ao,
 j7 (.int 2) (.int 2) "deed_at" ao,
 j7 (.int 2) (.int 2) "deed_next" ao,
 j7 (.int 2) (.int 2) "deed_prev" ao,
 j7 (.int 1) (.int 1) "deed_last" ao,
 j7 (.int 2) (.int 2) "deed_is_start" ao,
 j7 (.int 1) (.int 1) "deed_is_valid" ao,
 j7 (.int 3) (.int 3) "deed_sub" ao,
 j7 (.int 2) (.int 2) "deed_repeated" ao,
 j7 (.int 1) (.int 1) "deed_reversed" ao,
 j7 (.int 3) (.int 3) "deed_replaced" ao,
 j7 (.int 1) (.int 1) "deed_strip" ao,
 j7 (.int 1) (.int 1) "deed_upper" ao,
 j7 (.int 1) (.int 1) "deed_lower" ao,
 j7 (.int 1) (.int 2) "deed_number_text" ao,
 j7 (.int 0) .none "deed_joined" ah,
 j7 (.int 1) (.int 1) "deed_written" ah,
 j7 (.int 2) (.int 3) "deed_find" ao,
 j7 (.int 2) (.int 2) "deed_find_last" ao,
 j7 (.int 2) (.int 2) "deed_compare" ao,
 j7 (.int 2) (.int 2) "deed_starts" ao,
 j7 (.int 2) (.int 2) "deed_ends" ao,
 j7 (.int 1) (.int 2) "deed_number_in" ao,
 j7 (.int 2) (.int 2) "deed_split" ah,
 j7 (.int 1) (.int 1) "deed_indices" ah,
 j7 (.int 1) (.int 1) "deed_code" ao,
 j7 (.int 1) (.int 1) "deed_sign" ao,
 j7 (.int 1) (.int 1) "deed_raised_sign" ao,
 j7 (.int 1) (.int 1) "deed_lowered_sign" ao,
 j7 (.int 1) (.int 1) "deed_symbol" ao,
 j7 (.int 1) (.int 1) "deed_symbol_text" ao]
noncomputable def gq:List Nat:=("BoundsError":am).cps.toList
noncomputable def ls3 (k:u->u->u->Option z):List u->Option z
 |[a,b,c]=>k a b c
 |_=>al
theorem Fl {u z:Type} {k:u->u->u->Option z} {l:List u} {r:z} (h:ls3 k l=ab r):∃a b c,l=[a,b,c]/\k a b c=ab r:=by
 cases l with|nil=>exact aC h|cons a l=>?_
 cases l with|nil=>exact aC h|cons b l=>?_
 cases l with|nil=>exact aC h|cons c l=>?_
 cases l with|nil=>exact⟨a,b,c,rfl,h⟩|cons d l=>exact aC h
noncomputable def pr2 (k:u->u->Option z):List u->Option z
 |a::b::_=>k a b
 |_=>al
theorem Px {u z:Type} {k:u->u->Option z} {l:List u} {r:z} (h:pr2 k l=ab r):∃a b d,l=a::b::d/\k a b=ab r:=by
 cases l with|nil=>exact aC h|cons a l=>?_
 cases l with|nil=>exact aC h|cons b l=>exact⟨a,b,l,rfl,h⟩
noncomputable def pr3 (k:u->u->u->Option z):List u->Option z
 |a::b::c::_=>k a b c
 |_=>al
theorem E3 {u z:Type} {k:u->u->u->Option z} {l:List u} {r:z} (h:pr3 k l=ab r):∃a b c d,l=a::b::c::d/\k a b c=ab r:=by
 cases l with|nil=>exact aC h|cons a l=>?_
 cases l with|nil=>exact aC h|cons b l=>?_
 cases l with|nil=>exact aC h|cons c l=>exact⟨a,b,c,l,rfl,h⟩
def lO (p:PV):Option PV:=(At p).bind<|ls3 λ_ y c=>(At y).bind<|pr2 λ_ s=>(Cw s).bind λx=>ab<|if x=gq then .tup [.str x,c] else .tup [.str x]
def Xf (p:PV):Option Addr:=(At p).bind<|pr3 λ_ _ d=>PE d
def wa (y:List PV):Option (bk×List PV):=(two y).bind λx=>(Xf x.1).bind λd=>(At x.2).map λD=>(d,D)
def ol (n:Nat):j1 PV->j1 PV
 |.ok p H'=>if cZ (H'.take n)&&i8 p then .ok p (H'.take n) else .stuck
 |.exc p H'=>if cZ (H'.take n)&&i8 p then(match lO p with
  |some q=>.ok q (H'.take n)
  |none=>.stuck) else .stuck
 |.stuck=>.stuck
def pE (y:List PV):IM PV:=match wa y with
 |some x=>λH=>if aa x.2<=16777216 then ol (aa H) (b6 x.1 [.tZ,.lst x.2] H) else .stuck
 |none=>aP
end
section
open PySem PySem.W PySem.Calls PyProof.Rows PySem.SeqAt Builtin Builtin.ObjectAttr
theorem Fs (P):makesIn (k1 P) 369=true:=rfl
theorem Uq (P):oG (k1 P) (.ref 369) "__init__"=ab (ab<|.ref 331):=rfl
theorem ac4 (P):oG (k1 P) (.ref 369) "__setattr__"=ab (ab<|.builtin "object.__setattr__"):=rfl
theorem ZF (P):jD (cC P) "Heap" (.ref 369):=on rfl
theorem adZ (P):FnAt (cC P) 331 (tj 53 0).1 (tj 53 0).2.1 (tj 53 0).2.2 []:=
 UR rfl rfl rfl (.inl ⟨rfl,rfl⟩)
theorem Zf (P):takerIn (k1 P) 369 "heap"=ab none:=rfl
theorem Ze (P):takerIn (k1 P) 369 "things"=ab none:=rfl
theorem Up (P):plainOver (k1 P) 369=true:=rfl
theorem Uo (P):∃cd,clsIn (k1 P) 369=ab cd/\cd.hasDict=true:=⟨_,rfl,rfl⟩
structure HI (x dx:bk) (es:List cE) (h:eG):Prop where
 ne:x≠dx
 ob:h.get? x=ab ⟨.ref 369,ab dx,.plain,#[]⟩
 di:∃n,h.get? dx=ab (aaB es n)
section
variable {es':GB->List cE}
theorem Wt (X:(k1 w.params).In s.heap) (I:HI x i u s.heap) (V:takerIn (k1 w.params) 369 name=ab al) (z:∀e∈u,∃k t,e.key=.str k t)
 (Y:∀t,putL name (gg w.params name) (.str name t) v u=es' t) (N:∀t,aa (es' t)<=10)
 (h:∀G t k,HI x i (es' t) G->(∀b,b≠i->G.get? b=s.heap.get? b)->Q () {s with heap:=G,toks:=k}):
 aD (MM w) A (setAttr (.ref x) name v) Q E s:=by
 obtain⟨y,g,d,t,os⟩:=s;obtain⟨H,T,n,Z⟩:=I;replace T:y.get? x=_:=T;replace Z:y.get? i=_:=Z;have J:InstAt y x ⟨.ref 369,ab i,.plain,#[]⟩ 369 (ab<|aaB u n):=⟨T,rfl,rfl,Z⟩;refine set_plain X J (ac4 _)<|osa_open X J (Up _) V λb=>?_
 refine aH (Uo w.params) λcd P f=>oW<|ak<|fX (λ_ _ h=>Jh T h)<|fX (λ_ _ h=>(Ea X P).here (s:=⟨y,g,d,t+1,os⟩) h) ?_
 refine(ae f)▸?_;refine ar<|oW<|ak ?_
 unfold nsSet;refine ak<|fX (λ_ _ h=>afy h)<|ar<|fX (λ_ _ h=>Sm h)<|fX (λ_ _ h=>Jh Z h) ?_
 have c:(!u.toArray.any (·.key.isStr name)&&u.toArray.any (·.refKey))=false:=by
  have:u.toArray.any (·.refKey)=false:=by rw[K7];intro e W;refine kY (z e<|by simpa using W) λk t q=>?_;simp[JA,q]
  (refine(ae this)▸?_;rw[hV])
 dsimp only
 (refine(ae (aRefKeyMayBeTheName_at ..))▸?_;refine(ae c)▸?_)
 refine wpAny_updatePart Z ?_;have a:=ei (NN name (gg w.params name) (.str name<|t+1) v) Z<|by refine(ae (putName_dict ..))▸?_;rfl
 rw[putName_dict] at a;refine ak<|DL a (DP (by rw[aR,bg];refine(ae (Y ..))▸?_;have:=N<|t+1;exact aM (by assumption)<|by decide)) ?_
 refine ar<|h _ (t+1) _ ⟨H,ag (gL _ _ _ _ H) T,_,by rw[<-Y];exact a⟩ λb R=>gL _ _ _ _ R
end
theorem Vv:∃p1 P G U a,(tj 53 0).2.1=[.Assign [.Attribute (.Name "self" p1) "things" P] (.List [] U) a]/\G=p1:=⟨_,_,_,_,_,rfl,rfl⟩
section
variable {KF K:aN}
theorem HI.step (I':HI x d L h') (k:∀b,b≠d->h'.get? b=h.get? b):Step [d] K μ h K μ h':=
 ⟨rfl,λ_ _ e=>e,λ_ _ e=>.inl e,⟨[],by simp,by simp⟩,λb o R=>by
     by_cases q:b=d
     ·subst q;exact bd I'.di λn e=>⟨_,e⟩
     ·exact⟨o,ag (k b q) R⟩,
  λb o R _ B=>⟨o.slots,ag (k b λq=>B<|by simp[q]) R,.inl rfl⟩,λ_ q=>.inl q⟩
theorem HI.inv (I:HI x d u h) (N:Inv KF K O H M h) (r:K d=al) (md:d∉O) (k:∀b,b≠d->h'.get? b=h.get? b):Inv KF K O H M h':=by refine N.kA (S:=[d]) (λb R=>?_) λb o R i=>⟨o.slots,ag (k b λq=>R<|by simp[q]) i,.inl rfl⟩;rw[aU] at R;subst R;refine⟨r,md,λo L fo=>?_⟩;refine bd I.di λn e=>?_;rw[e] at L;obtain rfl:=ai L;exact absurd (show mV "dict"=.type "frame" from fo.1)<|by decide
theorem HI.keep (I:HI x d u h) (st:Step [] K O h j l h') (a:x∉O) (md:d∉O):HI x d u h':=by exact bd I.di λn e=>⟨I.ne,st.same I.ob a (by simp) (λf=>by cases f.1),n,st.same e md (by simp) λf=>absurd (show mV "dict"=.type "frame" from f.1)<|by decide⟩
end
section
variable {K:aN}
theorem zn (e):bI w (cC w.params) n fW e:=(jL rfl pO (iW) e).1.1
theorem UD (ha:kl (n+1) A M) (N:Inv (cC w.params) K O H M s.heap) (I:HI x d [] s.heap) (kx:K x=al) (kd:K d=al) (mx:x∉O) (md:d∉O)
 (hq:∀F j v t hs,Step [d] K O s.heap j O F.heap->Inv (cC w.params) j O H M F.heap->HI x d [⟨hs,.str "things" t,v⟩] F.heap->j x=al->j d=al->aV s F->R (.ok<|.ret .none) F):
 nq (MM w) A (.call (.ref 331) ⟨[.ref x],[]⟩) R s:=by
 refine wm (adZ _) (jI _) ha N (g:=[.ref x]) (b7 rfl eu) rfl (λo fd Q' hk hd hp hdf l E'=>?_) λZ B k T P hfw c G W h hfl _=>?_
 ·have r:jZ s.heap fd.defaults []:=by
   rcases hdf with ⟨q,_⟩|⟨d,V,m,e,J,h2,E,h4⟩
   ·exact .inl ⟨q,rfl⟩
   ·have:=h4.length
    induction e with
    |nil=>exact .inr ⟨d,V,m,J,N.sub _ _ (N.stat _ _ h2),E⟩
    |cons a b=>simp at this
  refine iC (by refine hp▸?_;exact(adZ w.params).par) r (by refine hp▸?_;rfl) (by refine hp▸?_;decide+kernel) ?_;refine hp▸?_;exact l
 refine Rq Vv λp1 p2 p3 p4 p5 hb _=>hb▸?_;refine ak<|nO ?_
 refine aZ (zn (.List [] p4) ⟨_,x0,[]⟩ Z _ ah T (A.deeper Z) B k O H (Z::M) P G W nofun) (λv s₂ X4=>y0.casesOn X4 λp H₂ C z e2 D u f U=>?_) λy s₂ X3=>yc.casesOn X3 λp H₂ C z e2 _ _ _ _=>by cases e2
 cases e2;refine aH (id D.pre) λν Q _=>?_;have hl:=u.ky.len;have hl1:=G.ky.len;rw[Q,aI] at hl;have:=cw.mp<|by exact cf (cP<|bj [aa O,aa ν,aa H] [] [(1,.a aJ bf,ct),(1,ct,aJ),(1,xi ef,bf)] rfl (cl<|an hl)<|cl<|an<|ae hl1)<|cP<|bj [aa ν] [] [(1,xi aJ,ef)] rfl
 subst this;rw[fh] at Q;subst Q;have St:=c.trans D;have p0:=dw _ _ _ _ _ _ W D;have Sf:=I.keep St mx md;refine bd I.di λm0 hd0=>?_;have ac1:=St.ls kx I.ob;have WX:=St.ls kd hd0;refine gF (i:=0) T.fe (by decide) (by decide) rfl rfl p0 λo L=>?_;replace L:_=_:=L;subst L;obtain⟨hh,g,dd,t,os⟩:=s₂;have X:=Ft λa o q=>u.sub _ _ (u.stat _ _ q);refine Wt X Sf (Ze _) (by simp) (λt=>rfl) (λt=>by simp[putL]) λh' Y k' I' S=>oW<|ar ?_
 exact hq _ C v Y _ ((St.mono<|by simp).trans<|I'.step S) (Sf.inv u WX md S).pop I' ac1 WX (h.trans<|U.trans ⟨rfl,rfl⟩)
end
theorem ahM (P):∃o fd,cC P 331=ab o/\o.data=.func fd/\typeIn [(331,o)] (.ref 331)=ab (.type "function"):=⟨_,_,(by kernel_rfl:cC P 331=ab (H.YX P)),rfl,by kernel_rfl⟩
noncomputable abbrev uh (A:iF):Around:=A.under<|.builtin "type.__call__" ⟨[.ref 369],[]⟩
theorem uhw:(xu "type.__call__" ⟨[.ref 369],[]⟩).weight=1:=rfl
theorem aal (I:kl (n+1) A fs):kl n (uh A) fs:=by
 obtain⟨J,W,E,X,U⟩:=I;refine⟨J,?_,?_,X,zl U rfl⟩
 ·show A.depth+(xu "type.__call__" ⟨[.ref 369],[]⟩).weight+n<_;exact uhw▸cP (bj [A.depth,n,nh] [] [(1,xi<|.a aJ<|xi bf,ct),(1,xi ct,xi<|.a (xi aJ) bf)] rfl<|cl W)
 ·show A.units+1+10*n+20<_;exact cP<|bj [A.units,n,yk] [] [(1,xi<|.a (.a aJ<|.m 10<|xi bf)<|.n 20,ct),(1,xi ct,xi<|.a (.a (xi aJ)<|.m 10 bf)<|.n 20)] rfl<|cl E
section
variable {K:aN}
theorem MG (V:kl (n+2) A M) (N:Inv (cC w.params) K O H M s.heap)
 (L:∀x d F j v t G,s.heap.get? x=al->s.heap.get? d=al->Step [] K O s.heap j O F.heap->Inv (cC w.params) j O H M F.heap->HI x d [⟨G,.str "things" t,v⟩] F.heap->j x=al->j d=al->x∉O->d∉O->aV s F->Q (.ref x) F):
 aD (MM w) A (call (.ref 369) [] []) Q E s:=by
 obtain⟨hh,g,dd,t,os⟩:=s;have X:=Ft λa o q=>N.sub _ _ (N.stat _ _ q);refine cL (ahM w.params) λo fd J W Z=>?_
 have m:Frag.In [(331,o)] hh:=λa u e=>by
  simp only[br,Ah] at e;split at e
  ·rename_i q;rw[beq_iff_eq] at q;subst q;obtain rfl:=ai e;exact N.sub _ _ (N.stat _ _ J)
  ·exact aC e
 refine oB<|make_core (makes_of X<|Fs _) (nj X<|Uq _) (λf=>bind_fn m f Z) (.inl rfl) ?_
 have k:de hh ((hh.push emptyDict).push<|instObj 369 hh.objs.size):=λb o q=>⟨o.slots,aQ _ (aQ _ q),.inl rfl⟩;have i:=bW hh;have h:hh.get? (hh.objs.size+1)=none:=iL<|eh _
 have I:HI (hh.objs.size+1) hh.objs.size [] ((hh.push emptyDict).push<|instObj 369 hh.objs.size):=⟨rx _,by heap_get,0,by heap_get⟩;refine UD (aal V) (N.keep k) I (N.cN h) (N.cN i) (N.dY h) (N.dY i) λF j v Y G st P c l r U=>⟨rfl,?_⟩;exact L _ _ F j v Y G h i (k.step.hide st λa q=>.inr<|by rw[aU] at q;subst q;exact i) P c l r (N.dY h) (N.dY i) ⟨U.1,U.2⟩
end
theorem ac8 (P):oG (k0 P) (.ref 71) "__getattribute__"=ab (ab<|.builtin "BaseException.__getattribute__"):=rfl
theorem Qq (P):oG (k0 P) (.ref 71) "__getattr__"=ab none:=rfl
theorem Ux (P):hasDictIn (k0 P) 71=true:=rfl
theorem Uy (P):mroIn (k0 P) 71 (.type "BaseException")=ab true:=rfl
theorem Iu (X:(k0 w.params).In s.heap) (I:InstAt s.heap a j 71 (ab V)) (Y:findObj (k0 w.params) 71 (ab V) "value"=ab (.value v)) (y:handedIn v=ao) (h:Q v {s with toks:=s.toks+1}):
 aD (MM w) A (aba (.ref a) "value" expr) Q E s:=by
 obtain⟨b,g,d,t,os⟩:=s;have S:=PySem.F.attr_Exception.ga;have L0:=I.type (M:=MM w);have L1:=nj (M:=MM w) X<|ac8 _
 have L2:=nj (M:=MM w) X<|Qq _
 have L3:=looks_find (M:=MM w) X I Y;unfold aba getAttrBy;refine fX (λ_ _ h=>Sm h)<|a8<|fX (λ_ _ h=>L0.at h)<|fX (λ_ _ h=>L1.at h) ?_
 have c:(onTheHeap (f6 71)&&DR "BaseException.__getattribute__"==DR "object.__getattribute__")=false:=by decide+kernel
 dsimp only
 (refine(ae c)▸kI (if_neg<|by decide) ?_)
 unfold getAttrByItsOwn;refine fX (λ_ _ h=>L2.at h)<|ak ?_
 refine wpAny_attempt<|a8 ?_
 show aD _ _ (afG _ _ _ _) _ _ _;unfold afG
 (refine(show(expr&&onTheHeap (DR "BaseException.__getattribute__"))=ah by cases expr<;>rfl)▸?_;refine kI (if_neg<|by decide) ?_)
 unfold boundAndCalled;refine(ae (S.bind ..))▸?_;refine oW<|oB ?_
 have sub:wG (MM w) b (Jo (.ref a)<|.type "BaseException") true:=L0.andThen<|D9 X<|Uy _
 refine wB S.plain PySem.F.entry_bexc_ga<|@check_slot (MM w) _ _ ⟨b,g,d,t+1,os⟩ "BaseException.__getattribute__" "BaseException" "__getattribute__" (.ref a) [.str "value" t] [] _ (by decide+kernel) (by decide+kernel) sub (PySem.F.args_bexc_ga _ _) ?_
 unfold lW.«object.__getattribute__» slotArgs;refine oW ?_;refine oW<|fX (λ_ _ h=>L0.at h)<|fX (λ_ _ h=>L3.at h) ?_
 refine ar ?_;show aD _ _ (handedOut v) _ _ _;exact kI (handedOut_of y)<|ar h
section
variable {KF K gH:aN}
theorem C9 (iv:Inv KF K O H fs s.heap) (x:j2 g K O p e s.heap) (st:Step W gH i g K O s.heap)
 (l:∀F,Inv KF K O H fs F.heap->Step W gH i g K O F.heap->j2 g K O p e F.heap->aV s F->Q () F):aD M A (xh e al) Q E s:=by
 obtain⟨a,j,d,U,V,u,n,v,rfl,C,I,Z,P,B,t,z,r,m,q,D,hv,htb⟩:=x;rcases htb with J|⟨T,y,G,J,gT,L,Y,w,X,c,h3⟩
 ·unfold xh;exact fX (λ_ _ h=>kQ I B J h)<|kI (if_neg<|by decide)<|ar<|l s iv st ⟨a,j,d,U,V,u,n,v,rfl,C,I,Z,P,B,t,z,r,m,q,D,hv,.no J⟩<|.refl s
 ·have N:=(fF.mp h3).1;refine wpAny_setFlight_none I B J X c N ?_;have k:jj K.fr [T] s.heap (s.heap.update T (nz (·.setIfInBounds 3 f7))):=oi s.heap T _
  have hS:∀b∈[T],K b=al/\b∉O/\∀o,s.heap.get? b=ab o->¬b4 o:=λb R=>by simp only[aU] at R;subst R;refine⟨Y,w,λo e f=>?_⟩;rw[X] at e;obtain rfl:=ai e;refine bC f λ_ S=>kY S λu n d=>?_;rw[c] at d;cases d
  have hd:=hZ c (·.setIfInBounds 3 f7)
  refine l _ (iv.kA hS k) (st.kA (λb R=>by simp only[aU] at R;subst R;exact gT) k) ⟨a,j,d,U,V,u,n,v,rfl,C,?_,Z,P,B,t,z,r,m,q,D,hv,
   .at T _ _ J gT L Y w (ei _ X (jU hd)) hd (by refine ag z9 ?_;simp only[if_true,if_pos N])⟩ ⟨rfl,rfl⟩
  show(s.heap.update T _).get? a=_;refine ag (fJ _ _ L) ?_;exact I
theorem j2.step (x:j2 g K μ p e h) (st:Step W' K μ h j l h') (U:∀b∈W',∃o,g.get? b=ab o):j2 g j l p e h':=by
 obtain⟨a,N,d,M,V,u,n,v,rfl,C,I,k,P,B,t,z,r,m,X,D,Q,W⟩:=x;have F:∀b,g.get? b=al->b∉W':=λb R q=>by refine bd (U b q) λo e=>?_;rw[R] at e;exact aC e
 have O:=st.same I z (F a C) λf=>by refine bC f λ_ S=>kY S λu n d=>?_;rw[B] at d;cases d
 refine⟨a,N,d,M,V,u,n,v,rfl,C,O,k,P,B,st.ls t I,st.lr z I,st.kle _ _ r,m,X,D,fv st Q,?_⟩;rcases W with J|⟨T,y,G,J,gT,L,Y,w,Z,c,E⟩
 ·exact .no J
 ·exact .at T y G J gT L (st.ls Y Z) (st.lr w Z) (st.same Z w (F T gT) λf=>by refine bC f λ_ S=>kY S λu n d=>?_;rw[c] at d;cases d) c E
end
noncomputable def UH:List Stmt:=[
 .Assign [.Name "word" ⟨731,8,731,12⟩] (.Subscript (.Subscript (.Attribute (.Name "thrown_here" ⟨731,15,731,26⟩) "value" ⟨731,15,731,32⟩) (.Constant (.int 1) 0 ⟨731,33,731,34⟩) ⟨731,15,731,35⟩) (.Constant (.int 1) 0 ⟨731,36,731,37⟩) ⟨731,15,731,38⟩) ⟨731,8,731,38⟩,
 .Return (ab (.IfExp (.Compare (.Name "word" ⟨732,47,732,51⟩) [.Eq] [.Constant (.str "BoundsError") 0 ⟨732,55,732,68⟩] ⟨732,47,732,68⟩)
  (.Tuple [.Name "word" ⟨732,16,732,20⟩,.Subscript (.Attribute (.Name "thrown_here" ⟨732,22,732,33⟩) "value" ⟨732,22,732,39⟩) (.Constant (.int 2) 0 ⟨732,40,732,41⟩) ⟨732,22,732,42⟩] 0 ⟨732,15,732,43⟩)
  (.Tuple [.Name "word" ⟨732,75,732,79⟩] 0 ⟨732,74,732,81⟩) ⟨732,15,732,81⟩)) ⟨732,8,732,81⟩]
theorem Vx:(bF 182).2.1=[
 .Assign [.Name "image" ⟨726,4,726,9⟩] (.Call (.Name "Heap" ⟨726,12,726,16⟩) [] [] ⟨726,12,726,18⟩) ⟨726,4,726,18⟩,
 .Assign [.Attribute (.Name "image" ⟨727,4,727,9⟩) "heap" ⟨727,4,727,14⟩] (.Name "image" ⟨727,17,727,22⟩) ⟨727,4,727,22⟩,
 .Try [.Return (ab<|.Call (.Subscript (.Name "row" ⟨729,15,729,18⟩) (.Constant (.int 2) 0 ⟨729,19,729,20⟩) ⟨729,15,729,21⟩) [.Name "image" ⟨729,22,729,27⟩,.Call (.Name "list" ⟨729,29,729,33⟩) [.Name "given" ⟨729,34,729,39⟩] [] ⟨729,29,729,40⟩] [] ⟨729,15,729,41⟩) ⟨729,8,729,41⟩]
  [.ExceptHandler (ab<|.Name "Thrown" ⟨730,11,730,17⟩) (ab "thrown_here") UH ⟨730,4,732,81⟩] [] [] ⟨728,4,732,81⟩]:=rfl
section
variable {K:aN}
theorem sO {k:Nat}
 (h:aD (MM w) A (eval e Z) (λo B=>∃l q,VR K O (.tup l) o/\(∀a ob,K a=ab ob->B.heap.get? a=ab ob)/\l[k]?=ab q/\k<100/\∀v Y,VR K O q v->Q v {B with toks:=Y}) E s):
 aD (MM w) A (eval (.Subscript e (.Constant (.int (k:Int)) 0 p) S) Z) Q E s:=by
 refine kI (Jp ..)<|ak<|aZ h (λo B b=>ZX b λl q f G L z I=>fX (λ_ _ h=>a8<|wpAny_Constant_int h)<|ak<|cb ?_) λ_ _ x=>x
 obtain⟨a,ob,n,U,rfl,t,P,g,d⟩:=f;refine aH (d.get L) λv f V=>?_;have F:=(aA.mp f).1;have T:IsTup B.heap a (af U):=⟨ob,G _ _ t,P,n,g⟩;have J:¬(k:Int)<0:=by exactλM=>bj [k] [] [(1,xi aJ,ef)] rfl M
 have W:(k:Int)<((aa U):Int):=by exact cJ.mpr<|by assumption
 have N:(0:Int)<=k:=by exact bB _
 refine ak<|kI (getitemInPython_of_ne T.typeIs.not_modules)<|fX (λ_ _ h=>ux (aaH T) aax.lookup h) ?_
 have X:aD (MM w) A (operate [.ref a,.int (k:Int) B.toks]<|getItem (.ref a)<|.int (k:Int) B.toks) (λr R=>aD (MM w) A (Jn e (.ref a) r>>=λ_=>pure r) Q E R) E {B with toks:=B.toks+1}:=
  wpAny_operating (getItem_tuple T (j:=k) (fP (by decide)<|bB _) (kr (cJ.mpr z)<|by decide)
   (by simp only[N9,aR,if_neg J,decide_eq_true W,decide_eq_true N,aaS,if_true,ek]) (by simpa using f) (ak<|wpAny_letTemporaryGo<|ar<|I v _ V))
 first
  |exact ar (ak X)
  |exact ak (ar (ak X))
  |exact ak X
theorem zS {i:Nat} (c:vy Z) (T:Y[i]?=ab ("thrown_here":am)) (G:σ[i]?=ab (ab<|.ref a))
 (N:Inv (cC w.params) K O H M s.heap) (fr:aS Z Y σ K O s.heap) (x:j2 g K O p (.ref a) s.heap) (F:p=.tup l) (h:∀v,VR K O p v->Q v {s with toks:=s.toks+1}):
 aD (MM w) A (eval (.Attribute (.Name "thrown_here" J) "value" S) Z) Q E s:=by
 subst F;refine kI (aaE ..) ?_;show aD (MM w) A (eval (.Name "thrown_here" J) Z>>=λov=>fY S.atName>>=λ_=>dK [ov] (aba ov "value" ao)>>=λr=>Jn (.Name "thrown_here" J) ov r>>=λ_=>pure r) _ _ _;refine ak<|gF c (by decide) (by decide) T G fr λov L=>?_
 replace L:_=_:=L;subst L;obtain⟨R,j,d,U,V,u,n,v,e,C,ha,k,P,B,t,z,kd,m,hse,D,f,W⟩:=x;cases e;have X:=zf λa o q=>N.sub _ _ (N.stat _ _ q);have I:InstAt s.heap a j 71 (ab V):=⟨ha,k,by unfold notCls;rw[B],by exact P▸N.sub _ _ kd⟩;have hf:findObj (k0 w.params) 71 (ab V) "value"=ab (.value v):=findObj_own (Ux _) (Fu _) rfl<|Kg m D
 have y:handedIn v=true:=by obtain⟨b,_,_,_,rfl,_⟩:=f;rfl
 refine fX (λ_ _ h=>cb h)<|ak<|a8<|Iu X I hf y ?_
 exact oW<|ar<|h v f
end
abbrev tl:List am:=(bF 182).2.2.names.map (·.1)
section
variable {s:bh} {KF K:aN}
theorem qu (N:Inv KF K O H M s.heap) (d:bU K O l U):
 ∃j,Inv KF j O H M (s.heap.push {cls:=.type "tuple",data:=.seq (af U)})/\(∀W,Step W K O s.heap j O<|s.heap.push {cls:=.type "tuple",data:=.seq (af U)})/\VR j O (.tup l) (.ref s.heap.objs.size):=by
 refine bC (N.E1 (o:={cls:=.type "tuple",data:=.seq (af U)}) rfl λf=>absurd (show mV "tuple"=.type "frame" from f.1)<|by decide) λP st=>⟨_,P,st,?_⟩;refine⟨_,_,0,U,rfl,fj _ _ _,rfl,rfl,?_⟩;have:=ro (K:=K) (K':=gc K s.heap.objs.size {cls:=.type "tuple",data:=.seq (af U)}) (R:=[]) rfl (st []).kle l U d;simpa using this
theorem Lb (h:Q (.bool<|decide<|x=gq) s):aD (MM w) A (iY .Eq (.str ⟨af x⟩ t)<|.str "BoundsError" u) Q E s:=by
 refine PySem.P.eq_str ?_
 rw[show((⟨af x⟩:am).cps.toList==("BoundsError":am).cps.toList)=decide (x=gq) from by
  rw[iE,beq_iff_eq,decide_eq_true_iff];rfl]
 exact h
theorem abE (T:dk (cC w.params) ⟨(bF 182).2.2.names,x0,[]⟩ Z) (C:aa V=aa tl) (G:V[3]?=ab (ab<|.ref a))
 (N:Inv (cC w.params) K O H M s.heap) (fr:aS Z tl V K O s.heap) (L:j2 g K O (.tup [d,.tup<|I::.str x::r,c]) (.ref a) s.heap) (hg:∀b∈aX Z,∃o,g.get? b=ab o)
 (l:∀v s' j m,VR j O (if x=gq then .tup [.str x,c] else .tup [.str x]) v->Step (aX Z) K O s.heap j O s'.heap->Inv (cC w.params) j O H M s'.heap->aS Z tl m j O s'.heap->aV s s'->Q (.ret v) s'):
 aD (MM w) A (kc UH Z) Q E s:=by
 unfold UH;refine ak<|rD<|sO (K:=K) (O:=O)<|sO (K:=K) (O:=O)<|zS T.fe rfl G N fr L rfl λv f=>?_
 refine⟨_,_,f,λa o q=>N.sub _ _ q,rfl,by decide,λy t1 X=>⟨_,_,X,λa o q=>N.sub _ _ q,rfl,by decide,λe t2 h=>?_⟩⟩;refine aZ (kS (W:=aX Z) (i:=4) (p:=.str x) T.fe rfl (by decide+kernel) (by rw[C];decide) (.inl<|T.lc _ rfl) (g9 Z) N ⟨fr,h⟩) (λ_ t Yb=>vh Yb λD u n U=>?_) λ_ _ (z:False)=>z.elim;have Y:=L.step D hg;have hs₂:(V.set 4<|ab<|.str x)[3]?=ab (ab<|.ref a):=by rw[dQ<|by decide];exact G
 have J:(V.set 4<|ab<|.str x)[4]?=ab (ab<|.str x):=cH<|by rw[C];decide
 refine ak<|gM<|wpAny_IfExp<|wpAny_isTrue_Compare1 ?_
 refine gF T.fe (by decide) (by decide) (show tl[4]?=_ from rfl) J n λv3 B=>qb ?_;refine bd B ?_;clear B;intro t3 yR;obtain rfl:=yR;refine Lb<|i0 ?_
 have S:Inv (cC w.params) K O H M {t with toks:=t.toks+1}.heap:=u;by_cases R:x=gq
 ·rw[if_pos<|decide_eq_true R];rw[if_pos R] at l;refine mA<|yF ?_
  refine gF T.fe (by decide) (by decide) (show tl[4]?=_ from rfl) J n λv4 hv4=>sO (k:=2) (K:=K) (O:=O)<|zS (s:={t with toks:=t.toks+1}) T.fe rfl hs₂ S n Y rfl λv5 hv5=>?_
  refine⟨_,_,hv5,λa o q=>S.sub _ _ q,rfl,by decide,λv6 t6 hv6=>⟨by rw[bg,bL];simp,?_⟩⟩;refine gG (qu S<|b7 hv4<|b7 hv6 eu) λj P st' hv'=>?_;have F:=dw K O t.heap j O _ n (st' []);refine ar ?_;apply l _ _ j _ hv'
  ·exact D.trans<|st' _
  ·exact P
  ·exact F
  ·exact U.trans ⟨rfl,rfl⟩
 ·rw[if_neg<|by simpa using R];rw[if_neg R] at l;refine mA<|yG ?_
  refine gF T.fe (by decide) (by decide) (show tl[4]?=_ from rfl) J n λv4 hv4=>⟨by rw[bg,bL];simp,?_⟩;refine gG (qu S<|b7 hv4 eu) λj P st' hv'=>?_;have F:=dw K O t.heap j O _ n (st' []);refine ar ?_;apply l _ _ j _ hv'
  ·exact D.trans<|st' _
  ·exact P
  ·exact F
  ·exact U.trans ⟨rfl,rfl⟩
end
section
variable {KF K:aN}
theorem Inv.YN (N:Inv KF K O H M h) (g:K a=al) (t:a∉O) (G:fK a h h') (Y:∀Z∈M,Z.frame≠ab a):Inv KF K O H M h':=
 ⟨N.par,N.stat,λb o e=>by
    refine ag (G.2 b<|by rintro rfl;rw[g] at e;exact aC e) ?_;exact N.sub b o e,N.kf,
  ⟨N.ky.len,N.ky.nodup,λi b l D C=>by
   obtain⟨k,o,n,U,e,s,A,S⟩:=N.ky.at_ i b l D C
   exact⟨k,o,n,U,by refine ag (G.2 b<|by rintro rfl;exact t<|bq D) ?_;exact e,s,A,S⟩⟩,
  ⟨λZ J=>by
   obtain⟨k,L,o,f,v,m,e,fo,fr⟩:=N.stk.all Z J
   exact⟨k,L,o,f,v,m,by refine ag (G.2 L<|by rintro rfl;exact Y Z J f) ?_;exact e,fo,fr⟩⟩⟩
end
section
variable {K:aN}
theorem UL (T:dk (cC w.params) ⟨(bF 182).2.2.names,x0,[]⟩ Z) (hl:aa σ=aa tl) (C:A.frames=ab (Z::M)) (hL:∃L,Z.frame=ab L)
 (iv:Inv (cC w.params) K μ H (Z::M) s.heap) (fr:aS Z tl σ gH tq g) (ex:j2 g K μ (.tup [b0,.tup<|I::.str x::r,Wp]) e s.heap) (N:∀b∈aX Z,∃o,g.get? b=ab o) (hne:∀e∈M,e.frame≠ab Z.locals)
 (st:Step [] gH tq g K μ s.heap)
 (hQ:∀v F K',VR K' μ (if x=gq then .tup [.str x,Wp] else .tup [.str x]) v->Step (aX Z) gH tq g K' μ F.heap->Inv (cC w.params) K' μ H M F.heap->aV s F->Q (.ret v) F):
 aD (MM w) A (Oa e Z) (λ_ s₂=>aD (MM w) A (xh e al) (λ_ R=>
  aD (MM w) A (handleBy e Z [.ExceptHandler (ab<|.Name "Thrown" p1) (ab "thrown_here") UH p2]) Q E R) E s₂) E s:=by
 refine bd hL λL hL=>?_;refine y1 C iv ex hL st λB G c Xe h=>?_;obtain⟨a,hea⟩:∃a,e=.ref a:=by obtain⟨a,_,_,_,_,_,_,_,q,_⟩:=ex;exact⟨a,q⟩
 subst hea;refine wpAny_handleBy_cons (codeAny_handlers_test ?_)<|by intro q;cases q
 refine ij T.fe (by decide) (T.gi _ rfl) G (FP _) ?_;obtain⟨hh,gn,d,t,os⟩:=B;have X:=zf λa o q=>G.sub _ _ (G.stat _ _ q);obtain⟨j,J,P⟩:∃j,hh.get? a=ab j/\j.cls=.ref 71:=by obtain⟨a',j,_,_,_,_,_,_,q,_,q2,f,_⟩:=Xe;cases q;exact⟨j,q2,f⟩
 refine wpAny_excMatches_sub_self (Bc X) J P (by decide+kernel)<|codeAny_handlers_suite_as<|C9 G Xe c λs₂ u D Y U=>?_
 have n:=dw _ _ _ _ _ _ fr D;refine aZ (kS (i:=3) (p:=.ref a) T.fe rfl (by decide+kernel) (by refine hl▸?_;decide) (.inl<|T.lc _ rfl) (g9 Z) u ⟨n,show _=_ from rfl⟩) (λ_ R X6=>vh X6 λy S O n7=>?_) λ_ _ (z:False)=>z.elim;refine abE T (by refine ag d6 ?_;exact hl) (cH<|by refine hl▸?_;decide) S O (Y.step y N) N λv V sy σ₄ l o5 k W n6=>?_;obtain⟨m,hn,hk,hm,_,_⟩:=W;refine wpAny_nameGoes (T.lc _ rfl) hn (by refine T.fe.kind▸?_;rfl) λh₅ ak8 adu WZ=>?_;refine se (id adu) λahf akb akc e₅ _=>?_;refine hQ v _ sy l ?_ (k.pop.YN hk hm WZ hne) ?_
 ·exact(D.mono<|by simp).trans<|y.trans<|o5.trans<|jt WZ (g9 Z) ⟨ahf,e₅⟩
 ·exact h.trans<|U.trans<|n7.trans<|n6.trans ⟨rfl,rfl⟩
end
section
variable {s:bh}
theorem Mo (X:(k1 w.params).In s.heap):wG (MM w) s.heap (nk<|.ref 369) .machine:=λA Q E F k l=>by
 have Y:=makes_of (M:=MM w) X<|Fs _
 refine Vb Y.obj λb V cd p B _=>?_;unfold nk;refine fX (λ_ _ h=>ul (k _ _ B) h)<|ak<|Y.call A _ E F k ?_
 exact ar l
theorem AG (z:wG (MM w) s.heap (nk f) .machine) (u:aD (MM w) A (call f [] []) Q E s):
 aD (MM w) A (iD S f [] [] []) Q E s:=by
 unfold iD;refine ak<|a8 ?_
 have e:V0 f ao [] []=(pure ⟨[],[]⟩:jE Args):=by rfl
 refine kI e<|ar<|fX (λ_ _ h=>cb h) ?_
 exact ak<|z.here<|ak<|aZ u (λr t d=>ak<|a8<|mz<|ar d) λ_ _ x=>x
theorem Dz (o i p D S Z):eval (.Call (.Subscript o i p) D [] S) Z=(do
 iD S (<-eval (.Subscript o i p) Z) [] (DQ S<|qS D Z) []):=rfl
theorem aS.YM {K:aN} (fr:aS Z Y V K O h) (D:V[i]?=ab (ab<|.ref a)) (L:VR K O q (.ref a)):aS Z Y (V.set i<|ab q) K O h:=by
 obtain⟨m,B,z,t,n,X⟩:=fr;refine⟨m,B,z,t,n,λj x p T F=>?_⟩;by_cases l:i=j
 ·subst l;rw[cH (aA.mp D).1] at F;cases F;rcases X i x (.ref a) T D with ⟨b,v,c,d⟩|⟨b,c,v,d,e,f⟩
  ·replace d:_=_:=d;subst d;exact .inl ⟨b,_,c,L⟩
  ·replace f:_=_:=f;subst f;exact .inr ⟨b,c,_,d,e,L⟩
 ·rw[dQ l] at F;exact X j x p T F
theorem aS.Qa {K K':aN} (fr:aS Z Y V K O h) (B:K'.P=K.P) (E:∀a o,K a=ab o->K' a=ab o) (U:∀a∈aX Z,K' a=fM):aS Z Y V K' O h:=by
 obtain⟨m,W,z,t,n,S⟩:=fr;have A:∀p v,VR K O p v->VR K' O p v:=λp v r=>by simpa using N1 (R:=[]) B E p v r
 refine⟨m,W,U _ (g9 Z),t,λy c q=>?_,λj x p T F=>?_⟩
 ·obtain⟨_,b,H,u,X⟩:=n y c q;exact⟨U _ (bb _ (b2.mpr ⟨(y,c),q,rfl⟩)),b,H,u,X⟩
 ·rcases S j x p T F with ⟨b,v,c,d⟩|⟨b,c,v,d,e,f⟩
  ·exact .inl ⟨b,v,c,A _ _ d⟩
  ·exact .inr ⟨b,c,v,d,e,A _ _ f⟩
theorem aS.Ka {K:aN} (fr:aS Z Y V K O h) (I:a∈aX Z):K a=fM:=by
 obtain⟨m,B,z,t,n,f⟩:=fr;simp only[aX,aL,b2] at I;rcases I with rfl|⟨⟨y,c⟩,q,rfl⟩
 ·exact z
 ·exact(n y c q).k0
end
section
variable {K:aN}
theorem Iq (T:dk (cC w.params) ⟨(bF 182).2.2.names,x0,[]⟩ env) (C:aa V=aa tl) (I:kl (n+2) A M)
 (N:Inv (cC w.params) K μ H M s.heap) (fr:aS env tl V K μ s.heap)
 (hQ:∀s' K',Step (aX env) K μ s.heap K' μ s'.heap->Inv (cC w.params) K' μ H M s'.heap->aS env tl (V.set 2<|ab .tZ) K' μ s'.heap->aV s s'->aD (MM w) A (kc j env) Q E s'):
 aD (MM w) A (kc (.Assign [.Name "image" p1] (.Call (.Name "Heap" P) [] [] p3) p4::.Assign [.Attribute (.Name "image" q1) "heap" q2] (.Name "image" q3) q4::j) env) Q E s:=by
 have X:=Ft λa o q=>N.sub _ _ (N.stat _ _ q);refine ak<|rD ?_
 refine kI (dN ..)<|fX (λ_ _ h=>ij T.fe (by decide) (T.gi _ rfl) N (ZF _) h) ?_
 refine AG (Mo X)<|MG I N λx d B k v t hs fx fd c G aaq l r mx md gu=>?_
 have Q1:=dw _ _ _ _ _ _ fr c;refine aZ (kS (i:=2) (p:=.ref x) T.fe rfl (by decide+kernel) (by refine(ae C)▸?_;decide) (.inl<|T.lc _ rfl) (g9 env) G ⟨Q1,show _=_ from rfl⟩) (λ_ s₂ Yi=>vh Yi λD u p0 U=>?_) λ_ _ (z:False)=>z.elim;have h2:(V.set 2<|ab<|.ref x)[2]?=ab (ab<|.ref x):=cH<|by refine(ae C)▸?_;decide
 have F:∀b,s.heap.get? b=al->b∉aX env:=λb R q=>by refine bd (i9 fr q) λo e=>?_;rw[R] at e;exact aC e
 have Sf:HI x d [⟨hs,.str "things" t,v⟩] s₂.heap:=by refine bd aaq.di λm e=>?_;exact⟨aaq.ne,D.same aaq.ob mx (F x fx) (λf=>by cases f.1),m,D.same e md (F d fd) λf=>absurd (show mV "dict"=.type "frame" from f.1)<|by decide⟩
 refine ak<|nO<|gF T.fe (by decide) (by decide) (show tl[2]?=_ from rfl) h2 p0 λv1 hv1=>gF T.fe (by decide) (by decide) (show tl[2]?=_ from rfl) h2 p0 λv2 hv2=>?_
 replace hv1:_=_:=hv1;replace hv2:_=_:=hv2;subst hv1 hv2;obtain⟨hh,gn,dd,tk,os⟩:=s₂;have aiY:(k1 w.params).In hh:=Ft λa o q=>u.sub _ _ (u.stat _ _ q);refine Wt aiY Sf (Zf _) (by simp) (es':=λY=>[⟨hs,.str "things" t,v⟩,⟨gg w.params "heap",.str "heap" Y,.ref x⟩]) (λt=>rfl) (λt=>by simp) λh' Y Z I' kb=>?_;have S:=Sf.inv u r md kb;refine bd I'.di λm g=>?_;have pY:=S.freeze g r md λf=>absurd (show mV "dict"=.type "frame" from f.1)<|by decide
 have WV:gc k d (aaB [⟨hs,.str "things" t,v⟩,⟨gg w.params "heap",.str "heap" Y,.ref x⟩] m) x=none:=by exact ag (db I'.ne)<|l
 have Fz:=pY.freeze I'.ob WV mx λf=>by cases f.1
 have y:Step [d] k μ hh k μ h':=I'.step kb;have Sa:Step (aX env) K μ s.heap k μ h':=((c.mono<|by simp).trans D).hide y λa q=>.inr<|by rw[aU] at q;subst q;exact fd
 have Sb:=Step.gc (o:=⟨.ref 369,ab d,.plain,#[]⟩) (Sa.gc fd r) fx WV;have O:aS env tl (V.set 2<|ab<|.ref x) k μ h':=JF (W:=[d]) (uO<|F d fd) _ _ _ _ _ _ p0 y;have nx:∀a∈aX env,a≠x/\a≠d:=λa I=>⟨λq=>F x fx<|q▸I,λq=>F d fd<|q▸I⟩
 have Q0:=O.Qa (K':=gc (gc k d<|aaB [⟨hs,.str "things" t,v⟩,⟨gg w.params "heap",.str "heap" Y,.ref x⟩] m) x ⟨.ref 369,ab d,.plain,#[]⟩) rfl (λa o q=>by
  (refine ag (db<|by rintro rfl;rw[l] at q;cases q) ?_;refine ag (db<|by rintro rfl;rw[r] at q;cases q) ?_);exact q) λa I=>by(refine ag (db (nx a I).1)<|ag (db (nx a I).2) ?_);exact O.Ka I
 have Kr:=Q0.YM h2 (q:=.tZ) (by
  refine⟨x,_,d,aaB [⟨hs,.str "things" t,v⟩,⟨gg w.params "heap",.str "heap" Y,.ref x⟩] m,_,m,rfl,fj _ _ _,rfl,rfl,rfl,?_,rfl,?_,?_⟩
  ·exact ag (db<|jm I'.ne)<|fj _ _ _
  ·intro e J;simp only[SN,aL,aY,or_false] at J;rcases J with rfl|rfl<;>exact⟨_,_,rfl⟩
  ·rfl)
 rw[abe] at Kr;exact hQ ⟨h',gn,dd,Z,os⟩ _ Sb Fz Kr (gu.trans<|U.trans ⟨rfl,rfl⟩)
end
end
section
open PySem PySem.W
theorem kz {a b c:Nat} (h:a<=b) (k:b.ble c=ao):a<=c:=aM h<|Nat.le_of_ble_eq_true k
theorem vD {a b c d:Nat} (h:a<=b) (g:b<=c) (k:c.ble d=ao):a<=d:=aM h<|kz g k
noncomputable abbrev cI (i:Int):CE:=.const<|.int i
noncomputable abbrev cS (l:List Nat):CE:=.const<|.str l
noncomputable abbrev cB (l:List UInt8):CE:=.const<|.bytes l
noncomputable abbrev cy:CE:=.loc 0
noncomputable abbrev ck:CE:=.loc 1
noncomputable abbrev dE:CE:=.loc 2
noncomputable abbrev i6:CE:=.loc 3
noncomputable abbrev kX:CE:=.loc 4
noncomputable abbrev pv:CE:=.loc 5
noncomputable abbrev pM:CE:=.loc 6
noncomputable abbrev SU:CE:=.loc 7
noncomputable abbrev xy:CE:=.loc 8
noncomputable abbrev B5:CE:=.loc 9
noncomputable abbrev ki:CE:=cS [116,101,120,116]
noncomputable abbrev wK:CE:=cS [105,110,116]
noncomputable abbrev D5:CE:=cS [98,111,111,108]
noncomputable abbrev El:CE:=cS [65,114,103,117,109,101,110,116,69,114,114,111,114]
noncomputable abbrev Ek:CE:=cS [66,105,103,73,110,116]
noncomputable abbrev Yk:CE:=cS [66,111,117,110,100,115,69,114,114,111,114]
noncomputable abbrev Yj:CE:=cS [110,111,116,104,105,110,103]
noncomputable abbrev xs7:CE:=cS [79,118,101,114,102,108,111,119,69,114,114,111,114]
noncomputable abbrev xs8:CE:=cS [84,121,112,101,69,114,114,111,114]
noncomputable abbrev xs9:CE:=cS [116,101,120,116,95,114,101,112,101,97,116,101,100]
noncomputable abbrev Yl:CE:=cS [116,101,120,116,95,102,105,110,100]
theorem fg (h:m H=.ok a Z) (k:f a Z=r):aw m f H=r:=by(refine ag (fU ..)<|(ae h)▸?_);exact k
theorem wo (h:m H=.exc p H₁):aw m f H=.exc p H₁:=by(refine ag (fU ..) ?_;rw[h])
theorem gk (h:nU B D V H=.ok l Z) (k:B a l Z=r):bo B (.az a D) V H=r:=fg h k
theorem dJ (h:nU B D V H=.ok l Z) (k:f l Z=r):bo B (.bv f D) V H=r:=fg h k
theorem bn (h:bo B x V H=.ok a Z) (G:bo B y V Z=.ok b g) (k:CG F I a b g=r):bo B (.bin F I x y) V H=r:=fg h<|fg G k
theorem bx (h:bo B x V H=.ok a Z) (G:bo B y V Z=.ok b g) (k:uH a b g=r):bo B (.sub x y) V H=r:=fg h<|fg G k
theorem il (h:bo B x V H=.ok a H) (J:bo B lo V H=.ok l H) (W:bo B D V H=.ok u H) (E:bo B st V H=.ok s H) (k:l4 F a l u s H=r):bo B (.slice F x lo D st) V H=r:=fg h<|fg J<|fg W<|fg E k
theorem bw (h:nU B u V H=.ok l H₁) (z:aa l<=16777216):bo B (.tup u) V H=.ok (.tup l) H₁:=fg h<|by refine(ae<|if_pos z)▸?_;rfl
theorem iA (h:nU B u V H=.ok l H₁) (z:aa l<=16777216):bo B (.list ah u) V H=.ok (.lst l) H₁:=fg h<|by refine(ae<|if_pos z)▸?_;rfl
theorem aq:nU B [] V H=.ok [] H:=rfl
theorem ac (h:bo B e V H=.ok a Z) (k:nU B r V Z=.ok l H₂):nU B (e::r) V H=.ok (a::l) H₂:=fg h<|fg k rfl
theorem eY (h:jW B t V (bo B t V) H=.ok ao Z) (k:bo B a V Z=r):bo B (.fc t a b) V H=r:=fg h k
theorem dZ (h:jW B t V (bo B t V) H=.ok ah Z) (k:bo B b V Z=r):bo B (.fc t a b) V H=r:=fg h k
theorem oq (h:bo B l V H=.ok a Z) (G:bo B r V Z=.ok b g) (k:lF I a b g=.ok c ww):bo B (.cmp l [I] [r]) V H=.ok (.bool c) ww:=fg h<|fg (fg G k) rfl
theorem a7 (h:bo B l V H=.ok a Z) (G:bo B r V Z=.ok b g) (k:lF I a b g=.ok c ww):jW B (.cmp l [I] [r]) V (bo B (.cmp l [I] [r]) V) H=.ok c ww:=fg h<|fg G k
theorem gK (h:jW B x V (bo B x V) H=.ok c H₁):jW B (.not x) V (bo B (.not x) V) H=.ok (!c) H₁:=fg h rfl
theorem l0 (h:jW B x V (bo B x V) H=.ok ah H₁):jW B (.bool ao<|x::r) V (bo B (.bool ao<|x::r) V) H=.ok ah H₁:=fg h rfl
theorem j6 (h:jW B x V (bo B x V) H=.ok ao Z) (k:pg B ao r V Z=.ok c H₂):jW B (.bool ao<|x::r) V (bo B (.bool ao<|x::r) V) H=.ok c H₂:=fg h k
theorem A0 (h:jW B x V (bo B x V) H=.ok ao H₁):jW B (.bool ah<|x::r) V (bo B (.bool ah<|x::r) V) H=.ok ao H₁:=fg h rfl
theorem tw (h:jW B x V (bo B x V) H=.ok ah Z) (k:pg B ah r V Z=.ok c H₂):jW B (.bool ah<|x::r) V (bo B (.bool ah<|x::r) V) H=.ok c H₂:=fg h k
theorem ja (h:jW B x V (bo B x V) H=.ok c H₁):pg B i [x] V H=.ok c H₁:=fg h<|by cases c<;>cases i<;>rfl
theorem Ro (h:bo B o V H=.ok p Z) (k:Bg O p (nU B D V) Z=r):bo B (.gb O o D) V H=r:=fg h k
theorem bH:fR B Q [] V H=.ok (.next,V) H:=rfl
theorem bT (h:bo B e V H=.ok p Z) (k:fR B Q l (V.set i<|ab p) Z=r):fR B Q (.assign i e::l) V H=r:=fg (fg h rfl) k
theorem yr (T:H8 V i H=.ok a H) (h:bo B e V H=.ok b Z) (F:aah I a b Z=.ok p Z) (k:fR B Q l (V.set i<|ab p) Z=r):fR B Q (.aug i I e::l) V H=r:=fg (fg T<|fg h<|fg F rfl) k
theorem bG (h:bo B e V H=.ok p H₁):fR B Q (.ret e::l) V H=.ok (.ret p,V) H₁:=fg (fg h rfl) rfl
theorem hX (h:bo B e V H=.ok p Z) (k:fR B Q l V Z=r):fR B Q (.expr e::l) V H=r:=fg (fg h rfl) k
theorem sK (h:bo B e V H=.exc p H₁):fR B Q (.expr e::l) V H=.exc p H₁:=wo<|wo h
theorem iT (h:nU B u V H=.ok y Z) (z:aa y=aa g/\aa y<=16777216) (k:fR B Q l (fL V g y) Z=r):fR B Q (.mG g u::l) V H=r:=fg (a:=(.next,fL V g y)) (fg h<|by refine(ae<|if_pos z)▸?_;rfl) k
theorem Em (h:bo B e V H=.ok p Z) (z:yw (aa g) p Z=.ok y Z) (k:fR B Q l (fL V g y) Z=r):fR B Q (.unpack g e::l) V H=r:=fg (fg h<|fg z rfl) k
theorem eQ (h:jW B t V (bo B t V) H=.ok c Z) (I:fR B Q (if c then a else b) V Z=.ok (.next,d) g) (k:fR B Q l d g=r):fR B Q (.fc t a b::l) V H=r:=fg (a:=(.next,d)) (fg h<|by cases c<;>exact I) k
theorem kj (h:jW B t V (bo B t V) H=.ok c Z) (I:fR B Q (if c then a else b) V Z=.ok (.ret p,d) H₂):fR B Q (.fc t a b::l) V H=.ok (.ret p,d) H₂:=fg (fg h<|by cases c<;>exact I) rfl
theorem tr (h:jW B t V (bo B t V) H=.ok c Z) (I:fR B Q (if c then a else b) V Z=.exc p H₂):fR B Q (.fc t a b::l) V H=.exc p H₂:=wo<|fg h<|by cases c<;>exact I
theorem mr (h:nU B D V H=.ok y Z) (k:Q a y Z=.ok p H₂):fR B Q (.raise a D::l) V H=.exc p H₂:=wo<|fg h<|fg k rfl
theorem zL (h:m H=.ok p H') (A:cZ (H'.take<|aa H)=ao) (F:i8 p=ao):iH ah m H=.ok p (H'.take<|aa H):=by
 unfold iH;refine(ae h)▸?_;dsimp only;unfold callEnd
 (refine ag (if_neg<|by decide)<|ag (if_pos A) ?_)
 refine(ae (show wU p=al by cases p<;>first|rfl|cases F))▸?_;exact if_pos F
theorem Np (h:m H=.exc p H') (A:cZ (H'.take<|aa H)=ao) (F:i8 p=ao):iH j m H=.exc p (H'.take<|aa H):=by unfold iH;refine(ae h)▸?_;dsimp only;exact if_pos<|by(refine(ae A)▸ag F ?_);rfl
theorem Ge (h:m H=.ok (.dR i) H') (A:cZ (H'.take<|aa H)=ao) (D:aa H<=i) (C:H'[i]?=ab l) (B:gS l=ao):iH ah m H=.ok (.lst l) (H'.take<|aa H):=by
 unfold iH;refine(ae h)▸?_;dsimp only;unfold callEnd
 (refine ag (if_neg<|by decide)<|ag (if_pos A) ?_)
 exact ag (if_pos D)<|by exact(ae C)▸if_pos B
theorem aK (h:fR B Q body (D.map ab++aW (n-aa D) al) H=.ok (.ret p,V) H'):kJ B Q n body D H=.ok p H':=fg h rfl
theorem vR (h:fR B Q body (D.map ab++aW (n-aa D) al) H=.ok (.next,V) H'):kJ B Q n body D H=.ok .none H':=fg h rfl
theorem cY (h:fR B Q body (D.map ab++aW (n-aa D) al) H=.exc p H'):kJ B Q n body D H=.exc p H':=wo h
theorem pS:∀{l r},(l.all λf=>decide<|a≠f.addr)=ao->iG v Q (l++r) a=iG v Q r a
 |[],r,_=>rfl
 |f::l,r,h=>by
  rw[nr,bt,decide_eq_true_eq] at h;funext y;show(if a=f.addr then _ else iG v Q (l++r) a y)=_
  (refine ag (if_neg h.1) ?_;rw[pS h.2])
end
section
open PySem PySem.W PySem.Calls PyProof.Rows PySem.SeqAt Builtin Builtin.ObjectAttr
theorem En (h:lO p=ab q):∃d I x r c,p=.tup [d,.tup<|I::.str x::r,c]/\q=if x=gq then .tup [.str x,c] else .tup [.str x]:=by
 refine aH (bind_some h) λl e h=>se (Fl h) λd y c g h=>aH (bind_some h) λm f h=>se (Px h) λI s r em h=>?_;refine aH (bind_some h) λx L h=>?_
 (refine(ae<|o8 e)▸g▸(o8 f)▸em▸?_;refine(qA L)▸?_)
 exact⟨d,I,x,r,c,rfl,ae<|ai h⟩
section
variable {K:aN}
theorem Ll (T:dk (cC w.params) ⟨(bF 182).2.2.names,x0,[]⟩ Z) (hl:aa V=aa tl) (I:kl 77 A (Z::M))
 (N:Inv (cC w.params) K O H (Z::M) s.heap) (fr:aS Z tl V K O s.heap) (X:∀e∈M,e.frame≠ab Z.locals)
 (h0:V[0]?=ab (ab<|.tup<|r0::r1::.ref d::rest)) (J:V[1]?=ab (ab<|.tup D)) (W:V[2]?=ab (ab .tZ)) (hsz:aa D<=16777216)
 (hns:b6 d [.tZ,.lst D] H≠.stuck) (hw:∀p i,b6 d [.tZ,.lst D] H=.exc p i->∃q,lO p=ab q)
 (hok:∀p i v F j l,b6 d [.tZ,.lst D] H=.ok p i->Step (aX Z) K O s.heap j l F.heap->Inv (cC w.params) j l i M F.heap->VR j l p v->aV s F->Q (.ret v) F)
 (hex:∀p i q v F j l,b6 d [.tZ,.lst D] H=.exc p i->lO p=ab q->Step (aX Z) K O s.heap j l F.heap->Inv (cC w.params) j l i M F.heap->VR j l q v->aV s F->Q (.ret v) F):
 aD (MM w) A (exec (.Try [.Return (ab<|.Call (.Subscript (.Name "row" c1) (.Constant (.int 2) 0 c2) c3) [.Name "image" c4,.Call (.Name "list" c5) [.Name "given" c6] [] c7] [] c8) c9]
  [.ExceptHandler (ab<|.Name "Thrown" m) (ab "thrown_here") UH P] [] [] G) Z) Q E s:=by
 have hn:(∃o fd,cC w.params d=ab o/\o.data=.func fd):=by
  rcases xV |>.fn d with h|h
  ·exact h
  ·exact absurd (by refine(h ..)▸?_;rfl) hns
 refine iB hn λod fd B hd2=>?_;refine wpAny_Try_except<|ak<|gM ?_
 refine kI (Dz ..)<|ak<|sO<|gF T.fe (by decide) (by decide) rfl h0 fr λv0 hv0=>⟨_,_,hv0,λa o q=>N.sub _ _ q,rfl,by decide,λf tk hf=>?_⟩
 replace hf:_=_:=hf;subst hf;rw[dD c8 Z _ (by rfl)];refine im<|yF<|gF T.fe (by decide) (by decide) rfl W fr λvi hvi=>?_
 have QG:bo fW (bQ ⟨(bF 182).2.2.names,x0,[]⟩ ah<|.Call (.Name "list" c5) [.Name "given" c6] [] c7) V H=.ok (.lst D) H:=by refine(show bQ ⟨(bF 182).2.2.names,x0,[]⟩ ah (.Call (.Name "list" c5) [.Name "given" c6] [] c7)=.bv Qi [.loc 1] from rfl)▸?_;exact dJ (ac (show H8 V 1 H=.ok (.tup D) H by unfold H8;refine(ae J)▸?_;rfl) aq)<|congrFun (if_pos hsz) H
 refine aZ (zn (.Call (.Name "list" c5) [.Name "given" c6] [] c7) ⟨(bF 182).2.2.names,x0,[]⟩ Z V ah T A {s with toks:=tk} K O H (Z::M) I N fr<|by refine QG▸?_;exact wV) (λvl t X1=>y0.casesOn X1 λp H₂ C z e2 lk u hvl U=>?_) λy t X0=>yc.casesOn X0 λp H₂ C z e2 _ _ _ _=>by rw[QG] at e2;cases e2
 rw[QG] at e2;cases e2;have Zn:=fv lk hvi;refine⟨.inr<|.inl ⟨d,od,fd,rfl,u.sub _ _ (u.stat _ _ B),hd2⟩,?_⟩;have g:=(xV).call d [.tZ,.lst D] [vi,vl] A t C z H (Z::M) (I.mono<|by refine acS▸?_;decide) u (b7 Zn<|b7 hvl eu) hns;refine aZ g (λv R ⟨p,c,qg,yq,e3,iU,S,hv,Y⟩=>?_) λx R XY=>yc.casesOn XY λp c qg yq e3 iU S ah5 Y=>?_
 ·refine ar ?_;have St:=lk.trans iU;exact hok p c v R qg yq e3 (St.mono<|by simp) S.pop hv<|U.trans Y
 ·refine na ?_;intro P43;refine bd (hw p c e3) λq hq=>?_;refine Rq (En hq) λb0 b1 x r Wp yR rc2=>?_;subst yR;subst rc2;obtain⟨L,hL⟩:∃L,Z.frame=ab L:=by obtain⟨_,L,_,f,_⟩:=N.stk.all Z (by simp);exact⟨L,f⟩
  refine UL T hl I.fr ⟨L,hL⟩ S (dw _ _ _ _ _ _ fr lk) ah5 (λb hb=>?_) X iU λv s₄ sy hv o5 k n=>?_
  ·exact bd (i9 fr hb) λo e=>bd (lk.there b o e) λo' e'=>⟨o',e'⟩
  ·exact hex _ c _ v s₄ sy yq e3 hq ((lk.mono<|by simp).trans o5) k hv (U.trans<|Y.trans n)
end
theorem FI (h:ol n (.ok p H')≠.stuck):cZ (H'.take n)=ao/\i8 p=ao/\ol n (.ok p H')=.ok p (H'.take n):=by
 cases e:cZ (H'.take n)&&i8 p with
 |false=>exact absurd (if_neg<|by exact e▸bp) h
 |true=>have q:=(bt _ _).mp e;exact⟨q.1,q.2,if_pos e⟩
theorem FJ (h:ol n (.exc p H')≠.stuck):∃q,cZ (H'.take n)=ao/\i8 p=ao/\lO p=ab q/\ol n (.exc p H')=.ok q (H'.take n):=by
 cases e:cZ (H'.take n)&&i8 p with
 |false=>exact absurd (if_neg<|by exact e▸bp) h
 |true=>
  have q:=(bt _ _).mp e;have f:ol n (.exc p H')=(match lO p with|some q=>dt q (H'.take n)|none=>.stuck):=if_pos e
  cases a:lO p with
  |none=>rw[a] at f;exact absurd f h
  |some r=>rw[a] at f;exact⟨r,q.1,q.2,rfl,f⟩
theorem QK (h:aa D<=16777216):pE [.tup<|z::s::.ref d::j,.tup D] H=ol (aa H) (b6 d [.tZ,.lst D] H):=if_pos h
structure aar (F4:bk) (args:List PV) (H:Hp) (o:j1 PV):Prop where
 sz:aa args<=16777216
 ne:b6 F4 [.tZ,.lst args] H≠.stuck
 ok:∀p H',b6 F4 [.tZ,.lst args] H=.ok p H'->cZ (H'.take<|aa H)=ao/\i8 p=ao/\o=.ok p (H'.take<|aa H)
 ex:∀p H',b6 F4 [.tZ,.lst args] H=.exc p H'->∃q,cZ (H'.take<|aa H)=ao/\i8 p=ao/\lO p=ab q/\o=.ok q (H'.take<|aa H)
theorem MF (h:pE [.tup<|z::s::.ref d::j,.tup D] H≠.stuck):aar d D H (pE [.tup<|z::s::.ref d::j,.tup D] H):=by
 by_cases G:aa D<=16777216
 case neg=>exact absurd (if_neg G) h
 rw[QK G] at h|-
 exact⟨G,λq=>h (by refine(ae q)▸?_;rfl),λp i e=>by rw[e] at h|-;exact FI h,λp i e=>by rw[e] at h|-;exact FJ h⟩
theorem Kz {X K o:aN} (St:Step [] K O h o Q h') (N:Inv X o Q H' M h') (a:aa O=n) (t:cZ (H'.take n)=ao):Step [] K O h o O h'/\Inv X o O (H'.take n) M h':=by refine aH St.pre λR e _=>?_;subst e a;exact⟨St.mf,N.mf t⟩
theorem It (h:wa y=ab x):∃z s j,y=[.tup<|z::s::.ref x.1::j,.tup x.2]:=by
 refine aH (bind_some h) λa e h=>aH (bind_some h) λd b h=>aH (map_some h) λl g h=>aH (bind_some b) λm em b=>?_;refine Vb (E3 b) λz s c j f b=>?_
 (refine(ae<|G1 e)▸(h)▸(o8 g)▸(o8 em)▸?_;refine f▸(uN b)▸?_)
 exact⟨z,s,j,rfl⟩
theorem FH (h:pE y H≠.stuck):∃z s j D d,y=[.tup<|z::s::.ref d::j,.tup D]:=by
 unfold pE at h
 cases e:wa y with
 |none=>rw[e] at h;exact absurd rfl h
 |some x=>exact Dl (It e) λz s j q=>⟨z,s,j,_,_,q⟩
theorem Os (h:lO p=ab q) (B:i8 p=ao):i8 q=true:=by
 refine Rq (En h) λd I x r c S Z=>?_;subst S;subst Z;have E:=((bt _ _).mp ((bt _ _).mp ((bt _ _).mp B).2).2).1;by_cases q:x=gq
 ·refine(if_pos q)▸?_;show(ao&&(Internal.i8 c&&ao))=ao;refine(ae E)▸?_;rfl
 ·refine(if_neg q)▸?_;rfl
theorem QI (ps:List PV) (vs:List Value):aj w (cC w.params) [] 100 (j9 ps vs) (pE ps) e7 (call (.ref 1114) vs []):=by
 intro A s K O H M I N hvs ho;refine aec (FH ho) λr0 r1 j args F4 yR=>?_;subst yR;have MC:=MF ho;generalize pE [.tup<|r0::r1::.ref F4::j,.tup args] H=o' at MC|-
 have hvl:=vI hvs;refine jP (Rd _) (jI _) I N hvs rfl (λo fd Q' hk g F t l E'=>?_) λZ B k T P hfw c G W h x=>?_
 ·have QM:jZ s.heap fd.defaults []:=by
   rcases t with ⟨q,_⟩|⟨d,od,m,By,J,h2,E,h4⟩
   ·exact .inl ⟨q,rfl⟩
   ·have:=h4.length
    induction By with
    |nil=>exact .inr ⟨d,od,m,J,N.sub _ _ (N.stat _ _ h2),E⟩
    |cons a b=>simp at this
  refine iC (by refine F▸?_;exact(Rd w.params).par) QM (by(refine F▸hvl▸?_);rfl) (by refine F▸?_;decide+kernel) ?_;refine F▸?_;exact l
 refine Vx▸?_;refine Iq (n:=90) T x (P.mono<|by decide) G W λs₂ C D u p0 U=>?_
 have X:∀e∈M,e.frame≠ab Z.locals:=λe he q=>by
  obtain⟨_,L,o,f,_,_,V,_⟩:=N.stk.all e he;rw[f] at q;obtain rfl:=ai q;have:=hfw Z.locals<|g9 Z
  rw[V] at this;cases this
 have hml:=N.ky.len;refine ak<|Ll T (by refine ag d6 ?_;exact x) (P.mono<|by decide) u p0 X rfl rfl rfl MC.sz MC.ne (λp i e=>bd (MC.ex p i e) λq z=>⟨q,z.2.2.1⟩) (λp i v R qg Q e y S hv Y=>?_) λp i q v R qg Q e ew y S hv Y=>?_
 ·have z:=MC.ok p i e;have d:=Kz (c.hide (D.trans y) λa q=>.inr<|hfw a q) S hml z.1;exact ar ⟨p,_,qg,O,z.2.2,d.1,d.2,amA p v z.2.1 hv,h.trans<|U.trans Y⟩
 ·refine bd (MC.ex p i e) λr z=>?_;have d:=Kz (c.hide (D.trans y) λa q=>.inr<|hfw a q) S hml z.1;exact ar ⟨r,_,qg,O,z.2.2.2,d.1,d.2,amA r v (Os z.2.2.1 z.2.1) (by rw[ai<|ag z.2.2.1.symm ew];exact hv),h.trans<|U.trans Y⟩
inductive T3:List Value->Prop
 |nil:T3 []
 |cons (a:Int) (t:GB) (b:Int) (u:GB) (c:Value) (l:List Value) (h:T3 l):T3 (.int a t::.int b u::c::l)
theorem T3.ok (h:T3 l):TriplesOk l:=by
 induction h with
 |nil=>exact trivial
 |cons _ _ _ _ _ _ _ o=>exact o
def TT:xg:=λK O h=>K 939=al/\939∉O/\∃y,h.get? 939=ab (tabObj y)/\T3 y.toList
theorem TT.step {K j:aN} (t:TT K μ h) (st:Step W K μ h j l h') (U:939∉W):TT j l h':=by refine iZ t λk m S=>aH S λy e C=>?_;exact⟨st.ls k e,st.lr m e,y,st.same e m U (λf=>by cases f.1),C⟩
theorem T3.snoc (h:T3 l) (a b:Int) (t u:GB) (c):T3 (l++[.int a t,.int b u,c]):=by
 induction h with
 |nil=>exact .cons _ _ _ _ _ _ .nil
 |cons _ _ _ _ _ _ _ o=>exact .cons _ _ _ _ _ _ o
theorem O0 {K:aN} (x:tI P h h') (z:∃o,h'.get? P=ab o):Step [P] K O h K O h':=
 ⟨rfl,λ_ _ e=>e,λ_ _ e=>.inl e,⟨[],by simp,by simp⟩,λb o R=>by
     by_cases q:b=P
     ·subst q;exact z
     ·exact⟨o,x b o q R⟩,
  λb o R _ B=>⟨o.slots,x b o (λq=>B<|by simp[q]) R,.inl rfl⟩,λ_ q=>.inl q⟩
theorem Inv.ext {X K:aN} (N:Inv X K O H M h) (t:TT K O h) (x:tI 939 h h'):Inv X K O H M h':=by refine iZ t λk m Z=>aH Z λy e C=>?_;refine N.kA (S:=[939]) (λb R=>?_) λb o R i=>⟨o.slots,x b o (λq=>R<|by simp[q]) i,.inl rfl⟩;rw[aU] at R;subst R;refine⟨k,m,λo L fo=>?_⟩;rw[e] at L;obtain rfl:=ai L;cases fo.1
noncomputable def ahH:Expr:=.Lambda ⟨[],[⟨"kinds",al,⟨594,18,594,23⟩⟩,⟨"parts",al,⟨594,25,594,30⟩⟩],al,[],[],al,[]⟩ (.Name "kind" ⟨594,32,594,36⟩)
 ⟨.function,[("kinds",.local),("parts",.local),("kind",.free)],ah,ah,[]⟩ ⟨594,11,594,36⟩
theorem VE:(bF 155).2.1=[.Return (ab ahH) ⟨594,4,594,36⟩]:=rfl
theorem ZP (P):FnAt (cC P) 944 (bF 155).1 (bF 155).2.1 (bF 155).2.2 []:=mc rfl
theorem Vp (h:cC P 944=ab o) (g:o.data=.func fd):fd.code=.ref 943:=by rw[(by kernel_rfl:cC P 944=ab (H.PT P))] at h;obtain rfl:=ai h;cases g;rfl
theorem adD (x:∀a o,cC P a=ab o->h.get? a=ab o):CodeHd h 943 939:=
 ⟨_,_,_,_,_,_,_,_,_,x 943 _ (by kernel_rfl:cC P 943=ab (H.CK P)),rfl,rfl,rfl,rfl,rfl,rfl,rfl,rfl,by decide⟩
theorem Ua (P):N3 (u1 P) "__builtins__"=ab (.ref 4):=rfl
theorem afg {h:eG} (x:∀a o,cC P a=ab o->h.get? a=ab o):∃O,h.Ns D8 O/\h.BuiltinsAt O 939:=by exact iB (nL<|sX P) λo n E b=>⟨kR<|af<|u1 P,⟨o,_,n,x _ _ E,b,jH<|pX P,λ_=>rfl⟩,4,_,ag (qC _ _)<|Ua P,by decide,by decide,by decide,x 4 _ (by kernel_rfl:cC P 4=ab (boot_o_4 P)),rfl,rfl,rfl⟩
section
variable {K:aN}
theorem Ny {p:PV} (I:kl (n+1) A M) (N:Inv (cC w.params) K O H M s.heap) (f:VR K O p v) (tt:TT K O s.heap)
 (L:∀r F j,Step [939] K O s.heap j O F.heap->Inv (cC w.params) j O H M F.heap->TT j O F.heap->aV s F->Q r F):aD (MM w) A (call (.ref 944) [v] []) Q E s:=by
 refine oB<|wm (ZP _) (jI _) I N (b7 f eu) rfl (λo fd U z g hp t hQ E'=>?_) λZ B K₁ T hA hfw c G W h hfl he=>?_
 ·have QM:jZ s.heap fd.defaults []:=by
   rcases t with ⟨q,_⟩|⟨d,od,m,By,J,h2,h3,X⟩
   ·exact .inl ⟨q,rfl⟩
   ·have:=X.length
    induction By with
    |nil=>exact .inr ⟨d,od,m,J,N.sub _ _ (N.stat _ _ h2),h3⟩
    |cons a b=>simp at this
  refine iC (by refine(ae hp)▸?_;exact(ZP w.params).par) QM (by refine(ae hp)▸?_;rfl) (by refine(ae hp)▸?_;decide+kernel) ?_;refine(ae hp)▸?_;exact hQ
 refine wi he λo fd q z g l=>?_;rw[Vp z g] at l;refine(ae VE)▸?_;refine aH (afg λa o q=>G.sub _ _ (G.stat _ _ q)) λmg hg R=>?_;have C:=adD λa o q=>G.sub _ _ (G.stat _ _ q);have Wn:=tt.step c<|by simp
 refine iZ (id Wn) λk9 m9 S=>aH S λy e9 ok9=>?_;have k:∃cl,closureFor ⟨.function,[("kinds",.local),("parts",.local),("kind",.free)],ah,ah,[]⟩ Z=(pure cl:jE _):=⟨[("kind",s.heap.objs.size+1)],by refine(ae l)▸?_;rfl⟩;refine bd k λcl k=>?_
 have fin:∀(h':eG) (u:uz) (tk:GB) (r:Value),tI 939 B.heap h'->(∃ps',h'.get? 939=ab (tabObj ps')/\T3 ps'.toList)->Q r {B with heap:=h'.push u,toks:=tk}:=λh' u tk r x XW=>aH XW λps' V ok'=>by have Y:tI 939 B.heap (h'.push u):=λb o q e=>aQ _ (x b o q e);have i:=aQ u V;refine L r _ K₁ ?_ (G.ext Wn Y).pop ⟨k9,m9,ps',i,ok'⟩ (h.trans ⟨rfl,rfl⟩);exact(c.mono<|by simp).trans<|O0 Y ⟨_,i⟩
 refine ak<|gM<|kla_eval (by rfl) ?_
 cases P:codeAmong ⟨594,11,594,36⟩ y.toList with
 |none=>
  refine kla_makeFunction k T.fe.glob hg (by refine(ae l)▸?_;rfl) C e9 ok9.ok P (by decide) R λD ctv h' tk x J h2 h3 X=>?_;refine ar<|fin h' _ tk _ x ⟨_,X,?_⟩
  refine(ae Array.toList_append)▸?_;exact ok9.snoc _ _ _ _ _
 |some cv=>refine kla_makeFunctionHit k T.fe.glob hg (by refine(ae l)▸?_;rfl) C e9 ok9.ok P R λctv h' tk x J=>?_;exact ar<|fin h' _ tk _ (λb o _ e=>x b o e) ⟨y,x _ _ e9,ok9⟩
end
structure RS (P:cF) (env:lV) (ns:List am) (σ:bN) (μ:List bk) (H:Hp) (fs:List lV) (K:aN) (h:eG):Prop where
 iv:Inv (cC P) K μ H fs h
 fr:aS env ns σ K μ h
 tt:TT K μ h
theorem PY {X K j:aN} (N:Inv X K μ H M h) (P:Inv X j l H Z G) (st:Step W K μ g j l G):l=μ:=by
 refine aH st.pre λR S _=>?_;subst S;have J:=N.ky.len;have Y:=P.ky.len;rw[aI] at Y
 (refine(cw.mp<|by exact cf (cP<|bj [aa H,aa μ,aa R] [] [(1,aJ,bf),(1,.a bf ct,aJ),(1,xi ef,ct)] rfl (cl<|an<|ae J)<|cl<|an Y)<|cP<|bj [aa R] [] [(1,xi aJ,ef)] rfl)▸?_;rw[fh])
theorem spliced_cons
 (h:aD M A t (λv l=>aD M A (gv<|G.map λt=>(ah,t)) (λU q=>Q (v::U) q) E l) E s):aD M A (gv<|(t::G).map λt=>(ah,t)) Q E s:=by
 (refine bu▸?_;rw[gv])
 refine ak<|aZ h (λy l J=>?_) λ_ _ x=>x
 simp only[bO,if_false];refine oW<|ak<|a8<|aZ J (λe q W=>?_) λ_ _ x=>x
 exact ar W
theorem fC (h:Q [] s):aD M A (gv<|([]:List (jE Value)).map λt=>(ah,t)) Q E s:=by(refine(ae rG)▸?_;rw[gv]);exact ar h
section
variable {K:aN}
abbrev j8 (b:List (am×fZ)):Cx:=⟨b,x0,[]⟩
theorem evG (T:dk (cC w.params) (j8 b) Z) (d:bI w (cC w.params) n B e) (I:kl n A M) (N:Inv (cC w.params) K O H M s.heap) (fr:aS Z (b.map (·.1)) Y K O s.heap)
 (J:bo B (bQ (j8 b) ah e) Y H=.ok p H) (L:∀v F j,VR j O p v->Inv (cC w.params) j O H M F.heap->aS Z (b.map (·.1)) Y j O F.heap->Step [] K O s.heap j O F.heap->aV s F->Q v F):aD (MM w) A (eval e Z) Q E s:=by
 refine aZ (d (j8 b) Z Y ah T A s K O H M I N fr<|by refine J▸?_;exact wV) (λv F c=>y0.casesOn c λq i j l V st P f U=>?_) λx F g=>yc.casesOn g λq i j l V _ _ _ _=>by rw[J] at V;cases V
 rw[J] at V;cases V;have a:=PY N P st;subst a;exact L v F j f P (dw _ _ _ _ _ _ fr st) st U
theorem r8 (T:dk (cC w.params) (j8 b) Z) (d:bI w (cC w.params) n B e) (I:kl n A M) (R:RS w.params Z (b.map (·.1)) V O H M K s.heap)
 (J:bo B (bQ (j8 b) ah e) V H=.ok p H) (L:∀v F j,VR j O p v->RS w.params Z (b.map (·.1)) V O H M j F.heap->Step [] K O s.heap j O F.heap->aV s F->Q v F):aD (MM w) A (eval e Z) Q E s:=
 evG T d I R.iv R.fr J λv F j f P Y st U=>L v F j f ⟨P,Y,R.tt.step st<|by simp⟩ st U
theorem ZR (T:dk (cC w.params) (j8 b) Z) (d:∀e,bI w (cC w.params) n B e) (I:kl n A M) (R:RS w.params Z (b.map (·.1)) Y O H M K s.heap) (G:u.any isStarred=ah)
 (J:nU B (pw (j8 b) u) Y H=.ok y H) (L:∀U F j,bU j O y U->RS w.params Z (b.map (·.1)) Y O H M j F.heap->Step [] K O s.heap j O F.heap->aV s F->Q U F):aD (MM w) A (gv<|DQ S<|qS u Z) Q E s:=by
 refine aZ (qa T G (λe _=>d e) A s K O H M I R.iv R.fr<|by refine J▸?_;exact wV) (λv F c=>y0.casesOn c λq i j l V st P f X=>?_) λx F g=>yc.casesOn g λq i j l V _ _ _ _=>by rw[J] at V;cases V
 rw[J] at V;cases V;have a:=PY R.iv P st;subst a;exact L v F j f ⟨P,dw _ _ _ _ _ _ R.fr st,R.tt.step st<|by simp⟩ st X
theorem QZ (P):jD (cC P) "always" (.ref 944):=on rfl
theorem ZE (P):jD (cC P) "pure" (.ref 951):=on rfl
theorem Xb (Y:FnAt X a params body scope q) (N:Inv X K O H M h):∃o fd,h.get? a=ab o/\o.data=.func fd:=by exact cL Y.ex λo fd l c _=>⟨o,fd,N.sub _ _ (N.stat _ _ l),c⟩
theorem BO (T:dk (cC w.params) (j8 b) Z) (z:b.lookup ("always":am)=ab .globalImplicit) (d:bI w (cC w.params) n B N) (I:kl (n+1) A M) (X:939∉aX Z) (R:RS w.params Z (b.map (·.1)) V O H M K s.heap) (S:isStarred N=ah)
 (x:bo B (bQ (j8 b) ah N) V H=.ok p H) (L:∀v F j,RS w.params Z (b.map (·.1)) V O H M j F.heap->Step [939] K O s.heap j O F.heap->aV s F->Q v F):
 aD (MM w) A (eval (.Call (.Name "always" g) [N] [] G) Z) Q E s:=by
 (refine kI (dN ..)<|(dD G Z [N]<|by simp[S])▸?_)
 refine fX (λ_ _ h=>ij T.fe (by decide) (T.gi _ z) R.iv (QZ _) h)<|im<|spliced_cons<|r8 T d (I.mono<|eh _) R x λv y k f kk c P=>fC ?_
 refine iB (Xb (ZP w.params) kk.iv) λo fd J W=>⟨.inr<|.inl ⟨_,o,fd,rfl,J,W⟩,Ny I kk.iv f kk.tt λr t C D u i U=>?_⟩;have Y:=JF (uO X) _ _ _ _ _ _ kk.fr D;exact L r t C ⟨u,Y,i⟩ ((c.mono<|by simp).trans D)<|P.trans U
end
theorem Bh (h:aa l=3):∃a b c,l=[a,b,c]:=by
 cases l with|nil=>cases h|cons a l=>?_
 cases l with|nil=>cases h|cons b l=>?_
 cases l with|nil=>cases h|cons c l=>?_
 cases l with|nil=>exact⟨a,b,c,rfl⟩|cons d l=>cases h
theorem VD:(bF 156).2.1=[.Return (ab<|.Tuple [.Name "many" ⟨596,12,596,16⟩,.Name "many" ⟨596,18,596,22⟩,.Name "deed" ⟨596,24,596,28⟩,.Call (.Name "always" ⟨596,30,596,36⟩) [.Name "kind" ⟨596,37,596,41⟩] [] ⟨596,30,596,42⟩,.Constant (.bool ao) 0 ⟨596,44,596,48⟩] 0 ⟨596,11,596,49⟩) ⟨596,4,596,49⟩]:=rfl
theorem ZO (P):FnAt (cC P) 951 (bF 156).1 (bF 156).2.1 (bF 156).2.2 []:=mc rfl
section
variable {K:aN} {A:iF}
theorem RS.ne (V:TT G O g) (m:∀a∈aX env',g.get? a=al):939∉aX env':=λq=>by refine iZ V λ_ _ S=>aH S λy e _=>?_;rw[m _ q] at e;exact aC e
theorem zQ (Y:FnAt (cC P) a params body scope []) (g:(params.args.map (·.arg)).Nodup) (C:aa f=aa params.args) (N:Inv (cC P) K O H M s.heap):
 ∀(o) (fd:wI) (Q),cC P a=ab o->o.data=.func fd->fd.params=params->((fd.defaults=.none/\([]:List PV)=[])\/∃d V n e,fd.defaults=.ref d/\cC P d=ab V/\V.data=.seq (af e) n/\bU (cC P) [] [] e)->
  Q ((params.args.map (·.arg)).zip f) s->∀E,aD (MM w) A.in1 (qU fd ⟨f,[]⟩) Q E s:=λo fd U z T F t l u=>by
 have r:jZ s.heap fd.defaults []:=by
  rcases t with ⟨q,_⟩|⟨d,V,m,e,J,W,Z,X⟩
  ·exact .inl ⟨q,rfl⟩
  ·have:=X.length
   induction e with
   |nil=>exact .inr ⟨d,V,m,J,N.sub _ _ (N.stat _ _ W),Z⟩
   |cons a b=>simp at this
 refine iC (by refine(ae F)▸?_;exact Y.par) r (by(refine(ae F)▸ag (aB ..) ?_);exact ae C) (by exact(ae F)▸g) ?_;exact(ae F)▸l
theorem TI {k:Int} (I:kl (n+2) A M) (iv:Inv (cC w.params) K O H M s.heap) (hv:bU K O [.int k,.ref d,p] [v1,v2,q]) (tt:TT K O s.heap)
 (L:∀r F j,VR j O (.tup [.int k,.int k,.ref d,.Au,.bool ao]) r->Step [939] K O s.heap j O F.heap->Inv (cC w.params) j O H M F.heap->TT j O F.heap->aV s F->Q r F):aD (MM w) A (call (.ref 951) [v1,v2,q] []) Q E s:=by
 refine jP (ZO _) (jI _) I iv hv rfl (zQ (ZO _) (by decide+kernel) rfl iv) λZ B K₁ T P m c G W h hfl=>?_;have g:RS w.params Z _ _ O H (Z::M) K₁ B.heap:=⟨G,W,tt.step c<|by simp⟩;have X:=RS.ne tt m;refine(ae VD)▸?_;refine ak<|gM<|mA ?_
 rw[dD _ Z _ (by rfl)];refine spliced_cons<|r8 T (zn _) (P.mono<|eh _) g rfl λi t C J v D U=>?_
 refine spliced_cons<|r8 T (zn _) (P.mono<|eh _) v rfl λN R o h2 f y Y=>?_
 refine spliced_cons<|r8 T (zn _) (P.mono<|eh _) f rfl λa3 V u h3 qP b n6=>?_
 refine spliced_cons<|BO T rfl (zn _) P X qP rfl rfl λa4 s₅ x Gx yC O8=>?_
 refine spliced_cons<|r8 T (zn _) (P.mono<|eh _) Gx rfl λa5 s₆ Jc h5 Gw e yH=>?_
 refine fC ⟨by refine(ae bg)▸?_;simp,?_⟩;have a:=yC.trans<|e.mono<|by simp
 refine gG (qu (l:=[.int k,.int k,.ref d,.Au,.bool ao]) Gw.iv<|b7 (fv (y.trans b) J |>fv a)<|b7 (fv b h2 |>fv a)<|b7 (fv a h3)<|b7 (show VR Jc O .Au a4 from trivial)<|b7 h5 eu) λj xZ z hv'=>ar ?_;have S:=((c.trans<|D.trans<|y.trans b).mono<|by simp).trans a;exact L _ _ j hv' (S.trans<|z _) xZ.pop (Gw.tt.step (z [])<|by simp) (h.trans<|U.trans<|Y.trans<|n6.trans<|O8.trans<|yH.trans ⟨rfl,rfl⟩)
theorem Pe {k:Int} (T:dk (cC w.params) (j8 x) Z) (z:x.lookup ("pure":am)=ab .globalImplicit) (hE:∀e,bI w (cC w.params) n B e) (I:kl (n+2) A M) (X:939∉aX Z) (R:RS w.params Z (x.map (·.1)) V O H M K s.heap)
 (G:D.any isStarred=ah) (hl:D≠[]) (he:nU B (pw (j8 x) D) V H=.ok [.int k,.ref d,p] H)
 (L:∀v F K',VR K' O (.tup [.int k,.int k,.ref d,.Au,.bool ao]) v->RS w.params Z (x.map (·.1)) V O H M K' F.heap->Step [939] K O s.heap K' O F.heap->aV s F->Q v F):
 aD (MM w) A (eval (.Call (.Name "pure" g) D [] S) Z) Q E s:=by
 refine kI (dN ..)<|fX (λ_ _ h=>ij T.fe (by decide) (T.gi _ z) R.iv (ZE _) h) ?_
 obtain⟨m,es,rfl⟩:∃m es,D=m::es:=by cases D with|nil=>exact absurd rfl hl|cons a b=>exact⟨a,b,rfl⟩
 have j:=ZR (E:=E) (S:=S) T hE (I.mono<|cn _ _) R G he (Q:=λvs l=>((∃id,f6 951=.builtin id)\/(∃a o fd,f6 951=.ref a/\l.heap.get? a=ab o/\o.data=.func fd)\/wG (MM w) l.heap (nk<|.ref 951) .machine)/\aD (MM w) A (call (.ref 951) vs []) Q E l) λvs s₁ K₁ f kk c N=>?_
 ·rw[dD S Z (m::es) G] at j|-
  exact im j
 ·refine iB (Xb (ZO w.params) kk.iv) λo fd J W=>?_
  obtain⟨y,v2,q,rfl⟩:∃y v2 q,vs=[y,v2,q]:=by exact Bh f.length
  refine⟨.inr<|.inl ⟨_,o,fd,rfl,J,W⟩,TI I kk.iv f kk.tt λr t C hr Y u i U=>?_⟩;have P:=JF (uO X) _ _ _ _ _ _ kk.fr Y;exact L r t C hr ⟨u,P,i⟩ ((c.mono<|by simp).trans Y)<|N.trans U
theorem Tx (T:dk (cC w.params) (j8 sc) Z) (hgi:sc.lookup ("always":am)=ab .globalImplicit) (d:∀e,bI w (cC w.params) n B e) (I:kl (n+1) A M) (X:939∉aX Z) (R:RS w.params Z (sc.map (·.1)) V μ H M K s.heap)
 (G:[m,i,e3,k,r].any isStarred=ah)
 (J:bo B (bQ (j8 sc) ah m) V H=.ok l H) (W:bo B (bQ (j8 sc) ah i) V H=.ok c H) (h3:bo B (bQ (j8 sc) ah e3) V H=.ok q3 H) (h4:bo B (bQ (j8 sc) ah r) V H=.ok q4 H) (h5:bo B (bQ (j8 sc) ah k) V H=.ok q5 H)
 (L:∀v F j,VR j μ (.tup [l,c,q3,.Au,q5]) v->RS w.params Z (sc.map (·.1)) V μ H M j F.heap->Step [939] K μ s.heap j μ F.heap->aV s F->Q v F):
 aD (MM w) A (eval (.Tuple [m,i,e3,.Call (.Name "always" g) [r] [] cp,k] 0 pos) Z) Q E s:=by
 simp only[vA,abf,aaQ,nE] at G;refine Dm G λs1 q s3 s5 s4=>?_;refine mA ?_;rw[dD _ Z _ (by simp[s1,q,s3,s5];rfl)];refine spliced_cons<|r8 T (d _) (I.mono<|eh _) R J λa1 t C g1 oz D U=>?_
 refine spliced_cons<|r8 T (d _) (I.mono<|eh _) oz W λN s₃ o g2 f y Y=>?_
 refine spliced_cons<|r8 T (d _) (I.mono<|eh _) f h3 λh s₄ u g3 qP b n6=>?_
 refine spliced_cons<|BO T hgi (d _) I X qP s4 h4 λa4 p x Gx yC O=>?_
 refine spliced_cons<|r8 T (d _) (I.mono<|eh _) Gx h5 λa5 s₆ Jc g5 Gw JR yH=>?_
 refine fC ⟨by refine(ae bg)▸?_;simp,?_⟩;have a:=yC.trans<|JR.mono<|by simp
 refine gG (qu Gw.iv<|b7 (fv (y.trans b) g1 |>fv a)<|b7 (fv b g2 |>fv a)<|b7 (fv a g3)<|b7 (show VR Jc μ .Au a4 from trivial)<|b7 g5 eu) λj P z hv'=>?_;have S:=((D.trans<|y.trans b).mono<|by simp).trans a;exact L _ _ j hv' ⟨P,dw _ _ _ _ _ _ Gw.fr (z []),Gw.tt.step (z [])<|by simp⟩ (S.trans<|z _) (U.trans<|Y.trans<|n6.trans<|O.trans<|yH.trans ⟨rfl,rfl⟩)
end
open RS renaming ne->akt
noncomputable abbrev mH (w:dG):=XA bR w
structure DS (w:dG) (d:bk) (names:List am) (ps:List PV) (K:aN) (μ:List bk) (h:eG):Prop where
 kvs:∃kvs,h.DictOf (mH w) d kvs/\kvs.map (·.1)=names/\bU K μ ps (kvs.map (·.2))
 kd:K d=al
 md:d∉μ
theorem nK {h:eG} (x:h.DictOf (mH w) d kvs):∃o,h.get? d=ab o/\¬b4 o/\∀G:eG,G.get? d=ab o->G.DictOf (mH w) d kvs:=by refine wi x λo u Q L P r=>?_;exact⟨o,L,λf=>by have:=P.1;rw[f.1] at this;exact absurd this (by decide),λG e=>⟨o,u,Q,e,P,r⟩⟩
theorem DS.step {K j:aN} (x:DS w d Y y K μ h) (st:Step W K μ h j Z h') (g:d∉W):DS w d Y y j Z h':=by
 obtain⟨⟨p,t,m,i⟩,X,md⟩:=x
 exact gG (nK t) λo L n A=>⟨⟨p,A _ (st.same L md g n),m,by
  have:∀l vs,bU K μ l vs->bU j Z l vs:=λl vs r=>by refine aH st.pre λR S _=>?_;subst S;exact ro st.par st.kle l vs r
  exact this _ _ i⟩,st.ls X L,st.lr md L⟩
theorem pairs_len (h:Pairs (mH w) u p):u.map (·.val)=p.map (·.2)/\∀(i:Nat) (k) (e:cE),(p.map (·.1))[i]?=ab k->u[i]?=ab e->∃t,e.key=.str k t:=by
 induction h with
 |nil=>exact⟨rfl,λi k e h=>aC h⟩
 |cons J W r o=>
  refine⟨by rw[bu,bu,o.1,W],λi k e h g=>?_⟩
  induction i with
  |zero=>(refine((ai h))▸((ai g))▸?_);exact KY J
  |succ i=>exact o.2 i k e h g
theorem DS.freeze {w:dG} {d:bk} {Y:List (List Nat)} {X K:aN} (x:DS w d (Y.map λl=>⟨af l⟩) y K O h) (N:Inv X K O H M h) (B:K.P=w.params) (g:d≠1):
 ∃o,h.get? d=ab o/\Inv X (gc K d o) O H M h/\VR (gc K d o) O (.dct Y y) (.ref d):=by
 obtain⟨⟨p,I,m,E⟩,r,md⟩:=x;refine gG (nK I) λo₁ T n _=>?_;refine IH I λo W Q L v b hk F hn=>?_;obtain rfl:o=o₁:=ai<|ag L.symm T
 refine⟨o,L,N.freeze L r md n,?_⟩;refine bC (pairs_len F) λG c=>?_;have C:=congrArg aa G;have S:=congrArg aa m;simp only[aB,uw] at C S;refine⟨d,o,Q,W,rfl,fj _ _ _,v,g,b,by exact cf (cP<|bj [aa p,W.size,aa Y] [] [(1,aJ,bf),(1,ct,aJ),(1,xi bf,ct)] rfl (cl<|an<|ae C)<|cl<|an<|ae S)<|cP<|bj [W.size,aa p,aa Y] [] [(1,aJ,bf),(1,bf,ct),(1,xi ct,aJ)] rfl (cl<|an C)<|cl<|an S,λi k e D J=>?_,?_⟩
 ·have A:(p.map (·.1))[i]?=ab (⟨af k⟩:am):=by(refine m▸ag bY ?_;refine D▸?_);rfl
  refine bd (c i _ e A J) λt z=>aH (hk e<|by rw[<-JE];exact bq J) λZ U f=>?_;refine⟨?_,t,z⟩;have s:fE Z e.key=true:=U;rw[z] at s;have:Z=⟨af k⟩:=by refine bd (KY s) λu V=>?_;injection V with V;exact ae V
  subst this;refine ag f ?_;show hashStr w _=gg (gc K d o).P _;refine B▸?_;rfl
 ·rw[G];have:=ro (K:=K) (K':=gc K d o) (R:=[]) rfl (λa o' q=>by refine ag (db<|by rintro rfl;rw[r] at q;exact aC q) ?_;exact q) y _ E;simpa using this
def Gives (w:dG) (Z:lV) (b:List (am×fZ)) (V:bN) (O:List bk) (H:Hp) (M:List lV) (A:iF) (E:Value->bh->Prop) (e:bK) (p:PV):Prop:=
 ∀(K:aN) (s:bh) (Q:Value->bh->Prop),RS w.params Z (b.map (·.1)) V O H M K s.heap->
  (∀v F j,VR j O p v->RS w.params Z (b.map (·.1)) V O H M j F.heap->Step [939] K O s.heap j O F.heap->aV s F->Q v F)->aD (MM w) A (eval e Z) Q E s
abbrev afu:=am×nX×bK×PV
noncomputable def Ac (Z:lV) (S:nX) (l:List afu):List (jE Value×jE Value):=l.map λx=>(eval (.Constant (.str x.1) 0 x.2.1) Z,(do let v <-eval x.2.2.1 Z;fY S;pure v))
theorem PB (l):∀K s Q,(∀x∈l,Gives w Z b V O H M A E x.2.2.1 x.2.2.2)->RS w.params Z (b.map (·.1)) V O H M K s.heap->
 (∀W F j p,Carries (mH w) W p->p.map (·.1)=l.map (·.1)->bU j O (l.map (·.2.2.2)) (p.map (·.2))->RS w.params Z (b.map (·.1)) V O H M j F.heap->Step [939] K O s.heap j O F.heap->aV s F->Q W F)->
 aD (MM w) A (evalPairs<|Ac Z S l) Q E s:=by
 induction l with
 |nil=>exactλK s Q _ R L=>evalPairs_nil<|L [] s K [] trivial rfl eu R (iM ..)<|.refl s
 |cons x l o=>
  intro K s Q N R L;refine ajh<|qb<|ak<|N x bc K _ _ R λv B k f g c Y=>fX (λ_ _ h=>cb h)<|ar ?_
  refine o k B _ (λy I=>N y<|bb _ I) g λW t C p P m i X D U=>L _ t C ((x.1,v)::p) ⟨by show fE x.1 (.str x.1 s.toks)=ao;simp[fE],rfl,P⟩ (by rw[bu,bu,m]) (b7 (fv D f) i) X (c.trans D) (js ⟨rfl,rfl⟩<|Y.trans U)
theorem Iw (m) (f:(Option (jE Value)×jE Value)->(Option bk×List (jE Value×jE Value))->jE (ForInStep<|Option bk×List (jE Value×jE Value)))
 (Y:∀(p:jE Value×jE Value) (run:List (jE Value×jE Value)),aa run+1<17->f (ab p.1,p.2) (m,run)=pure (.yield (m,run++[p]))):
 ∀M j run,aa run+aa M<17->forIn ((M++j).map λp=>(ab p.1,p.2)) (m,run) f=forIn (j.map λp=>(ab p.1,p.2)) (m,run++M) f
 |[],j,run,_=>by simp
 |p::r,j,run,h=>by
  (refine(ae SQ)▸bu▸ag (cA ..) ?_;refine(Y p run<|by simp at h;exact cP<|bj [aa run,aa r] [] [(1,xi<|.a aJ<|xi bf,.n 17),(1,xi<|.n 17,xi<|xi aJ)] rfl<|cl h)▸?_;refine ag (pure_bind ..) ?_)
  have:=Iw m f Y r j (run++[p])<|by simp at h|-;exact cP<|bj [aa run,aa r] [] [(1,xi<|.a aJ<|xi bf,.n 17),(1,xi<|.n 17,xi<|.a (xi aJ) bf)] rfl<|cl h
  simpa using this
theorem UN (m) (f:(Option (jE Value)×jE Value)->(Option bk×List (jE Value×jE Value))->jE (ForInStep<|Option bk×List (jE Value×jE Value)))
 (Y:∀(p:jE Value×jE Value) (run:List (jE Value×jE Value)),aa run+1<17->f (ab p.1,p.2) (m,run)=pure (.yield (m,run++[p])))
 (M) (h:aa M<17):forIn (M.map λp=>(ab p.1,p.2)) (m,([]:List (jE Value×jE Value))) f=pure (m,M):=by
 have:=Iw m f Y M [] []<|by simpa using h
 simpa using this
theorem Dn (a) (b:jE Value×jE Value) (c) (I:aa a=16) (f:c≠[]) (P:aa c<17):
 dictDisplay ((a++b::c).map λp=>(ab p.1,p.2))=(do
  let d <-Sn (a++[b]);let sub <-holding [.ref d] (Sn c)
  (holding [.ref d,.ref sub]<|mergeMapping d (.ref sub) ah).onRaise λx=>do let _ <-holding [.ref d,x] (runValue<|.builtin "proto.let_go" {})
  pure (.ref d)):=by
 have H:∀(run:List (jE Value×jE Value)) (p:jE Value×jE Value),aa run+1<17->(aa (run++[(p.1,p.2)])==17)=false:=λrun p h=>by simp;exactλM=>bj [aa run] [] [(1,xi<|xi aJ,.n 17),(1,.n 16,aJ)] rfl (cl h)<|cl<|an<|ae M
 have e:(aa (a++[(b.1,b.2)])==17)=true:=by simp[I]
 have g:((a++[(b.1,b.2)]).isEmpty)=false:=by simp
 unfold dictDisplay;dsimp only;rw[Iw al _ (λp run h=>by simp only[H run p h,bO,if_false]) a (b::c) [] (by simp[I])]
 (refine(gA ..)▸bu▸?_;rw[cA])
 simp only[e,if_true,g,bO,if_false,bind_assoc,pure_bind];congr 1;funext d;rw[UN (ab d) _ (λp run h=>by simp only[H run p h,bO,if_false]) c P];have i:c.isEmpty=false:=by cases c with|nil=>exact absurd rfl f|cons _ _=>rfl
 simp only[pure_bind,i,bO,if_false,bind_assoc]
theorem LR (c:(mH w).is k key=ao) (t:s.heap.DictOf (mH w) d p) (Y:k∉p.map (·.1)) (N:aa p<=1000)
 (X:∀G,G.DictOf (mH w) d (p++[(k,v)])->fK d s.heap G->Q () {s with heap:=G}):aD (MM w) A (dictPut d ((mH w).hash k) key v) Q E s:=by
 refine IH t λo u Z L P g z F B=>?_;have m:=F.length;have i:aa u.toList=u.size:=by simp
 have h:(u.findIdx? λe=>(mH w).is k e.key)=p.findIdx? λU=>decide (U.1=k):=by refine((F.findIdx k))▸?_;obtain⟨l⟩:=u;simp
 have f:(p.findIdx? λU=>decide<|U.1=k)=none:=by rw[DZ];intro x T;rw[decide_eq_false_iff_not];rintro rfl;exact Y<|List.mem_map_of_mem T
 unfold dictPut;refine ak<|wpAny_dictFind_of c L g z ?_
 (refine h▸f▸?_)
 refine wpAny_updateDictKeys L g<|X _ ⟨_,_,Z+1,ei _ L (Obj.isFreed_of_dict<|NO g _),P.mapDictKeys _,NO g _,z.push c _,?_,?_⟩ (ds ..)
 ·have:=F.append c ((mH w).hash k) v;obtain⟨l⟩:=u;simpa using this
 ·(refine b3▸?_;rw[fI])
  refine⟨B,by simp,?_⟩;intro a I b R;simp only[bu,rG,aU] at R;subst R
  exactλe=>Y<|e▸I
theorem OC {k1 z:am} (g:s.heap.DictOf (mH w) d p) (L:s.heap.get? o=ab j)
 (Y:((p++[(k1,y),(z,e)]).map (·.1)).Nodup) (N:aa p<=900)
 (step:∀(i:Nat) (k:am) (v:Value) (S:List (am×Value)) (Z:eG) (R:ForInStep PUnit->bh->Prop),([(k1,y),(z,e)]:List (am×Value))[i]?=ab (k,v)->Z.DictOf (mH w) d S->Z.get? o=ab j->k∉S.map (·.1)->aa S<=1000->
  (∀G,G.DictOf (mH w) d (S++[(k,v)])->G.get? o=ab j->fK d Z G->R (.yield k4) {s with heap:=G})->aD (MM w) A (f i k4) R E {s with heap:=Z})
 (X:∀G,G.DictOf (mH w) d (p++[(k1,y),(z,e)])->fK d s.heap G->Q k4 {s with heap:=G}):aD (MM w) A (forIn (dg 2) k4 f) Q E s:=by
 rw[b3,fI] at Y;refine iZ Y λ_ c h=>?_;have l:k1∉p.map (·.1):=λq=>h _ q k1 bc rfl
 have T:z∉(p++[(k1,y)]).map (·.1):=λq=>by
  rw[b3,eB] at q;rcases q with q|q
  ·exact h _ q z (bb _ bc) rfl
  ·exact(lb.mp c).1<|aU.mp q▸bc
 (refine(show dg 2=[0,1] from rfl)▸kI (cA ..) ?_)
 refine ak<|step 0 k1 y p s.heap _ rfl g L l (aM N<|by decide) λZ C n H=>?_
 show aD _ _ (forIn [1] k4 f) _ _ _;refine kI (cA ..)<|ak<|step 1 z e _ Z _ rfl C n T (by refine aI▸?_;exact aM (z4 N)<|by decide) λm b r a=>?_
 rw[eZ] at b;exact ar<|X m b<|H.trans a
theorem Mb {k1 z:am} (I:d≠o) (hoS:(o==oE)=ah) (g:s.heap.DictOf (mH w) d p) (L:s.heap.DictOf (mH w) o [(k1,y),(z,v2)])
 (Y:((p++[(k1,y),(z,v2)]).map (·.1)).Nodup) (T:p≠[]) (N:aa p<=900)
 (l:∀G,G.DictOf (mH w) d (p++[(k1,y),(z,v2)])->fK d s.heap G->Q () {s with heap:=G}):aD (MM w) A (mergeMapping d (.ref o) ah) Q E s:=by
 have u:=L.typeIs;refine IH (id g) λV W epd m M hdd hkd hpd hnd=>IH (id L) λoo t epo H hco r B hpo j=>?_;have J:t.size=2:=hpo.length
 have X:W.isEmpty=false:=by
  have:=hpd.length
  cases q:W.isEmpty with
  |false=>rfl
  |true=>rw[Oo.mp q] at this;exact absurd (cw.mp this.symm) T
 refine ak<|wpAny_isInstance u isSubtype_dict_dict ?_
 refine fX (λ_ _ h=>ux u F.slot_dict_iter.lookup h)<|oW ?_
 rw[beq_self_eq_true];refine sJ (by refine hoS▸?_;exact bp)<|ak<|AK m hdd ?_
 refine(ae X)▸?_;refine sJ bp<|ak<|AK H r<|fX (λ_ _ h=>agx H r h) ?_
 refine J▸?_;refine ak<|OC g H Y N (λi k v S f R D C n adA adi P=>?_) λG a b=>ar<|l G a b
 have hlt:i<t.size:=J.symm▸(aA.mp D).1;refine ak<|AK n r ?_
 refine(B4 hlt)▸?_;refine bC (hpo.get? (e:=t[i]) (by simp[hlt]) D) λc hval=>?_;refine aH (B t[i]<|Op hlt) λZ ady adz=>?_;obtain rfl:Z=k:=(mH w).inj _ _ _ ady c;dsimp only
 (refine(ae adz)▸?_;refine(ae hval)▸?_)
 refine ak<|a8<|sJ bp<|LR (s:={s with heap:=f}) c C adA adi λx ah9 U=>?_
 have O:x.get? o=ab oo:=ag (U.2 o<|jm I) n;refine ak<|agx (s:={s with heap:=x}) O r ?_
 exact sJ (λq=>absurd q<|by rw[bne_self_eq_false];exact bp)<|ar<|P x ah9 O U
section
variable {K:aN} {s:bh}
abbrev qj (w:dG) (Z:lV) (b:List (am×fZ)) (V:bN) (O:List bk) (H:Hp) (M:List lV):=RS w.params Z (b.map (·.1)) V O H M
theorem RS.RZ (R:qj w Z b V O H M K h) (n:∃o,h.get? d=ab o/\¬b4 o) (r:K d=al) (md:d∉O) (U:d∉aX Z) (Y:d≠939) (G:fK d h h') (z:∃o,h'.get? d=ab o):qj w Z b V O H M K h':=by
 refine aH n λo L n=>?_;have st:Step [d] K O h K O h':=jt G (by simp) z;refine⟨R.iv.HF r md G λu e f=>?_,JF (uO U) _ _ _ _ _ _ R.fr st,R.tt.step st<|by simp[jm Y]⟩
 ·rw[L] at e;obtain rfl:=ai e;exact absurd f n
theorem y6 (R:qj w Z b V O H M K s.heap):qj w Z b V O H M K (s.heap.push {cls:=.type "dict",data:=.dict #[]})/\DS w s.heap.objs.size [] [] K O (s.heap.push {cls:=.type "dict",data:=.dict #[]})/\
 Step [939] K O s.heap K O (s.heap.push {cls:=.type "dict",data:=.dict #[]})/\s.heap.objs.size∉aX Z/\s.heap.objs.size≠939:=by
 have r:=Ab s.heap {cls:=.type "dict",data:=.dict #[]};have a:=bW s.heap;refine⟨⟨R.iv.keep r,dw _ _ _ _ _ _ R.fr r.step,R.tt.step (r.step (W:=[]))<|by simp⟩,⟨⟨[],ajo _,rfl,eu⟩,R.iv.cN a,R.iv.dY a⟩,r.step,λq=>?_,λq=>?_⟩
 ·refine bd (i9 R.fr q) λo e=>?_;rw[a] at e;exact aC e
 ·refine iZ R.tt λ_ _ S=>aH S λy e _=>?_;rw[<-q,a] at e;exact aC e
theorem bU.app:∀{y g U f},bU K O y U->bU K O g f->bU K O (y++g) (U++f)
 |[],_,_,_,J,W=>by subst J;exact W
 |p::y,g,U,f,J,W=>by refine cL J λv r S Z d=>?_;subst S;exact b7 Z<|bU.app d W
theorem kN (x:DS w d Y y K O h):∃o,h.get? d=ab o/\¬b4 o:=by refine na ?_;intro a;obtain⟨⟨p,t,_⟩,_⟩:=x;exact gG (nK t) λo L n _=>⟨o,L,n⟩
theorem sub_short (C:aa l<=15) (g:(l.map (·.1)).Nodup) (N:∀x∈l,Gives w Z b V O H M A E x.2.2.1 x.2.2.2) (R:qj w Z b V O H M K s.heap)
 (L:∀d F j,DS w d (l.map (·.1)) (l.map (·.2.2.2)) j O F.heap->s.heap.get? d=al->d∉aX Z->d≠939->qj w Z b V O H M j F.heap->Step [939] K O s.heap j O F.heap->aV s F->Q d F):
 aD (MM w) A (Sn<|Ac Z S l) Q E s:=by
 refine Dm (y6 R) λD D₀ y hdw e=>wpAny_subDict (knd:=mH w) (by unfold Ac;exact(ae (aB ..))▸C)<|PB l K _ _ N D λU B k p P m i kk c h=>?_
 have X:=D₀.step c<|by simp[e]
 refine na ?_;intro o;obtain⟨⟨n,t,f,z2⟩,r,md⟩:=id X;obtain rfl:n=[]:=List.map_eq_nil_iff.mp f;refine⟨p,P,t,λG Y J=>?_⟩;rw[merged_nil_of_nodup p<|by exact m▸g] at Y;refine gG (nK Y) λu T z _=>?_;have v:=kk.RZ (kN X) r md hdw e J ⟨u,T⟩;refine L _ _ k ⟨⟨p,Y,m,i⟩,r,md⟩ (bW _) hdw e v ((y.trans c).hide (jt (W:=[s.heap.objs.size]) J (by simp) ⟨u,T⟩) λa q=>.inr ?_) (js ⟨rfl,rfl⟩<|h.trans ⟨rfl,rfl⟩);rw[aU] at q;subst q;exact bW _
theorem Va (gd:g.get? d=al) (hdw:d∉aX Z) (e:d≠939) (l):∀(K) (s) (Q:PUnit->bh->Prop) (names) (ps),(∀x∈l,Gives w Z b V O H M A E x.2.2.1 x.2.2.2)->
 (names++l.map (·.1)).Nodup->aa names+aa l<=900->qj w Z b V O H M K s.heap->DS w d names ps K O s.heap->Step [939] G O g K O s.heap->
 (∀F j,DS w d (names++l.map (·.1)) (ps++l.map (·.2.2.2)) j O F.heap->qj w Z b V O H M j F.heap->Step [939] G O g j O F.heap->aV s F->Q k4 F)->
 aD (MM w) A (forIn (Ac Z S l) k4 λ(x) (_:PUnit)=>(do
  let U <-x.1;let vv <-holding [U] x.2
  holding [U,vv] (dictSet d U vv)
  pure (e0 k4):jE (ForInStep PUnit))) Q E s:=by
 induction l with
 |nil=>intro K s Q names ps _ _ _ R D st L;show aD _ _ (forIn [] _ _) _ _ _;exact kI XD<|ar<|L s K (by simpa using D) R st<|.refl s
 |cons x l ih=>
  intro K s Q names ps N hnd hz R D st L;show aD _ _ (forIn ((eval (.Constant (.str x.1) 0 x.2.1) Z,(do let v <-eval x.2.2.1 Z;fY S;pure v))::Ac Z S l) _ _) _ _ _;refine kI (cA ..)<|ak<|fX (λ_ _ h=>qb (Z:=Z) (k:=0) (S:=x.2.1) h)<|ak<|a8<|ak<|N x (by simp) K _ _ R λv B K₁ f kk c gu=>fX (λ_ _ h=>cb h)<|ar ?_
  have X:=D.step c<|by simp[e]
  obtain⟨⟨p,t,m,i⟩,r,md⟩:=id X;have hkl:aa p=aa names:=by(refine(m)▸?_;rw[aB])
  have C:aa names+(aa l+1)<=900:=by simpa using hz
  refine ak<|a8<|wpAny_dictSet_pairs (by show fE x.1 (.str x.1 s.toks)=ao;simp[fE]) t λh' Y J=>ar ?_
  have hst:stored p x.1 v=p++[(x.1,v)]:=by
   have:=Sp p [(x.1,v)] (by
    (refine(ae b3)▸(ae m)▸?_)
    rw[bu,<-Ju,<-eZ] at hnd
    exact(fI.mp hnd).1)
   simpa[aay] using this
  rw[hst] at Y;refine gG (nK Y) λu T nf' _=>?_;have oz:=kk.RZ (kN X) r md hdw e J ⟨u,T⟩;have D₂:DS w d (names++[x.1]) (ps++[x.2.2.2]) K₁ O h':=⟨⟨_,Y,by simp[m],by refine(ae b3)▸?_;exact bU.app i<|b7 f eu⟩,r,md⟩;have lk:Step [939] G O g K₁ O h':=(st.trans c).hide (jt (W:=[d]) J (by simp) ⟨u,T⟩) λa q=>.inr<|by rw[aU] at q;subst q;exact gd
  refine ih K₁ {B with heap:=h',toks:=B.toks+1} Q _ _ (λy I=>N y<|by simp[I]) (by simpa using hnd) (by simp;exact cP<|bj [aa names,aa l] [] [(1,.a aJ<|xi bf,.n 900),(1,xi<|.n 900,.a (xi aJ) bf)] rfl<|cl C) oz D₂ lk λF j D' o z P=>?_;exact L F j (by simpa using D') o z<|js ⟨rfl,rfl⟩<|gu.trans<|js ⟨rfl,rfl⟩ P
end
theorem Ui (h:aa (l.map f)=2):∃a b,l=[a,b]:=by
 refine na ?_;intro d;cases l with|nil=>cases h|cons a l=>?_
 cases l with|nil=>cases h|cons b l=>?_
 cases l with|nil=>exact⟨a,b,rfl⟩|cons c l=>cases h
section
variable {K:aN}
theorem OT (C:15<aa l) (X:aa l<=900) (g:(l.map (·.1)).Nodup) (N:∀x∈l,Gives w Z b V O H M A E x.2.2.1 x.2.2.2) (R:qj w Z b V O H M K s.heap)
 (L:∀d F j,DS w d (l.map (·.1)) (l.map (·.2.2.2)) j O F.heap->s.heap.get? d=al->d∉aX Z->d≠939->qj w Z b V O H M j F.heap->Step [939] K O s.heap j O F.heap->aV s F->Q d F):
 aD (MM w) A (Sn<|Ac Z S l) Q E s:=by
 refine Dm (y6 R) λD c y Y e=>?_;unfold Sn;refine fX (λ_ _ h=>wpAny_alloc h)<|ak<|a8 ?_
 refine kI (if_neg<|by unfold Ac;rw[aB];exactλW=>bj [aa l] [] [(1,xi<|.n 15,aJ),(1,aJ,.n 15)] rfl (cl C)<|cl W) ?_;refine fX (λ_ _ h=>mm h) ?_;refine ak<|Va (bW _) Y e l K _ _ [] [] N (by simpa using g) (by simpa using X) D c y λF j a o z P=>ar ?_
 exact ar<|L _ F j (by simpa using a) (bW _) Y e o z (js ⟨rfl,rfl⟩ P)
theorem IK (a:(Ec P Z).zip ((tm c Z).map λv=>do let x <-v;fY S;pure x)=(Ac Z S l).map λp=>(ab p.1,p.2))
 (T:l≠[]) (C:aa l<=15) (g:(l.map (·.1)).Nodup) (N:∀x∈l,Gives w Z b V O H M A E x.2.2.1 x.2.2.2) (R:qj w Z b V O H M K s.heap)
 (L:∀d F j,DS w d (l.map (·.1)) (l.map (·.2.2.2)) j O F.heap->s.heap.get? d=al->qj w Z b V O H M j F.heap->Step [939] K O s.heap j O F.heap->aV s F->Q (.ref d) F):
 aD (MM w) A (eval (.Dict P c S) Z) Q E s:=by
 (refine kI (arm_eval_Dict ..)<|a▸?_;rw[dictDisplay_pairs _ (by unfold Ac;simpa using T) (by unfold Ac;rw[aB];exact bX (by assumption)<|by decide)])
 exact ak<|cb<|ak<|sub_short C g N R λd F j D fd _ _ o st U=>ar<|L d F j D fd o st U
theorem M8 (hshape:(Ec P Z).zip ((tm c Z).map λv=>do let x <-v;fY S;pure x)=(Ac Z S<|a++b::[c1,c2]).map λp=>(ab p.1,p.2))
 (I:aa a=16) (hnd:((a++b::[c1,c2]).map (·.1)).Nodup) (N:∀x∈a++b::[c1,c2],Gives w Z sc V O H M A E x.2.2.1 x.2.2.2) (R:qj w Z sc V O H M K s.heap)
 (L:∀d F j,DS w d ((a++b::[c1,c2]).map (·.1)) ((a++b::[c1,c2]).map (·.2.2.2)) j O F.heap->s.heap.get? d=al->qj w Z sc V O H M j F.heap->Step [939] K O s.heap j O F.heap->aV s F->Q (.ref d) F):
 aD (MM w) A (eval (.Dict P c S) Z) Q E s:=by
 have X:a++b::[c1,c2]=(a++[b])++[c1,c2]:=by simp
 have hp:Ac Z S (a++b::[c1,c2])=Ac Z S a++(eval (.Constant (.str b.1) 0 b.2.1) Z,(do let v <-eval b.2.2.1 Z;fY S;pure v))::Ac Z S [c1,c2]:=by unfold Ac;simp
 have hp2:Ac Z S a++[(eval (.Constant (.str b.1) 0 b.2.1) Z,(do let v <-eval b.2.2.1 Z;fY S;pure v))]=Ac Z S (a++[b]):=by unfold Ac;simp
 (refine kI (arm_eval_Dict ..)<|hshape▸hp▸?_;rewrite[Dn _ _ _ (by unfold Ac;rw[aB];exact I) (by unfold Ac;simp) (by unfold Ac;simp)];refine hp2▸?_)
 have G:=hnd;rw[X,b3,fI] at G;refine iZ G λn1 n2 n3=>?_;refine fX (λ_ _ h=>cb h)<|ak<|OT (by simp[I]) (by simp[I]) n1 (λx hx=>N x<|by rw[X];exact j5 _ hx) R λd B k D₁ Xa adj W5 g dL gu=>?_
 refine ak<|a8<|sub_short (by simp) n2 (λx hx=>N x<|by rw[X];exact List.mem_append_right _ hx) g λo t C D₂ adN ajQ aj3 oz D U=>?_
 have Xs:=D₁.step D<|by simp[W5]
 refine na ?_;intro P37;obtain⟨⟨kvs,hm,m,i⟩,r,md⟩:=id Xs;obtain⟨⟨more,hmo,l,f2⟩,ko,mo⟩:=id D₂
 obtain⟨k1,v1,z,v2,rfl⟩:∃k1 v1 z v2,more=[(k1,v1),(z,v2)]:=by exact kY (Ui<|congrArg aa l) λx y e=>⟨x.1,x.2,y.1,y.2,e⟩
 have hdo:d≠o:=λq=>by refine aH (kN D₁) λu e _=>?_;rw[q,adN] at e;exact aC e
 have ho1:(o==oE)=false:=by rw[beq_eq_false_iff_ne];rintro rfl;have:=oz.iv.stat 1 _ (by kernel_rfl:cC w.params 1=ab (V2 w.params));rw[show C 1=al from ko] at this;exact aC this
 refine ak<|wpAny_onRaise<|a8<|Mb hdo ho1 hm hmo ?_ ?_ ?_ λh' Y J=>?_
 ·rw[b3,m,l,<-b3,<-X];exact hnd
 ·rintro rfl;have:=congrArg aa m;simp at this
 ·have:=congrArg aa m;simp[I] at this;exact cP<|bj [aa kvs] [] [(1,aJ,.n 17),(1,xi<|.n 900,aJ)] rfl<|cl<|an this
 ·refine gG (nK Y) λu T nf' _=>?_;have f:=oz.RZ (kN Xs) r md adj W5 J ⟨u,T⟩;refine ar<|L d _ C ⟨⟨_,Y,by rw[b3,m,l,<-b3,<-X],?_⟩,r,md⟩ Xa f ((dL.trans D).hide (jt (W:=[d]) J (by simp) ⟨u,T⟩) λa q=>.inr<|by rw[aU] at q;subst q;exact Xa) (gu.trans<|U.trans ⟨rfl,rfl⟩)
  have:=bU.app i f2;rw[<-b3,<-b3,<-X] at this;exact this
end
noncomputable def afa (c:Const):Option am:=by
 cases c
 case str s=>exact ab s
 all_goals exact al
theorem Vu (h:afa c=ab s):c=.str s:=by cases c<;>first|exact aC h|exact congrArg _ (ai h)
def aej (e:bK):Option (am×Nat×nX):=(IJ e).bind λx=>(afa x.1).map λs=>(s,x.2)
theorem Vd (h:aej e=ab x):e=.Constant (.str x.1) x.2.1 x.2.2:=by refine aH (bind_some h) λc P h=>aH (map_some h) λs G q=>?_;subst q;exact ag (Bw P) (congrArg (aaM · c.2.1 c.2.2)<|Vu G)
def IX (f:am) (e:bK):Option (List bK):=(Bx e).bind λc=>(xc c.1).bind λn=>if n.1=f/\aa c.2.2.1=0 then ab c.2.1 else al
theorem BH (h:IX f e=ab D):∃g pos,e=.Call (.Name f g) D [] pos:=by
 refine aH (bind_some h) λc J h=>aH (bind_some h) λn W h=>?_;by_cases q:n.1=f/\aa c.2.2.1=0
 ·rw[if_pos q] at h;exact⟨n.2,c.2.2.2,by(refine ag (zC J)<|(ae<|vj W)▸(ae q.1)▸(ae<|cw.mp q.2)▸?_;rw[ai h])⟩
 ·rw[if_neg q] at h;exact aC h
def mN (e:bK):Option (List bK):=(IX "pure" e).filter λl=>!l.isEmpty
noncomputable def adT:List bK->Option (bK×bK×bK×bK×bK)
 |[m,i,C,F,k]=>ab (m,i,C,F,k)
 |_=>al
theorem UU (h:adT l=ab x):l=[x.1,x.2.1,x.2.2.1,x.2.2.2.1,x.2.2.2.2]:=by
 cases l with|nil=>exact aC h|cons a l=>?_
 cases l with|nil=>exact aC h|cons b l=>?_
 cases l with|nil=>exact aC h|cons c l=>?_
 cases l with|nil=>exact aC h|cons d l=>?_
 cases l with|nil=>exact aC h|cons e l=>?_
 induction l with
 |nil=>rw[<-ai h]
 |cons f l=>exact aC h
def qv (e:bK):Option ((bK×bK×bK×bK×bK)×bK):=(Rs e).bind λt=>(adT t.1).bind λx=>(IX "always" x.2.2.2.1).bind λa=>(one a).bind λr=>gd (decide<|t.2.1=0)<|ab (x,r)
theorem As (h:mN e=ab D):D≠[]/\∃g pos,e=.Call (.Name "pure" g) D [] pos:=by exact bC (pp.mp h) λJ W=>⟨by simpa using W,BH J⟩
theorem Ca (h:qv e=ab y):∃g u pos,e=.Tuple [y.1.1,y.1.2.1,y.1.2.2.1,.Call (.Name "always" g) [y.2] [] u,y.1.2.2.2.2] 0 pos:=by refine aH (bind_some h) λt J h=>aH (bind_some h) λx W h=>aH (bind_some h) λa E h=>aH (bind_some h) λk X h=>bC (cK h) λq h=>kY (BH E) λg u U=>((ai h))▸?_;exact⟨g,u,t.2.2,by(refine ag (yd J)<|(ae<|UU W)▸(ae<|of_decide_eq_true q)▸((tW X))▸?_;rw[<-U])⟩
noncomputable def Wo:List PV->Option (PV×PV×PV)
 |[a,b,c]=>ab (a,b,c)
 |_=>al
theorem OL (h:Wo l=ab x):l=[x.1,x.2.1,x.2.2]:=by
 cases l with|nil=>exact aC h|cons a l=>?_
 cases l with|nil=>exact aC h|cons b l=>?_
 cases l with|nil=>exact aC h|cons c l=>?_
 induction l with
 |nil=>rw[<-ai h]
 |cons f l=>exact aC h
noncomputable def okV:j1 u->Option u
 |.ok q []=>ab q
 |_=>al
theorem HJ (h:okV o=ab a):o=.ok a []:=by
 induction o with
 |ok q H=>cases H with
  |nil=>rw[ai h]
  |cons _ _=>exact aC h
 |_=>exact aC h
def evV (B:nW) (Y:Cx) (V:bN) (e:bK):Option PV:=okV<|bo B (bQ Y ah e) V []
theorem r9 (h:evV B Y V e=ab q):bo B (bQ Y ah e) V []=.ok q []:=HJ h
def evP (B:nW) (Y:Cx) (V:bN) (D:List bK):Option (Int×bk×PV):=(okV<|nU B (pw Y D) V []).bind λl=>(Wo l).bind λx=>(TO x.1).bind λk=>(PE x.2.1).bind λd=>ab (k,d,x.2.2)
theorem Re {k:Int} (h:evP B Y V D=ab (k,d,p)):nU B (pw Y D) V []=.ok [.int k,.ref d,p] []:=by
 refine aH (bind_some h) λl J h=>aH (bind_some h) λx W h=>aH (bind_some h) λZ E h=>aH (bind_some h) λN X h=>?_;cases h
 (refine ag (HJ J)<|(ae<|OL W)▸(ae<|Cy E)▸?_;rw[uN X])
def rwP (B:nW) (Y:Cx) (V:bN) (D:List bK):Option PV:=gd (!D.any isStarred)<|(evP B Y V D).map λx=>.tup [.int x.1,.int x.1,.ref x.2.1,.Au,.bool ao]
def rwT (B:nW) (Y:Cx) (V:bN) (y:(bK×bK×bK×bK×bK)×bK):Option PV:=gd (![y.1.1,y.1.2.1,y.1.2.2.1,y.1.2.2.2.2,y.2].any isStarred)
 ((evV B Y V y.1.1).bind λl=>(evV B Y V y.1.2.1).bind λc=>(evV B Y V y.1.2.2.1).bind λf=>(evV B Y V y.2).bind λ_=>(evV B Y V y.1.2.2.2.2).bind λo=>ab<|.tup [l,c,f,.Au,o])
def Tz (B:nW) (Y:Cx) (V:bN) (e:bK):Option PV:=(mN e).elim ((qv e).bind<|rwT B Y V)<|rwP B Y V
def WW (e:Option bK):Option (am×nX):=e.bind λx=>(aej x).bind λy=>if y.2.1=0 then ab (y.1,y.2.2) else al
theorem Ie (h:WW e=ab (k,p)):e=ab (.Constant (.str k) 0 p):=by
 refine aH (bind_some h) λx J h=>aH (bind_some h) λy W h=>?_;by_cases q:y.2.1=0
 ·rw[if_pos q] at h;cases h
  (refine ag J<|(ae<|Vd W)▸?_;rw[q])
 ·rw[if_neg q] at h;exact aC h
noncomputable def CU (B:nW) (Y:Cx) (V:bN):List (Option bK)->List bK->Option (List afu)
 |[],[]=>ab []
 |k::j,v::U=>(WW k).bind λx=>(Tz B Y V v).bind λq=>(CU B Y V j U).bind λl=>ab<|(x.1,x.2,v,q)::l
 |_,_=>al
theorem MH (T:dk (cC w.params) (j8 b) Z) (J:b.lookup ("pure":am)=ab .globalImplicit\/∀x,mN e≠ab x) (W:b.lookup ("always":am)=ab .globalImplicit\/∀x,qv e≠ab x) (d:∀e,bI w (cC w.params) n B e) (I:kl (n+2) A M) (X:939∉aX Z)
 (h:Tz B (j8 b) V e=ab p):Gives w Z b V O [] M A E e p:=λK s Q R L=>by
 unfold Tz at h
 cases F:mN e with
 |some D=>rw[F] at h;refine bC (cK h) λG h=>aH (map_some h) λx j m=>?_;rw[<-m] at L;refine bC (As F) λC y=>kY y λg S i=>(ae i)▸?_;exact Pe T (J.resolve_right λq=>q _ F) d I X R (jV _▸G) C (Re j) L
 |none=>rw[F] at h;refine aH (bind_some h) λy z h=>Dl (Ca z) λg u S i=>bC (cK h) λG h=>aH (bind_some h) λl Y h=>aH (bind_some h) λc P h=>aH (bind_some h) λf a h=>aH (bind_some h) λN U h=>aH (bind_some h) λo k h=>?_;rw[<-ai h] at L;refine(ae i)▸?_;exact Tx T (W.resolve_right λq=>q _ z) d (I.mono<|eh _) X R (jV _▸G) (r9 Y) (r9 P) (r9 a) (r9 U) (r9 k) L
theorem Ij:∀{vs l},CU B (j8 b) V j vs=ab l->
 (Ec j Z).zip ((tm vs Z).map λv=>do let x <-v;fY S;pure x)=(Ac Z S l).map (λp=>(ab p.1,p.2))/\∀x∈l,Tz B (j8 b) V x.2.2.1=ab x.2.2.2/\x.2.2.1∈vs:=by
 induction j with
 |nil=>
  intro vs l h;cases vs with|cons _ _=>exact aC h|nil=>?_
  exact((ai h))▸⟨rfl,nofun⟩
 |cons k j o=>
  intro vs l h;cases vs with|nil=>exact aC h|cons v vs=>?_
  refine aH (bind_some h) λy z h=>aH (bind_some h) λq L h=>aH (bind_some h) λd C h=>?_
  (refine((ai h))▸(ae<|Ie z)▸?_)
  have s:=o C;refine⟨?_,λx T=>(aL.mp T).elim (λe=>by refine(ae e)▸?_;exact⟨L,bc⟩) λT=>⟨(s.2 x T).1,bb _ (s.2 x T).2⟩⟩;show(ab<|eval (.Constant (.str y.1) 0 y.2) Z,_)::(Ec j Z).zip ((tm vs Z).map _)=_;refine(ae s.1)▸?_;rfl
noncomputable def Kc:List Nat:=("name":am).cps.toList
noncomputable def fb (x:List Nat):PV:=.tup [.str Kc,.str x,.tup []]
def u3 (p:PV):Option (List Nat):=(At p).bind<|ls3 λa b c=>(Cw a).bind λn=>(Cw b).bind λx=>(At c).bind λl=>gd (decide (n=Kc)&&l.isEmpty)<|ab x
theorem Az (h:u3 p=ab x):p=fb x:=by
 refine aH (bind_some h) λm em h=>se (Fl h) λa b c g h=>aH (bind_some h) λn d h=>aH (bind_some h) λy f h=>?_;refine aH (bind_some h) λl k h=>bC (cK h) λP h=>?_;have q:=(bt _ _).mp P
 (refine ag (o8 em)<|(ae g)▸(qA d)▸(qA f)▸(o8 k)▸?_;refine(ae<|of_decide_eq_true q.1)▸(ae<|kg.mp q.2)▸(ai h)▸?_);rfl
noncomputable def gt:List Nat:=("Int64":am).cps.toList
noncomputable def wq:List Nat:=("BigInt":am).cps.toList
noncomputable def dW:List Nat:=("Nothing":am).cps.toList
def wj:Cx:=⟨(bF 20).2.2.names,x0,["left","found"]⟩
def J2:List Stmt:=(bF 20).2.1.take 4
noncomputable def wO:Expr:=.Compare (.Call (.Name "len" ⟨53,23,53,26⟩) [.Name "found" ⟨53,27,53,32⟩] [] ⟨53,23,53,33⟩) [.Eq] [.Constant (.int 1) 0 ⟨53,37,53,38⟩] ⟨53,23,53,38⟩
def ahN (V:bN):Bool:=decide<|((V[2]?).bind λo=>o.bind wU)=ab 1
def CP (f:List PV):Bool:=(f.mapM u3).elim ah λj=>decide (j=[gt,dW])||decide (j=[gt,wq,dW])
noncomputable def okN:j1 (ge×bN)->Option (bN×Hp)
 |.ok (.next,V) H=>ab (V,H)
 |_=>al
theorem YR (h:okN o=ab a):o=.ok (.next,a.1) a.2:=by
 induction o with
 |ok x H=>
  induction x with
  |mk f V=>cases f<;>first|exact aC h|(rw[<-ai h])
 |exc p H=>exact aC h
 |stuck=>exact aC h
def okF:j1 Bool->Option (List PV)
 |.ok ah H=>(two H).bind λx=>gd x.1.isEmpty<|ab x.2
 |_=>al
theorem YS (h:okF o=ab f):o=.ok ah [[],f]:=by
 induction o with
 |ok c H=>
  induction c with
  |true=>exact aC h
  |false=>
   refine aH (bind_some h) λx e h=>bC (cK h) λP h=>?_
   (refine(G1 e)▸(kg.mp P)▸?_;rw[ai h])
 |exc p H=>exact aC h
 |stuck=>exact aC h
def uD (l:List PV):Option (bN×Hp×List PV):=(okN<|fR fW fW (lZ wj J2) (fw (bF 20).2.2.names.length [.lst l]) []).bind λa=>(okF<|jW fW (bQ wj ah wO) a.1 (bo fW (bQ wj ah wO) a.1) a.2).bind λf=>gd (ahN a.1&&CP f)<|ab (a.1,a.2,f)
def vN:List PV->IM PV
 |[.lst l]=>λH=>match H with
  |[]=>(match uD l with
   |some _=>.ok .Au []
   |none=>.stuck)
  |_=>.stuck
 |_=>aP
noncomputable def ZM:List FE:=[⟨380,54,ah,[],[]⟩,⟨183,26,ah,[],[]⟩,⟨176,25,ah,[],[]⟩,⟨152,21,ah,[],[]⟩,⟨138,19,ah,[],[.tup []]⟩]
def CC:nW:=iG fW fW ZM
def LY:nW:=λa y=>if a=145 then vN y else CC a y
def ji (k:Nat):List (Option bK)×List Expr:=((((bF k).2.1.getLast?).bind abI).bind Ru).elim ([],[]) λd=>(d.1,d.2.1)
def rowsOf (k:Nat) (V:bN):Option (List am×List PV):=(CU LY (j8 (bF k).2.2.names) V (ji k).1 (ji k).2).map λl=>(l.map (·.1),l.map (·.2.2.2))
noncomputable def qD (l:List (List Nat)):List am:=l.map λx=>⟨af x⟩
theorem LM:rowsOf 157 (fw (bF 157).2.2.names.length [])=ab (qD<|cG.drop 27,d5.drop 27):=rfl
theorem EL:rowsOf 158 ((fw (bF 158).2.2.names.length []).set 0<|ab .Au)=ab (qD<|(cG.drop 19).take 6,(d5.drop 19).take 6):=rfl
theorem Hq:rowsOf 159 (fw (bF 159).2.2.names.length [])=ab (qD<|(cG.drop 25).take 2,(d5.drop 25).take 2):=rfl
theorem LL:rowsOf 160 (fw (bF 160).2.2.names.length [])=ab (qD<|cG.take 19,d5.take 19):=rfl
theorem UW (P):∀f∈ZM,Sg (cC P) f:=FV P rfl
theorem adY (P):FnAt (cC P) 958 (bF 157).1 (bF 157).2.1 (bF 157).2.2 []:=mc rfl
theorem adX (P):FnAt (cC P) 965 (bF 158).1 (bF 158).2.1 (bF 158).2.2 []:=mc rfl
theorem adW (P):FnAt (cC P) 972 (bF 159).1 (bF 159).2.1 (bF 159).2.2 []:=mc rfl
theorem adV (P):FnAt (cC P) 979 (bF 160).1 (bF 160).2.1 (bF 160).2.2 []:=mc rfl
abbrev lG (w:dG):Prop:=∀y U,aj w (cC w.params) [] 60 (j9 y U) (vN y) e7 (call (.ref 145) U [])
section
variable {K:aN}
theorem CB:jS w (cC w.params) 5 CC:=E9 rfl (jI _) pO vP (λ_ _ _=>iW) ZM<|UW _
theorem ZQ (P):FnAt (cC P) 145 (bF 20).1 (bF 20).2.1 (bF 20).2.2 []:=mc rfl
theorem TR (Z:lG w):jS w (cC w.params) 60 LY:=by
 refine⟨λa=>?_,λa y U=>?_⟩
 ·by_cases J:a=145
  ·subst J;exact cL ((ZQ w.params).ex) λo fd l c _=>.inl ⟨o,fd,l,c⟩
  ·rcases(CB).fn a with h|h
   ·exact .inl h
   ·exact .inr λy=>by unfold LY;exact ag (if_neg J)<|h y
 ·unfold LY;by_cases J:a=145
  ·subst J;exact(if_pos rfl)▸Z y U
  ·exact(if_neg J)▸(CB.call a y U).more (cg _ _)
theorem W6 (o:lG w) (e):bI w (cC w.params) 60 LY e:=(jL rfl (TR o) iW e).1.1
theorem EU (hU:lG w) (T:dk (cC w.params) (j8 (bF k).2.2.names) Z) (N:(bF k).2.2.names.lookup ("pure":am)=ab .globalImplicit\/∀e∈(ji k).2,∀x,mN e≠ab x)
 (r:(bF k).2.2.names.lookup ("always":am)=ab .globalImplicit\/∀e∈(ji k).2,∀x,qv e≠ab x) (hr:rowsOf k V=ab (qD names,y)) (g:(qD names).Nodup) (J:(0<aa names/\aa names<=15)\/aa names=19)
 (I:kl 62 A M) (X:939∉aX Z) (R:qj w Z (bF k).2.2.names V [] [] M K s.heap)
 (L:∀d s' j,VR j [] (.dct names y) (.ref d)->qj w Z (bF k).2.2.names V [] [] M j s'.heap->Step [939] K [] s.heap j [] s'.heap->aV s s'->Q (.ret<|.ref d) s'):
 aD (MM w) A (kc [.Return (ab<|.Dict (ji k).1 (ji k).2 p) H] Z) Q E s:=by
 unfold rowsOf at hr;rw[a9] at hr;refine aH hr λl C e=>?_;refine bC (Prod.mk.inj e) λm e2=>bC (Ij (S:=p) (Z:=Z) C) λY ads=>?_;have hin:∀x∈l,x.2.2.1∈(ji k).2:=λx T=>(ads x T).2;have hgv:∀x∈l,Gives w Z (bF k).2.2.names V [] [] M A E x.2.2.1 x.2.2.2:=λx i=>MH T (N.imp id λq=>q _ (hin x i)) (r.imp id λq=>q _ (hin x i)) (W6 hU) I X (ads x i).1
 have h:∀d s' j,DS w d (l.map (·.1)) (l.map (·.2.2.2)) j [] s'.heap->s.heap.get? d=al->qj w Z (bF k).2.2.names V [] [] M j s'.heap->Step [939] K [] s.heap j [] s'.heap->aV s s'->Q (.ret<|.ref d) s':=λd s' j D fd R' st U=>by
  rw[m,e2] at D
  have B:d≠1:=by rintro rfl;have:=R'.iv.stat 1 _ (by kernel_rfl:cC w.params 1=ab (V2 w.params));rw[show j 1=al from D.kd] at this;exact aC this
  refine gG (D.freeze R'.iv R'.iv.par B) λo ho P f=>?_;have kle:∀a o',j a=ab o'->gc j d o a=ab o':=λa o' q=>by refine ag (db<|by rintro rfl;rw[D.kd] at q;exact aC q) ?_;exact q
  have F:∀a∈aX Z,a≠d:=λa O q=>by refine bd (i9 R.fr O) λoa ea=>?_;rw[q,fd] at ea;exact aC ea
  have h9:(939:Nat)≠d:=λq=>by refine iZ R.tt λ_ _ yR=>aH yR λz c _=>?_;rw[q,fd] at c;exact aC c
  refine iZ R'.tt λu v yR=>aH yR λz c okz=>?_;refine L d s' (gc j d o) f ⟨P,R'.fr.Qa rfl kle λa O=>by refine ag (db<|F a O) ?_;exact R'.fr.Ka O,⟨by exact ag (db h9)<|u,v,z,c,okz⟩⟩ (st.gc fd D.kd) U
 have S:aa l=aa names:=by have:=congrArg aa m;simpa[qD] using this
 have G:(l.map (·.1)).Nodup:=by exact m▸g
 refine ak<|gM ?_
 rcases J with ⟨h1,W⟩|h19
 ·refine IK Y (by rintro rfl;simp at S;exact bj [aa names] [] [(1,xi ef,aJ),(1,aJ,ef)] rfl (cl h1)<|cl<|an<|ae S) (by exact cP<|bj [aa l,aa names] [] [(1,aJ,bf),(1,bf,.n 15),(1,xi<|.n 15,aJ)] rfl (cl<|an S)<|cl W) G hgv R λd s' j D fd R' st U=>ar<|h d s' j D fd R' st U
 ·obtain⟨a,b,c1,c2,rfl,aib⟩:∃a b c1 c2,l=a++b::[c1,c2]/\aa a=16:=by
   have h3:aa (l.drop 16)=3:=by exact ag hJ<|cf (cP<|bj [aa l,aa names,aa l-16] [] [(1,aJ,bf),(1,bf,.n 19),(1,.a ct<|.n 16,aJ),(1,xi<|.n 3,ct)] rfl (cl<|an S) (cl<|an h19)<|cl<|an<|bP<|cP<|bj [aa names,aa l] [] [(1,aJ,bf),(1,.n 19,aJ),(1,xi bf,.n 16)] rfl (cl<|an<|ae S)<|cl<|an<|ae h19)<|cP<|bj [aa names,aa l,aa l-16] [] [(1,aJ,bf),(1,.n 19,aJ),(1,bf,.a ct<|.n 16),(1,xi ct,.n 3)] rfl (cl<|an<|ae S) (cl<|an<|ae h19)<|cl<|an<|ae<|bP<|cP<|bj [aa names,aa l] [] [(1,aJ,bf),(1,.n 19,aJ),(1,xi bf,.n 16)] rfl (cl<|an<|ae S)<|cl<|an<|ae h19
   exact Dl (Bh h3) λb c1 c2 t=>⟨l.take 16,b,c1,c2,by(refine(t)▸?_;rw[fa]),by exact ag rm<|cf (cP<|bj [Min.min 16<|aa l] [] [(1,aJ,.n 16),(1,xi<|.n 16,aJ)] rfl<|cl<|an<|eJ<|cP<|bj [aa names,aa l] [] [(1,aJ,bf),(1,.n 19,aJ),(1,xi bf,.n 16)] rfl (cl<|an<|ae S)<|cl<|an<|ae h19)<|cP<|bj [Min.min 16<|aa l] [] [(1,.n 16,aJ),(1,xi aJ,.n 16)] rfl<|cl<|an<|ae<|eJ<|cP<|bj [aa names,aa l] [] [(1,aJ,bf),(1,.n 19,aJ),(1,xi bf,.n 16)] rfl (cl<|an<|ae S)<|cl<|an<|ae h19⟩
  refine M8 Y aib G hgv R λd s' j D fd R' st U=>ar<|h d s' j D fd R' st U
end
theorem VC:∃p H,(bF 157).2.1=[.Return (ab<|.Dict (ji 157).1 (ji 157).2 p) H]:=⟨_,_,rfl⟩
theorem VA:∃p H,(bF 159).2.1=[.Return (ab<|.Dict (ji 159).1 (ji 159).2 p) H]:=⟨_,_,rfl⟩
theorem Vz:∃p H,(bF 160).2.1=[.Return (ab<|.Dict (ji 160).1 (ji 160).2 p) H]:=⟨_,_,rfl⟩
def Sk (k:Nat):Prop:=∃x e m P p H,(bF k).2.1=.Assign [.Name x m] e P::[.Return (ab<|.Dict (ji k).1 (ji k).2 p) H]/\(bF k).2.2.names.map (·.1)=x::((bF k).2.2.names.map (·.1)).tail/\(bF k).2.2.names.lookup x=ab .local/\
    (∀Z,N8 e (ab<|.Name x m) P.line Z=pure ah)/\bo LY (bQ (j8 (bF k).2.2.names) ah e) (fw (bF k).2.2.names.length []) []=.ok .Au []
theorem VB:Sk 158:=⟨_,_,_,_,_,_,rfl,rfl,rfl,λ_=>rfl,by kernel_rfl⟩
theorem Fj:(qD cG).Nodup:=by decide+kernel
theorem uY (i j):(qD<|(cG.drop i).take j).Nodup:=by
 unfold qD
 (refine aaG▸List.map_drop▸?_)
 exact((Fj.sublist<|List.drop_sublist i _).sublist<|List.take_sublist j _)
theorem YY {l:List bK} (h:l.all (λe=>(qv e).isNone)=ao):∀e∈l,∀x,qv e≠ab x:=λe J x q=>by have:=cm.mp h e J;rw[q] at this;cases this
theorem TZ {l:List bK} (h:l.all (λe=>(mN e).isNone)=ao):∀e∈l,∀x,mN e≠ab x:=λe J x q=>by have:=cm.mp h e J;rw[q] at this;cases this
abbrev oA (w:dG) (a:bk) (Y:List (List Nat)) (y:List PV):Prop:=∀{A:iF} {E:Value->bh->Prop} {s:bh} {K:aN} {M:List lV} {Q:Value->bh->Prop},kl 64 A M->Inv (cC w.params) K [] [] M s.heap->TT K [] s.heap->
 (∀r F j,VR j [] (.dct Y y) r->Step [939] K [] s.heap j [] F.heap->Inv (cC w.params) j [] [] M F.heap->TT j [] F.heap->aV s F->Q r F)->aD (MM w) A (call (.ref a) [] []) Q E s
theorem vS (o:lG w) (Y:FnAt (cC w.params) a (bF k).1 (bF k).2.1 (bF k).2.2 []) (F:(bF k).1.args=[]) (R:∃p H,(bF k).2.1=[.Return (ab<|.Dict (ji k).1 (ji k).2 p) H])
 (N:(bF k).2.2.names.lookup ("pure":am)=ab .globalImplicit\/∀e∈(ji k).2,∀x,mN e≠ab x) (r:(bF k).2.2.names.lookup ("always":am)=ab .globalImplicit\/∀e∈(ji k).2,∀x,qv e≠ab x)
 (O:rowsOf k (fw (bF k).2.2.names.length [])=ab (qD names,ps)) (g:(qD names).Nodup) (J:(0<aa names/\aa names<=15)\/aa names=19):oA w a names ps:=by
 intro A E s K M Q I iv tt L;refine jP Y (jI _) I iv eu (by refine F▸?_;rfl) (zQ Y (by exact F▸XC) (by refine F▸?_;rfl) iv) λZ B V T P m c G W h S=>?_;have X:=akt tt m;refine kY R λp H R=>?_;refine R▸?_;refine EU o T N r O g J (P.mono<|eh _) X ⟨G,W,tt.step c<|by simp⟩ λd t C f oz D U=>?_;exact L _ t C f ((c.mono<|by simp).trans D) oz.iv.pop oz.tt (h.trans U)
theorem Tr (o:lG w):oA w 958 (cG.drop 27) (d5.drop 27):=
 vS o (adY _) rfl VC (.inl rfl) (.inr<|YY rfl) LM (by have:=uY 27 6;exact this) (.inl<|by decide)
theorem R1 (o:lG w):oA w 972 ((cG.drop 25).take 2) ((d5.drop 25).take 2):=
 vS o (adW _) rfl VA (.inr<|TZ rfl) (.inl rfl) Hq (uY 25 2) (.inl<|by decide)
theorem Th (o:lG w):oA w 979 (cG.take 19) (d5.take 19):=
 vS o (adV _) rfl Vz (.inl rfl) (.inl rfl) LL (by have:=uY 0 19;exact this) (.inr<|by decide)
set_option maxHeartbeats 2000000 in
theorem EJ (o:lG w) (hf:FnAt (cC w.params) a (bF k).1 (bF k).2.1 (bF k).2.2 []) (F:(bF k).1.args=[]) (hb:Sk k)
 (N:(bF k).2.2.names.lookup ("pure":am)=ab .globalImplicit) (r:(bF k).2.2.names.lookup ("always":am)=ab .globalImplicit)
 (hr:rowsOf k ((fw (bF k).2.2.names.length []).set 0<|ab .Au)=ab (qD names,ps)) (hnd:(qD names).Nodup) (J:(0<aa names/\aa names<=15)\/aa names=19):oA w a names ps:=by
 intro A E s K M Q I iv tt L;refine jP hf (jI _) I iv eu (by refine F▸?_;rfl) (zQ hf (by exact F▸XC) (by refine F▸?_;rfl) iv) λZ B K₁ T P m c G W h hfl=>?_;have X:=akt tt m;refine ad7 hb λx e p1 p2 p H hb hn hlc hsw j=>?_;refine hb▸?_;have g:qj w Z (bF k).2.2.names _ [] [] (Z::M) K₁ B.heap:=⟨G,W,tt.step c<|by simp⟩;refine ak<|rD (r8 T (W6 o _) (P.mono<|cg _ _) g j λv t C f oz D U=>?_)<|hsw Z
 refine aZ (kS (i:=0) T.fe (by refine hn▸?_;rfl) T.nd (by(refine(ae hfl)▸?_;rewrite[<-aB (·.1)];refine(ae hn)▸?_);exact mn _) (.inl<|T.lc _ hlc) (g9 Z) oz.iv ⟨oz.fr,f⟩) (λ_ R XU=>vh XU λy S O Y=>?_) λ_ _ (z:False)=>z.elim;refine EU o T (.inl N) (.inl r) hr hnd J (P.mono<|by exact eh _) X ⟨S,O,oz.tt.step y X⟩ λd V u l qP b n=>?_;have aao:Step [939] K [] s.heap C [] R.heap:=((c.trans D).mono<|by simp).hide y λa q=>.inr<|m a q
 exact L _ V u l (aao.trans b) qP.iv.pop qP.tt (h.trans<|U.trans<|Y.trans n)
theorem LK (o:lG w):oA w 965 ((cG.drop 19).take 6) ((d5.drop 19).take 6):=
 EJ o (adX _) rfl VB rfl rfl EL (uY 19 6) (.inl<|by decide+kernel)
theorem RA {K:aN} {h:eG} (x:VR K O (.dct Y y) v) (B:K.P=w.params) (sub:∀a o,K a=ab o->h.get? a=ab o) (g:(qD Y).Nodup):
 ∃a o p,v=.ref a/\K a=ab o/\a≠1/\h.DictOf (mH w) a p/\p.map (·.1)=qD Y/\bU K O y (p.map (·.2)):=by
 obtain⟨a,o,n,u,rfl,X,T,H,U,E,z,d⟩:=x
 have key:∀(j:List (List Nat)) (l:List cE),aa j=aa l->(∀(i:Nat) (k:List Nat) (e:cE),j[i]?=ab k->l[i]?=ab e->e.hash=gg K.P ⟨af k⟩/\∃t,e.key=.str ⟨af k⟩ t)->
  Pairs (mH w) l ((qD j).zip (l.map (·.val)))/\∀e∈l,∃k,(mH w).is k e.key=ao/\e.hash=(mH w).hash k:=by
  intro j
  induction j with
  |nil=>intro l C _;cases l with|nil=>exact⟨.nil,λ_ h=>absurd h aY⟩|cons _ _=>cases C
  |cons k j Q=>
   intro l C z
   induction l with
   |nil=>cases C
   |cons e l=>
    refine bC (Q l (by simpa using C) λi Z V a b=>z (i+1) Z V (by simpa using a)<|by simpa using b) λs F=>?_;refine bC (z 0 k e rfl rfl) λJ S=>bd S λt W=>?_;have c:(mH w).is ⟨af k⟩ e.key=true:=by refine W▸?_;show fE ⟨af k⟩ (.str ⟨af k⟩ t)=ao;simp[fE]
    refine⟨.cons c rfl s,λV he'=>?_⟩;rcases aL.mp he' with rfl|he'
    ·refine⟨_,c,?_⟩
     (refine ag J<|B▸?_);rfl
    ·exact F V he'
 refine bC (key Y u.toList (by simpa using E) z) λm N=>?_;have C:aa (qD Y)=aa (u.toList.map (·.val)):=by simp[qD,E]
 refine⟨a,o,_,rfl,X,H,⟨o,u,n,sub _ _ X,T,U,λe R=>N e<|JE.mpr R,m,?_⟩,?_,?_⟩
 ·exact(ae<|rk<|an C)▸g
 ·exact rk<|an C
 ·exact(ae<|rj<|an C.symm)▸d
section
variable {K:aN}
theorem Yr (R:qj w Z b V [] [] M K s.heap) (D:DS w d names y K [] s.heap) (l:d∉aX Z) (e:d≠939) (f:VR K [] (.dct n2 P) v) (g:(names++qD n2).Nodup) (N:aa names+aa n2<=900)
 (L:∀O,DS w d (names++qD n2) (y++P) K [] O.heap->qj w Z b V [] [] M K O.heap->Step [d] K [] s.heap K [] O.heap->aV s O->Q .none O):aD (MM w) A (call (.builtin "dict.update") [.ref d,v] []) Q E s:=by
 refine IH (RA f R.iv.par (λa o q=>R.iv.sub _ _ q) (fI.mp g).2.1) λa o c S I j h C H=>?_;subst S;obtain⟨⟨p,t,m,i⟩,r,md⟩:=id D;have X:d≠a:=by rintro rfl;rw[r] at I;exact aC I
 have U:aa p=aa names:=by(refine(m)▸?_;rw[aB])
 have W:aa c=aa n2:=by have:=congrArg aa C;simpa[qD] using this
 refine call_meetsIn AN t.typeIs PySem.F.entry_dict_update (PySem.F.args_dict_update_2 _ _) (meets_dict_update (mH w) d a X<|by rw[beq_eq_false_iff_ne];exact j) ⟨p,c,t,h,by exact bg▸cP (bj [aa names,aa n2,aa p,aa c] [] [(1,.a aJ bf,.n 900),(1,ct,aJ),(1,ig,bf),(1,xi<|.n 16777216,.a ct ig)] rfl (cl N) (cl<|an U)<|cl<|an W),λG Y _ J=>?_⟩;rw[Sp p c<|by(refine(ae b3)▸m▸C▸?_);exact g] at Y;exact gG (nK Y) λu T z _=>L _ ⟨⟨_,Y,by(refine ag b3<|m▸?_;rw[C]),by exact b3▸bU.app i H⟩,r,md⟩ (R.RZ (kN D) r md l e J ⟨u,T⟩) (jt J (by simp) ⟨u,T⟩) ⟨rfl,rfl⟩
theorem Oz {i j:Nat} (T:dk (cC w.params) (j8 b) Z) (x:(C==("__debug__":am))=ah) (h:(C==("__classdict__":am))=ah) (O:(X==("__debug__":am))=ah) (I:(X==("__classdict__":am))=ah)
 (k:(B.endLine==pos.line)=ao) (J:(b.map (·.1))[i]?=ab C) (W:V[i]?=ab (ab<|.ref d)) (h3:(b.map (·.1))[j]?=ab X) (h4:V[j]?=ab (ab<|.dct c p2))
 (R:qj w Z b V [] [] M K s.heap) (D:DS w d Y y K [] s.heap) (l:d∉aX Z) (e:d≠939) (g:(Y++qD c).Nodup) (N:aa Y+aa c<=900)
 (hq:∀U,DS w d (Y++qD c) (y++p2) K [] U.heap->qj w Z b V [] [] M K U.heap->Step [d] K [] s.heap K [] U.heap->aV s U->Q .next U):
 aD (MM w) A (exec (.Expr (.Call (.Attribute (.Name C u) "update" B) [.Name X H] [] pos) p) Z) Q E s:=by
 refine kI (z3 _ _ _ (m7 T.fe.kind) (xW rfl))<|ak<|cb ?_
 (refine(NJ ..)▸?_;rewrite[qM rfl];refine(dD pos Z [.Name X H]<|by rfl)▸?_)
 refine ak<|ak<|gF T.fe x h J W R.fr λov L=>?_
 replace L:_=_:=L;subst L;refine ak<|cb ?_
 have q:∀(n:Nat) (G:List (jE Value)),n=1->aa G=1->ni n (G.map λt=>(ah,t)) ([]:List (Option am×jE Value))=true:=λn G J W=>by unfold ni;simp[J,W]
 have S:oO ao (.Name C u) Z B pos=pure pos:=by unfold oO;simp[k]
 show aD (MM w) A (um (.Name C u) "update" B pos Z (.ref d) 1 ([eval (.Name X H) Z].map λt=>(ah,t)) []) _ _ _;unfold um
 (refine(q 1 [eval (.Name X H) Z] rfl rfl)▸S▸?_)
 obtain⟨⟨kvs,hm,m,e2⟩,r,md⟩:=id D;refine ak<|a8<|rE hm.typeIs BV AN PySem.F.type_dict_update hm.mapOf.noDict ?_
 refine oW<|tA<|spliced_cons<|gF T.fe O I h3 h4 R.fr λv f=>fC ⟨.inl ⟨_,rfl⟩,?_⟩
 exact Yr R D l e f g N λU a o z P=>Gz<|hq U a o z P
end
section
variable {K:aN}
abbrev Dct:=List (List Nat)×List PV
noncomputable def Y2 (Y:List (List Nat)) (l:List Dct):List (List Nat):=Y++l.flatMap (·.1)
noncomputable def psU (y:List PV) (l:List Dct):List PV:=y++l.flatMap (·.2)
theorem AY {l:List u} (h:l[j]?=ab x):l.take (j+1)=l.take j++[x]:=by(refine ag lS<|h▸?_);rfl
theorem y4 {l:List Dct} (h:l[j]?=ab x):qD (Y2 Y<|l.take j)++qD x.1=qD (Y2 Y<|l.take<|j+1):=by
 unfold Y2
 (refine(ae<|AY h)▸uA▸(GM ..)▸((eZ ..))▸?_);exact ae (b3 ..)
theorem Ps {l:List Dct} (h:l[j]?=ab x):psU y (l.take j)++x.2=psU y (l.take<|j+1):=by
 unfold psU
 (refine(ae<|AY h)▸uA▸(GM ..)▸?_;rw[eZ])
theorem Kb (Y l j):Y2 Y (l.take j) <+: Y2 Y l:=by
 refine(List.prefix_append_right_inj _).mpr ?_
 conv=>rhs;rw[<-fa j l,uA]
 exact List.prefix_append _ _
theorem Ke (l):aa (qD l)=aa l:=aB ..
inductive ai0 (w:dG) (env:lV) (sc:List (am×fZ)) (fs:List lV) (d:bk) (names:List (List Nat)) (ps:List PV) (lP:List Dct) (I:bk) (fp:List bk) (P:Nat->Value->Prop) (J:Nat->eG->Prop) (gH:aN) (g:eG) (s:bh) (m:Nat) (s₁:bh):Prop
 |mk (j:Nat) (σ₁:bN) (K₁:aN) (hm:m=aa lP+1-j) (hj:j<=aa lP) (st:Step [939] gH [] g K₁ [] s₁.heap) (so:aV s s₁) (R:qj w env sc σ₁ [] [] fs K₁ s₁.heap) (hl:2<=aa σ₁) (h2:σ₁[0]?=ab (ab (.ref d)))
  (D:DS w d (qD<|Y2 names<|lP.take j) (psU ps<|lP.take j) K₁ [] s₁.heap) (ci:jC I fp P J (lP.map λx=>.dct x.1 x.2) j K₁ [] s₁.heap)
theorem OA {lP:List Dct}
 (hx0:dk (cC w.params) (j8 sc) Z) (hCd:(C==("__debug__":am))=ah) (hCc:(C==("__classdict__":am))=ah) (O:(X==("__debug__":am))=ah) (hXc:(X==("__classdict__":am))=ah) (hline:(ap.endLine==S.line)=ao)
 (h1:(sc.map (·.1))[0]?=ab C) (h3:(sc.map (·.1))[1]?=ab X) (hlk:Z.kindOf X=ab .local) (hnd:(qD (Y++lP.flatMap (·.1))).Nodup) (hz:aa (Y++lP.flatMap (·.1))<=900)
 (U:sx w I fp (aa<|lP.map λx=>PV.dct x.1 x.2) P J) (ha:kl n A M) (l:d∉aX Z) (h9:d≠939) (h99:939∉aX Z) (hI:I∉aX Z) (hI9:I≠939) (hId:I≠d) (hfp:∀a∈fp,a∉aX Z) (gd:g.get? d=al) (gI:g.get? I=al) (gw:∀a∈aX Z,g.get? a=al)
 (R₀:qj w Z sc V [] [] M K s.heap) (hl:2<=aa V) (W:V[0]?=ab (ab<|.ref d)) (D₀:DS w d (qD Y) ps K [] s.heap) (ci:jC I fp P J (lP.map λx=>.dct x.1 x.2) 0 K [] s.heap) (st:Step [939] G [] g K [] s.heap)
 (hR:∀F K' σ',qj w Z sc σ' [] [] M K' F.heap->σ'[0]?=ab (ab<|.ref d)->DS w d (qD (Y++lP.flatMap (·.1))) (ps++lP.flatMap (·.2)) K' [] F.heap->Step [939] G [] g K' [] F.heap->aV s F->R (.ok .next) F):
 nq (MM w) A (.forLoop (.Name X H) (.ref I) [.Expr (.Call (.Attribute (.Name C cp) "update" ap) [.Name X xp2] [] S) p] [] Z) R s:=by
 refine ZI (ai0 w Z sc M d Y ps lP I fp P J G g s) (aa lP+1) ⟨0,V,K,rfl,hH _,st,.refl s,R₀,hl,W,by simpa[Y2,psU] using D₀,ci⟩ ?_;intro m s₁ hi N B E hN hS hB hk' hr;cases hi with|mk j σ₁ k t Q c h kk hl₁ QS D₁ re=>?_
 subst t;refine vZ U ha.hd kk.iv re (by refine(ae (aB ..))▸?_;exact Q) (λq v h' tk hp u D f hv=>?_) λh' tk hend u hk=>?_
 ·rw[bY] at hp;refine aH (map_some hp) λx T e=>?_;rw[<-e] at hv;have hjl:=(aA.mp T).1;have p0:=JF (uO hI) _ _ _ _ _ _ kk.fr D;have i:=kk.tt.step D<|Aw<|jm hI9
  refine hS _ _ (ar<|wpAny_assign_Name ?_);refine aZ (kS hx0.fe h3 hx0.nd hl₁ (.inl hlk) (g9 Z) u ⟨p0,hv⟩) (λ_ s₃ z=>?_) λ_ _ (z:False)=>z.elim;have iU:=z.1;have KL:=jC.stable U hI hfp _ _ _ _ _ _ f iU;have NE:=(D₁.step D<|Aw<|jm hId).step iU l;have hlen:=aM (Kb Y lP<|j+1).length_le hz;refine ak<|Oz hx0 hCd hCc O hXc hline h1 (by refine ag (dQ<|by decide) ?_;exact QS) h3 (cH hl₁) ⟨z.2.1,z.2.2.1,i.step iU h99⟩ NE l h9 ?_ ?_ λs₄ ND qP b n6=>ar ?_
  ·refine(y4 T)▸?_;exact hnd.sublist<|((Kb Y lP<|j+1).sublist).map _
  ·rw[<-Ke,<-y4 T,aI,Ke x.1] at hlen;exact hlen
  ·rw[y4 T,Ps T] at ND;have xd:=jC.stable U (Aw hId) (λa ha'=>Aw λq=>(KL.2.2.2.1 a ha').elim (λr=>hId<|ag r.symm q) λy=>aH y λo' k' _=>aC<|ag NE.kd.symm<|q▸k') _ _ _ _ _ _ KL b;refine(hB _ _ (oR (iO hjl)<|kq j) ⟨j+1,_,k,rfl,hjl,?_,h.trans<|js ⟨rfl,rfl⟩<|z.2.2.2.trans n6,qP,by refine(ae d6)▸?_;exact hl₁,by refine ag (dQ<|by decide) ?_;exact QS,ND,xd⟩).1;exact((c.hide D<|uO<|.inr gI).hide iU λa q=>.inr<|gw a q).hide b<|uO<|.inr gd
 ·have hje:j=aa lP:=ag hend (aB ..);rw[hje,fy] at D₁;refine iZ kk.tt λk9 m9 y=>aH y λpz ez okz=>?_;have oz:qj w Z sc σ₁ [] [] M k h':=⟨u,kk.fr.but hk hI,k9,m9,pz,hk _ _ (jm hI9) ez,okz⟩;obtain⟨⟨kvs,t,e1,e2⟩,kd,md⟩:=D₁;refine gG (nK t) λo L _ up=>?_;exact hN _ (ar (a:=lL)<|hR {s₁ with heap:=h',toks:=tk} k σ₁ oz QS ⟨⟨kvs,up _ (hk _ _ (jm hId) L),e1,e2⟩,kd,md⟩ (c.ss gI hk)<|h.trans ⟨rfl,rfl⟩)
end
theorem Vy:(bF 161).2.1=[
 .Assign [.Name "found" ⟨607,4,607,9⟩] (.Call (.Name "dict" ⟨607,12,607,16⟩) [.Call (.Name "text_rows" ⟨607,17,607,26⟩) [] [] ⟨607,17,607,28⟩] [] ⟨607,12,607,29⟩) ⟨607,4,607,29⟩,
 .For (.Name "rows" ⟨608,8,608,12⟩) (.Tuple [.Call (.Name "search_rows" ⟨608,17,608,28⟩) [] [] ⟨608,17,608,30⟩,.Call (.Name "array_rows" ⟨608,32,608,42⟩) [] [] ⟨608,32,608,44⟩,.Call (.Name "sign_rows" ⟨608,46,608,55⟩) [] [] ⟨608,46,608,57⟩] 0 ⟨608,16,608,58⟩)
  [.Expr (.Call (.Attribute (.Name "found" ⟨609,8,609,13⟩) "update" ⟨609,8,609,20⟩) [.Name "rows" ⟨609,21,609,25⟩] [] ⟨609,8,609,26⟩) ⟨609,8,609,26⟩] [] ⟨608,4,609,26⟩,
 .Return (ab<|.Name "found" ⟨610,11,610,16⟩) ⟨610,4,610,16⟩]:=rfl
theorem ZG (P):jD (cC P) "dict" (.type "dict"):=zp rfl rfl
theorem ZA (P):jD (cC P) "text_rows" (.ref 979):=on rfl
theorem QY (P):jD (cC P) "search_rows" (.ref 965):=on rfl
theorem UP (P):jD (cC P) "array_rows" (.ref 972):=on rfl
theorem ZB (P):jD (cC P) "sign_rows" (.ref 958):=on rfl
section
variable {K:aN}
theorem sq (L:s.heap.get? a=ab o) (g:o.data=.func fd) (u:aD (MM w) A (call (.ref a) [] []) Q E s):
 aD (MM w) A (iD S (.ref a) [] [] []) Q E s:=by
 unfold iD;refine ak<|a8 ?_
 have e:V0 (.ref a) ao [] []=(pure ⟨[],[]⟩:jE Args):=by rfl
 refine kI e<|ar<|fX (λ_ _ h=>cb h) ?_
 refine ak ?_;unfold nk;refine fX (λ_ _ h=>ul L h)<|g▸?_
 refine ar<|sJ (by decide) ?_
 unfold aaC;exact ak<|aZ (xP u) (λr t d=>ak<|a8<|mz<|ar d) λ_ _ x=>x
theorem xT (h:oA w a Y y) (H:∃o fd,cC w.params a=ab o/\o.data=.func fd) (N:jD (cC w.params) x (.ref a)) (O:(x==("__debug__":am))=ah) (T:dk (cC w.params) (j8 b) Z)
 (z:b.lookup x=ab .globalImplicit) (I:kl 64 A M) (X:939∉aX Z) (R:qj w Z b V [] [] M K s.heap)
 (L:∀v F j,VR j [] (.dct Y y) v->qj w Z b V [] [] M j F.heap->Step [939] K [] s.heap j [] F.heap->aV s F->Q v F):aD (MM w) A (eval (.Call (.Name x g) [] [] S) Z) Q E s:=by
 refine kI (dN ..)<|fX (λ_ _ h=>ij T.fe O (T.gi _ z) R.iv N h) ?_
 refine iB H λo fd J W=>?_;refine sq (R.iv.sub _ _ (R.iv.stat _ _ J)) W<|h I R.iv R.tt λr F j f st P c U=>?_
 exact L r F j f ⟨P,JF (uO X) _ _ _ _ _ _ R.fr st,c⟩ st U
theorem Vi (h:oA w a names y) (hf:∃o fd,cC w.params a=ab o/\o.data=.func fd) (N:jD (cC w.params) x (.ref a)) (O:(x==("__debug__":am))=ah) (hx:dk (cC w.params) (j8 b) Z)
 (z:b.lookup x=ab .globalImplicit) (H:b.lookup ("dict":am)=ab .globalImplicit) (I:kl 64 A M) (X:939∉aX Z) (g:(qD names).Nodup) (hz:aa names<=900) (R:qj w Z b V [] [] M K s.heap)
 (L:∀d F j,DS w d (qD names) y j [] F.heap->s.heap.get? d=al->d∉aX Z->d≠939->qj w Z b V [] [] M j F.heap->Step [939] K [] s.heap j [] F.heap->aV s F->Q (.ref d) F):
 aD (MM w) A (eval (.Call (.Name "dict" p1) [.Call (.Name x P) [] [] p3] [] U) Z) Q E s:=by
 (refine kI (dN ..) ?_;rw[dD U Z _ (by rfl)])
 refine fX (λ_ _ h=>ij hx.fe (by decide) (hx.gi _ H) R.iv (ZG _) h)<|im<|spliced_cons<|xT h hf N O hx z I X R λv B k hv kk c gu=>fC ⟨.inr<|.inr<|m4 rfl,?_⟩
 refine IH (RA hv kk.iv.par (λa o q=>kk.iv.sub _ _ q) g) λo ob p S r no1 t m i=>?_;subst S;have C:aa p=aa names:=by have:=congrArg aa m;simpa[qD] using this
 refine Dm (y6 kk) λoz D₂ D l e=>kt_call_dict (by rw[beq_eq_false_iff_ne];exact no1) t (by exact bg▸cP (bj [aa names,aa p] [] [(1,aJ,.n 900),(1,bf,aJ),(1,xi<|.n 16777216,bf)] rfl (cl hz)<|cl<|an C)) λG Y J=>?_;refine gG (nK Y) λu T nf' _=>?_;have f:=oz.RZ (kN D₂) D₂.kd D₂.md l e J ⟨u,T⟩;have gd:=c.none<|bW _
 refine L _ {B with heap:=G} k ⟨⟨p,Y,m,i⟩,D₂.kd,D₂.md⟩ gd l e f ((c.trans D).hide (jt (W:=[B.heap.objs.size]) J (by simp) ⟨u,T⟩) λa q=>.inr<|by rw[aU] at q;subst q;exact gd) (gu.trans ⟨rfl,rfl⟩)
end
section
variable {K:aN}
theorem fnK (Y:FnAt X a params body scope q):∃o fd,X a=ab o/\o.data=.func fd:=by exact cL Y.ex λo fd l c _=>⟨o,fd,l,c⟩
theorem SZ
 (h1:oA w i n1 q1) (h2:oA w N n2 q2) (h3:oA w a3 n3 f) (f1:∃o fd,cC w.params i=ab o/\o.data=.func fd) (f2:∃o fd,cC w.params N=ab o/\o.data=.func fd) (f3:∃o fd,cC w.params a3=ab o/\o.data=.func fd)
 (g1:jD (cC w.params) x1 (.ref i)) (n:jD (cC w.params) x2 (.ref N)) (g3:jD (cC w.params) x3 (.ref a3)) (d1:(x1==("__debug__":am))=ah) (d2:(x2==("__debug__":am))=ah) (d3:(x3==("__debug__":am))=ah)
 (T:dk (cC w.params) (j8 b) env) (i1:b.lookup x1=ab .globalImplicit) (i2:b.lookup x2=ab .globalImplicit) (i3:b.lookup x3=ab .globalImplicit) (hCd:(C==("__debug__":am))=ah) (hCc:(C==("__classdict__":am))=ah) (O:(X==("__debug__":am))=ah) (hXc:(X==("__classdict__":am))=ah) (k:(ap.endLine==S.line)=ao)
 (l1:(b.map (·.1))[0]?=ab C) (l3:(b.map (·.1))[1]?=ab X) (hlk:env.kindOf X=ab .local) (hnd:(qD<|Y++(n1++(n2++n3))).Nodup) (hz:aa (Y++(n1++(n2++n3)))<=900) (I:kl 64 A M) (h99:939∉aX env) (l:d∉aX env) (h9:d≠939)
 (gd:g.get? d=al) (gw:∀a∈aX env,g.get? a=al) (R:qj w env b V [] [] M K s.heap) (hl:2<=aa V) (hs0:V[0]?=ab (ab<|.ref d)) (D:DS w d (qD Y) ps K [] s.heap) (st:Step [939] G [] g K [] s.heap)
 (L:∀F j m,qj w env b m [] [] M j F.heap->m[0]?=ab (ab<|.ref d)->DS w d (qD<|Y++(n1++(n2++n3))) (ps++(q1++(q2++f))) j [] F.heap->Step [939] G [] g j [] F.heap->aV s F->Q .next F):
 aD (MM w) A (exec (.For (.Name X H) (.Tuple [.Call (.Name x1 p1) [] [] p2,.Call (.Name x2 p3) [] [] p4,.Call (.Name x3 p5) [] [] p6] 0 p7) [.Expr (.Call (.Attribute (.Name C u) "update" ap) [.Name X xp2] [] S) p] [] p8) env) Q E s:=by
 refine afz<|mA ?_
 rw[dD _ env _ (by rfl)];refine spliced_cons<|xT h1 f1 g1 d1 T i1 I h99 R λv1 s₁ K₁ hv1 kk c h=>?_
 refine spliced_cons<|xT h2 f2 n d2 T i2 I h99 kk λv2 t K₂ hv2 v lk U=>?_
 refine spliced_cons<|xT h3 f3 g3 d3 T i3 I h99 v λv3 s₃ qg B Ja y n7=>?_
 refine fC ⟨by rw[bg];simp,?_⟩;have NE:=((D.step c<|by simp[h9]).step lk<|by simp[h9]).step y<|by simp[h9]
 refine gG (qu Ja.iv<|b7 (fv (lk.trans y) hv1)<|b7 (fv y hv2)<|b7 B eu) λj xZ z hv'=>?_;have qP:qj w env b V [] [] M j (s₃.heap.push {cls:=.type "tuple",data:=.seq [v1,v2,v3].toArray}):=⟨xZ,dw _ _ _ _ _ _ Ja.fr (z []),Ja.tt.step (z [])<|by simp⟩;have ND:=NE.step (z [])<|by simp
 have St:=((st.trans c).trans<|lk.trans y).trans<|z [939]
 generalize hsh:(s₃.heap.push {cls:=.type "tuple",data:=.seq [v1,v2,v3].toArray})=h4 at qP ND St xZ hv';refine v7 xZ hv' rfl λfp P J o hw ci hfr=>?_;have r:=Ab h4 o;have QV:=St.none<|bW _
 have hI:h4.objs.size∉aX env:=λq=>by refine bd (i9 qP.fr q) λoa x=>?_;rw[bW] at x;exact aC x
 have hI9:h4.objs.size≠939:=λq=>by refine iZ qP.tt λ_ _ yR=>aH yR λpz ez _=>?_;rw[<-q,bW] at ez;exact aC ez
 have hId:h4.objs.size≠d:=λq=>by refine aH (kN ND) λod ed _=>?_;rw[<-q,bW] at ed;exact aC ed
 have Gx:qj w env b V [] [] M j (h4.push o):=⟨xZ.keep r,dw _ _ _ _ _ _ qP.fr r.step,qP.tt.step (r.step (W:=[]))<|by simp⟩;refine OA (lP:=[(n1,q1),(n2,q2),(n3,f)]) (G:=G) (g:=g) T hCd hCc O hXc k l1 l3 hlk (by simpa[xt] using hnd) (by simpa[xt] using hz) hw I l h9 h99 hI hI9 hId (λa ha' q=>?_) gd QV gw Gx hl hs0 (ND.step (r.step (W:=[]))<|by simp) ci (St.trans<|r.step (W:=[939])) λF Jc m Gw e6 aja e yH=>?_
 ·refine bd (i9 qP.fr q) λoa x=>?_;rcases ci.2.2.2.1 a ha' with rfl|⟨o',Z,_⟩
  ·exact hI q
  ·rw[qP.fr.Ka q] at Z;exact aC Z
 ·exact L F Jc m Gw e6 (by simpa[xt] using aja) e<|h.trans<|U.trans<|n7.trans<|js ⟨rfl,rfl⟩ yH
end
theorem rV:cG.take 19++((cG.drop 19).take 6++((cG.drop 25).take 2++cG.drop 27))=cG:=rfl
theorem H9:d5.take 19++((d5.drop 19).take 6++((d5.drop 25).take 2++d5.drop 27))=d5:=rfl
abbrev R8:List (am×fZ):=(bF 161).2.2.names
theorem MK {K:aN} (R:qj w Z b V [] [] M K h) (D:DS w d (qD Y) y K [] h) (gd:g.get? d=al) (l:d∉aX Z) (e:d≠939) (st:Step [939] G [] g K [] h):
 ∃j,VR j [] (.dct Y y) (.ref d)/\qj w Z b V [] [] M j h/\Step [939] G [] g j [] h:=by
 have B:d≠1:=by rintro rfl;have:=R.iv.stat 1 _ (by kernel_rfl:cC w.params 1=ab (V2 w.params));rw[show K 1=al from D.kd] at this;exact aC this
 refine gG (D.freeze R.iv R.iv.par B) λo L P f=>?_;have kle:∀a o',K a=ab o'->gc K d o a=ab o':=λa o' q=>by refine ag (db<|by rintro rfl;rw[D.kd] at q;exact aC q) ?_;exact q
 refine iZ R.tt λu v S=>aH S λz c i=>?_;exact⟨gc K d o,f,⟨P,R.fr.Qa rfl kle λa O=>by exact ag (db λq=>l<|q▸O)<|R.fr.Ka O,⟨by exact ag (db<|jm e)<|u,v,z,c,i⟩⟩,st.gc gd D.kd⟩
theorem He (o:lG w) {K:aN} (I:kl 70 A M) (iv:Inv (cC w.params) K [] [] M s.heap) (tt:TT K [] s.heap)
 (L:∀r F j,VR j [] (.dct cG d5) r->Step [939] K [] s.heap j [] F.heap->Inv (cC w.params) j [] [] M F.heap->TT j [] F.heap->aV s F->Q r F):aD (MM w) A (call (.ref 986) [] []) Q E s:=by
 refine jP (ZN _) (jI _) I iv eu rfl (zQ (ZN _) (by decide+kernel) rfl iv) λZ B k T P m c G W h x=>?_;have X:=akt tt m;have g:qj w Z R8 _ [] [] (Z::M) k B.heap:=⟨G,W,tt.step c<|by simp⟩;have N:=P.mono<|show 64<=69 by exact cg _ _
 refine Vy▸?_;refine ak<|rD<|Vi (Th o) (fnK<|adV w.params) (ZA _) (by decide) T rfl rfl N X (by have:=uY 0 19;exact this) (by decide+kernel) g λd t C D₂ fd l e oz D U=>?_
 have gd:=c.none fd;refine aZ (kS (i:=0) (p:=.ref d) T.fe (show(R8.map (·.1))[0]?=ab ("found":am) from by kernel_rfl) T.nd (by refine(ae x)▸?_;decide+kernel) (.inl<|T.lc _ (by kernel_rfl)) (g9 Z) oz.iv ⟨oz.fr,show _=_ from rfl⟩) (λ_ R X7=>vh X7 λy S O Y=>?_) λ_ _ (z:False)=>z.elim;have f:qj w Z R8 ((fw (aa R8) []).set 0<|ab<|.ref d) [] [] (Z::M) C R.heap:=⟨S,O,oz.tt.step y X⟩;have NE:=D₂.step y l;have aao:Step [939] K [] s.heap C [] R.heap:=((c.mono<|by simp).trans D).hide y λa q=>.inr<|m a q
 refine ak (SZ (LK o) (R1 o) (Tr o) (fnK<|adX w.params) (fnK<|adW w.params) (fnK<|adY w.params) (QY _) (UP _) (ZB _) (by decide) (by decide) (by decide) T (by kernel_rfl) (by kernel_rfl) (by kernel_rfl) (by decide) (by decide) (by decide) (by decide) rfl (by kernel_rfl) (by kernel_rfl) (T.lc _ (by kernel_rfl))
  (by refine(ae rV)▸?_;exact Fj) (by refine(ae rV)▸?_;decide+kernel) N X l e gd m f (by(refine(ae d6)▸?_;refine(ae x)▸?_);decide+kernel) (cH<|by refine(ae x)▸?_;decide+kernel) NE aao λV u σ₄ qP e4 J b n=>?_)
 rw[rV,H9] at J;refine ak (gM (gF T.fe (by decide) (by decide) (show(R8.map (·.1))[0]?=ab ("found":am) from by kernel_rfl) e4 qP.fr λv hv=>?_));replace hv:_=_:=hv;subst hv;refine gG (MK qP J gd l e b) λJd adm Gx H=>?_;exact ar<|L _ V Jd adm H Gx.iv.pop Gx.tt (h.trans<|U.trans<|Y.trans n)
abbrev Bl (x:List Nat):PyData:=.tuple [.str ⟨af Kc⟩,.str ⟨af x⟩,.tuple []]
theorem Hx {K:aN} (f:VR K O (fb x) v) (sub:∀a o,K a=ab o->h.get? a=ab o):∃a as,v=.ref a/\Reads h (.ref a) (Bl x) as:=by
 unfold fb at f;obtain⟨a,o,n,U,rfl,Y,P,g,d⟩:=f;refine cL d ?_;clear d;intro y s S J Z;subst S;refine cL Z ?_;clear Z;intro e A H W L;subst H;refine cL L ?_;clear L;intro q T z E M;subst z;subst M;refine bd J ?_;clear J;intro t S;subst S;refine bd W ?_;clear W;intro u S;subst S;obtain⟨b,ob,m,I,rfl,V,i,j,c⟩:=E;replace c:_=_:=c;subst c;have X:Reads h (.ref b) (.tuple []) []:=.tuple (sub _ _ V) i j .nil;have Q:=Af (agB ⟨af Kc⟩ t)<|Af (agB ⟨af x⟩ u)<|Af X ReadsAll.nil
 exact⟨a,_,rfl,Reads.tuple (sub _ _ Y) P g Q⟩
theorem aab:(bF 27).2.1=[.Return (ab (.Tuple [.Call (.Name "kind_text" ⟨99,12,99,21⟩) [.Name "kind" ⟨99,22,99,26⟩] [] ⟨99,12,99,27⟩,.Call (.Name "written_kind" ⟨99,29,99,41⟩) [.Name "kind" ⟨99,42,99,46⟩,.Constant (.bool ao) 0 ⟨99,48,99,52⟩] [] ⟨99,29,99,53⟩,
 .Call (.Name "repr" ⟨99,55,99,59⟩) [.Name "kind" ⟨99,60,99,64⟩] [] ⟨99,55,99,65⟩] 0 ⟨99,11,99,66⟩)) ⟨99,4,99,66⟩]:=rfl
theorem ad0 (P):FnAt (cC P) 190 (bF 27).1 (bF 27).2.1 (bF 27).2.2 []:=mc rfl
theorem ZD (P):jD (cC P) "repr" (.builtin "repr"):=zp rfl rfl
section
variable {K:aN}
theorem W7 (e):bI w (cC w.params) 5 CC e:=(jL rfl CB iW e).1.1
def tD (K:aN) (O:List bk) (r:Value):Prop:=∃a b c,VR K O (.tup [.str a,.str b,.str c]) r
theorem Zc {x a b:List Nat} (I:kl 20 A M) (N:Inv (cC w.params) K μ H M s.heap) (f:VR K μ (fb x) v) (V:(Bl x).shown.length<=i5)
 (e1:CC 183 [fb x] H=.ok (.str a) H) (e2:CC 176 [fb x,.bool ao] H=.ok (.str b) H)
 (L:∀r F j,tD j μ r->Step [] K μ s.heap j μ F.heap->Inv (cC w.params) j μ H M F.heap->aV s F->Q r F):aD (MM w) A (call (.ref 190) [v] []) Q E s:=by
 refine jP (ad0 _) (jI _) I N (b7 f eu) rfl (zQ (ad0 _) (by decide+kernel) rfl N) λZ B K₁ T P hfw c G W h hfl=>aab▸?_;refine ak<|gM<|mA ?_
 rw[dD _ Z _ (by rfl)]
 have he1:bo CC (bQ (j8 (bF 27).2.2.names) ah<|.Call (.Name "kind_text" ⟨99,12,99,21⟩) [.Name "kind" ⟨99,22,99,26⟩] [] ⟨99,12,99,27⟩) (fw (bF 27).2.2.names.length [fb x]) H=.ok (.str a) H:=by refine(show bQ (j8 (bF 27).2.2.names) ah (.Call (.Name "kind_text" ⟨99,12,99,21⟩) [.Name "kind" ⟨99,22,99,26⟩] [] ⟨99,12,99,27⟩)=.az 183 [.loc 0] from by kernel_rfl)▸?_;exact e1
 have d:bo CC (bQ (j8 (bF 27).2.2.names) ah<|.Call (.Name "written_kind" ⟨99,29,99,41⟩) [.Name "kind" ⟨99,42,99,46⟩,.Constant (.bool ao) 0 ⟨99,48,99,52⟩] [] ⟨99,29,99,53⟩) (fw (bF 27).2.2.names.length [fb x]) H=.ok (.str b) H:=by refine(show bQ (j8 (bF 27).2.2.names) ah (.Call (.Name "written_kind" ⟨99,29,99,41⟩) [.Name "kind" ⟨99,42,99,46⟩,.Constant (.bool ao) 0 ⟨99,48,99,52⟩] [] ⟨99,29,99,53⟩)=.az 176 [.loc 0,.const<|.bool ao] from by kernel_rfl)▸?_;exact e2
 refine spliced_cons<|evG T (W7 _) (P.mono<|cg _ _) G W he1 λv1 s₂ C X u5 p0 D U=>?_
 refine spliced_cons<|evG T (W7 _) (P.mono<|cg _ _) u5 p0 d λv2 R qg hv2 S O y Y=>?_
 refine spliced_cons ?_;dsimp only
 (refine kI (dN ..) ?_;rw[dD _ Z _ (by rfl)])
 refine ak<|ij T.fe (by decide) (T.gi _ rfl) S (ZD _) ?_
 refine im<|spliced_cons<|gF (i:=0) T.fe (by decide) (by decide) rfl rfl O λu hu=>fC ⟨.inl ⟨_,rfl⟩,?_⟩
 refine iB (Hx hu λa o q=>S.sub _ _ q) λau J yR p=>?_;subst yR;refine repr_of_reads' p (by rfl) (λq=>by cases q) P.gd ?_ (λ_ _ e=>e) (λh' t tk hk=>fC ⟨by refine bg▸?_;simp,?_⟩) V
 ·have:=P.un;have g:(Bl x).depth=2:=rfl;exact cP<|bj [(A.deeper Z).units,yk,(Bl x).depth] [] [(1,xi<|.a (.a aJ<|.m 10<|.n 19)<|.n 20,bf),(1,ct,.n 2),(1,xi bf,xi<|.a aJ<|xi ct)] rfl (cl this)<|cl<|an g
 have kp:de R.heap h':=.of_keeps hk;have k:=S.keep kp;have o5:Step [] qg μ R.heap qg μ h':=kp.step;refine gG (qu (s:={R with heap:=h',toks:=tk}) (l:=[.str a,.str b,.str (Bl x).shown.cps.toList]) k<|b7 (fv (y.trans o5) X)<|b7 (fv o5 hv2)<|b7 (by exact⟨t,by rw[JD]⟩) eu) λj xZ z hv'=>?_;refine ar<|L _ _ j ⟨_,_,_,hv'⟩ ((c.trans<|D.trans<|y.trans o5).trans<|z _) xZ.pop (h.trans<|U.trans<|Y.trans ⟨rfl,rfl⟩)
end
theorem kl.in1 (x:kl (n+1) A fs):kl n A.in1 fs:=
 ⟨x.hd,by have:=x.dp;show A.depth+n<_;exact cP<|bj [A.depth,n,nh] [] [(1,xi<|.a aJ<|xi bf,ct),(1,xi ct,xi<|.a aJ bf)] rfl<|cl this,by have:=x.un;show A.units+1+10*n+20<_;exact cP<|bj [A.units,n,yk] [] [(1,xi<|.a (.a aJ<|.m 10<|xi bf)<|.n 20,ct),(1,xi ct,xi<|.a (.a (xi aJ)<|.m 10 bf)<|.n 20)] rfl<|cl this,x.fr,x.gd⟩
noncomputable def pD (n:Nat):KasT u->Bool
 |.ret _=>ao
 |.ask i j k=>decide (i<n)&&decide (j<n)&&pD n (k ao)&&pD n (k ah)
theorem CR {I:bh->Prop} (P:∀i j s C,i<n->j<n->I s->(∀b F,I F->C b F)->cmp i j C s):∀(t:KasT u) (s) (Q:u->bh->Prop),pD n t=ao->I s->(∀a F,I F->Q a F)->t.kasWp cmp Q s
 |.ret a,s,Q,_,h,L=>L a s h
 |.ask i j k,s,Q,Z,h,L=>by
  have J:=hO Z;have W:=hO J.1;have E:=hO W.1;refine P i j s _ (of_decide_eq_true E.1) (of_decide_eq_true E.2) h λb F G=>?_
  induction b with
  |true=>exact CR P (k ao) F Q W.2 G L
  |false=>exact CR P (k ah) F Q J.2 G L
theorem afk:pD 2 (wz 2)=true:=rfl
theorem afj:pD 3 (wz 3)=true:=rfl
structure SO (P:cF) (gH:aN) (μ:List bk) (H:Hp) (fs:List lV) (g:eG) (K:aN) (h:eG):Prop where
 iv:Inv (cC P) K μ H fs h
 st:Step [] gH μ g K μ h
structure yh (μ:List bk) (g:eG) (d:bk) (xs:Array Value) (K:aN) (h:eG):Prop where
 gd:g.get? d=al
 kd:K d=al
 md:d∉μ
 at_:∃n,h.get? d=ab (ng "list" xs n)
section
variable {w:dG} {gH K:aN}
theorem CN:¬b4 (ng "list" xs n):=λf=>absurd (show mV "list"=.type "frame" from f.1)<|by decide
theorem SO.push (x:SO w.params gH O H M g K h) (o):SO w.params gH O H M g K (h.push o):=⟨x.iv.keep<|Ab h o,x.st.trans (Ab h o).step⟩
theorem SO.upd (x:SO w.params gH O H M g K h) (o:yh O g d xs K h) (f):SO w.params gH O H M g K (h.update d<|fN f)/\yh O g d (f xs) K (h.update d<|fN f):=by
 refine bd o.at_ λn L=>?_;have G:=ds h d<|fN f
 have B:=get?_update_seq L f;refine⟨⟨x.iv.HF o.kd o.md G λu e fo=>?_,x.st.hide (jt (W:=[d]) G (by simp) ⟨_,B⟩) λa q=>.inr<|by rw[aU] at q;subst q;exact o.gd⟩,o.gd,o.kd,o.md,_,B⟩;rw[L] at e;obtain rfl:=ai e;exact absurd fo CN
theorem yh.step (o:yh μ g d xs K h) (st:Step [] K μ h j μ h'):yh μ g d xs j h':=by exact bd o.at_ λn L=>⟨o.gd,st.ls o.kd L,o.md,n,st.same L o.md (by simp) CN⟩
theorem yh.keep (o:yh O g d xs K h) (e:h'.get? d=h.get? d):yh O g d xs K h':=⟨o.gd,o.kd,o.md,by exact e▸o.at_⟩
theorem SO.fresh (x:SO w.params gH μ H M g K h) (e:h.get? d=al):g.get? d=al/\K d=al/\d∉μ:=⟨x.st.none e,x.iv.cN e,x.iv.dY e⟩
theorem HZ (B:∀r,C r s):aD (MM w) A (oneLt' c (.str a t)<|.str b u) C E s:=by
 induction c with
 |true=>exact oneLt_str<|B _
 |false=>exact kat_one _ _ (PySem.P.lt_str<|B _)
theorem Zd (sub:∀a o,K a=ab o->s.heap.get? a=ab o) (J:tD K O r) (W:tD K O q) (B:∀b,C b s):aD (MM w) A (keyLt' (tuples' ao) r q) C E s:=by refine Dl J ?_;clear J;intro Y I c1 J;refine Dl W ?_;clear W;intro N Q c2 W;obtain⟨x,D,n,U,rfl,l,_,i,p⟩:=J;obtain⟨y,F,m,f,rfl,t,_,k,j⟩:=W;refine cL p ?_;clear p;intro _ _ S Z L;subst S;refine bd Z ?_;clear Z;intro t1 H;subst H;refine cL L ?_;clear L;intro _ _ z M G;subst z;refine bd M ?_;clear M;intro t2 R;subst R;refine cL G ?_;clear G;intro _ _ v u h;subst v;refine bd u ?_;clear u;intro t3 g;subst g;subst h;refine cL j ?_;clear j;intro _ _ S Z L;subst S;refine bd Z ?_;clear Z;intro d H;subst H;refine cL L ?_;clear L;intro _ _ z M G;subst z;refine bd M ?_;clear M;intro c R;subst R;refine cL G ?_;clear G;intro _ _ v u h;subst v;refine bd u ?_;clear u;intro e g;subst g;subst h;refine kat_lt (sub _ _ l) i (sub _ _ t) k ?_;show KatLex _ _ _ _ _ _ [(.str _ t1,.str _ d),(.str _ t2,.str _ c),(.str _ t3,.str _ e)] 0 s;refine kat_cons<|DM<|kat_go (λ_=>kat_yes<|kat_cons<|DM<|kat_go (λ_=>kat_yes<|kat_cons<|DM<|kat_go (λ_=>kat_yes<|kat_nil<|B _) λ_=>kat_no<|HZ B) λ_=>kat_no<|HZ B) λ_=>kat_no<|HZ B
end
section
variable {gH K:aN}
theorem JK (sub:∀a o,K a=ab o->h.get? a=ab o):∀{j},(∀r∈j,tD K O r)->∃M,aa M=aa j/\KatTups h j M/\∀v∈M,∃x t,v=.str x t
 |[],_=>⟨[],rfl,trivial,λ_ h=>absurd h aY⟩
 |r::j,z=>by
  refine gG (JK sub (j:=j) λq L=>z q<|by simp[L]) λM C X G=>Dl (z r<|by simp) λa b c d=>?_;obtain⟨x,D,n,U,rfl,l,Y,i,p⟩:=d;refine cL p ?_;clear p;intro _ _ S Z _;subst S;refine bd Z ?_;clear Z;intro t H;subst H
  exact⟨.str ⟨af a⟩ t::M,by simp[C],KatTups.cons (sub _ _ l) Y i rfl X,λv hv=>by
   rcases aL.mp hv with rfl|hv
   ·exact⟨_,_,rfl⟩
   ·exact G v hv⟩
theorem Tj {st:SortSt} (a:(arrOf st).map (·.2)=af J) (N:aa J<64) (f:aa j<64) (Y:failedOf st=al) (x:SO w.params gH O H M g K s.heap) (e:yh O g d (af j) K s.heap) (l:yh O g D #[] K s.heap)
 (R:s.heap.get? D=ab (ng "list" #[] m)) (X:D≠d) (L:∀F,SO w.params gH O H M g K F.heap->yh O g D (af J) K F.heap->aV s F->P (.done<|.ret .none) F):
 aD (MM w) A (ksk_tail D ah m (.ref d) st) P E s:=by
 refine bd e.at_ λn z=>?_;unfold ksk_tail
 try dsimp only
 refine a▸?_;simp only[bO,if_false];refine bC (x.upd e λ_=>#[]) λc r=>ak<|yj z rfl ?_ (by(refine aR▸?_;refine bg▸?_);exact aM (eS<|by assumption)<|by decide) (hH _)
 refine ak<|wpAny_letGo ?_
 have b:=ag (gL s.heap D d (fN λ_=>(#[]:Array Value)) X) R;refine fX (λ_ _ h=>seqEpoch_at b rfl h)<|ak<|yj b rfl ?_ (hH _) (by show(af J).size<=_;(refine aR▸bg▸?_);exact aM (eS<|by assumption)<|by decide)
 refine bC (c.upd (l.keep<|gL s.heap D d (fN λ_=>(#[]:Array Value)) X) λ_=>af J) λp o=>?_;refine Y▸?_;simp only[bne_self_eq_false,bO,if_false];exact ar<|L _ p o ⟨rfl,rfl⟩
theorem ZU {U ks:List Value} (hl:aa ks=aa U) (W:2<=aa U) (h64:aa U<64) (aia:pD (aa U) (wz<|aa U)=ao) (hk:∀r∈ks,tD K O r) (x:SO w.params gH O H M g K s.heap) (e:yh O g d (af ks) K s.heap) (l:yh O g D #[] K s.heap)
 (R:s.heap.get? D=ab (ng "list" #[] m)) (X:D≠d) (L:∀F J,SO w.params gH O H M g K F.heap->yh O g D (af J) K F.heap->aa J<64->aV s F->P (.done<|.ret .none) F):
 aD (MM w) A (ksk_end D ah (af U) m (.ref d)<|af ks) P E s:=by
 have sub:∀a o,K a=ab o->s.heap.get? a=ab o:=λa o q=>x.iv.sub _ _ q;have c:¬U.toArray.size<2:=by exact aR▸λq0=>bj [aa U] [] [(1,.n 2,aJ),(1,xi aJ,.n 2)] rfl (cl W)<|cl q0
 refine gG (JK sub hk) λZ hfl ht hstr=>?_;unfold ksk_end
 try dsimp only
 simp only[bO,if_false]
 (refine kI (if_neg c) ?_;refine(if_neg c)▸?_)
 refine ak<|kat_kind (T:=.type "str") ht (by exact cP<|bj [aa U,aa ks,aa Z] [] [(1,aJ,bf),(1,.n 2,aJ),(1,bf,ct),(1,xi ct,xi ef)] rfl (cl<|an<|ae hl) (cl W)<|cl<|an<|ae hfl) (λv f=>?_) (by decide) ?_
 ·refine kY (hstr v f) λy t S=>?_;subst S;exact m4 rfl
 refine(show(mV "str"!=mV "tuple")=ao from by decide)▸?_;refine ak<|aZ (kat_run (Q:=λz F=>F=s/\∃p:Array Nat,p.size=aa U/\arrOf z=p.map (kas_item<|ks.toArray.zip<|af U)/\failedOf z=al) hl W h64 (λp z F a1 N h k=>⟨k,p,a1,N,h⟩) ?_) ?_ λ_ _ y=>y
 ·refine CR (I:=λF=>F=s) (λi j F C hi hj G B=>?_) _ s _ aia rfl λ_ _ y=>y;subst G;show aD (MM w) A (keyLt' _ _ _) _ _ _
  have V:∀i,i<aa U->tD K O (ks.getD i f7):=λi hi=>by
   have:i<aa ks:=by exact cP<|bj [aa U,aa ks,i] [] [(1,aJ,bf),(1,xi ct,aJ),(1,xi bf,xi ct)] rfl (cl<|an<|ae hl)<|cl hi
   (refine(ae ev)▸?_;refine(ae<|aO this)▸?_)
   exact hk _ (hK this)
  exact Zd sub (V i hi) (V j hj) λb=>B b F rfl
 ·rintro ⟨⟨⟩,z⟩ F ⟨rfl,p,hp,har,Y⟩
  try dsimp only
  have hsn:=kat_snds hl har;exact Tj hsn (by(refine(ae (aB ..))▸?_;refine(ae uw)▸?_;refine(ae hp)▸?_);exact h64) (by exact cP<|bj [aa ks,aa U] [] [(1,aJ,bf),(1,xi bf,.n 64),(1,xi<|.n 64,xi aJ)] rfl (cl<|an hl)<|cl h64) Y x e l R X λs'' x' u so=>L s'' _ x' u (by(refine(ae (aB ..))▸?_;refine(ae uw)▸?_;refine(ae hp)▸?_);exact h64) so
end
def pH (H:Hp) (x:List Nat):Prop:=(Bl x).shown.length<=i5/\(∃a,CC 183 [fb x] H=.ok (.str a) H)/\∃b,CC 176 [fb x,.bool ao] H=.ok (.str b) H
def zW (H:Hp) (K:aN) (O:List bk) (v:Value):Prop:=∃x,pH H x/\VR K O (fb x) v
section
variable {gH K:aN}
theorem Mn (I:kl 20 A M) (X:D≠d)
 (hb:∀(x:Value) (s:bh) (C:ForInStep PUnit->bh->Prop),aD (MM w) A (call (.ref 190) [x] []) (λk F=>aD (MM w) A (agS (.ref d) (·.push k)) (λ_ s''=>C (.yield ⟨⟩) s'') E F) (λ_ _=>False) s->aD (MM w) A (body x ⟨⟩) C E s):
 ∀(r:List Value),∀(j) (K) (s) (Q:PUnit->bh->Prop),aa j+aa r<64->(∀v∈r,zW H K O v)->(∀q∈j,tD K O q)->SO w.params gH O H M g K s.heap->yh O g d (af j) K s.heap->yh O g D #[] K s.heap->s.heap.get? D=ab (ng "list" #[] m)->
  (∀F K' p,aa p=aa j+aa r->(∀q∈p,tD K' O q)->SO w.params gH O H M g K' F.heap->yh O g d (af p) K' F.heap->yh O g D #[] K' F.heap->F.heap.get? D=ab (ng "list" #[] m)->aV s F->Q ⟨⟩ F)->
  aD (MM w) A (forIn r k4 body) Q E s:=by
 intro r
 induction r with
 |nil=>intro j K s Q _ _ hk x e l R L;exact kI XD<|ar<|L s K j (by simp) hk x e l R<|.refl s
 |cons v r ih=>
  intro j K s Q N f hk x e l R L;refine kI (cA ..) ?_;rw[bL] at N;refine aH (f v<|by simp) λy S hy=>iZ S λV Z rc3=>?_;refine bd Z λa ea=>bd rc3 λb J=>?_;refine ak<|hb v s _ (Zc I x.iv hy V ea J λk B K₁ T dL G gu=>?_)
  have x₁:SO w.params gH O H M g K₁ B.heap:=⟨G,x.st.trans dL⟩;have WE:=e.step dL;have acD:=l.step dL;have adE:=dL.same R l.md (by simp) CN;refine bd WE.at_ λn hn=>yj hn rfl ?_ (by(refine aR▸?_;refine bg▸?_);exact cP<|bj [aa j,aa r] [] [(1,xi<|.a aJ<|xi bf,.n 64),(1,xi<|.n 16777216,aJ)] rfl<|cl N) (aM (an (Array.size_push ..))<|by(refine aR▸bg▸?_);exact cP<|bj [aa j,aa r] [] [(1,xi<|.a aJ<|xi bf,.n 64),(1,xi<|xi<|.n 16777216,xi aJ)] rfl<|cl N);refine bC (x₁.upd WE (·.push k)) λx₂ WD=>?_;rw[show(af j).push k=af (j++[k]) by simp] at WD;have i:=gL B.heap D d (fN (·.push k)) X;have stepK:∀q,tD K O q->tD K₁ O q:=λq X5=>Dl X5 λa b c h=>⟨a,b,c,fv dL h⟩;refine ih (j++[k]) K₁ {B with heap:=B.heap.update d (fN (·.push k))} Q (by simp;exact cP<|bj [aa j,aa r] [] [(1,xi<|.a aJ<|xi bf,.n 64),(1,xi<|.n 64,xi<|.a (xi aJ) bf)] rfl<|cl N) (λu hu=>?_) (λq hq'=>?_) x₂ WD (acD.keep i) (ag i adE) λF K' p hl t Y oS' oD' o P=>?_
  ·exact aH (f u<|by simp[hu]) λz U W=>⟨z,U,fv dL W⟩
  ·rcases eB.mp hq' with hq'|hq'
   ·exact stepK q<|hk q hq'
   ·simp at hq';subst hq';exact T
  ·exact L F K' p (by refine ag hl ?_;simp;exact cf (cP<|bj [aa j,aa r] [] [(1,xi<|.a aJ<|xi bf,.a (xi aJ) bf)] rfl)<|cP<|bj [aa j,aa r] [] [(1,xi<|.a (xi aJ) bf,.a aJ<|xi bf)] rfl) t Y oS' oD' o<|gu.trans<|js ⟨rfl,rfl⟩ P
theorem TA {U:List Value} (I:kl 20 A M) (W:2<=aa U) (b:aa U<64) (i:pD (aa U) (wz<|aa U)=ao) (f:∀v∈U,zW H K O v) (x:SO w.params gH O H M g K s.heap) (oS:yh O g d #[] K s.heap) (l:yh O g D #[] K s.heap)
 (R:s.heap.get? D=ab (ng "list" #[] m)) (X:D≠d) (L:∀F j J,SO w.params gH O H M g j F.heap->yh O g D (af J) j F.heap->aa J<64->aV s F->P (.done<|.ret .none) F):
 aD (MM w) A (ksk_rest D (.ref 190) ah (af U) m<|.ref d) P E s:=by
 unfold ksk_rest;refine fX (λ_ _ h=>mm h) ?_
 first
  |rw[List.forIn_toArray]
  |(rw[<-NZ];simp only[List.toList_toArray])
  |rw[<-NZ]
 refine ak<|Mn I X (λy F C T=>?_) U [] K s _ (by simpa using b) f (λ_ h=>absurd h aY) x oS l R λF j p S t Y a q o Z=>?_
 ·refine ak<|wpAny_attempt<|aZ T (λk c V=>ak<|aZ V (λ_ _ h=>ar h) λ_ _ z=>z) λe c r=>r.elim
 ·try dsimp only
  exact bd a.at_ λn B=>fX (λ_ _ h=>listItems_at B rfl h)<|ZU (by simpa using S) W b i t Y a q o X λc J Q G N u=>L c j J Q G N<|Z.trans u
theorem Tc {U:List Value} (I:kl 20 A M) (W:2<=aa U) (b:aa U<64) (i:pD (aa U) (wz<|aa U)=ao) (f:∀v∈U,zW H K O v) (x:SO w.params gH O H M g K s.heap) (l:yh O g D (af U) K s.heap)
 (Y:∀F j J,SO w.params gH O H M g j F.heap->yh O g D (af J) j F.heap->aa J<64->aV s F->P (.done<|.ret .none) F):
 aD (MM w) A (ksk_tree D (.ref 190) ah) P E s:=by
 refine bd l.at_ λn L=>bC (x.upd l λ_=>#[]) λc r=>bd (id r.at_) λm a=>?_;unfold ksk_tree;refine fX (λ_ _ h=>listItems_at L rfl h)<|ak<|yj L rfl ?_ (by(refine aR▸?_;refine bg▸?_);exact aM (eS<|by assumption)<|by decide) (hH _)
 refine fX (λ_ _ h=>seqEpoch_at a rfl h)<|ak<|ajc ?_ (by show aa U<=_;exact bg▸aM (eS<|by assumption) (by decide))
 refine ak<|yi ?_ (hH _)
 refine a8 ?_;have p:=c.push {cls:=.type "tuple",data:=.seq (af U).toList.toArray};have k:=p.push {cls:=.type "list",data:=.seq (af ([]:List Value))};have z:=aQ {cls:=.type "list",data:=.seq (af ([]:List Value))}<|aQ {cls:=.type "tuple",data:=.seq (af U).toList.toArray} a
 refine iZ (p.fresh<|bW _) λZ T d=>?_;refine TA I W b i f k ⟨Z,T,d,0,b5 _ rfl⟩ ⟨r.gd,r.kd,r.md,m,z⟩ z (eR<|dS<|aQ {cls:=.type "tuple",data:=.seq (af U).toList.toArray} a) Y
end
section
variable {gH K:aN}
theorem LF {U:List Value} (I:kl 22 A M) (C:s.heap.IsList l (af U)) (W:2<=aa U) (b:aa U<64) (i:pD (aa U) (wz<|aa U)=ao) (f:∀v∈U,zW H K O v) (x:SO w.params gH O H M g K s.heap)
 (L:∀F j D J,SO w.params gH O H M g j F.heap->yh O g D (af J) j F.heap->aa J<64->aV s F->Q (.ref D) F):
 aD (MM w) A (call (.builtin "sorted") [.ref l] [(fk "key",.ref 190)]) Q E s:=by
 refine call_function_entry_kw kind_sorted plain_sorted entry_sorted (ksk_s1 _ _) ?_;unfold lW.«sorted»;refine ak<|ar ?_
 refine ak<|collect_list C ?_ (by refine bg▸?_;exact aM (eS<|by assumption)<|by decide)
 refine ak<|yi ?_ (by refine bg▸?_;exact aM (eS<|by assumption)<|by decide)
 have V:((s.heap.push<|ng "list" #[] 0).update s.heap.objs.size (fN (· ++af U))).objs.size=s.heap.objs.size+1:=by(refine ag (Heap.size_update ..) ?_;rw[size_push'])
 have e:(((s.heap.push<|ng "list" #[] 0).update s.heap.objs.size (fN (· ++af U))).push<|ng "list" (af U) 0).get? (s.heap.objs.size+1)=ab (ng "list" (af U) 0):=by exact(V)▸b5 _ rfl
 refine iZ (x.fresh<|bW s.heap) λX T d=>?_;have c:=x.push<|ng "list" #[] 0
 refine bC (c.upd ⟨X,T,d,0,b5 _ rfl⟩ (· ++af U)) λp o=>?_;have h:((s.heap.push<|ng "list" #[] 0).update s.heap.objs.size (fN (· ++af U))).get? (s.heap.objs.size+1)=none:=by exact(V)▸bW _
 refine iZ (p.fresh h) λZ n a=>?_;have k:=p.push<|ng "list" (af U) 0
 show aD _ _ _ _ _ {s with heap:=((s.heap.push<|ng "list" #[] 0).update s.heap.objs.size (fN (· ++af U))).push (ng "list" (af U) 0)};refine V▸?_;refine ak<|a8<|wpAny_call_entry_kw slot_list_sort ⟨_,e,rfl⟩ entry_list_sort ?body<|ksk_l1 _ _
 case body=>show aD (MM w) A.in1.in1 (lW.«list.sort» ⟨[.ref<|s.heap.objs.size+1],[(fk "key",.ref 190)]⟩) _ _ _;refine kI (ksk_t1 ..)<|Tc I.in1.in1 W b i f k ⟨Z,n,a,0,e⟩ λF j J Y u N P=>⟨_,rfl,ar ⟨_,rfl,L F j _ J Y u N (js ⟨rfl,rfl⟩ P)⟩⟩
end
set_option backward.match.sparseCases true in
theorem wf (Z):∀l r,kc (l++r) Z=(kc l Z>>=λf=>match f with|.next=>kc r Z|f=>pure f:jE D1)
 |[],r=>by show kc r Z=(pure lL>>=_);rw[pure_bind]
 |s::l,r=>by show(exec s Z>>=λf=>match f with|.next=>kc (l++r) Z|f=>pure f:jE D1)=((exec s Z>>=λf=>match f with|.next=>kc l Z|f=>pure f)>>=_);rw[bind_assoc];congr 1;funext f;cases f<;>first|exact wf Z l r|rw[pure_bind]
theorem zc:∀(f) (j:List (List Nat)),f.mapM u3=ab j->f=j.map fb
 |[],j,h=>by refine((ai h))▸?_;rfl
 |p::f,j,h=>by
  rw[BX] at h;refine aH (bind_some h) λa I h=>aH (bind_some h) λb R h=>?_
  (refine((ai h))▸bu▸((zc f b R))▸?_;rw[<-Az I])
theorem Am {x:bN×Hp×List PV} (h:uD l=ab x):fR fW fW (lZ wj J2) (fw (bF 20).2.2.names.length [.lst l]) []=.ok (.next,x.1) x.2.1/\
 jW fW (bQ wj ah wO) x.1 (bo fW (bQ wj ah wO) x.1) x.2.1=.ok ah [[],x.2.2]/\x.1[2]?=ab (ab<|.dR 1)/\(x.2.2=[fb gt,fb dW]\/x.2.2=[fb gt,fb wq,fb dW]):=by
 refine aH (bind_some h) λa m h=>aH (bind_some h) λf i h=>bC (cK h) λP h=>?_;have q:=(bt _ _).mp P;refine((ai h))▸?_;refine⟨YR m,YS i,?_,?_⟩
 ·exact aH (bind_some<|of_decide_eq_true q.1) λo C h=>aH (bind_some h) λp F h=>ag C<|by(refine F▸?_;rw[yY h])
 ·cases em:f.mapM u3 with
  |none=>have c:=q.2;unfold CP at c;rw[em] at c;exact kh c
  |some j=>have Y:=zc f j em;have c:=q.2;unfold CP at c;rw[em] at c;refine((gE _ _).mp c).elim (λh=>.inl ?_) λh=>.inr ?_<;>(rw[of_decide_eq_true h] at Y;exact Y)
theorem ac3:∀x∈[gt,dW],pH [[],[fb gt,fb dW]] x:=by
 have J:pH [[],[fb gt,fb dW]] gt:=⟨by refine bg▸?_;decide+kernel,⟨gt++("":am).cps.toList,by kernel_rfl⟩,gt++("":am).cps.toList,by kernel_rfl⟩;have W:pH [[],[fb gt,fb dW]] dW:=⟨by refine bg▸?_;decide+kernel,⟨dW++("":am).cps.toList,by kernel_rfl⟩,dW++("":am).cps.toList,by kernel_rfl⟩;intro x hx;rcases aL.mp hx with rfl|hx
 ·exact J
 ·rw[aU] at hx;subst hx;exact W
theorem ac2:∀x∈[gt,wq,dW],pH [[],[fb gt,fb wq,fb dW]] x:=by
 have J:pH [[],[fb gt,fb wq,fb dW]] gt:=⟨by refine bg▸?_;decide+kernel,⟨gt++("":am).cps.toList,by kernel_rfl⟩,gt++("":am).cps.toList,by kernel_rfl⟩;have E:pH [[],[fb gt,fb wq,fb dW]] wq:=⟨by refine bg▸?_;decide+kernel,⟨wq++("":am).cps.toList,by kernel_rfl⟩,wq++("":am).cps.toList,by kernel_rfl⟩;have W:pH [[],[fb gt,fb wq,fb dW]] dW:=⟨by refine bg▸?_;decide+kernel,⟨dW++("":am).cps.toList,by kernel_rfl⟩,dW++("":am).cps.toList,by kernel_rfl⟩;intro x T;simp only[aL,aY,or_false] at T;rcases T with rfl|rfl|rfl
 ·exact J
 ·exact E
 ·exact W
def YI:Stmt:=.Return (ab (.IfExp wO (.Subscript (.Name "found" ⟨53,11,53,16⟩) (.Constant (.int 0) 0 ⟨53,17,53,18⟩) ⟨53,11,53,19⟩)
 (.Tuple [.Constant (.str "union") 0 ⟨53,45,53,52⟩,.Call (.Name "tuple" ⟨53,54,53,59⟩) [.Call (.Name "sorted" ⟨53,60,53,66⟩) [.Name "found" ⟨53,67,53,72⟩] [⟨ab "key",.Name "kind_key" ⟨53,78,53,86⟩,⟨53,74,53,86⟩⟩] ⟨53,60,53,87⟩] [] ⟨53,54,53,88⟩] 0 ⟨53,44,53,89⟩) ⟨53,11,53,89⟩)) ⟨53,4,53,89⟩
theorem aac:(bF 20).2.1=J2++[YI]:=rfl
theorem UO (P):jD (cC P) "tuple" (.type "tuple"):=zp rfl rfl
theorem QX (P):jD (cC P) "sorted" (.builtin "sorted"):=zp rfl rfl
theorem adI (P):jD (cC P) "kind_key" (.ref 190):=on rfl
section
variable {K:aN}
theorem Du {id:String}
 (h:aD (MM w) A t1 (λy l=>aD (MM w) A tk (λa q=>aD (MM w) A (call (.builtin id) [y] [(O,a)]) Q E q) E l) E s):
 aD (MM w) A (iD S (.builtin id) [] [(ah,t1)] [(ab O,tk)]) Q E s:=by
 unfold iD;refine ak<|a8<|evalArgs_kw rfl<|yG<|aZ h (λy l J=>?_) λ_ _ x=>x
 refine wpAny_evalAll_cons<|aZ J (λa q W=>wpAny_evalAll_nil ?_) λ_ _ x=>x
 refine fX (λ_ _ h=>cb h)<|ak<|ar ?_
 exact ak<|aZ W (λr t d=>ak<|a8<|mz<|ar d) λ_ _ x=>x
theorem QT (e):iI w (cC w.params) n fW e:=(jL rfl pO (iW) e).1.2
theorem Mm {l:List (List Nat)} (z:∀x∈l,pH H x):∀{U},bU K O (l.map fb) U->∀v∈U,zW H K O v:=by
 induction l with
 |nil=>intro U h;subst h;exactλ_ h=>absurd h aY
 |cons x l o=>
  intro U h v hv;rw[bu] at h;refine cL h ?_;clear h;intro u r S J W;subst S;rcases aL.mp hv with rfl|hv
  ·exact⟨x,z x (by simp),J⟩
  ·exact o (λy I=>z y<|by simp[I]) W v hv
theorem YG {l:List (List Nat)} {Q:D1->bh->Prop} (T:dk (cC w.params) wj Z) (I:kl 50 A M) (C:l=[gt,dW]\/l=[gt,wq,dW]) (z:jW fW (bQ wj ah wO) V (bo fW (bQ wj ah wO) V) H=.ok ah [[],l.map fb]) (h2:V[2]?=ab (ab<|.dR 1))
 (iv:Inv (cC w.params) K O H M s.heap) (fr:aS Z wj.ns V K O s.heap)
 (L:∀v F j rq,Step [] K O s.heap j rq F.heap->Inv (cC w.params) j rq [[],l.map fb] M F.heap->aV s F->Q (.ret v) F):aD (MM w) A (exec YI Z) Q E s:=by
 unfold YI;refine gM<|wpAny_IfExp ?_
 refine aZ (QT wO wj Z V ah T A s K O H M I iv fr<|by refine z▸?_;exact wV) (λb B a=>y0.casesOn a λb' H₁ k J m c G hb h=>?_) λx B X2=>yc.casesOn X2 λp H₁ k J m _ _ _ _=>by rw[z] at m;cases m
 rw[z] at m;cases m;obtain rfl:b=false:=ae hb;simp only[bO,if_false];have W:=dw _ _ _ _ _ _ fr c;refine mA ?_;rw[dD _ Z _ (by rfl)];refine spliced_cons<|qb<|spliced_cons ?_
 dsimp only
 (refine kI (dN ..) ?_;rw[dD _ Z _ (by rfl)])
 have u:=G;refine ak<|ij T.fe (by decide) (T.gi _ rfl) u (UO _) ?_
 refine im<|spliced_cons ?_
 dsimp only
 (refine kI (dN ..) ?_;rw[dD _ Z _ (by rfl)])
 refine ak<|ij T.fe (by decide) (T.gi _ rfl) u (QX _) ?_
 refine Du<|gF T.fe (by decide) (by decide) rfl h2 W λv f=>?_
 refine ak<|ij T.fe (by decide) (T.gi _ rfl) u (adI _)<|ak<|cb<|ar ?_
 refine aH f ?_;clear f;intro e hμ S;subst S;obtain⟨kF,oF,nF,U,r,P,g,d⟩:=G.ky.at_ 1 e (l.map fb) hμ rfl;have hlen:=d.length;rw[aB] at hlen;have X:aa l=2\/aa l=3:=by rcases C with rfl|rfl<;>simp
 have i:pD (aa U) (wz<|aa U)=true:=by
  refine hlen▸?_;rcases X with q|q<;>refine q▸?_
  ·exact afk
  ·exact afj
 have hk:∀x∈l,pH [[],l.map fb] x:=by
  rcases C with rfl|rfl
  ·exact ac3
  ·exact ac2
 have hL:({B with toks:=B.toks+1}:bh).heap.IsList e (af U):=⟨oF,r,P.1,nF,g⟩;refine LF (I.mono<|cg _ _) hL (hlen.symm▸X.elim (λq=>q.symm▸by decide) λq=>q.symm▸by decide) (hlen.symm▸X.elim (λq=>q.symm▸by decide) λq=>q.symm▸by decide) i (Mm hk d) ⟨G,iM ..⟩ λR o D out n o₃ N Y=>fC ⟨.inr<|.inr<|m4 rfl,?_⟩;refine bd o₃.at_ λnD hD=>call_tuple_list ⟨_,hD,rfl,nD,rfl⟩ (λh' t=>?_)<|by(refine(ae aR)▸?_;refine(ae bg)▸?_);exact aM (eS<|by assumption)<|by decide
 have agW:SO w.params k J [[],l.map fb] M B.heap o h':=⟨n.iv.keep<|.of_keeps t,n.st.trans (de.of_keeps t).step⟩;have agV:=agW.push {cls:=.type "tuple",data:=.seq (af out)};refine fC ⟨by refine(ae bg)▸?_;simp,?_⟩;have y:=agV.push {cls:=.type "tuple",data:=.seq [Value.str "union" B.toks,.ref h'.objs.size].toArray};exact L _ _ o J (c.trans y.st) y.iv (h.trans<|js ⟨rfl,rfl⟩<|Y.trans ⟨rfl,rfl⟩)
end
inductive VP (ps:List PV) (H:Hp):Prop
 |mk (l:List PV) (x:bN×Hp×List PV) (e:ps=[.lst l]) (eH:H=[]) (ex:uD l=ab x) (er:vN ps H=.ok .Au [])
theorem Eu (h:vN y H≠.stuck):VP y H:=by
 rcases y with _|⟨p,_|⟨q,r⟩⟩
 ·exact absurd rfl h
 ·cases p with
  |lst l=>
   induction H with
   |nil=>
    cases e:uD l with
    |none=>exact absurd (by unfold vN;dsimp only;rw[e]) h
    |some x=>exact⟨l,x,rfl,rfl,e,by unfold vN;dsimp only;rw[e]⟩
   |cons a b=>exact absurd rfl h
  |_=>exact absurd rfl h
 ·cases p<;>exact absurd rfl h
theorem adG (l):jk w (cC w.params) 50 fW fW l:=pd (λe=>(jL rfl pO iW e).1.1) (λe=>QT e) vP l
theorem OB:lG w:=by
 intro ps vs A s K O H M I N V L;obtain⟨l,x,rfl,rfl,J,eM⟩:=Eu L;refine eM▸?_;obtain rfl:O=[]:=z6 N.ky.len;refine vh (Am J) λm e2 e3 F=>jP (ZQ _) (jI _) I N V rfl (zQ (ZQ _) (by decide+kernel) (vI V) N) λenv B Z T P hfw c G W h hfl=>?_;have i:dk (cC w.params) wj env:=⟨T.nd,T.gi,T.lc,T.ce,T.fe,T.gl⟩
 (refine aac▸kI (wf ..) ?_)
 refine ak<|aZ (adG J2 wj env _ i hfl _ B Z [] [] (env::M) (P.mono<|cg _ _) G W (by refine m▸?_;exact wV)) (λf t ⟨r,H',C,z,e,D,u,⟨n,E,hm⟩,U⟩=>?_) λx t b=>yc.casesOn b λp H' j rq e _ _ _ _=>by rw[m] at e;cases e
 rw[m] at e;cases e;cases hm
 have X:∃d,x.2.2=d.map fb/\(d=[gt,dW]\/d=[gt,wq,dW]):=by
  rcases F with q|q
  ·exact⟨[gt,dW],q,.inl rfl⟩
  ·exact⟨[gt,wq,dW],q,.inr rfl⟩
 refine aH X λd q g=>?_;rw[q] at e2;refine ak<|YG (T:=i) (P.mono<|cg _ _) g e2 e3 u n λv R o Q y S Y=>ar ?_
 have St:=c.hide (D.trans<|y.mono<|by simp) λa q=>.inr<|hfw a q
 have k:=(Inv.mf (O:=[]) S.pop rfl);exact⟨.Au,[],o,[],rfl,Step.mf St,k,trivial,h.trans<|U.trans Y⟩
def CF:nW:=λa y=>if a=1114 then pE y else b6 a y
def iN:nW:=iG CF dF rr
abbrev zV:List (am×fZ):=(bF 183).2.2.names
def RC:Cx:=⟨zV,x0,["calls"]⟩
noncomputable def Wr:Stmt:=.Assign [.Tuple [.Name "table" ⟨734,4,734,9⟩,.Name "great" ⟨734,11,734,16⟩] 0 ⟨734,4,734,16⟩]
 (.Tuple [.Call (.Name "string_rows" ⟨734,20,734,31⟩) [] [] ⟨734,20,734,33⟩,.Tuple [.Constant (.str "int") 0 ⟨734,36,734,41⟩,.Constant (.str "BigInt") 0 ⟨734,43,734,51⟩,.BinOp (.Constant (.int 2) 0 ⟨734,53,734,54⟩) .Pow (.Constant (.int 64) 0 ⟨734,58,734,60⟩) ⟨734,53,734,60⟩] 0 ⟨734,35,734,61⟩] 0 ⟨734,19,734,62⟩) ⟨734,4,734,62⟩
def wS:List Stmt:=(bF 183).2.1.drop 1
theorem Vw:(bF 183).2.1=Wr::wS:=rfl
noncomputable def om:PV:=.tup [.str ("int":am).cps.toList,.str ("BigInt":am).cps.toList,.int<|2^64]
def T7:List Stmt:=wS.take 2
def Kj:List Stmt:=wS.drop 2
theorem Hw:wS=T7++Kj:=ae<|fa 2 wS
def sj (D:List PV):bN:=((aW (aa zV) al).set 1<|ab<|.dct cG d5).set 3<|ab<|.lst D
inductive Se (l:List PV):Prop
 |mk (σ₁:bN) (H₁:Hp) (j:Nat) (cs:List PV) (σ₂:bN) (H₂:Hp) (e₁:fR iN dF (lZ RC T7) (fL (fw (aa zV) [.lst l]) [1,2] [.dct cG d5,om]) []=.ok (.next,σ₁) H₁) (t:σ₁[1]?=ab (ab (.dct cG d5))) (c:σ₁[3]?=ab (ab (.dR j)))
  (h:H₁[j]?=ab cs) (n:gS cs=ao) (e₂:fR iN dF (lZ RC Kj) (sj cs) []=.ok (.ret<|.bool ao,σ₂) H₂)
theorem Xd (P:cF):FnAt (cC P) 1119 (bF 183).1 (bF 183).2.1 (bF 183).2.2 []:=mc rfl
theorem MJ (P:cF):jD (cC P) "string_rows" (.ref 986):=on rfl
theorem RI {D:List PV} {i:Nat} {p:PV} (h:(sj D)[i]?=ab (ab p)):(i=1/\p=.dct cG d5)\/(i=3/\p=.lst D):=by
 unfold sj at h;rw[xq] at h;split at h
 ·rename_i q;split at h
  ·cases h;exact .inr ⟨ae q,rfl⟩
  ·cases h
 ·rw[xq] at h;split at h
  ·rename_i q;split at h
   ·cases h;exact .inl ⟨ae q,rfl⟩
   ·cases h
  ·rw[GD] at h;split at h<;>cases h
theorem IV {X K:aN} {μ:List bk} {H:Hp} {M:List lV} {h:eG} {Z:lV} {V:bN} {j:Nat} {D:List PV} (N:Inv X K μ H M h) (fr:aS Z RC.ns V K μ h) (t:V[1]?=ab (ab<|.dct cG d5)) (c:V[3]?=ab (ab<|.dR j)) (Q:H[j]?=ab D) (n:gS D=ao):
 ∃Y,Inv X Y [] [] M h/\aS Z RC.ns (sj D) Y [] h/\∀{W:List bk} {G:aN} {g:eG},Step W G [] g K μ h->Step W G [] g Y [] h:=by
 obtain⟨m,B,hk,hm,hcs,f⟩:=fr;have s:j<aa μ:=by rw[N.ky.len];exact(aA.mp Q).1
 obtain⟨ka,o,k,U,ea,pl,d,r⟩:=N.ky.at_ j μ[j] D (aO s) Q;have E:=hK s;have O:=aO s;generalize μ[j]=a at*;have L:∀b x,K b=ab x->gc K a o b=ab x:=λb x q=>by rw[db<|by rintro rfl;rw[ka] at q;cases q];exact q
 have mono:∀p v,i8 p=ao->VR K μ p v->VR (gc K a o) [] p v:=λp v q x=>N1 (K:=K) (K':=gc K a o) rfl L p v<|amA (R:=[]) p v q x
 have e:VR (gc K a o) [] (.lst D) (.ref a):=by exact⟨a,o,k,U,rfl,fj _ _ _,pl,d,ro (K:=K) (K':=gc K a o) rfl L D U<|bU.i8 (R:=[]) D U n r⟩
 refine⟨gc K a o,(Inv.mf (O:=[]) (R:=μ) N rfl).freeze ea ka (by simp) (uV pl.1<|by decide),⟨m,B,?_,by simp,λx y q=>?_,λi x p T F=>?_⟩,λst=>Step.FQ (O:=[]) (R:=μ) st ka E⟩
 ·rw[db<|by rintro rfl;exact hm E];exact hk
 ·obtain⟨l,q2,q3,v,w⟩:=hcs x y q;exact⟨by rw[db<|by rintro rfl;exact q2 E];exact l,by simp,q3,v,w⟩
 ·have P:∃C,V[i]?=ab (ab C)/\∀v,VR K μ C v->VR (gc K a o) [] p v:=by
   rcases RI F with ⟨rfl,rfl⟩|⟨rfl,rfl⟩
   ·exact⟨_,t,λv q=>mono _ v (by kernel_rfl) q⟩
   ·refine⟨_,c,λv q=>?_⟩;refine aH q ?_;clear q;intro b l S;obtain rfl:=S;rw[O] at l;cases l;exact e
  refine aH P ?_;clear P;intro C I A;rcases f i x C T I with ⟨k1,v,z,u⟩|⟨k1,y,v,z,u,J⟩
  ·exact .inl ⟨k1,v,z,A v u⟩
  ·exact .inr ⟨k1,y,v,z,u,A v J⟩
section
variable {KF:aN} {W:List bk} {cx:Cx} {env:lV} {σ τ:bN} {m:IM (ge×bN)} {t:jE D1} {A:iF} {s:bh} {K:aN} {μ:List bk} {H H':Hp} {fs:List lV} {E:Value->bh->Prop} {Q:D1->bh->Prop}
theorem EK {w:dG} {n:Nat} {C:xg} (x:aj w KF W n C m (io env cx) t) (I:kl n A fs) (N:Inv KF K μ H fs s.heap) (c:C K μ s.heap) (e:m H=.ok (.next,τ) H')
 (h:∀F j Z,Step W K μ s.heap j Z F.heap->Inv KF j Z H' fs F.heap->aS env cx.ns τ j Z F.heap->aa τ=aa cx.names->aV s F->Q .next F):aD (MM w) A t Q E s:=
 x.run I N c e λr F j Z st P d U=>by have Y:=d.f;cases Y;exact h F j Z st P d.c d.l U
theorem Tu {w:dG} {n:Nat} {p:PV} (x:aj w KF W n (aS env cx.ns σ) m (io env cx) t) (I:kl n A fs) (N:Inv KF K μ H fs s.heap) (c:aS env cx.ns σ K μ s.heap) (e:m H=.ok (.ret p,τ) H')
 (h:∀v F j l,Step W K μ s.heap j l F.heap->Inv KF j l H' fs F.heap->VR j l p v->aV s F->Q (.ret v) F):aD (MM w) A t Q E s:=
 x.run I N c e λr F j l st P d U=>by have Y:=d.f;cases Y with|ret Z=>exact h _ F j l st P Z U
end
section
variable {w:dG}
theorem CD:jS w (cC w.params) 140 iN:=by
 have b:jS w (cC w.params) 100 CF:=by
  refine⟨λa=>?_,λa y U=>?_⟩
  ·by_cases W:a=1114
   ·subst W;exact cL ((Rd w.params).ex) λo fd l c _=>.inl ⟨o,fd,l,c⟩
   ·rcases xV.fn a with h|h
    ·exact .inl h
    ·exact .inr λy=>by unfold CF;rw[if_neg W];exact h y
  ·unfold CF;by_cases W:a=1114
   ·subst W;rw[if_pos rfl];exact QI y U
   ·rw[if_neg W];exact(xV.call a y U).more<|by rw[acS];decide
 have h:=E9 rfl (jI _) b (vO.more<|by decide) (λ_ _ _=>iW) rr<|UX _
 exact⟨h.fn,λa y U=>(h.call a y U).more<|dH ahG 100⟩
theorem W8 (l:List rv):jk w (cC w.params) 140 iN dF l:=pd (λe=>(jL rfl CD iW e).1.1) (λe=>(jL rfl CD iW e).1.2) (vO.more<|by decide) l
theorem Zy (e:bK):bI w (cC w.params) 140 iN e:=(jL rfl CD iW e).1.1
set_option backward.match.sparseCases true in
set_option maxHeartbeats 2000000 in
theorem Y8 {l:List PV} (hm:Se l) {A:iF} {E:Value->bh->Prop} {s:bh} {K:aN} {M:List lV} {vs:List Value} {Q:Value->bh->Prop} (I:kl 200 A M) (iv:Inv (cC w.params) K [] [] M s.heap) (tt:TT K [] s.heap)
 (hv:bU K [] [.lst l] vs) (L:∀F K' rq,Step [939] K [] s.heap K' rq F.heap->TT K' rq F.heap->aV s F->Q (.bool ao) F):aD (MM w) A (call (.ref 1119) vs []) Q E s:=by
 cases hm with|mk N Z j cs σ₂ g d z hc hj hn hm2=>?_
 refine jP (Xd _) (jI _) I iv hv rfl (zQ (Xd _) (by decide+kernel) (vI hv) iv) λenv B K₁ T P m c G Q1 h x=>?_;have X:=akt tt m;have kk:qj w env zV _ [] [] (env::M) K₁ B.heap:=⟨G,Q1,tt.step c<|by simp⟩;have i:dk (cC w.params) RC env:=⟨T.nd,T.gi,T.lc,T.ce,T.fe,T.gl⟩;have hA1:=P.mono<|show 140<=199 by decide
 rw[Vw];unfold Wr
 refine aH (AW (w:=w) (n:=140) (V:=fw zV.length [.lst l]) (g:=[1,2]) (Y:=RC) (ts:=[.Name "table" ⟨734,4,734,9⟩,.Name "great" ⟨734,11,734,16⟩]) (k:=0) (z:=0) (tp:=⟨734,4,734,16⟩) (R:=⟨734,19,734,62⟩) (p:=⟨734,4,734,62⟩)
  (U:=[.Call (.Name "string_rows" ⟨734,20,734,31⟩) [] [] ⟨734,20,734,33⟩,.Tuple [.Constant (.str "int") 0 ⟨734,36,734,41⟩,.Constant (.str "BigInt") 0 ⟨734,43,734,51⟩,.BinOp (.Constant (.int 2) 0 ⟨734,53,734,54⟩) .Pow (.Constant (.int 64) 0 ⟨734,58,734,60⟩) ⟨734,53,734,60⟩] 0 ⟨734,35,734,61⟩]) i x (by kernel_rfl) (by kernel_rfl) (by decide)) λrest er hr=>?_
 rw[show kc (.Assign [.Tuple [.Name "table" ⟨734,4,734,9⟩,.Name "great" ⟨734,11,734,16⟩] 0 ⟨734,4,734,16⟩] (.Tuple [.Call (.Name "string_rows" ⟨734,20,734,31⟩) [] [] ⟨734,20,734,33⟩,.Tuple [.Constant (.str "int") 0 ⟨734,36,734,41⟩,.Constant (.str "BigInt") 0 ⟨734,43,734,51⟩,.BinOp (.Constant (.int 2) 0 ⟨734,53,734,54⟩) .Pow (.Constant (.int 64) 0 ⟨734,58,734,60⟩) ⟨734,53,734,60⟩] 0 ⟨734,35,734,61⟩] 0 ⟨734,19,734,62⟩) ⟨734,4,734,62⟩::wS) env=(exec _ env>>=λf=>match f with|.next=>kc wS env|f=>pure f:jE D1) from rfl,er];refine ak<|ak<|cb<|ak<|mA ?_
 rw[dD _ env _ (by rfl)];refine spliced_cons ?_;dsimp only;rw[dN];refine ak<|ij T.fe (by decide) (T.gi _ (by kernel_rfl)) kk.iv (MJ _) ?_
 refine iB (fnK<|ZN w.params) λo fd J h2=>?_;refine sq (kk.iv.sub _ _ (kk.iv.stat _ _ J)) h2<|He OB (P.mono<|by decide) kk.iv kk.tt λr t C hv₂ D u abB U=>?_
 have oz:qj w env zV (fw zV.length [.lst l]) [] [] (env::M) C t.heap:=⟨u,JF (W:=[939]) (uO X) _ _ _ _ _ _ kk.fr D,abB⟩;refine spliced_cons<|r8 (n:=140) (B:=iN) T (Zy _) hA1 oz (p:=om) (by kernel_rfl) λv R qg ado Ja y Y=>?_
 refine fC ⟨by rw[bg];simp,?_⟩;refine gG (qu (l:=[.dct cG d5,om]) Ja.iv<|b7 (fv y hv₂)<|b7 ado eu) λsy pY b adn=>?_;have Q0:=dw _ _ _ _ _ _ Ja.fr (b []);have em:aw (yw [1,2].length<|.tup [.dct cG d5,om]) (λl'=>ax (ge.next,fL (fw zV.length [.lst l]) [1,2] l')) ([]:Hp)=.ok (.next,fL (fw zV.length [.lst l]) [1,2] [.dct cG d5,om]) []:=rfl;refine EK (hr (.tup [.dct cG d5,om]) _) hA1 pY ⟨Q0,adn⟩ em λs₅ Jd Ei H Fz Kr adv O=>?_;show aD _ _ (kc wS env) _ _ _;rw[Hw,wf];generalize T7=ml at d|-
 generalize Kj=ll at hm2|-
 refine ak<|EK (W8 ml RC env _ i adv) hA1 Fz Kr d λs₆ Jc abt e Qu adM ajV yH=>?_
 show aD _ _ (kc ll env) _ _ _;have abA:=Ja.tt.step (b [])<|by simp
 have S:Step [939] K [] s.heap Jc abt s₆.heap:=((c.mono<|by simp).trans<|D.trans<|(y.trans<|b []).mono<|by simp).hide (H.trans e) λa q=>.inr<|m a q
 refine gG (IV Qu adM z hc hj hn) λaft ada adL up=>?_
 have abz:TT aft [] s₆.heap:=by
  have S9:Step (aX env) sy [] _ aft [] s₆.heap:=up<|H.trans e
  exact abA.step S9 X
 refine Tu (W8 ll RC env _ i (by simp[sj,RC])) hA1 ada adL hm2 λagZ s₈ ai6 abr Wq ajL adl abG=>?_;rw[show agZ=_ from adl];exact L s₈ ai6 abr ((up S).hide Wq λa q=>.inr<|m a q) (abz.step Wq X)<|h.trans<|U.trans<|Y.trans<|js ⟨rfl,rfl⟩<|O.trans<|yH.trans abG
end
end
section
open PySem PySem.W PySem.Calls PyProof.Rows PySem.SeqAt
theorem EB (P):(wb P).get? 939=ab (tabObj #[]):=by unfold wb;refine ag (abs_get (o:=H.PU P) (by decide)<|by kernel_rfl) ?_;rfl
theorem zk (hplain:∀j:List Int,aa j<=63->Se (j.map .int)):cR.Holds:=by
 refine MD ?_;intro w s₀ B O mb G Y a o A cd doc dV kV ho hd M R hmg N D vals as L hpre hlay p hwl hlo
 wrow_args hpre hlay p hwl hlo
 rename_i j _ _ _ _ _ as1 as2 sa U as3 t k w1 z hI d P _;have J:aa j<=63:=by exact cP<|bj [aa j] [] [(1,aJ,.n 63),(1,xi<|.n 63,aJ)] rfl<|cX.mp P
 have Y1:s₀.heap=wb w.params:=congrArg K0 Y;have told:∀b o,cC w.params b=ab o->B.heap.get? b=ab o:=λb o e=>Fq (λb o q=>L.keeps b o<|by refine(ae Y1)▸?_;exact q) e
 have x:a=1119:=by refine iB (nL<|sX w.params) λo3 n3 E d3=>?_;refine II G.T.g λu es Q h1 h2 h4 h5=>?_;have C:=told 3 o3 E;rw[show B.heap.get? D8=B.heap.get? 3 from rfl,C] at h1;obtain rfl:=ai h1;rw[d3] at h2;cases h2;have q1:=h5 "law";rw[qC,Y9] at q1;rw[Vk,<-q1] at hmg;cases hmg;rfl
 subst x;have t9:B.heap.get? 939=ab (tabObj #[]):=L.keeps 939 _ (by refine(ae Y1)▸?_;exact EB _);refine bC (PySem.W.X.script_at L) λhsa _=>?_;have hobj:=PySem.W.X.script_obj L t
 have v:cC w.params sa=none:=by
  cases q:cC w.params sa with
  |none=>rfl
  |some u=>have:=Fq (h:=s₀.heap) (λb o q=>by refine(ae Y1)▸?_;exact q) q;exact absurd (dS this)<|by refine(ae hsa)▸?_;exact GC _
 have n9:939≠sa:=λq=>by
  have:(939:Nat)<s₀.heap.objs.size:=by refine(ae Y1)▸?_;exact dS<|EB _
  rw[q,hsa] at this;exact absurd this<|GC _
 have iv0:Inv (cC w.params) (cC w.params) [] [] [] B.heap:=⟨rfl,λ_ _ e=>e,told,λ_ _ e=>Zb e,⟨rfl,by simp,λi a l h=>by simp at h⟩,⟨λZ h=>by simp at h⟩⟩;have iv:Inv (cC w.params) (gc (cC w.params) sa _) [] [] [] B.heap:=iv0.freeze hobj v (by simp)<|uV rfl<|by decide
 have hvr:bU (gc (cC w.params) sa {cls:=.type "list",data:=.seq (af U)}) [] [.lst<|j.map .int] [.ref sa]:=b7 (by
  exact⟨sa,_,0,U,rfl,fj _ _ _,⟨rfl,rfl,rfl⟩,rfl,UA hI⟩) eu
 have V:TT (gc (cC w.params) sa {cls:=.type "list",data:=.seq (af U)}) [] B.heap:=⟨by exact ag (db n9)<|Un _,by simp,#[],t9,.nil⟩;have I:kl 200 callerA []:=⟨rfl,by decide,by decide,rfl,rfl⟩;refine Y8 (hplain j J) I iv V hvr λF K' rq st c so=>?_
 have keep:∀b o,b≠939->B.heap.get? b=ab o->F.heap.get? b=ab o:=λb o n q=>by
  refine aH (st.keep b o q (by simp)<|by simpa using n) λsl m e2=>?_;rcases e2 with rfl|⟨_,f⟩
  ·exact m
  ·exact absurd f id
 refine iZ c λ_ _ S=>aH S λy r _=>?_
 have s:OldK B.heap F.heap:=⟨λb o q=>by
  by_cases n:b=939
  ·subst n;rw[t9] at q;obtain rfl:=ai q;exact .inr (.inl ⟨⟨943,Internal.H.CK w.params,_,told 943 _ (by kernel_rfl:cC w.params 943=ab (Internal.H.CK w.params)),rfl,rfl,rfl⟩,rfl,#[],y,rfl,by refine(ae Array.empty_append)▸?_;exact r⟩)
  ·exact .inl<|keep b o n q,λb o q=>by
  by_cases n:b=939
  ·subst n;exact⟨_,r⟩
  ·exact⟨o,keep b o n q⟩⟩
 refine⟨.inl ⟨.bool ao,.bool ao,[],rfl,raisesW_false allW_false_nil,.bool ao,?_,?_⟩,s,so.1,.of_eq<|ag so.2 N⟩
 ·first|kernel_rfl|wrow_post
 ·exactλ_=>⟨by simp,λa h=>by simp at h⟩
end
section
open PySem PySem.W
def oI (j:Nat):nW:=iG rR dF<|r6.drop j
def oQ (j:Nat):nW:=iG CF dF<|rr.drop j
theorem vT {v Q:nW} {j:List FE} {i n l:Nat} {f:FE} {c:List CS} (Y:(j[i]?).map (λg=>(g.addr,g.k,g.keep,g.muts,g.defs))=ab (f.addr,f.k,f.keep,f.muts,f.defs)) (G:((j.take i).all λg=>decide<|f.addr≠g.addr)=ao) (B:(bF f.k).1.args.length=n) (U:(bF f.k).2.2.names.length=l) (P:Ds f.k f.muts=c) {y:List PV} (C:aa y=n):
 iG v Q j f.addr y=iH f.keep (kJ (iG v Q<|j.drop<|i+1) Q l c y):=by
 rw[a9] at Y;refine aH Y ?_;clear Y;intro S N e;obtain⟨a,k,r,m,d⟩:=S;obtain⟨s,t,o,u,fd⟩:=f;simp only[AO] at e;refine Dm e ?_;clear e;intro S Z H L z;subst S;subst Z;subst H;subst L;subst z;refine bd (aA.mp N) λD e=>?_
 have h:j=j.take i++(⟨a,k,r,m,d⟩::j.drop (i+1)):=by rw[<-e,GL,fa]
 rw[show iG v Q j a y=iG v Q (j.take i++(⟨a,k,r,m,d⟩::j.drop (i+1))) a y by rw[<-h]];rw[pS G];show(if a=a then _ else _)=_;rw[if_pos rfl];unfold fnOf fnM;rw[B,U,P,if_pos C]
abbrev O1 (a j n l:Nat) (c:List CS):Prop:=∀{y:List PV},aa y=n->b6 a y=iH ah (kJ (oI j) dF l c y)
abbrev OQ (a:Nat) (r:Bool) (j n l:Nat) (c:List CS):Prop:=∀{y:List PV},aa y=n->iN a y=iH r (kJ (oQ j) dF l c y)
abbrev oC (j:List FE) (f:FE) (i n l:Nat) (c:List CS):Prop:=((j[i]?).map λg=>(g.addr,g.k,g.keep,g.muts,g.defs),(j.take i).all λg=>decide<|f.addr≠g.addr,(bF f.k).1.args.length,(bF f.k).2.2.names.length,Ds f.k f.muts)=(ab (f.addr,f.k,f.keep,f.muts,f.defs),ao,n,l,c)
theorem Wx {v Q:nW} {j:List FE} {i n l:Nat} {f:FE} {c:List CS} (e:oC j f i n l c) {y:List PV} (C:aa y=n):iG v Q j f.addr y=iH f.keep (kJ (iG v Q<|j.drop<|i+1) Q l c y):=
 vT (congrArg (·.1) e) (congrArg (·.2.1) e) (congrArg (·.2.2.1) e) (congrArg (·.2.2.2.1) e) (congrArg (·.2.2.2.2) e) C
theorem dz {a j n l:Nat} {c:List CS} (k:Nat) (F:List am) (df:List PV) (e:oC r6 ⟨a,k,ah,F,df⟩ j n l c):O1 a (j+1) n l c:=Wx e
theorem lQ {a j n l:Nat} {r:Bool} {c:List CS} (k:Nat) (F:List am) (df:List PV) (e:oC rr ⟨a,k,r,F,df⟩ j n l c):OQ a r (j+1) n l c:=Wx e
theorem c1 {j:Nat} {b:bk} {l:List PV} {H:Hp} {r:j1 PV} (G:((r6.take j).all λf=>decide<|b≠f.addr)=ao) (h:b6 b l H=r):oI j b l H=r:=by have e:=pS (v:=rR) (Q:=dF) (r:=r6.drop j) G;rw[fa] at e;exact(congrFun (congrFun e l) H).symm.trans h
theorem c2 {j:Nat} {b:bk} {l:List PV} {H:Hp} {r:j1 PV} (G:((rr.take j).all λf=>decide<|b≠f.addr)=ao) (h:iN b l H=r):oQ j b l H=r:=by have e:=pS (v:=CF) (Q:=dF) (r:=rr.drop j) G;rw[fa] at e;exact(congrFun (congrFun e l) H).symm.trans h
def aeW:List CS:=[.ret<|.tup [ki,.az 515 [.comp (.az 707 [i6,ck]) ck [al,al,al,ab 0] [1] ao []]]]
theorem acr:O1 794 1 2 3 aeW:=dz 133 [] [] rfl
def aeV:List CS:=[.ret<|.tup [ki,.az 522 [.az 679 [.sub ck<|cI 0,ki],.az 686 [.sub ck<|cI 1]]]]
theorem WB:O1 801 9 2 5 aeV:=dz 134 [] [] rfl
def aiG:List CS:=[.fc (.cmp ck [.Lt] [cI 0]) [.raise 126 [El,cS [97,32,116,101,120,116,32,99,97,110,110,111,116,32,115,116,97,110,100,32,108,101,115,115,32,116,104,97,110,32,110,111,32,116,105,109,101,115]]] [],.expr<|.az 474 [.bin ah .Mult (.bv eN [cy]) ck],.ret<|.fc (.cmp cy [.NotEq] [cB []]) (.bin ah .Mult cy ck)<|cB []]
theorem TX:O1 522 10 2 5 aiG:=dz 84 [] [] rfl
def aeO:List CS:=[.assign 2<|.az 679 [.sub ck<|cI 0,ki],.fc (.bool ah [.cmp dE [.Eq] [cB []],.not<|.az 285 [dE]]) [.raise 126 [El,cS [110,111,32,110,97,109,101,32,111,102,32,97,32,115,121,109,98,111,108]]] [],.ret<|.tup [cS [115,121,109],.gb MN.decode dE [cS [117,116,102,45,56]]]]
theorem Wz:O1 930 11 2 6 aeO:=dz 153 [] [] rfl
def aeP:List CS:=[.assign 2<|.sub ck<|cI 0,.fc (.cmp (.sub dE<|cI 0) [.Eq] [ki]) [.ret<|.tup [ki,.az 515 [.list ah [.az 649 [.sub dE<|cI 1]]]]] [],.fc (.cmp (.sub dE<|cI 0) [.Eq] [cS [99,104,97,114]]) [.ret<|.tup [ki,.az 656 [.sub dE<|cI 1]]] [],.fc (.cmp (.sub dE<|cI 0) [.Eq] [wK]) [.ret<|.tup [ki,.az 623 [.sub dE<|cI 2,cI 10]]] [],.ret<|.tup [ki,.gb aaW (.az 425 [.heap cy,dE,cI 20000]) [cS [117,116,102,45,56],cS [114,101,112,108,97,99,101]]]]
theorem acm:O1 923 12 2 9 aeP:=dz 152 [] [] rfl
def ae8:List CS:=[.mG [1,2] [.list ao [],.az 273 [cy]],.for [3,4] ah (.enum dE) [.fc (.bool ao [.cmp kX [.Eq] [cI 0],.cmp (.bin ah .Add i6<|cI 1) [.Lt] [.bv eN [dE]],.cmp (cI 48) [.LtE,.LtE] [.sub dE<|.bin ah .Add i6<|cI 1,cI 57]]) [.expr<|.gb iS ck [cB [92,120,48,48]]] [.expr<|.gb iS ck [.az 642 [kX]]]],.ret<|.bin ah .Add (.bin ah .Add (cB [34])<|.gb pL (cB []) [ck])<|cB [34]]
theorem acA:O1 649 13 1 9 ae8:=dz 104 ["found"] [] rfl
def aeU:List CS:=[.ret<|.tup [ki,.az 529 [.az 679 [.sub ck<|cI 0,ki]]]]
theorem acq:O1 808 21 2 4 aeU:=dz 135 [] [] rfl
def aiF:List CS:=[.ret<|.az 290 [.slice ah (.az 273 [cy]) (.const<|.none) (.const<|.none)<|.neg<|cI 1]]
theorem ahl:O1 529 22 1 3 aiF:=dz 85 [] [] rfl
def aiP:List CS:=[.ret<|.gb pL (cB []) [.comp (.az 212 [ck]) cy [al,al,al] [1] ao []]]
theorem aho:O1 290 23 1 1 aiP:=dz 47 [] [] rfl
def aeX:List CS:=[.ret<|.az 91 [.az 285 [.az 679 [.sub ck<|cI 0,ki]]]]
theorem acs:O1 777 24 2 5 aeX:=dz 130 [] [] rfl
def aiQ:List CS:=[.ret<|.bv aam [.comp (.cmp ck [.GtE] [cI 0]) (.az 273 [cy]) [al,al] [1] ao []]]
theorem ahp:O1 285 25 1 3 aiQ:=dz 46 [] [] rfl
def aeZ:List CS:=[.ret<|.az 84 [.az 502 [.az 679 [.sub ck<|cI 0,ki]]]]
theorem acv:O1 763 26 2 5 aeZ:=dz 128 [] [] rfl
def aiI:List CS:=[.ret<|.az 495 [cy,.bin ah .Add (.bv eN [cy])<|cI 1]]
theorem ahn:O1 502 27 1 3 aiI:=dz 81 [] [] rfl
def ae4:List CS:=[.ret<|.az 84 [.az 280 [.az 679 [.sub ck<|cI 0,ki]]]]
theorem acw:O1 721 28 2 5 ae4:=dz 122 [] [] rfl
def aiR:List CS:=[.ret<|.bv eN [.az 268 [cy]]]
theorem ahq:O1 280 29 1 3 aiR:=dz 45 [] [] rfl
def RM:List CS:=[.unpack [2,3,4]<|.comp (.az 679 [ck,ki]) ck [al,al,al] [1] ao [],.ret<|.tup [ki,.az 562 [dE,i6,kX]]]
theorem WA:O1 818 30 2 6 RM:=dz 137 [] [] rfl
def aiA:List CS:=[.fc (.cmp ck [.Eq] [cB []]) [.raise 126 [El,cS [110,111,116,104,105,110,103,32,99,97,110,110,111,116,32,98,101,32,114,101,112,108,97,99,101,100]]] [],.ret<|.az 515 [.az 555 [cy,ck],dE]]
theorem abU:O1 562 31 3 6 aiA:=dz 90 [] [] rfl
def aiB:List CS:=[.fc (.cmp ck [.Eq] [cB []]) [.ret<|.comp (.az 212 [ck]) (.az 273 [cy]) [al,al,al] [1] ao []] [],.mG [2,3] [.list ao [],cI 1],.while (.const<|.bool ao) [.assign 4<|.az 543 [cy,ck,i6],.fc (.cmp kX [.Eq] [cI 0]) [.ret<|.bin ah .Add dE<|.list ah [.slice ah cy (.bin ah .Sub i6<|cI 1) (.const<|.none)<|.const<|.none]] [],.expr<|.gb iS dE [.slice ah cy (.bin ah .Sub i6<|cI 1) (.bin ah .Sub kX<|cI 1)<|.const<|.none],.assign 3<|.bin ah .Add kX<|.bv eN [ck]]]
theorem ahj:O1 555 32 2 8 aiB:=dz 89 ["found"] [] rfl
def aiS:List CS:=[.ret<|.comp (.sub (.az 240 [i6,ck])<|cI 0) (.az 268 [cy]) [al,al,al,ab 0] [1] ao []]
theorem ahr:O1 273 33 1 2 aiS:=dz 44 [] [] rfl
def aez:List CS:=[.mG [1,2] [.list ao [],cI 0],.while (.cmp dE [.Lt] [.bv eN [cy]]) [.expr<|.gb iS ck [dE],.assign 2<|.sub (.az 240 [cy,dE])<|cI 1],.ret ck]
theorem ahs:O1 268 34 1 5 aez:=dz 43 ["found"] [] rfl
def Z6:List CS:=[.expr<|.az 474 [.bin ah .Add (.bv Lu [.comp (.bv eN [ck]) cy [al,al,al] [1] ao []])<|.bin ah .Mult (.bv eN [ck])<|.bv xB [cI 0,.bin ah .Sub (.bv eN [cy])<|cI 1]],.ret<|.gb pL ck [cy]]
theorem ahm:O1 515 36 2 6 Z6:=dz 83 [] [.bytes []] rfl
def aiM:List CS:=[.fc (.cmp cy [.Gt] [cI 200000]) [.raise 126 [xs7,cS [97,32,116,101,120,116,32,111,102,32,116,111,111,32,109,97,110,121,32,111,99,116,101,116,115]]] []]
theorem abZ:O1 474 37 1 3 aiM:=dz 77 [] [] rfl
def aeQ:List CS:=[.ret<|.az 91 [.az 583 [.az 679 [.sub ck<|cI 0,ki],.az 679 [.sub ck<|cI 1,ki]]]]
theorem acn:O1 853 38 2 5 aeQ:=dz 142 [] [] rfl
def aiy:List CS:=[.assign 2<|.bin ah .Sub (.bv eN [cy])<|.bv eN [ck],.ret<|.bool ao [.cmp dE [.GtE] [cI 0],.cmp (.slice ah cy dE (.const<|.none)<|.const<|.none) [.Eq] [ck],.bool ah [.cmp ck [.Eq] [cB []],.az 247 [cy,dE]]]]
theorem abT:O1 583 39 2 5 aiy:=dz 93 [] [] rfl
def aeR:List CS:=[.ret<|.az 91 [.az 576 [.az 679 [.sub ck<|cI 0,ki],.az 679 [.sub ck<|cI 1,ki]]]]
theorem aco:O1 846 40 2 5 aeR:=dz 141 [] [] rfl
def aiz:List CS:=[.ret<|.bool ao [.cmp (.slice ah cy (.const<|.none) (.bv eN [ck])<|.const<|.none) [.Eq] [ck],.bool ah [.cmp (.bv eN [ck]) [.Eq] [.bv eN [cy]],.az 247 [cy,.bv eN [ck]]]]]
theorem ahi:O1 576 41 2 4 aiz:=dz 92 [] [] rfl
def aeS:List CS:=[.assign 2<|.az 550 [.az 679 [.sub ck<|cI 0,ki],.az 679 [.sub ck<|cI 1,ki]],.ret<|.fc (.cmp dE [.Gt] [cI 0]) (.az 84 [dE])<|.const<|.tup [.str [110,111,116,104,105,110,103]]]
theorem acp:O1 832 42 2 7 aeS:=dz 139 [] [] rfl
def aiC:List CS:=[.assign 2<|.gb SH cy [ck],.while (.bool ao [.cmp dE [.GtE] [cI 0],.not<|.az 536 [cy,dE,.bv eN [ck]]]) [.assign 2<|.gb SH cy [ck,cI 0,.bin ah .Sub (.bin ah .Add dE<|.bv eN [ck])<|cI 1]],.ret<|.bin ah .Add dE<|cI 1]
theorem abV:O1 550 43 2 5 aiC:=dz 88 [] [] rfl
def aeT:List CS:=[.assign 2<|.az 679 [.sub ck<|cI 0,ki],.assign 3<|.fc (.cmp (.bv eN [ck]) [.Gt] [cI 2]) (.az 693 [dE,.sub ck<|cI 2])<|cI 1,.assign 4<|.az 543 [dE,.az 679 [.sub ck<|cI 1,ki],i6],.ret<|.fc (.cmp kX [.Gt] [cI 0]) (.az 84 [kX])<|.const<|.tup [.str [110,111,116,104,105,110,103]]]
theorem J9:O1 825 44 2 11 aeT:=dz 138 [] [] rfl
def aiD:List CS:=[.fc (.not<|.cmp (cI 1) [.LtE,.LtE] [dE,.bin ah .Add (.bv eN [cy])<|cI 1]) [.raise 119 [Yk,.tup [.tup [ki,cy],.az 84 [dE]]]] [],.assign 3<|.gb XO cy [ck,.bin ah .Sub dE<|cI 1],.while (.bool ao [.cmp i6 [.GtE] [cI 0],.not<|.az 536 [cy,i6,.bv eN [ck]]]) [.assign 3<|.gb XO cy [ck,.bin ah .Add i6<|cI 1]],.ret<|.bin ah .Add i6<|cI 1]
theorem YU:O1 543 45 3 8 aiD:=dz 87 [] [] rfl
def aiE:List CS:=[.ret<|.bool ah [.cmp dE [.Eq] [cI 0],.bool ao [.az 247 [cy,ck],.bool ah [.cmp (.bin ah .Add ck dE) [.Eq] [.bv eN [cy]],.az 247 [cy,.bin ah .Add ck dE]]]]]
theorem ahk:O1 536 46 3 5 aiE:=dz 86 [] [] rfl
def RN:List CS:=[.assign 2<|.az 679 [.sub ck<|cI 0,ki],.fc (.cmp (.az 686 [.sub ck<|cI 2]) [.Lt] [.az 686 [.sub ck<|cI 1]]) [.ret<|.tup [ki,cB []]] [],.ret<|.tup [ki,.az 509 [dE,.az 693 [dE,.sub ck<|cI 1],.az 693 [dE,.sub ck<|cI 2]]]]
theorem Fd:O1 789 47 2 7 RN:=dz 132 [] [] rfl
def aiH:List CS:=[.fc (.cmp dE [.Lt] [ck]) [.ret<|cB []] [],.expr<|.az 467 [cy,ck],.expr<|.az 467 [cy,dE],.ret<|.slice ah cy (.bin ah .Sub ck<|cI 1) (.sub (.az 240 [cy,.bin ah .Sub dE<|cI 1])<|cI 1)<|.const<|.none]
theorem YV:O1 509 48 3 5 aiH:=dz 82 [] [] rfl
def aeY:List CS:=[.ret<|.az 91 [.az 247 [.az 679 [.sub ck<|cI 0,ki],.bin ah .Sub (.az 686 [.sub ck<|cI 1])<|cI 1]]]
theorem acu:O1 770 49 2 6 aeY:=dz 129 [] [] rfl
def aiV:List CS:=[.ret<|.fc cy (.const<|.tup [.str [98,111,111,108],.bool ao])<|.const<|.tup [.str [98,111,111,108],.bool ah]]
theorem ahx:O1 91 50 1 3 aiV:=dz 10 [] [] rfl
def ae0:List CS:=[.assign 2<|.az 679 [.sub ck<|cI 0,ki],.ret<|.az 84 [.az 495 [dE,.az 693 [dE,.sub ck<|cI 1]]]]
theorem PP:O1 756 51 2 7 ae0:=dz 127 [] [] rfl
def aiJ:List CS:=[.fc (.not<|.cmp (cI 1) [.LtE,.LtE] [ck,.bin ah .Add (.bv eN [cy])<|cI 1]) [.raise 119 [Yk,.tup [.tup [ki,cy],.az 84 [ck]]]] [],.ret<|.bin ah .Add (.az 261 [cy,.bin ah .Sub ck<|cI 1])<|cI 1]
theorem abW:O1 495 52 2 6 aiJ:=dz 80 [] [] rfl
def aiT:List CS:=[.assign 2<|.bin ah .Sub (.bv CL [ck,.bv eN [cy]])<|cI 1,.while (.bool ao [.cmp dE [.GtE] [cI 0],.not<|.az 247 [cy,dE]]) [.aug 2 .Sub<|cI 1],.ret<|.bv xB [dE,.neg<|cI 1]]
theorem aht:O1 261 53 2 7 aiT:=dz 42 [] [] rfl
def ae1:List CS:=[.assign 2<|.az 679 [.sub ck<|cI 0,ki],.ret<|.az 84 [.az 488 [dE,.az 693 [dE,.sub ck<|cI 1]]]]
theorem PQ:O1 749 54 2 7 ae1:=dz 126 [] [] rfl
def aiK:List CS:=[.fc (.not<|.cmp (cI 0) [.LtE,.LtE] [ck,.bv eN [cy]]) [.raise 119 [Yk,.tup [.tup [ki,cy],.az 84 [ck]]]] [],.ret<|.fc (.cmp ck [.Gt] [cI 0]) (.bin ah .Add (.az 254 [cy,.bin ah .Sub ck<|cI 1])<|cI 1)<|cI 1]
theorem abX:O1 488 55 2 6 aiK:=dz 79 [] [] rfl
def aiU:List CS:=[.assign 2<|.bin ah .Add ck<|cI 1,.while (.bool ao [.cmp dE [.Lt] [.bv eN [cy]],.not<|.az 247 [cy,dE]]) [.aug 2 .Add<|cI 1],.ret<|.bv CL [dE,.bv eN [cy]]]
theorem ahu:O1 254 56 2 6 aiU:=dz 41 [] [] rfl
def ae2:List CS:=[.assign 2<|.az 679 [.sub ck<|cI 0,ki],.ret<|.az 700 [.az 481 [dE,.az 693 [dE,.sub ck<|cI 1]]]]
theorem PR:O1 742 57 2 7 ae2:=dz 125 [] [] rfl
def aiL:List CS:=[.expr<|.az 467 [cy,ck],.ret<|.sub (.az 240 [cy,.bin ah .Sub ck<|cI 1])<|cI 0]
theorem abY:O1 481 58 2 4 aiL:=dz 78 [] [] rfl
def Z7:List CS:=[.assign 2<|.az 233 [cy,ck],.fc (.cmp dE [.Is] [.const<|.none]) [.ret<|.tup [.bin ah .Sub (.neg<|cI 1)<|.sub cy ck,.bin ah .Add ck<|cI 1]] [],.ret<|.tup [dE,.bin ah .Add ck<|.az 205 [dE]]]
theorem ahv:O1 240 59 2 5 Z7:=dz 39 [] [] rfl
def aiN:List CS:=[.expr<|.az 460 [cy,ck],.fc (.not<|.az 247 [cy,.bin ah .Sub ck<|cI 1]) [.raise 126 [El,cS [110,111,32,115,105,103,110,32,98,101,103,105,110,115,32,97,116,32,116,104,105,115,32,105,110,100,101,120]]] []]
theorem YW:O1 467 60 2 5 aiN:=dz 76 [] [] rfl
def RK:List CS:=[.fc (.not<|.cmp (cI 0) [.LtE,.Lt] [ck,.bv eN [cy]]) [.ret<|.const<|.bool ah] [],.fc (.not<|.az 226 [.sub cy ck]) [.ret<|.const<|.bool ao] [],.for [2] ao (.bv jK [.bv xB [cI 0,.bin ah .Sub ck<|cI 3],ck]) [.assign 3<|.az 233 [cy,dE],.fc (.bool ao [.cmp i6 [.IsNot] [.const<|.none],.cmp (.bin ah .Add dE<|.az 205 [i6]) [.Gt] [ck]]) [.ret<|.const<|.bool ah] []],.ret<|.const<|.bool ao]
theorem TY:O1 247 61 2 10 RK:=dz 40 [] [] rfl
def Vt:List CS:=[.assign 2<|.az 219 [.sub cy ck],.fc (.bool ah [.cmp dE [.Is] [.const<|.none],.cmp (.bin ah .Add ck<|.sub dE<|cI 0) [.GtE] [.bv eN [cy]]]) [.ret<|.const<|.none] [],.unpack [3,4] dE,.for [5] ao (.bv jK [.bin ah .Add ck<|cI 1,.bin ah .Add (.bin ah .Add ck i6)<|cI 1]) [.fc (.not<|.az 226 [.sub cy pv]) [.ret<|.const<|.none] [],.assign 4<|.bin ah .Sub (.bin ah .Add (.bin ah .Mult kX<|cI 64)<|.sub cy pv)<|cI 128],.fc (.bool ah [.cmp kX [.Gt] [cI 1114111],.az 198 [kX],.cmp (.az 205 [kX]) [.NotEq] [.bin ah .Add i6<|cI 1]]) [.ret<|.const<|.none] [],.ret kX]
theorem PO:O1 233 62 2 13 Vt:=dz 38 [] [] rfl
def ae3:List CS:=[.assign 2<|.az 679 [.sub ck<|cI 0,ki],.assign 3<|.az 693 [dE,.sub ck<|cI 1],.expr<|.az 460 [dE,i6],.ret<|.az 84 [.sub dE<|.bin ah .Sub i6<|cI 1,cS [85,73,110,116,56]]]
theorem PS:O1 735 68 2 8 ae3:=dz 124 [] [] rfl
def aiO:List CS:=[.fc (.not<|.cmp (cI 1) [.LtE,.LtE] [ck,.bv eN [cy]]) [.raise 119 [Yk,.tup [.tup [ki,cy],.az 84 [ck]]]] []]
theorem ab0:O1 460 69 2 5 aiO:=dz 75 [] [] rfl
def c_9:List CS:=[.ret<|.tup [wK,ck,cy]]
theorem o_9:O1 84 70 2 2 c_9:=dz 9 [] [cV "Int64"] rfl
def ae5:List CS:=[.assign 2<|.az 686 [ck],.fc (.not<|.cmp (.bin ah .Sub (cI 0)<|.bin ah .Pow (cI 2)<|cI 63) [.LtE,.Lt] [dE,.bin ah .Pow (cI 2)<|cI 63]) [.raise 119 [Yk,.tup [.tup [ki,cy],ck]]] [],.ret dE]
theorem WC:O1 693 71 2 5 ae5:=dz 118 [] [] rfl
def ae6:List CS:=[.fc (.cmp (.sub cy<|cI 0) [.Eq] [D5]) [.ret<|.bv UB [.sub cy<|cI 1]] [],.fc (.cmp (.sub cy<|cI 0) [.NotEq] [wK]) [.raise 119 [xs8,.tup [.tup [cS [115,121,109],wK],.tup [cS [116,121,112,101],.const<|.tup [.str [110,97,109,101],.str [73,110,116,54,52],.tup []]],cy]]] [],.ret<|.sub cy<|cI 2]
theorem acy:O1 686 72 1 4 ae6:=dz 117 [] [] rfl
def ae7:List CS:=[.fc (.cmp (.sub cy<|cI 0) [.NotEq] [ck]) [.raise 119 [xs8,.tup [.tup [cS [115,121,109],ck],.tup [cS [116,121,112,101],.az 138 [.sub (.bad) ck]],cy]]] [],.ret<|.sub cy<|cI 1]
theorem acz:O1 679 73 2 5 ae7:=dz 116 [] [] rfl
def Gi:List CS:=[.mG [3,4,5] [.az 1045 [ck],.az 1045 [dE],.az 1017 [cy]],.fc (.cmp kX [.Lt] [i6]) [.ret<|.tup [ki,cB []]] [],.for [6] ao (.tup [ck,dE]) [.fc (.not<|.az 1052 [pM]) [.ret<|.az 1059 [cy,pM]] []],.for [6] ao (.tup [ck,dE]) [.fc (.not<|.cmp (cI 1) [.LtE,.LtE] [.az 1045 [pM],.bv eN [cy]]) [.ret<|.az 1059 [cy,pM]] [],.fc (.cmp (.az 1045 [pM]) [.NotIn] [pv]) [.ret<|.tup [El]] []],.ret<|.tup [ki,.slice ah cy (.bin ah .Sub i6<|cI 1) (.bin ah .Add (.bin ah .Sub kX<|cI 1)<|.bv eN [.sub (.az 1012 [cy])<|.gb af5 pv [kX]])<|.const<|.none]]
theorem ab6:OQ 1071 ah 1 3 13 Gi:=lQ 175 [] [] rfl
def aeB:List CS:=[.mG [1,2,3] [.tup [ki,cy],.az 1012 [cy],.az 1017 [cy]],.assign 4<|.comp (.az 1024 [ck]) dE [al,al,al] [1] ao [],.assign 5<|.cmp (cI 65533) [.NotIn] [kX],.assign 6<|.gb pL (cB []) [.comp (.fc (.cmp (.az 1024 [ck]) [.NotEq] [cI 65533]) ck<|.fc (.cmp ck [.Eq] [cB [195]]) (cB [92,120,99,51])<|cB [92,120,97,57]) dE [al,al,al] [1] ao []],.assign 7<|.fc (.bool ao [pv,.cmp kX [.NotEq] [.list ah []]]) (.tup [cS [115,121,109],.gb pL (cS []) [.comp (.bv Vq [ck]) kX [al,al,al] [1] ao []]])<|.tup [El],.ret<|.list ah [.tup [cS [116,101,120,116,95,108,101,110,103,116,104],.tup [ck],.az 1031 [.bv eN [dE]]],.tup [cS [116,101,120,116,95,108,97,115,116],.tup [ck],.az 1031 [.sub (.bin ah .Add (.list ah [cI 0]) i6)<|.neg<|cI 1]],.tup [cS [116,101,120,116,95,105,115,95,118,97,108,105,100],.tup [ck],.tup [D5,pv]],.tup [cS [116,101,120,116,95,114,101,118,101,114,115,101,100],.tup [ck],.tup [ki,.gb pL (cB []) [.slice ah dE (.const<|.none) (.const<|.none)<|.neg<|cI 1]]],.tup [cS [116,101,120,116,95,119,114,105,116,116,101,110],.tup [ck],.tup [ki,.bin ah .Add (.bin ah .Add (cB [34]) pM)<|cB [34]]],.tup [cS [115,121,109,98,111,108,95,111,102],.tup [ck],SU]]]
theorem ab2:OQ 1093 ah 2 1 12 aeB:=lQ 179 [] [] rfl
def aeF:List CS:=[.mG [2,3,4] [.az 1045 [ck],.tup [ki,cy],.az 1017 [cy]],.mG [5,6,7] [.az 1059 [cy,ck],.bv eN [cy],.tup [El]],.fc (.cmp dE [.In] [kX]) [.assign 7<|.tup [cS [99,104,97,114],.az 1024 [.sub (.az 1012 [cy])<|.gb af5 kX [dE]]]] [],.mG [8,9] [.bin ah .Add (.comp ck kX [al,al,ab 2] [1] ao [.cmp ck [.Gt] [dE]])<|.list ah [.bin ah .Add pM<|cI 1],.bin ah .Add (.list ah [cI 0])<|.comp ck kX [al,al,ab 2] [1] ao [.cmp ck [.Lt] [dE]]],.ret<|.list ah [.tup [cS [116,101,120,116,95,111,99,116,101,116],.tup [i6,ck],.fc (.cmp (cI 1) [.LtE,.LtE] [dE,pM]) (.tup [wK,cS [85,73,110,116,56],.sub cy<|.bin ah .Sub dE<|cI 1]) pv],.tup [cS [116,101,120,116,95,97,116],.tup [i6,ck],.fc (.cmp (cI 1) [.LtE,.LtE] [dE,pM]) SU pv],.tup [cS [116,101,120,116,95,110,101,120,116],.tup [i6,ck],.fc (.cmp (cI 0) [.LtE,.LtE] [dE,pM]) (.az 1031 [.sub xy<|cI 0]) pv],.tup [cS [116,101,120,116,95,112,114,101,118],.tup [i6,ck],.fc (.cmp (cI 1) [.LtE,.LtE] [dE,.bin ah .Add pM<|cI 1]) (.az 1031 [.sub B5<|.neg<|cI 1]) pv],.tup [cS [116,101,120,116,95,105,115,95,115,116,97,114,116],.tup [i6,ck],.tup [D5,.cmp dE [.In] [kX]]]]]
theorem ab7:OQ 1064 ah 3 2 17 aeF:=lQ 174 [] [] rfl
def aeA:List CS:=[.assign 3<|.sub (.list ah [.tup [D5,.const<|.bool ao],.tup [D5,.const<|.bool ah],.az 1031 [cI 2],.az 1031 [.neg<|cI 1],.tup [wK,Ek,.bin ah .Pow (cI 2)<|cI 64],.tup [wK,Ek,.bin ah .Sub (cI 0)<|.bin ah .Pow (cI 2)<|cI 70]])<|.az 1000 [cy,cI 6],.assign 4<|.az 1045 [i6],.assign 5<|.tup [ki,.fc (.bool ao [.cmp ck [.NotEq] [cB []],.cmp (cI 0) [.LtE,.Lt] [kX,cI 9]]) (.bin ah .Mult ck kX)<|cB []],.fc (.bool ah [.cmp kX [.Lt] [cI 0],.bool ao [.cmp kX [.Gt] [cI 9],.cmp ck [.NotEq] [cB []]]]) [.assign 5<|.fc (.cmp kX [.Lt] [cI 0]) (.tup [El])<|.tup [xs7]] [],.assign 6<|.sub (.list ah [.tup [D5,.const<|.bool ao],.az 1031 [cI 55295],.az 1031 [cI 55296],.az 1031 [cI 57343],.az 1031 [cI 57344],.az 1031 [cI 1114111],.az 1031 [cI 1114112],.az 1031 [.neg<|cI 1],.tup [wK,Ek,.bin ah .Pow (cI 2)<|cI 64]])<|.az 1000 [cy,cI 9],.assign 7<|.bool ah [.cmp (cI 0) [.LtE,.Lt] [.az 1045 [pM],cI 55296],.cmp (cI 57343) [.Lt,.Lt] [.az 1045 [pM],cI 1114112]],.assign 8<|.sub (.list ah [.tup [D5,.const<|.bool ao],.az 1031 [.neg<|cI 255],.tup [wK,Ek,.bin ah .Pow (cI 2)<|cI 63],.tup [wK,Ek,.bin ah .Sub (.bin ah .Pow (cI 2)<|cI 63)<|cI 1],.az 1031 [cI 1295]])<|.az 1000 [cy,cI 5],.assign 9<|.sub (.list ah [.az 1031 [cI 2],.tup [wK,cS [85,73,110,116,56],cI 16],.az 1031 [cI 36],.az 1031 [cI 37],.tup [D5,.const<|.bool ao],.tup [wK,Ek,.bin ah .Pow (cI 2)<|cI 64]])<|.az 1000 [cy,cI 6],.mG [10,11] [.tup [El],.tup [El]],.fc (.cmp (cI 2) [.LtE,.LtE] [.az 1045 [B5],cI 36]) [.assign 10<|.az 1100 [.az 1045 [xy],.az 1045 [B5]],.assign 11<|.tup [wK,.fc (.az 1052 [xy]) (cS [73,110,116,54,52]) Ek,.az 1045 [xy]]] [],.assign 12<|.gb aaW (.xF [.str [84,114,117,101],.str [70,97,108,115,101]] [.str [116,114,117,101],.str [102,97,108,115,101]] (.bv Ly [.sub dE<|cI 1])<|.bv Ly [.sub dE<|.neg<|cI 1]) [cS [97,115,99,105,105]],.ret<|.list ah [.tup [xs9,.tup [.tup [ki,ck],i6],pv],.tup [cS [99,104,97,114,95,111,102],.tup [pM],.fc SU (.tup [cS [99,104,97,114],.az 1045 [pM]])<|.tup [El]],.tup [cS [116,101,120,116,95,111,102,95,110,117,109,98,101,114],.tup [xy,B5],.loc 10],.tup [cS [116,101,120,116,95,110,117,109,98,101,114],.tup [.az 1100 [.az 1045 [xy],.bv xB [cI 2,.bv CL [cI 36,.az 1045 [B5]]]],B5],.loc 11],.tup [cS [116,101,120,116,95,106,111,105,110,101,100],.tup [.tup [ki,ck],dE,.tup [cS [115,121,109],cS [233]]],.tup [ki,.bin ah .Add (.bin ah .Add ck<|.loc 12)<|cB [195,169]]]]]
theorem ab1:OQ 1107 ah 5 3 21 aeA:=lQ 181 [] [] rfl
def aeC:List CS:=[.mG [3,4,5] [.tup [ki,cy],.tup [ki,ck],.az 1076 [cy,ck]],.mG [6,7] [.az 1045 [dE],.az 1059 [cy,dE]],.fc (.cmp (cI 1) [.LtE,.LtE] [pM,.bin ah .Add (.bv eN [cy])<|cI 1]) [.assign 8<|.fc (.cmp ck [.NotEq] [cB []]) (.comp ck pv [al,al,ab 6] [1] ao [.cmp ck [.GtE] [dE]])<|.list ah [pM],.assign 7<|.fc (.cmp xy [.NotEq] [.list ah []]) (.az 1031 [.sub xy<|cI 0])<|.tup [Yj]] [],.assign 9<|.fc (.cmp ck [.NotEq] [cB []]) (.tup [ki,.gb pL (cB [120,121]) [.az 1083 [cy,ck]]])<|.tup [El],.ret<|.list ah [.tup [Yl,.tup [i6,kX,dE],SU],.tup [Yl,.tup [i6,kX],.fc (.cmp pv [.NotEq] [.list ah []]) (.az 1031 [.sub pv<|cI 0])<|.tup [Yj]],.tup [cS [116,101,120,116,95,102,105,110,100,95,108,97,115,116],.tup [i6,kX],.fc (.cmp pv [.NotEq] [.list ah []]) (.az 1031 [.sub pv<|.neg<|cI 1])<|.tup [Yj]],.tup [cS [116,101,120,116,95,115,116,97,114,116,115],.tup [i6,kX],.tup [D5,.cmp (cI 1) [.In] [pv]]],.tup [cS [116,101,120,116,95,101,110,100,115],.tup [i6,kX],.tup [D5,.cmp (.bin ah .Add (.bin ah .Sub (.bv eN [cy])<|.bv eN [ck])<|cI 1) [.In] [pv]]],.tup [cS [116,101,120,116,95,114,101,112,108,97,99,101,100],.tup [i6,kX,.tup [ki,cB [120,121]]],B5]]]
theorem ab3:OQ 1088 ah 7 3 16 aeC:=lQ 178 [] [] rfl
def aeD:List CS:=[.fc (.cmp ck [.Eq] [cB []]) [.ret<|.az 1012 [cy]] [],.mG [2,3] [.list ao [],cI 1],.for [4] ao (.az 1076 [cy,ck]) [.fc (.cmp kX [.GtE] [i6]) [.expr<|.gb iS dE [.slice ah cy (.bin ah .Sub i6<|cI 1) (.bin ah .Sub kX<|cI 1)<|.const<|.none],.assign 3<|.bin ah .Add kX<|.bv eN [ck]] []],.ret<|.bin ah .Add dE<|.list ah [.slice ah cy (.bin ah .Sub i6<|cI 1) (.const<|.none)<|.const<|.none]]
theorem ab4:OQ 1083 ah 8 2 8 aeD:=lQ 177 ["found"] [] rfl
def aeG:List CS:=[.ret<|.tup [Yk,.tup [.tup [ki,cy],.fc (.az 1052 [ck]) (.az 1031 [.az 1045 [ck]]) ck]]]
theorem ab8:OQ 1059 ah 9 2 5 aeG:=lQ 173 [] [] rfl
def aeJ:List CS:=[.ret<|.tup [wK,cS [73,110,116,54,52],cy]]
theorem acf:OQ 1031 ah 10 1 1 aeJ:=lQ 169 [] [] rfl
def aeH:List CS:=[.ret<|.cmp (.bin ah .Sub (cI 0)<|.bin ah .Pow (cI 2)<|cI 63) [.LtE,.Lt] [.az 1045 [cy],.bin ah .Pow (cI 2)<|cI 63]]
theorem ab9:OQ 1052 ah 11 1 2 aeH:=lQ 172 [] [] rfl
def aeI:List CS:=[.ret<|.fc (.cmp (.sub cy<|cI 0) [.Eq] [D5]) (.bv UB [.sub cy<|cI 1])<|.sub cy<|cI 2]
theorem acd:OQ 1045 ah 12 1 2 aeI:=lQ 171 [] [] rfl
def aeE:List CS:=[.assign 2<|.az 1017 [cy],.assign 3<|.bin ah .Add dE<|.list ah [.bin ah .Add (.bv eN [cy])<|cI 1],.fc (.cmp ck [.Eq] [cB []]) [.ret i6] [],.ret<|.comp ck dE [al,al,al,ab 3,ab 0,ab 1] [1] ao [.bool ao [.cmp (.slice ah kX (.bin ah .Sub ck<|cI 1) (.bin ah .Add (.bin ah .Sub ck<|cI 1)<|.bv eN [pv])<|.const<|.none) [.Eq] [pv],.cmp (.bin ah .Add ck<|.bv eN [pv]) [.In] [i6]]]]
theorem ab5:OQ 1076 ah 13 2 6 aeE:=lQ 176 [] [] rfl
def aeL:List CS:=[.assign 1<|.az 1012 [cy],.ret<|.comp (.bin ah .Add (cI 1)<|.bv Lu [.comp (.bv eN [ck]) (.slice ah i6 (.const<|.none) ck<|.const<|.none) [al,al,al] [1] ao []]) (.bv jK [.bv eN [ck]]) [al,al,al,ab 1] [1] ao []]
theorem ach:OQ 1017 ah 14 1 5 aeL:=lQ 167 [] [] rfl
def Xl:List CS:=[.mG [1,2] [.list ao [],cI 0],.while (.cmp dE [.Lt] [.bv eN [cy]]) [.assign 3<|.fc (.cmp (.sub cy dE) [.Eq] [cI 226]) (cI 3)<|.fc (.cmp (.slice ah cy dE (.bin ah .Add dE<|cI 2)<|.const<|.none) [.Eq] [cB [195,169]]) (cI 2)<|cI 1,.expr<|.gb iS ck [.slice ah cy dE (.bin ah .Add dE i6)<|.const<|.none],.assign 2<|.bin ah .Add dE i6],.ret ck]
theorem aci:OQ 1012 ah 15 1 5 Xl:=lQ 166 ["found"] [] rfl
def RL:List CS:=[.mG [2,3] [.bin ah .Sub (.az 1000 [cy,.bin ah .Add (.bv eN [ck])<|cI 4])<|cI 1,.az 1000 [cy,cI 6]],.fc (.cmp i6 [.Eq] [cI 0]) [.ret<|.tup [D5,.cmp (.bin ah .Mod dE<|cI 2) [.Eq] [cI 0]]] [],.fc (.cmp i6 [.Eq] [cI 1]) [.ret<|.tup [wK,Ek,.sub (.list ah [.bin ah .Pow (cI 2)<|cI 63,.bin ah .Sub (.bin ah .Sub (cI 0)<|.bin ah .Pow (cI 2)<|cI 63)<|cI 1,.bin ah .Add (.bin ah .Pow (cI 2)<|cI 64)<|cI 1,.bin ah .Sub (.bin ah .Pow (cI 2)<|cI 63)<|cI 1,.bin ah .Sub (cI 0)<|.bin ah .Pow (cI 2)<|cI 63])<|.az 1000 [cy,cI 5]]] [],.ret<|.tup [wK,.fc (.cmp i6 [.Eq] [cI 2]) Ek<|cS [73,110,116,54,52],dE]]
theorem ace:OQ 1038 ah 16 2 6 RL:=lQ 170 [] [] rfl
def aeM:List CS:=[.assign 2<|.list ah [cB [97],cB [195,169],cB [195],cB [169],cB [226,130,172]],.ret<|.gb pL (cB []) [.comp (.sub i6<|.az 1000 [kX,cI 5]) (.bv jK [.az 1000 [cy,.bin ah .Add ck<|cI 1]]) [al,al,al,ab 2,ab 0] [1] ao []]]
theorem acj:OQ 1005 ah 17 2 5 aeM:=lQ 165 [] [] rfl
def aeN:List CS:=[.fc (.cmp (.sub cy<|cI 0) [.Gt] [cI 0]) [.assign 2<|.bin ah .Mod (.sub cy<|cI 0) ck,.setItem cy (cI 0)<|.bin ah .FloorDiv (.sub cy<|cI 0) ck,.ret dE] [],.setItem cy (cI 1)<|.bin ah .Mod (.bin ah .Add (.bin ah .Mult (.sub cy<|cI 1)<|cI 239)<|cI 4001)<|cI 65327,.ret<|.bin ah .Mod (.bin ah .FloorDiv (.sub cy<|cI 1)<|cI 7) ck]
theorem Wy:OQ 1000 ah 18 2 3 aeN:=lQ 164 [] [] rfl
def Xm:List CS:=[.assign 2<|.fc (.cmp ck [.Lt] [.bv eN [cy]]) (.sub cy ck)<|cI 0,.assign 3<|.fc (.cmp dE [.GtE] [cI 0]) dE<|.bin ah .Sub (cI 4) dE,.ret<|.list ao [.fc (.cmp i6 [.GtE] [.bin ah .Pow (cI 10)<|cI 15]) i6<|cI 0,.bin ah .Mod (.bin ah .Add (.bin ah .Add (.bin ah .Mult (.bin ah .Mod i6<|cI 999863)<|cI 283)<|.bin ah .Mult (cI 107) ck)<|cI 47)<|cI 65327]]
theorem ack:OQ 993 ao 19 2 5 Xm:=lQ 163 ["return"] [] rfl
theorem rM {i:Nat} (P:o[i]?=ab c) (N:aa o<=1000):uH (.bytes o) (.int (i:Int)) H=.ok (.int c.toNat) H:=by refine bd (aA.mp P) λD S=>?_;subst S;show(if 0<=(i:Int)/\(i:Int)<aa o/\aa o<=1099511627776 then ax (dq (o.getD (i:Int).toNat 0).toNat) else aP) H=_;rw[if_pos ⟨by exact bB _,by exact cJ.mpr (by assumption),kz ‹_› (by rfl)⟩];simp[ax,D]
theorem acR (N:aa o<=1000):eN [.bytes o] H=.ok (.int<|aa o) H:=by show(if aa o<=1099511627776 then ax (dq<|aa o) else aP) H=_;rw[if_pos<|kz ‹_› (by rfl)];rfl
theorem dy (h:bo B e V H=.ok (.bytes o) H₁) (N:aa o<=1000):bo B (.bv eN [e]) V H=.ok (.int<|aa o) H₁:=dJ (ac h aq)<|acR N
theorem dP {a b:Int} (h:decide (a<b)=c):lF .Lt (.int a) (.int b) H=.ok c H:=by rw[<-h];rfl
theorem zI {a b:Int} (h:decide (a<=b)=c):lF .LtE (.int a) (.int b) H=.ok c H:=by refine(h)▸?_;rfl
theorem jg {a b:Int} (h:decide (b<a)=c):lF .Gt (.int a) (.int b) H=.ok c H:=by refine(h)▸?_;rfl
theorem jv {a b:Int} (h:decide (b<=a)=c):lF .GtE (.int a) (.int b) H=.ok c H:=by refine(h)▸?_;rfl
theorem fq {a b:Int} (h:decide (a=b)=c):lF .Eq (.int a) (.int b) H=.ok c H:=by refine(h)▸?_;rfl
theorem KJ {a b:Int} (h:(!decide (a=b))=c):lF .NotEq (.int a) (.int b) H=.ok c H:=by refine(h)▸?_;rfl
theorem qW {one:Bool} (D:rt B j V (bo B j V) H=.ok M Z) (N:ik (λd p=>f0 d W one p) (λd=>fR B Q body d) M V Z=.ok (.next,d) g) (k:fR B Q l d g=r):fR B Q (.for W one j body::l) V H=r:=
 fg (a:=(.next,d)) (fg D<|by unfold gV;rw[N]) k
theorem rL {one:Bool} (D:rt B j V (bo B j V) H=.ok M Z) (N:ik (λd p=>f0 d W one p) (λd=>fR B Q body d) M V Z=.ok (.ret p,d) H₂):fR B Q (.for W one j body::l) V H=.ok (.ret p,d) H₂:=
 fg (fg D<|by unfold gV;rw[N]) rfl
theorem nH (N:g8 (λd=>jW B t d<|bo B t d) (λd=>fR B Q body d) KS V H=.ok (.next,d) Z) (k:fR B Q l d Z=r):fR B Q (.while t body::l) V H=r:=
 fg (a:=(.next,d)) (by show gV _ H=_;unfold gV;rw[N]) k
theorem Oq (N:g8 (λd=>jW B t d<|bo B t d) (λd=>fR B Q body d) KS V H=.ok (.ret p,d) H₁):fR B Q (.while t body::l) V H=.ok (.ret p,d) H₁:=
 fg (by show gV _ H=_;unfold gV;rw[N]) rfl
theorem iw (R:a V p=ab d) (h:body d H=.ok (.next,g) Z) (k:ik a body y g Z=r):ik a body (p::y) V H=r:=by unfold ik;exact(ae R)▸fg h k
theorem w7 (R:a V p=ab d) (h:body d H=.ok (.ret q,g) H₁):ik a body (p::y) V H=.ok (.ret q,g) H₁:=by unfold ik;exact(ae R)▸fg h rfl
theorem Xc {P:bN->Prop}:∀(y) {V},(∀p∈y,∀V,P V->∃d g,a V p=ab d/\body d H=.ok (.next,g) H/\P g)->P V->∀{r x},(∀d,P d->ik a body r d H=x)->ik a body (y++r) V H=x
 |[],V,_,h,r,x,k=>k V h
 |p::y,V,G,h,r,x,k=>by exact cL (G p (by simp) V h) λd g m i C=>iw m i<|Xc y (λq L=>G q<|by simp[L]) C k
theorem lj (h:o V H=.ok ah H₁):g8 o body (f+1) V H=.ok (.next,V) H₁:=fg h rfl
theorem qt (h:o V H=.ok ao Z) (R:body V Z=.ok (.next,d) g) (k:g8 o body f d g=r):g8 o body (f+1) V H=r:=
 fg h (fg R k)
theorem abw (h:o V H=.ok ao Z) (R:body V Z=.ok (.ret p,d) H₂):g8 o body (f+1) V H=.ok (.ret p,d) H₂:=
 fg h (fg R rfl)
theorem aE (h:m H=.ok p H) (A:cZ H=ao) (F:i8 p=ao):iH ah m H=.ok p H:=by
 have:=zL h (by exact(ae fy)▸A) F
 rwa [fy] at this
theorem b8 (h:m H=.exc p H) (A:cZ H=ao) (F:i8 p=ao):iH ah m H=.exc p H:=by
 have:=Np (j:=ah) h (by exact(ae fy)▸A) F
 rwa [fy] at this
inductive Tk where
 |a|e|c|n|u
noncomputable def Tk.b:Tk->List UInt8
 |.a=>[97]
 |.e=>[0xC3,0xA9]
 |.c=>[0xC3]
 |.n=>[0xA9]
 |.u=>[0xE2,0x82,0xAC]
open Tk renaming b->SG
noncomputable def Tk.code:Tk->Int
 |.a=>97
 |.e=>233
 |.c=>-196
 |.n=>-170
 |.u=>8364
noncomputable def av:List Tk->List UInt8
 |[]=>[]
 |t::r=>t.b++av r
noncomputable def zY:List Tk->Prop
 |.c::.n::_=>False
 |_::r=>zY r
 |[]=>True
theorem pa:∀p q,av (p++q)=av p++av q
 |[],_=>rfl
 |t::p,q=>by
  show t.b++av (p++q)=(t.b++av p)++av q
  (refine(ae<|pa p q)▸?_;rw[eZ])
theorem zY.tail (h:zY (t::r)):zY r:=by
 cases t<;>try exact h
 induction r with
 |nil=>trivial
 |cons u r=>cases u<;>first|exact h|exact h.elim
theorem zY.drop:∀{p},zY (p++q)->zY q
 |[],h=>h
 |_::_,h=>zY.drop<|zY.tail h
theorem n0 (t:Tk):1<=aa t.b:=by cases t<;>decide
theorem pF (k) (z:k<aa t.b):(av<|p++t::q)[aa (av p)+k]?=t.b[k]?:=by
 (refine(ae (pa ..))▸ag (cj<|cn _ _) ?_)
 show(t.b++av q)[_]?=_
 (refine(ae (gz ..))▸?_;rw[dh z])
theorem VJ:(av<|p++t::u::q)[aa (av p)+aa t.b]?=u.b[0]?:=by
 have:=pF (p:=p++[t]) (q:=q) 0<|n0 u
 have i:aa (av<|p++[t])=aa (av p)+aa t.b:=by
  (refine(ae (pa ..))▸ag aI ?_)
  show _+aa (t.b++[])=_;rw[fh]
 rwa [show(p++[t])++u::q=p++t::u::q by simp,i,afO] at this
theorem sW:aa (av<|p++t::q)=aa (av p)+aa t.b+aa (av q):=by
 (refine(ae (pa ..))▸ag aI ?_)
 show _+aa (t.b++av q)=_;exact(ae aI)▸ae (d8 _ _ _)
theorem pU {f:FE} (Y:(r6[i]?).map (λg=>(g.addr,g.k,g.keep,g.muts,g.defs))=ab (f.addr,f.k,f.keep,f.muts,f.defs)) (G:((r6.take i).all λg=>decide<|f.addr≠g.addr)=ao) (B:(bF f.k).1.args.length=n) (U:(bF f.k).2.2.names.length=l) (z:f.keep=ah) (C:aa y=n)
 (h:kJ (oI<|i+1) dF l (Ds f.k f.muts) y H=.ok p H) (A:cZ H=ao) (F:i8 p=ao):b6 f.addr y H=.ok p H:=by
 show iG rR dF r6 f.addr y H=_;rw[vT Y G B U rfl C,z];exact aE h A F
noncomputable def WN:Int->PV
 |97=>.tup [.int 0,.int 97]
 |195=>.tup [.int 1,.int 3]
 |226=>.tup [.int 2,.int 2]
 |_=>.none
theorem CO (A:cZ H=ao) (x:Int) (T:x=97\/x=195\/x=226\/x=169\/x=130\/x=172):b6 219 [.int x] H=.ok (WN x) H:=
 pU (i:=64) rfl rfl rfl rfl rfl rfl (by rcases T with rfl|rfl|rfl|rfl|rfl|rfl<;>kernel_rfl) A (by rcases T with rfl|rfl|rfl|rfl|rfl|rfl<;>rfl)
theorem we (A:cZ H=ao) (x:Int) (T:x=97\/x=195\/x=226\/x=169\/x=130\/x=172):b6 226 [.int x] H=.ok (.bool<|decide<|128<=x/\x<192) H:=
 pU (i:=65) rfl rfl rfl rfl rfl rfl (by rcases T with rfl|rfl|rfl|rfl|rfl|rfl<;>kernel_rfl) A rfl
theorem aag (A:cZ H=ao) (x:Int) (T:x=97\/x=233\/x=8364):b6 198 [.int x] H=.ok (.bool ah) H:=
 pU (i:=63) rfl rfl rfl rfl rfl rfl (by rcases T with rfl|rfl|rfl<;>kernel_rfl) A rfl
noncomputable def wQ:Int->Int
 |97=>1
 |233=>2
 |_=>3
theorem qy (A:cZ H=ao) (x:Int) (T:x=97\/x=233\/x=8364):b6 205 [.int x] H=.ok (.int<|wQ x) H:=
 pU (i:=62) rfl rfl rfl rfl rfl rfl (by rcases T with rfl|rfl|rfl<;>kernel_rfl) A rfl
theorem qz {a b:Int} (h:b<=a):el a b=[]:=by unfold el;refine(ae<|Ol<|NS h)▸?_;rfl
theorem EX (a:Int) (n:Nat):el a (a+n)=(dg n).map λ(i:Nat)=>.int (a+i):=by unfold el;(refine(ae (xO ..))▸(ae (co ..))▸?_;rw[ek])
theorem uG (a:Int) (n:Nat):a+((n+1:Nat):Int)=a+1+n:=by(refine(ae (Wc ..))▸(ae (qV ..))▸?_;rw[xO 1])
theorem jJ {a b:Int} (h:a<b):el a b=.int a::el (a+1) b:=by refine bd (Int.lt.dest h) λn e=>?_;rw[<-e,show a+((aaF n:Nat):Int)=a+((n+1:Nat):Int) from rfl,EX,uG,EX,GJ,bu,gO,Wb,jw];exact congrArg _ (oH λx _=>congrArg dq<|uG a x)
theorem HA {a b c:Int} (h:a<=b) (G:b<=c):el a c=el a b++el b c:=by
 have j:∀(n:Nat) (a:Int),a+n<=c->el a c=el a (a+n)++el (a+n) c:=λn=>by
  induction n with
  |zero=>intro a _;(refine(ae Wb)▸(ae (jw ..))▸(ae<|qz<|fV a)▸?_);rfl
  |succ n o=>
   intro a h;have F:=Int.lt_add_of_pos_right a<|Int.natCast_pos.mpr<|mn n
   rw[jJ<|lK F h,jJ F,uG,o (a+1)<|uG a n▸h];rfl
 exact bd (Int.le.dest h) λn e=>(e)▸j n a (e▸G)
theorem HW {a b:Int} (h:p∈el a b):∃i,p=.int i/\a<=i/\i<b:=by unfold el at h;exact aH (b2.mp h) λn B e=>⟨_,ae e,Int.le_add_of_nonneg_right<|bB n,Int.add_lt_of_lt_sub_left<|afU.mp<|pr.mp B⟩
theorem rW {a b:Int} (h:bo B x V H=.ok (.int a) H) (G:bo B y V H=.ok (.int b) H) (z:-2000<=a/\a<=2000/\-2000<=b/\b<=2000) (e:el a b=l):rt B (.bv jK [x,y]) V (bo B (.bv jK [x,y]) V) H=.ok l H:=
 fg (dJ (ac h<|ac G aq) rfl) (by unfold et;dsimp only;(refine ag (if_pos ⟨by exact dr<|bj [] [a] [(1,.g<|.n 2000,cz),(1,xi cz,.g<|.n 4611686018427387904)] rfl z.1,by exact dr<|bj [] [a] [(1,cz,.n 2000),(1,xi<|.n 4611686018427387904,xi cz)] rfl z.2.1,by exact dr<|bj [] [b] [(1,.g<|.n 2000,cz),(1,xi cz,.g<|.n 4611686018427387904)] rfl z.2.2.1,by exact dr<|bj [] [b] [(1,cz,.n 2000),(1,xi<|.n 4611686018427387904,xi cz)] rfl z.2.2.2⟩) ?_;rw[e]))
theorem jA (h:bo B (.az a D) V H=.ok (.bool c) H₁):jW B (.az a D) V (bo B (.az a D) V) H=.ok c H₁:=fg h rfl
theorem aiW (h:jW B x V (bo B x V) H=.ok ah Z) (k:pg B ah r V Z=.ok c H₂):pg B ah (x::r) V H=.ok c H₂:=fg h k
theorem ay (h:nU (oI j) D V H=.ok l Z) (G:((r6.take j).all λf=>decide<|a≠f.addr)=ao) (k:b6 a l Z=r):bo (oI j) (.az a D) V H=r:=gk h<|c1 G k
section
variable {i:Nat}
theorem tN {f code:Int} (A:cZ H=ao) (P:code=97\/code=233\/code=8364) (Y:wQ code=f+1):
 fR (oI 62) dF (Vt.drop 4) (ab (.bytes o)::ab (.int i)::x::ab (.int f)::ab (.int code)::y::R) H=.ok (.ret<|.int code,ab (.bytes o)::ab (.int i)::x::ab (.int f)::ab (.int code)::y::R) H:=
 eQ (c:=ah) (tw (a7 rfl rfl<|jg (by rcases P with rfl|rfl|rfl<;>rfl))<|aiW (jA<|ay (ac rfl aq) rfl<|aag A _ P)<|ja<|a7 (ay (ac rfl aq) rfl<|qy A _ P) (bn rfl rfl rfl)<|KJ<|by refine(ae Y)▸?_;simp) bH (bG rfl)
theorem qq (D:o[i]?=ab c) (P:c=169\/c=130\/c=172) (N:aa o<=1000) (A:cZ H=ao):b6 233 [.bytes o,.int i] H=.ok .none H:=by
 have t:b6 219 [.int c.toNat] H=.ok .none H:=by rcases P with rfl|rfl|rfl<;>exact CO A _ (by decide)
 rw[PO rfl];exact aE (aK<|bT (ay (ac (bx rfl rfl<|rM D N) aq) rfl t)<|kj (A0<|a7 rfl rfl rfl)<|bG rfl) A rfl
theorem ag2:yw 2 (.tup [a,b]) H=.ok [a,b] H:=rfl
theorem qr {f v:Int} (D:o[i]?=ab c) (C:WN c.toNat=.tup [.int f,.int v]) (T:(c.toNat:Int)=97\/(c.toNat:Int)=195\/(c.toNat:Int)=226\/(c.toNat:Int)=169\/(c.toNat:Int)=130\/(c.toNat:Int)=172) (Y:i+f<aa o) (N:aa o<=1000) (A:cZ H=ao)
 (k:fR (oI 62) dF (Vt.drop 3) [ab<|.bytes o,ab<|.int i,ab<|.tup [.int f,.int v],ab<|.int f,ab<|.int v,al,al,al,al,al,al,al,al] H=r):
 fR (oI 62) dF Vt ([.bytes o,.int i].map ab++aW (13-2) al) H=r:=
 bT (ay (ac (bx rfl rfl<|rM D N) aq) rfl<|ag (CO A _ T)<|by rw[C]) (eQ (tw (a7 rfl rfl rfl)<|ja<|a7 (bn rfl (bx rfl rfl rfl) rfl) (dy rfl N)<|jv<|decide_eq_false<|by exactλM=>bj [i,aa o] [f] [(1,xi<|.a aJ cz,bf),(1,bf,.a aJ cz)] rfl Y M) bH<|Em rfl ag2 k)
theorem SY (D:o[i]?=ab 97) (N:aa o<=1000) (A:cZ H=ao):b6 233 [.bytes o,.int i] H=.ok (.int 97) H:=by have F:=(aA.mp D).1;rw[PO rfl];refine aE (aK<|qr D rfl (by decide) (by exact dr<|bj [i,aa o] [] [(1,xi aJ,bf),(1,xi bf,xi<|.a aJ ef)] rfl<|cl F) N A<|qW (rW (bn rfl rfl rfl) (bn (bn rfl rfl rfl) rfl rfl) (by exact⟨dr<|bj [i] [] [(1,xi<|xi aJ,.g<|.n 2000)] rfl,⟨dr<|bj [aa o,i] [] [(1,aJ,.n 1000),(1,xi bf,aJ),(1,xi<|.n 2000,xi bf)] rfl (cl N)<|cl F,⟨dr<|bj [i] [] [(1,xi<|xi<|.a aJ ef,.g<|.n 2000)] rfl,dr<|bj [aa o,i] [] [(1,aJ,.n 1000),(1,xi bf,aJ),(1,xi<|.n 2000,xi<|.a bf ef)] rfl (cl N)<|cl F⟩⟩⟩)<|qz<|by exact dr<|bj [i] [] [(1,xi<|xi aJ,xi<|.a aJ ef)] rfl) rfl<|tN A (.inl rfl) rfl) A rfl
theorem tO {code f:Int} {j:Nat} (Q:o[j]?=ab c) (T:(c.toNat:Int)=169\/(c.toNat:Int)=130\/(c.toNat:Int)=172) (G:0<=code/\code<100000) (N:aa o<=1000) (A:cZ H=ao):
 fR (oI 62) dF [.fc (.not<|.az 226 [.sub cy pv]) [.ret<|.const<|.none] [],.assign 4<|.bin ah .Sub (.bin ah .Add (.bin ah .Mult kX<|cI 64)<|.sub cy pv)<|cI 128] (ab (.bytes o)::ab (.int i)::x::ab (.int f)::ab (.int code)::ab (.int j)::R) H=
  .ok (.next,ab (.bytes o)::ab (.int i)::x::ab (.int f)::ab (.int<|code*64+c.toNat-128)::ab (.int j)::R) H:=
 eQ (gK<|jA<|ay (ac (bx rfl rfl<|rM Q N) aq) rfl<|ag (we A _ (.inr<|.inr<|.inr T))<|by rw[decide_eq_true (by rcases T with h|h|h<;>rw[h]<;>decide)]) bH (bT (bn (bn (bn rfl rfl (by
  show(if(ir code||ir 64)=ao then ax (dq<|code*64) else aP) H=_
  rw[if_pos<|by rw[show ir 64=ao by decide,GO]];rfl)) (bx rfl rfl<|rM Q N) rfl) rfl rfl) bH)
theorem SW (D:o[i]?=ab 0xC3) (Q:o[i+1]?=ab 0xA9) (N:aa o<=1000) (A:cZ H=ao):b6 233 [.bytes o,.int i] H=.ok (.int 233) H:=by have F:=(aA.mp Q).1;rw[PO rfl];refine aE (aK<|qr D rfl (by decide) (by exact cJ.mpr<|by assumption) N A<|qW (rW (bn rfl rfl rfl) (bn (bn rfl rfl rfl) rfl rfl) (by exact⟨dr<|bj [i] [] [(1,xi<|xi aJ,.g<|.n 2000)] rfl,⟨dr<|bj [aa o,i] [] [(1,aJ,.n 1000),(1,xi<|xi bf,aJ),(1,xi<|.n 2000,xi bf)] rfl (cl N)<|cl F,⟨dr<|bj [i] [] [(1,xi<|xi<|xi aJ,.g<|.n 2000)] rfl,dr<|bj [aa o,i] [] [(1,aJ,.n 1000),(1,xi<|xi bf,aJ),(1,xi<|.n 2000,xi<|xi bf)] rfl (cl N)<|cl F⟩⟩⟩)<|ag (jJ<|by exact dr<|bj [i] [] [(1,xi<|xi<|xi aJ,xi<|xi aJ)] rfl)<|congrArg _ (qz<|by exact dr<|bj [i] [] [(1,xi<|xi<|xi aJ,xi<|xi aJ)] rfl)) (iw rfl (tO Q (.inl rfl) (by exact⟨dr<|bj [] [] [(1,xi<|.n 3,ef)] rfl,dr<|bj [] [] [(1,xi<|.n 100000,xi<|.n 3)] rfl⟩) N A) rfl)<|tN A (.inr<|.inl rfl) rfl) A rfl
theorem SV (D:o[i]?=ab 0xE2) (Q:o[i+1]?=ab 0x82) (z:o[i+2]?=ab 0xAC) (N:aa o<=1000) (A:cZ H=ao):b6 233 [.bytes o,.int i] H=.ok (.int 8364) H:=by have F:=(aA.mp z).1;rw[PO rfl];refine aE (aK<|qr D rfl (by decide) (by exact cJ.mpr<|by assumption) N A<|qW (rW (bn rfl rfl rfl) (bn (bn rfl rfl rfl) rfl rfl) (by exact⟨dr<|bj [i] [] [(1,xi<|xi aJ,.g<|.n 2000)] rfl,⟨dr<|bj [aa o,i] [] [(1,aJ,.n 1000),(1,xi<|.a bf<|.n 2,aJ),(1,xi<|.n 2000,xi bf)] rfl (cl N)<|cl F,⟨dr<|bj [i] [] [(1,xi<|xi<|.a aJ<|.n 2,.g<|.n 2000)] rfl,dr<|bj [aa o,i] [] [(1,aJ,.n 1000),(1,xi<|.a bf<|.n 2,aJ),(1,xi<|.n 2000,xi<|.a bf<|.n 2)] rfl (cl N)<|cl F⟩⟩⟩)<|by rw[jJ (by exact dr<|bj [i] [] [(1,xi<|xi<|.a aJ<|.n 2,xi<|xi aJ)] rfl),jJ (by exact dr<|bj [i] [] [(1,xi<|xi<|.a aJ<|.n 2,xi<|xi<|xi aJ)] rfl),qz (by exact dr<|bj [i] [] [(1,xi<|xi<|xi<|xi aJ,xi<|.a aJ<|.n 2)] rfl),qV];rfl) (iw rfl (tO Q (.inr<|.inl rfl) (by exact⟨dr<|bj [] [] [(1,xi<|.n 2,ef)] rfl,dr<|bj [] [] [(1,xi<|.n 100000,xi<|.n 2)] rfl⟩) N A)<|iw rfl (tO z (.inr<|.inr rfl) (by decide) N A) rfl)<|tN A (.inr<|.inr rfl) rfl) A rfl
theorem SX (D:o[i]?=ab 0xC3) (Q:∀d,o[i+1]?=ab d->d=97\/d=0xC3\/d=0xE2) (N:aa o<=1000) (A:cZ H=ao):b6 233 [.bytes o,.int i] H=.ok .none H:=by
 have F:=(aA.mp D).1;rw[PO rfl]
 cases Z:o[i+1]? with
 |none=>rw[DY] at Z;exact aE (aK<|bT (ay (ac (bx rfl rfl<|rM D N) aq) rfl<|CO A _ (by decide))<|kj (tw (a7 rfl rfl rfl)<|ja<|a7 (bn rfl (bx rfl rfl rfl) rfl) (dy rfl N)<|jv<|decide_eq_true<|by exact dI.mpr<|by assumption)<|bG rfl) A rfl
 |some d=>
  have a:=(aA.mp Z).1;have f:=Q d Z
  refine aE (aK (qr D rfl (by decide) (by exact cJ.mpr<|by assumption) N A (rL (rW (bn rfl rfl rfl) (bn (bn rfl rfl rfl) rfl rfl) (by exact⟨dr<|bj [i] [] [(1,xi<|xi aJ,.g<|.n 2000)] rfl,⟨dr<|bj [aa o,i] [] [(1,aJ,.n 1000),(1,xi<|xi bf,aJ),(1,xi<|.n 2000,xi bf)] rfl (cl N)<|cl a,⟨dr<|bj [i] [] [(1,xi<|xi<|xi aJ,.g<|.n 2000)] rfl,dr<|bj [aa o,i] [] [(1,aJ,.n 1000),(1,xi<|xi bf,aJ),(1,xi<|.n 2000,xi<|xi bf)] rfl (cl N)<|cl a⟩⟩⟩)<|jJ<|by exact dr<|bj [i] [] [(1,xi<|xi<|xi aJ,xi<|xi aJ)] rfl)
   (w7 rfl<|kj (gK (c:=ah)<|jA<|ay (ac (bx rfl rfl<|rM Z N) aq) rfl<|ag (we A _ ?_) ?_)<|bG rfl)))) A rfl
  ·rcases f with rfl|rfl|rfl<;>decide
  ·rcases f with rfl|rfl|rfl<;>rfl
end
theorem Rc {P:bN->Prop}:∀(y) {V},(∀p∈y,∀V,P V->∃d g,a V p=ab d/\body d H=.ok (.next,g) H/\P g)->P V->∃d,P d/\ik a body y V H=.ok (.next,d) H
 |[],V,_,h=>⟨V,h,rfl⟩
 |p::y,V,G,h=>by exact cL (G p (by simp) V h) λd g m i C=>aH (Rc y (λq L=>G q<|by simp[L]) C) λb J W=>⟨b,J,iw m i W⟩
noncomputable def dj:Nat->List Tk->List Nat
 |_,[]=>[]
 |k,t::r=>k::dj (k+aa t.b) r
noncomputable def my (G:List Tk) (i:Int):Bool:=(dj 0 G).any λn=>decide<|(n:Int)=i
theorem pV:∀p q k,dj k (p++q)=dj k p++dj (k+aa (av p)) q
 |[],q,k=>rfl
 |t::p,q,k=>by
  show k::dj (k+aa t.b) (p++q)=k::(dj (k+aa t.b) p++dj (k+aa (t.b++av p)) q)
  (refine(ae (pV p q ..))▸(ae aI)▸?_;rw[d8])
theorem kv:∀p k n,n∈dj k p->k<=n/\n<k+aa (av p)
 |t::p,k,n,h=>by
  have F:=n0 t;have e:(av<|t::p).length=t.b.length+(av p).length:=aI;rcases aL.mp h with rfl|h
  ·exact⟨cP<|bj [n] [] [(1,xi aJ,aJ)] rfl,cP<|bj [aa t.b,aa<|av p,aa<|av<|t::p,n] [] [(1,ia,aJ),(1,.a aJ bf,ct),(1,xi<|.a ig ct,xi ig)] rfl (cl F)<|cl<|an<|ae e⟩
  ·have:=kv p _ n h;exact⟨cP<|bj [aa t.b,k,n] [] [(1,ia,aJ),(1,.a bf aJ,ct),(1,xi ct,bf)] rfl (cl F)<|cl this.1,cP<|bj [aa t.b,aa<|av p,aa<|av<|t::p,n,k] [] [(1,.a aJ bf,ct),(1,xi ig,.a (.a (.v 4) aJ) bf),(1,xi<|.a (.v 4) ct,xi ig)] rfl (cl<|an<|ae e)<|cl this.2⟩
theorem u7 (p q t):my (p++t::q) (aa<|av p)=true:=by
 unfold my
 (refine(ae (pV ..))▸ag Wa<|(ae (gE ..))▸?_)
 exact .inr<|by simp[dj]
theorem QA (p q t) (k:Nat) (T:0<k) (z:k<aa t.b):my (p++t::q) (aa (av p)+k:Nat)=false:=by
 unfold my;rw[lU];intro n hn;rw[pV] at hn;rw[decide_eq_true_eq];rcases eB.mp hn with hn|hn
 ·have:=kv p _ n hn;exactλM=>bj [k,n,aa<|av p] [] [(1,xi ef,aJ),(1,xi bf,.a ef ct),(1,.a ct aJ,bf)] rfl (cl T) (cl this.2)<|aT<|ae M
 ·rcases aL.mp hn with rfl|hn
  ·exactλM=>bj [k,aa<|av p] [] [(1,xi ef,aJ),(1,.a bf aJ,.a ef bf)] rfl (cl T)<|aT<|ae M
  ·have:=kv q _ n hn;exactλM=>bj [k,aa t.b,aa<|av p,n] [] [(1,xi aJ,bf),(1,.a (.a ef ct) bf,ig),(1,ig,.a ct aJ)] rfl (cl z) (cl this.1)<|aT M
theorem Km (G) (i:Int) (h:¬(0<=i/\i<aa (av G))):my G i=false:=by
 unfold my;rw[lU];intro n B;have:=kv G 0 n B;rw[decide_eq_true_eq]
 exactλe=>h<|e▸⟨bB n,cJ.mpr<|Nat.lt_of_lt_of_eq this.2<|fO _⟩
theorem sT:∀G i,i<aa (av G)->∃p t q k,G=p++t::q/\k<aa t.b/\i=aa (av p)+k
 |t::r,i,h=>by
  by_cases D:i<aa t.b
  ·exact⟨[],t,r,i,rfl,D,by simp[av]⟩
  ·have e:(av<|t::r).length=t.b.length+(av r).length:=aI;refine Rr (sT r (i-aa t.b)<|Nat.sub_lt_left_of_lt_add (cW.mp D)<|e▸h) λp u q k m Z C=>⟨t::p,u,q,k,by refine(ae m)▸?_;rfl,Z,?_⟩
   (refine(ae<|show(av<|t::p).length=t.b.length+(av p).length from aI)▸(ae (d8 ..))▸(C)▸?_;rw[Nat.add_sub_cancel'<|cW.mp D])
noncomputable def BG:Tk->PV
 |.a=>.int 97
 |.e=>.int 233
 |.u=>.int 8364
 |_=>.none
theorem vL (P:zY (p++t::q)) (N:aa (av<|p++t::q)<=1000) (A:cZ H=ao):b6 233 [.bytes<|av<|p++t::q,.int<|aa<|av p] H=.ok (BG t) H:=by
 have T:(av<|p++t::q)[(av p).length]?=t.b[0]?:=pF 0<|n0 t
 induction t with
 |a=>exact SY T N A
 |e=>exact SW T (pF 1<|by decide) N A
 |u=>exact SV T (pF 1<|by decide) (pF 2<|by decide) N A
 |n=>exact qq T (.inl rfl) N A
 |c=>
  refine SX T (λd g=>?_) N A
  cases q with
  |nil=>have:=(aA.mp g).1;rw[sW] at this;simp[SG,av] at this
  |cons u r=>rw[show aa (av p)+1=aa (av p)+aa Tk.c.b from rfl,VJ] at g;have:=zY.drop P;cases u<;>first|exact this.elim|(cases g;first|exact .inl rfl|exact .inr (.inl rfl)|exact .inr<|.inr rfl)
theorem Ou (k:Nat) (T:0<k) (z:k<aa t.b) (N:aa (av<|p++t::q)<=1000) (A:cZ H=ao):b6 233 [.bytes<|av<|p++t::q,.int (aa (av p)+k:Nat)] H=.ok .none H:=by
 have J:(av<|p++t::q)[(av p).length+k]?=t.b[k]?:=pF k z
 induction t with
 |a=>exact absurd z<|cW.mpr T
 |c=>exact absurd z<|cW.mpr T
 |n=>exact absurd z<|cW.mpr T
 |e=>obtain rfl:k=1:=cf (iP z) T;exact qq J (.inl rfl) N A
 |u=>
  rcases Nat.eq_or_lt_of_le (iP z) with q|q
  ·subst q;exact qq J (.inr<|.inr rfl) N A
  ·obtain rfl:k=1:=cf (iP q) T;exact qq J (.inr<|.inl rfl) N A
theorem mv:bo B (.neg<|.const<|.int 1) V H=.ok (.int (-1)) H:=rfl
theorem pn (P:zY (p++t::q)) (N:aa (av<|p++t::q)<=1000) (A:cZ H=ao):b6 240 [.bytes<|av<|p++t::q,.int<|aa<|av p] H=.ok (.tup [.int t.code,.int (aa (av p)+(aa t.b):Nat)]) H:=by
 have T:(av<|p++t::q)[(av p).length]?=t.b[0]?:=pF 0<|n0 t
 have U:=vL P N A;rw[ahv rfl]
 have jL:∀c:Int,BG t=.int c->t.code=c->(c=97\/c=233\/c=8364)->wQ c=aa t.b->iH ah (kJ (oI 59) dF 5 Z7 [.bytes<|av<|p++t::q,.int<|aa<|av p]) H=.ok (.tup [.int t.code,.int (aa (av p)+(aa t.b):Nat)]) H:=λc m i C F=>by
  rw[m] at U
  (refine(ae i)▸(ae (AR ..))▸(F)▸?_)
  exact aE (aK<|bT (ay (ac rfl<|ac rfl aq) rfl U)<|eQ (a7 rfl rfl rfl) bH<|bG<|bw (ac rfl<|ac (bn rfl (ay (ac rfl aq) rfl<|qy A c C) rfl) aq)<|by simp) A rfl
 have d:∀c:UInt8,BG t=.none->t.b[0]?=ab c->t.code=-1-c.toNat->aa t.b=1->iH ah (kJ (oI 59) dF 5 Z7 [.bytes<|av<|p++t::q,.int<|aa<|av p]) H=.ok (.tup [.int t.code,.int (aa (av p)+(aa t.b):Nat)]) H:=λc m i C F=>by
  rw[m] at U
  (refine(ae C)▸(ae (AR ..))▸(ae F)▸?_)
  exact aE (aK<|bT (ay (ac rfl<|ac rfl aq) rfl U)<|kj (a7 rfl rfl rfl)<|bG<|bw (ac (bn rfl (bx rfl rfl<|rM (ag T i) N) rfl)<|ac (bn rfl rfl rfl) aq)<|by simp) A rfl
 induction t with
 |a=>exact jL 97 rfl rfl (.inl rfl) rfl
 |e=>exact jL 233 rfl rfl (.inr<|.inl rfl) rfl
 |u=>exact jL 8364 rfl rfl (.inr<|.inr rfl) rfl
 |c=>exact d 0xC3 rfl rfl rfl rfl
 |n=>exact d 0xA9 rfl rfl rfl rfl
theorem Ce (h:bo B l V H=.ok a Z) (J:bo B r V Z=.ok b g) (k1:lF I a b g=.ok ao g) (W:bo B s V g=.ok c ww) (z:lF d b c ww=.ok x ww):jW B (.cmp l [I,d] [r,s]) V (bo B (.cmp l [I,d] [r,s]) V) H=.ok x ww:=
 fg h (fg J<|fg k1<|fg W z)
theorem Cd (h:bo B l V H=.ok a Z) (J:bo B r V Z=.ok b H₂) (k1:lF I a b H₂=.ok ah H₂):jW B (.cmp l [I,d] [r,s]) V (bo B (.cmp l [I,d] [r,s]) V) H=.ok ah H₂:=
 fg h (fg J<|fg k1 rfl)
theorem Cc {a b c:Int} (h:bo B l V H=.ok (.int a) H) (J:bo B r V H=.ok (.int b) H) (W:bo B s V H=.ok (.int c) H) (e:decide (a<=b/\b<c)=x):jW B (.cmp l [.LtE,.Lt] [r,s]) V (bo B (.cmp l [.LtE,.Lt] [r,s]) V) H=.ok x H:=by
 subst e;by_cases E:a<=b
 ·exact Ce h J (zI<|decide_eq_true E) W<|dP<|by simp[E]
 ·rw[decide_eq_false λq=>E q.1];exact Cd h J<|zI<|decide_eq_false E
theorem gs {a b c:Int} (h:bo B l V H=.ok (.int a) H) (J:bo B r V H=.ok (.int b) H) (W:bo B s V H=.ok (.int c) H) (e:decide (a<=b/\b<=c)=x):jW B (.cmp l [.LtE,.LtE] [r,s]) V (bo B (.cmp l [.LtE,.LtE] [r,s]) V) H=.ok x H:=by
 subst e;by_cases E:a<=b
 ·exact Ce h J (zI<|decide_eq_true E) W<|zI<|by simp[E]
 ·rw[decide_eq_false λq=>E q.1];exact Cd h J<|zI<|decide_eq_false E
inductive aav (t:Tk):Prop
 |none (e:BG t=.none) (c:t.code<0) (o:aa t.b=1)
 |int (c:Int) (e:BG t=.int c) (h:c=97\/c=233\/c=8364) (z:wQ c=aa t.b) (k:t.code=c)
theorem KH (t):aav t:=by
 induction t with
 |a=>exact .int 97 rfl (.inl rfl) rfl rfl
 |e=>exact .int 233 rfl (.inr<|.inl rfl) rfl rfl
 |u=>exact .int 8364 rfl (.inr<|.inr rfl) rfl rfl
 |c=>exact .none rfl (by decide) rfl
 |n=>exact .none rfl (by decide) rfl
section
variable {t:Tk}
def startB:List CS:=[.assign 3<|.az 233 [cy,dE],.fc (.bool ao [.cmp i6 [.IsNot] [.const<|.none],.cmp (.bin ah .Add dE<|.az 205 [i6]) [.Gt] [ck]]) [.ret<|.const<|.bool ah] []]
theorem Hj {i:Int} {j m:Nat} (A:cZ H=ao) (U:b6 233 [.bytes o,.int j] H=.ok v H) (f:v=.none\/∃c,v=.int c/\(c=97\/c=233\/c=8364)/\wQ c=m/\(j+m:Int)<=i):
 fR (oI 61) dF startB (ab (.bytes o)::ab (.int i)::ab (.int j)::y::R) H=.ok (.next,ab (.bytes o)::ab (.int i)::ab (.int j)::ab v::R) H:=by
 rcases f with rfl|⟨c,rfl,P,G,L⟩
 ·exact bT (ay (ac rfl<|ac rfl aq) rfl U)<|eQ (l0<|a7 rfl rfl rfl) bH bH
 ·exact bT (ay (ac rfl<|ac rfl aq) rfl U)<|eQ (j6 (a7 rfl rfl rfl)<|ja<|a7 (bn rfl (ay (ac rfl aq) rfl<|qy A c P) rfl) rfl<|jg<|decide_eq_false<|by exactλM=>bj [m,j] [wQ c,i] [(1,cz,aJ),(1,.a bf aJ,.w 1),(1,xi<|.w 1,.a bf cz)] rfl (aT G) L M) bH bH
def StP (o:List UInt8) (i:Int) (V:bN):Prop:=∃x y,V=[ab<|.bytes o,ab<|.int i,x,y,al,al,al,al,al,al]
theorem A3 {i:Int} {a b:Int} (Y:zY (p++t::q)) (N:aa (av<|p++t::q)<=1000) (A:cZ H=ao) (I:0<=a) (R:b<=aa (av p)) (D:aa (av p)<=i):
 ∀v∈el a b,∀V,StP (av<|p++t::q) i V->∃d τ',f0 V [2] ao v=ab d/\fR (oI 61) dF startB d H=.ok (.next,τ') H/\StP (av<|p++t::q) i τ':=by
 rintro v f V ⟨x,y,rfl⟩;refine gG (HW f) λj S J W=>?_;subst S;obtain⟨j,rfl⟩:∃n:Nat,j=n:=⟨j.toNat,by exact cD (dr<|bj [j.toNat] [j] [(1,cz,aJ),(1,xi aJ,cz)] rfl<|aT<|ae<|bA<|dr<|bj [] [a,j] [(1,ef,cz),(1,cz,.w 1),(1,xi<|.w 1,ef)] rfl I J)<|dr<|bj [j.toNat] [j] [(1,aJ,cz),(1,xi cz,aJ)] rfl<|aT<|bA<|dr<|bj [] [a,j] [(1,ef,cz),(1,cz,.w 1),(1,xi<|.w 1,ef)] rfl I J⟩;refine Rr (sT p j<|by exact cP<|bj [aa<|av p,j] [b] [(1,cz,aJ),(1,xi bf,cz),(1,xi aJ,xi bf)] rfl R W) λm u P k S X Z=>?_;subst S;subst Z;have e:(m++u::P)++t::q=m++u::(P++t::q):=by simp
 have C:=sW (p:=m) (q:=P) (t:=u);rw[e] at Y N|-
 obtain⟨w,U,f⟩:∃w,b6 233 [.bytes<|av<|m++u::(P++t::q),.int (aa (av m)+k:Nat)] H=.ok w H/\(w=.none\/∃c,w=.int c/\(c=97\/c=233\/c=8364)/\wQ c=aa u.b/\((aa (av m)+k:Nat)+(aa u.b):Int)<=i):=by
  induction k with
  |zero=>
   refine⟨_,vL Y N A,?_⟩;rcases KH u with ⟨e,_,_⟩|⟨c,e,h,z,_⟩
   ·exact .inl e
   ·exact .inr ⟨c,e,h,z,by exact dr<|bj [aa<|av<|m++u::P,aa<|av m,aa u.b,aa<|av P] [i] [(1,aJ,cz),(1,.a (.a bf ct) ig,aJ),(1,xi cz,.a (.a bf ef) ct)] rfl D<|cl<|an<|ae C⟩
  |succ k=>exact⟨_,Ou (k+1) (by exact cP<|bj [k] [] [(1,xi<|xi aJ,xi ef)] rfl) X N A,.inl rfl⟩
 exact⟨_,_,rfl,Hj A U f,_,_,rfl⟩
theorem MP (t:Tk) (k:Nat) (c) (h:t.b[k]?=ab c):(c.toNat:Int)=97\/(c.toNat:Int)=195\/(c.toNat:Int)=226\/(c.toNat:Int)=169\/(c.toNat:Int)=130\/(c.toNat:Int)=172:=
 of_decide_eq_true (cm.mp (show(t.b.all λc=>decide<|(c.toNat:Int)=97\/(c.toNat:Int)=195\/(c.toNat:Int)=226\/(c.toNat:Int)=169\/(c.toNat:Int)=130\/(c.toNat:Int)=172)=ao by cases t<;>rfl) c<|bq h)
theorem MQ {k:Nat} (h:t.b[k+1]?=ab c):(128:Int)<=c.toNat/\(c.toNat:Int)<192:=
 of_decide_eq_true (cm.mp (show((t.b.drop 1).all λc=>decide<|(128:Int)<=c.toNat/\(c.toNat:Int)<192)=ao by cases t<;>rfl) c<|bq (i:=k)<|by(refine ag List.getElem?_drop ?_;refine(ae (gh ..))▸?_);exact h)
noncomputable def YC (o:List UInt8) (i:Int) (x y:Option PV):bN:=[ab<|.bytes o,ab<|.int i,x,y,al,al,al,al,al,al]
theorem O5 {i:Nat} (P:o[i]?=ab c) (N:aa o<=1000) (k:fR (oI 61) dF (RK.drop 1) (YC o i al al) H=r):fR (oI 61) dF RK ([.bytes o,.int i].map ab++aW (10-2) al) H=r:=
 eQ (gK<|Cc rfl rfl (dy rfl N)<|decide_eq_true ⟨bB i,cJ.mpr (aA.mp P).1⟩) bH k
theorem O6 {i:Nat} (P:o[i]?=ab c) (N:aa o<=1000) (Y:b6 226 [.int c.toNat] H=.ok (.bool b) H):jW (oI 61) (.not<|.az 226 [.sub cy ck]) (YC o i al al) (bo (oI 61) (.not<|.az 226 [.sub cy ck])<|YC o i al al) H=.ok (!b) H:=
 gK (jA<|ay (ac (bx rfl rfl<|rM P N) aq) rfl Y)
theorem Hk {i:Nat} (P:o[i]?=ab c) (N:aa o<=1000) (A:cZ H=ao) (Y:b6 226 [.int c.toNat] H=.ok (.bool ah) H):b6 247 [.bytes o,.int i] H=.ok (.bool ao) H:=by rw[TY rfl];exact aE (aK<|O5 P N<|kj (O6 P N Y)<|bG rfl) A rfl
def itS:CE:=.bv jK [.bv xB [.const<|.int 0,.bin ah .Sub ck<|.const<|.int 3],.loc 1]
theorem Ws {i:Nat} (D:i<=1000):rt (oI 61) itS (YC o i al al) (bo (oI 61) itS<|YC o i al al) H=.ok (el (i-3:Nat) i) H:=by
 have e:(if((i:Int)-3)>0 then(i:Int)-3 else 0)=(i-3:Nat):=by split;exact(Int.ofNat_sub<|eS<|cJ.mp<|Int.lt_of_sub_pos ‹_›).symm;exact(congrArg jG<|K2<|dI.mp<|Int.le_of_sub_nonpos<|cX.mp ‹_›).symm
 refine rW ?_ rfl (by exact⟨dr<|bj [i-3] [] [(1,xi aJ,.g<|.n 2000)] rfl,⟨dr<|bj [i,i-3] [] [(1,aJ,.n 1000),(1,bf,aJ),(1,xi<|.n 2000,bf)] rfl (cl D)<|cl<|sE _ _,⟨dr<|bj [i] [] [(1,xi aJ,.g<|.n 2000)] rfl,dr<|bj [i] [] [(1,aJ,.n 1000),(1,xi<|.n 2000,aJ)] rfl<|cl D⟩⟩⟩) rfl;refine(e)▸?_;exact dJ (ac rfl<|ac (bn rfl rfl rfl) aq) rfl
theorem O4 {i:Nat} (P:o[i]?=ab c) (N:aa o<=1000) (Y:b6 226 [.int c.toNat] H=.ok (.bool ao) H) (k:fR (oI 61) dF (RK.drop 2) (YC o i al al) H=r):
 fR (oI 61) dF RK ([.bytes o,.int i].map ab++aW (10-2) al) H=r:=
 O5 P N (eQ (O6 P N Y) bH k)
theorem lm (G:List Tk) (i:Int) (P:zY G) (N:aa (av G)<=1000) (A:cZ H=ao):b6 247 [.bytes<|av G,.int i] H=.ok (.bool<|my G i) H:=by
 by_cases D:0<=i/\i<aa (av G)
 case neg=>
  (refine(ae<|Km G i D)▸?_;rw[TY rfl])
  exact aE (aK<|kj (gK<|Cc rfl rfl (dy rfl N)<|decide_eq_false D)<|bG rfl) A rfl
 obtain⟨n,rfl⟩:∃n:Nat,i=n:=⟨i.toNat,ae<|bA D.1⟩;refine Rr (sT G n<|cJ.mp D.2) λp t q k S X Z=>?_;subst S;subst Z;have f:(av<|p++t::q)[(av p).length+k]?=t.b[k]?:=pF k X;obtain⟨c,j⟩:∃c,t.b[k]?=ab c:=⟨_,aO X⟩;rw[j] at f;have g:=we A _ (MP t k c j);have L:=aM (eS (aA.mp f).1) N
 cases k with
 |zero=>
  have f:=f;show b6 247 [.bytes<|av<|p++t::q,.int<|aa<|av p] H=.ok (.bool<|my (p++t::q)<|aa<|av p) H;refine(ae (u7 ..))▸?_;by_cases Y:(128:Int)<=c.toNat/\(c.toNat:Int)<192
  ·rw[decide_eq_true Y] at g;refine aH (Rc (el (aa (av p)-3:Nat)<|aa<|av p) (A3 P N A (bB _) (fV _)<|fV _) ⟨al,al,rfl⟩) λW S E=>?_;refine kY S ?_;clear S;intro x y Z;subst Z;rw[TY rfl];exact aE (aK<|O4 f N g<|qW (Ws L) E<|bG rfl) A rfl
  ·rw[decide_eq_false Y] at g;exact Hk f N A g
 |succ k=>
  rw[decide_eq_true<|MQ j] at g
  (refine(ae<|QA p q t (k+1) (mn k) X)▸?_;rw[TY rfl])
  have d:=Xc (el (aa (av p)+(k+1)-3:Nat) (av p).length) (A3 (i:=((av p).length+(k+1):Nat)) P N A (bB _) (fV _)<|dI.mpr<|cn _ _) ⟨al,al,rfl⟩ (r:=el (av p).length ((av p).length+(k+1):Nat))
   (x:=.ok (.ret<|.bool ah,YC (av<|p++t::q) ((av p).length+(k+1):Nat) (ab<|.int (av p).length)<|ab<|BG t) H) (by
    rintro W ⟨x,y,rfl⟩;refine(ae<|jJ<|cJ.mpr<|jn<|mn k)▸?_;rcases KH t with ⟨_,_,e⟩|⟨c,e,h,z,_⟩
    ·exact absurd X (by refine(ae e)▸?_;exact cW.mpr<|cg _ _)
    ·refine(ae e)▸?_
     exact w7 rfl<|bT (ay (ac rfl<|ac rfl aq) (by kernel_rfl)<|(vL P N A).trans<|by rw[e])<|kj (c:=ao) (j6 (a7 rfl rfl rfl)<|ja<|a7 (bn rfl (ay (ac rfl aq) (by kernel_rfl)<|qy A c h) rfl) rfl<|jg<|decide_eq_true<|by exact dr<|bj [k,t.b.length,(av p).length] [wQ c] [(1,xi<|xi aJ,bf),(1,bf,cz),(1,xi<|.a ct cz,xi<|.a ct<|xi aJ)] rfl (cl X)<|aT<|ae z)<|bG rfl)
  have l:k+1<=3:=by have:t.b.length<=3:=by(cases t<;>decide)
                    exact cP<|bj [k,t.b.length] [] [(1,xi<|xi aJ,bf),(1,bf,.n 3),(1,xi<|.n 3,xi aJ)] rfl (cl X)<|cl this
  rw[<-HA (dI.mpr<|Nat.sub_le_of_le_add<|dH l _) (dI.mpr<|cn _ _)] at d;exact aE (aK<|O4 f N g<|rL (Ws L) d) A rfl
end
theorem Ff:∀{a b},gS (a++b)=(gS a&&gS b)
 |[],b=>by simp[fi,f9]
 |p::a,b=>by simp only[SQ,fi,f9,Ff,XI]
theorem nJ (h:cZ H=ao) (n:gS l=ao):cZ (H++[l])=true:=by unfold cZ at*;simp[List.all_append,h,n]
theorem mP {f:u->PV} (h:∀x,i8 (f x)=ao):∀l:List u,gS (l.map f)=ao
 |[]=>rfl
 |x::l=>by simp[fi,f9,h x,mP h l]
theorem xX (h:m H=.ok a H₁):gV m H=.ok a H₁:=by unfold gV;rw[h]
theorem kW (e:nu H p=ab l):(k l H=r)->gQ p k H=r:=λh=>ag (congrArg (λo=>bJ o k H) e) h
theorem aaj (e:H[i]?=ab l) (z:aa l<=16777216):DB (.dR i) [p] H=.ok .none (H.set i<|l++[p]):=by show(match H[i]? with|some l=>if aa l<=16777216 then dt PV.none (H.set i<|l++[p]) else .stuck|none=>.stuck)=_;exact(ae e)▸if_pos z
theorem jO (h:bo B o V (H++[l])=.ok (.dR<|aa H) (H++[l])) (T:bo B x V (H++[l])=.ok p (H++[l])) (z:aa l<=16777216):bo B (.gb .append o [x]) V (H++[l])=.ok .none (H++[l++[p]]):=
 Ro h (fg (ac T aq)<|ag (aaj (by(refine ag (cj<|bS _) ?_;refine(ae (kn ..))▸?_);rfl) z)<|by(refine(ae<|List.set_append_right _ _ (bS _))▸(ae (kn ..))▸?_);rfl)
theorem xb:bo B (.list ao []) V H=.ok (.dR<|aa H) (H++[[]]):=rfl
theorem sb {one:Bool} {l:List u} (D:rt B iter V (bo B iter V) H=.ok M H) (e:M=l.map g) (z:aa l<=1000)
 (Y:∀x∈l,∃d,f0 (ru V k) W one (g x)=ab d/\bo B A d H=.ok (f x) H):bo B (.comp A iter k W one []) V H=.ok (.lst<|l.map f) H:=by
 subst e;refine fg D ?_;rw[if_pos<|by rw[aB];exact kz ‹_› (by rfl)];refine fg ?_ rfl
 suffices h:∀(l:List u) (S:List PV),(∀x∈l,∃d,f0 (ru V k) W one (g x)=ab d/\bo B A d H=.ok (f x) H)->hY (λp=>match f0 (ru V k) W one p with
  |none=>aP
  |some d=>gV<|aw (w8 B [] d) λok=>if ok then aw (bo B A d) λq=>ax (ab q) else ax al) (l.map g) S H=.ok (S++l.map f) H by
  have:=h l [] Y;rw[gA] at this;exact this
 intro l
 induction l with
 |nil=>intro S _;simp[hY,ax]
 |cons x l o=>
  intro S Y;refine aH (Y x<|by simp) λd m i=>fg (Z:=H) (a:=ab<|f x) ?_ ?_
  ·dsimp only;rw[m];exact xX<|fg rfl<|fg i rfl
  ·dsimp only;rw[o _ λy I=>Y y<|by simp[I]];simp
theorem sd {one:Bool} {l:List u} (D:rt B iter V (bo B iter V) H=.ok M H) (e:M=l.map g) (z:aa l<=1000)
 (Y:∀x∈l,∃d,f0 (ru V k) W one (g x)=ab d/\jW B c d (bo B c d) H=.ok (P x) H/\(P x=ao->bo B A d H=.ok (f x) H)):bo B (.comp A iter k W one [c]) V H=.ok (.lst<|(l.filter P).map f) H:=by
 subst e;refine fg D ?_;rw[if_pos<|by rw[aB];exact kz ‹_› (by rfl)];refine fg ?_ rfl
 suffices h:∀(l:List u) (S:List PV),(∀x∈l,∃d,f0 (ru V k) W one (g x)=ab d/\jW B c d (bo B c d) H=.ok (P x) H/\(P x=ao->bo B A d H=.ok (f x) H))->hY (λp=>match f0 (ru V k) W one p with
  |none=>aP
  |some d=>gV<|aw (w8 B [c] d) λok=>if ok then aw (bo B A d) λq=>ax (ab q) else ax al) (l.map g) S H=.ok (S++(l.filter P).map f) H by
  have:=h l [] Y;rw[gA] at this;exact this
 intro l
 induction l with
 |nil=>intro S _;simp[hY,ax]
 |cons x l o=>
  intro S Y;refine gG (Y x<|by simp) λd m i C=>?_;have o:=λS=>o S λy I=>Y y<|by simp[I]
  cases F:P x
  ·rw[F] at i;rw[gy<|by simp[F]];refine fg (a:=al) ?_ (o S);dsimp only;rw[m];exact xX<|fg (fg i rfl) rfl
  ·rw[F] at i;rw[jd F];refine fg (Z:=H) (a:=ab<|f x) ?_ ?_
   ·dsimp only;rw[m];exact xX<|fg (fg i rfl)<|fg (C F) rfl
   ·dsimp only;rw[o];simp
theorem Il (h:bo B x V H=.ok (.lst l) H₁) (n:rY x=ah):rt B x V (bo B x V) H=.ok l H₁:=ag (congrFun (ua n V _) H)<|fg h rfl
theorem CW (h:bo B (.az a D) V H=.ok (.lst l) H₁):rt B (.az a D) V (bo B (.az a D) V) H=.ok l H₁:=Il h rfl
theorem nb (h:bo B (.loc i) V H=.ok (.lst l) H):rt B (.loc i) V (bo B (.loc i) V) H=.ok l H:=Il h rfl
theorem Bi (z:aa l<=1000):eN [.lst l] H=.ok (.int<|aa l) H:=by show(if aa l<=1099511627776 then ax (dq<|aa l) else aP) H=_;rw[if_pos<|kz ‹_› (by rfl)];rfl
structure dA (ts:List Tk):Prop where
 KN:zY ts
 len:aa (av ts)<=100
theorem dA.z (h:dA G):aa (av G)<=1000:=by have:=h.len;exact kz ‹_› (by rfl)
theorem fQ:∀G,aa G<=aa (av G)
 |[]=>bS _
 |t::r=>by
  have:=fQ r;have:=n0 t;have e:(av<|t::r).length=t.b.length+(av r).length:=aI
  (refine(ae e)▸(ae bL)▸?_);exact cP<|bj [aa r,aa<|av r,aa t.b] [] [(1,aJ,bf),(1,ia,ct),(1,xi<|.a ct bf,xi aJ)] rfl (cl<|by assumption)<|cl this
noncomputable def dC (l:List Nat):List PV:=l.map λ(n:Nat)=>.int n
theorem uT (l:List Nat):gS (dC l)=true:=mP (λ_=>rfl) l
theorem eK:∀G k,aa (dj k G)=aa G
 |[],_=>rfl
 |t::r,k=>by simp[dj,eK r]
theorem LC (h:dA G) (A:cZ H=ao):∀q p,G=p++q->∀f,aa q<f->
 g8 (λd=>jW (oI 34) (.cmp dE [.Lt] [.bv eN [.loc 0]]) d<|bo (oI 34) (.cmp dE [.Lt] [.bv eN [.loc 0]]) d) (λd=>fR (oI 34) dF [.expr<|.gb .append ck [.loc 2],.assign 2<|.sub (.az 240 [.loc 0,.loc 2])<|.const<|.int 1] d) f
  [ab<|.bytes<|av G,ab<|.dR<|aa H,ab<|.int<|aa<|av p,al,al] (H++[dC<|dj 0 p])=.ok (.next,[ab<|.bytes<|av G,ab<|.dR<|aa H,ab<|.int<|aa<|av G,al,al]) (H++[dC<|dj 0 G]):=by
 intro q
 induction q with
 |nil=>
  intro p e f Y;cases f with|zero=>exact absurd Y (iK _)|succ f=>?_
  rw[fh] at e;subst e;exact lj<|a7 rfl (dy rfl h.z)<|dP<|decide_eq_false<|by exactλM=>bj [aa<|av G] [] [(1,xi aJ,aJ)] rfl M
 |cons t q o=>
  intro p e f Y;cases f with|zero=>exact absurd Y (iK _)|succ f=>?_
  have C:aa (av p)<aa (av G):=by(refine(ae e)▸(ae sW)▸?_);have:=n0 t;exact cP<|bj [aa t.b,aa<|av p,aa<|av q] [] [(1,ia,aJ),(1,xi<|.a (.a bf aJ) ct,xi bf)] rfl<|cl this
  have g:b6 240 [.bytes<|av G,.int<|aa<|av p] (H++[dC (dj 0 p)++[.int<|aa<|av p]])=.ok (.tup [.int t.code,.int (aa (av p)+(aa t.b):Nat)]) (H++[dC (dj 0 p)++[.int<|aa<|av p]]):=by have P:=h.KN;have N:=h.z;subst e;exact pn P N<|nJ A<|by(refine ag Ff<|(ae (uT ..))▸?_);rfl
  refine qt (a7 rfl (dy rfl h.z)<|dP<|decide_eq_true<|by exact cJ.mpr<|by assumption) (hX (jO rfl rfl (by
   have:=fQ p;have:=h.len
   simp only[dC,aB,eK];exact cP<|bj [aa<|av p,aa<|av G,aa p] [] [(1,xi aJ,bf),(1,ct,aJ),(1,bf,.n 100),(1,xi<|.n 16777216,ct)] rfl (cl C) (cl<|by assumption)<|cl this))<|bT (bx (ay (ac rfl<|ac rfl aq) rfl g) rfl rfl) bH) ?_
  have:=o (p++[t]) (by refine ag e ?_;simp) f<|sF Y
  rw[pa,pV] at this;simpa[dC,dj,av] using this
theorem LA (h:dA G) (A:cZ H=ao):b6 268 [.bytes<|av G] H=.ok (.lst<|dC<|dj 0 G) H:=by
 have C:=fQ G;have:=h.len;have N:=LC h A G [] rfl 200<|by exact bX (aM (by assumption)<|by assumption)<|by decide
 rw[ahs rfl]
 have:=Ge (m:=kJ (oI 34) dF 5 aez [.bytes<|av G]) (l:=dC<|dj 0 G)
  (aK<|iT (ac xb<|ac rfl aq) ⟨rfl,by simp⟩<|nH N<|bG rfl)
  (by exact(ae<|k5 rfl)▸A) (bS _) (by simp) (uT _)
 rwa [k5 rfl] at this
theorem wP {j:Nat} (Z:((r6.take j).all λf=>decide<|(268:bk)≠f.addr)=ao) (h:dA G) (A:cZ H=ao):oI j 268 [.bytes<|av G] H=.ok (.lst<|dC<|dj 0 G) H:=c1 Z<|LA h A
section
variable {l:List Nat}
theorem mO:∀G k,(dj k G).Pairwise (· <·)
 |[],_=>.nil
 |t::r,k=>.cons (λm Z=>lJ (jn<|n0 t) (kv r _ m Z).1)<|mO r _
theorem w5 (G:l.Pairwise (· <·)) (B:n∈l) (F:p n=ao) (C:∀m∈l,m<n->p m=ah):(l.filter p).head?=ab n:=by
 refine kY (Ok B) λa b S=>?_;subst S;rw[K5] at G;have:a.filter p=[]:=ju.mpr λm t=>by refine(ae<|C m (by simp[t])<|G.2.2 m t n<|by simp)▸?_;decide
 (refine(ae (Oi ..))▸(ae this)▸(ae (gA ..))▸(ae<|jd F)▸?_);rfl
theorem wY (G:l.Pairwise (· <·)) (B:n∈l) (F:p n=ao) (C:∀m∈l,n<m->p m=ah):(l.filter p).getLast?=ab n:=by
 refine kY (Ok B) λa b S=>?_;subst S;rw[K5] at G;have:b.filter p=[]:=ju.mpr λm t=>by refine(ae<|C m (by simp[t])<|(Of.mp G.2.1).1 m t)▸?_;decide
 (refine(ae (Oi ..))▸(ae<|jd F)▸(ae this)▸?_);simp
theorem pe (h:∀m∈l,p m=ah):l.filter p=[]:=ju.mpr λm t=>by refine(ae<|h m t)▸?_;decide
end
theorem s0 {i:Int}:my G i=ao↔∃n∈dj 0 G,(n:Int)=i:=by simp[my,rn]
theorem s6 {n:Nat} (h:my ts n=ah):n∉dj 0 ts:=λq=>by rw[s0.mpr ⟨n,q,rfl⟩] at h;cases h
theorem C2 {n:Nat} (h:my ts n=ao):n∈dj 0 ts:=by
 refine aH (s0.mp h) λm t e=>?_
 rwa [show n=m by exact cf (cP<|bj [n,m] [] [(1,aJ,bf),(1,xi bf,aJ)] rfl<|aT<|ae e)<|cP<|bj [m,n] [] [(1,aJ,bf),(1,xi bf,aJ)] rfl<|aT e]
theorem l7:∀G k,dj (k+1) G=(dj k G).map (· +1)
 |[],_=>rfl
 |t::r,k=>by
  show(k+1)::dj (k+1+aa t.b) r=(k+1)::(dj (k+aa t.b) r).map (· +1)
  (refine((l7 r ..))▸?_;rw[Ss])
theorem Bo {n:Nat} (h:my G n=ao):∃p t q,G=p++t::q/\n=aa (av p):=by
 have Y:=C2 h;have:=kv G 0 n Y;refine Rr (sT G n<|by exact cP<|bj [n,aa<|av G] [] [(1,xi aJ,.a ef bf),(1,xi bf,xi aJ)] rfl<|cl this.2) λp t q k S z Z=>?_;subst S;subst Z
 induction k with
 |zero=>exact⟨p,t,q,rfl,rfl⟩
 |succ k=>rw[QA p q t (k+1) (by exact cP<|bj [k] [] [(1,xi<|xi aJ,xi ef)] rfl) z] at h;cases h
noncomputable def uW (G:List Tk) (i:Int):Nat:=((dj 0 G).filter λn:Nat=>decide<|i<n).head?.getD<|aa<|av G
noncomputable def rQ (G:List Tk) (i:Int):Int:=(((dj 0 G).filter λn:Nat=>decide<|(n:Int)<i).getLast?.map λn=>(n:Int)).getD (-1)
theorem Fh {r:Nat} {i:Int} (J:i<r) (W:r<=aa (av G)) (h3:r=aa (av G)\/my G r=ao) (X:∀j:Nat,i<j->j<r->my G j=ah):uW G i=r:=by
 unfold uW;have Z:=mO G 0;by_cases R:my G r=ao
 ·rw[w5 Z (C2 R) (by simpa using J) λm t F=>by
   by_cases q:i<m
   ·exact absurd t (s6<|X m q F)
   ·simpa using q]
  rfl
 ·rw[pe]
  ·rcases h3 with h3|h3
   ·exact ae h3
   ·exact absurd h3 R
  ·intro m t;have:=kv G 0 m t;rcases h3 with h3|h3
   ·by_cases q:i<m
    ·exact absurd t<|s6<|X m q<|by exact cP<|bj [m,aa<|av G,r] [] [(1,xi aJ,.a ef bf),(1,bf,ct),(1,xi ct,xi aJ)] rfl (cl this.2)<|cl<|an<|ae h3
    ·simpa using q
   ·exact absurd h3 R
theorem Pw {i r:Int} (J:r<i) (W:-1<=r) (E:r=-1\/my G r=ao) (X:∀j:Int,r<j->j<i->my G j=ah):rQ G i=r:=by
 unfold rQ;have Z:=mO G 0;rcases E with rfl|hb
 ·rw[pe]
  ·rfl
  ·intro m t;by_cases q:(m:Int)<i
   ·exact absurd t<|s6<|X m (by exact dr<|bj [m] [] [(1,xi aJ,xi<|.g ia)] rfl) q
   ·simpa using q
 ·refine aH (s0.mp hb) λn B S=>?_;subst S
  rw[wY Z B (by simpa using J) λm t F=>by
   by_cases q:(m:Int)<i
   ·exact absurd t (s6<|X m (by exact cJ.mpr<|by with_reducible assumption) q)
   ·simpa using q]
  rfl
theorem si (n i:Nat):uq n (i:Int)=min i n:=by
 unfold uq;refine(ae<|if_neg<|cX.mpr<|bB i)▸?_;rcases xM i n with q|q
 ·(refine(ae<|Int.min_eq_left<|dI.mpr q)▸(ae<|eJ q)▸(ae<|We<|bB _)▸?_;rw[ek])
 ·(refine(ae<|Wd<|dI.mpr q)▸(ae<|ry q)▸(ae<|We<|bB _)▸?_;rw[ek])
theorem AZ (b:List UInt8) (lo D:Nat):(b.drop lo).take (min D (aa b)-lo)=(b.drop lo).take (D-lo):=by
 rcases xM D (aa b) with q|q
 ·rw[eJ q]
 ·(refine(ae<|ry q)▸ag (fH<|by rw[hJ];exact bS _) ?_;rw[fH<|by rw[hJ];exact Nat.sub_le_sub_right q lo])
theorem M7 (b:List UInt8) (lo:Nat):b.drop (min lo<|aa b)=b.drop lo:=by
 rcases xM lo (aa b) with q|q
 ·rw[eJ q]
 ·(refine(ae<|ry q)▸ag m6 ?_;rw[GN q])
theorem Z3 (b:List UInt8) (lo D:Nat):IN b (ab (lo:Int)) (ab (D:Int))=(b.drop lo).take (D-lo):=by
 show(b.drop<|uq (aa b) lo).take (uq (aa b) D-uq (aa b) lo)=_
 (refine(ae (si ..))▸(ae (si ..))▸?_)
 rcases xM lo (aa b) with q|q
 ·(refine(ae<|eJ q)▸?_;rw[AZ])
 ·(refine(ae<|ry q)▸(ae m6)▸(ae<|GN q)▸ag Ee ?_;rw[Ee])
theorem aes (b:List UInt8) (lo:Nat):IN b (ab (lo:Int)) al=b.drop lo:=by
 show(b.drop<|uq (aa b) lo).take (aa b-uq (aa b) lo)=_
 (refine(ae (si ..))▸ag (fH<|by rw[hJ];exact bS _) ?_;rw[M7])
theorem aer (b:List UInt8) (hi:Nat):IN b al (ab (hi:Int))=b.take hi:=by show(b.drop 0).take (uq (aa b) hi-0)=_;rw[si,AZ,XE,Js]
section
variable {m n:Nat}
theorem n8 (z:aa o<=1000):l4 F (.bytes o) (.int m) (.int n) .none H=.ok (.bytes<|(o.drop m).take<|n-m) H:=by show(if aa o<=16777216/\(al:Option Int)=al then ax (qi<|IN o (ab (m:Int))<|ab (n:Int)) else aP) H=_;rw[if_pos ⟨kz ‹_› (by rfl),rfl⟩,Z3];rfl
theorem Cj (z:aa o<=1000):l4 F (.bytes o) (.int m) .none .none H=.ok (.bytes<|o.drop m) H:=by show(if aa o<=16777216/\(al:Option Int)=al then ax (qi<|IN o (ab (m:Int)) al) else aP) H=_;rw[if_pos ⟨kz ‹_› (by rfl),rfl⟩,aes];rfl
theorem Tq (z:aa o<=1000):l4 F (.bytes o) .none (.int n) .none H=.ok (.bytes<|o.take n) H:=by show(if aa o<=16777216/\(al:Option Int)=al then ax (qi<|IN o al<|ab (n:Int)) else aP) H=_;rw[if_pos ⟨kz ‹_› (by rfl),rfl⟩,aer];rfl
end
theorem Fc (p q):(av<|p++q).drop (aa<|av p)=av q:=by rw[pa,List.drop_left]
theorem Te (p q t):((av<|p++t::q).drop<|aa<|av p).take (aa t.b)=t.b:=by rw[Fc];show(t.b++av q).take _=_;rw[List.take_left]
noncomputable def uQ (o p:List UInt8) (n:Nat):Bool:=decide (n+aa p<=aa o)&&((o.drop n).take (aa p)==p)
theorem zw (o p:List UInt8) (n:Nat):(o.toArray.extract n (n+aa p)==af p)=((o.drop n).take (aa p)==p):=by(refine(ae List.extract_toArray)▸ag (List.beq_toArray ..) ?_;refine(ae List.extract_eq_take_drop)▸?_;rw[gz])
inductive DI (o p:List UInt8) (lo:Nat):Int->Prop
 |none (h:∀n,lo<=n->uQ o p n=ah):DI o p lo (-1)
 |some (n:Nat) (h1:lo<=n) (h2:uQ o p n=ao) (h3:∀m,lo<=m->m<n->uQ o p m=ah):DI o p lo n
inductive KT (o p:List UInt8) (hi:Nat):Int->Prop
 |none (h:∀n,n+aa p<=hi->uQ o p n=ah):KT o p hi (-1)
 |some (n:Nat) (h1:n+aa p<=hi) (h2:uQ o p n=ao) (h3:∀m,m+aa p<=hi->n<m->uQ o p m=ah):KT o p hi n
theorem Ot (o p:List UInt8) (st j) (lo D:Nat) (e:d9 o.toArray.size st j=((lo:Int),(D:Int))):MB.wL (af o) (af p) st j=if(D:Int)-lo<aa p then al else ab (lo,D):=by unfold MB.wL;refine(ae e)▸?_;simp
theorem Db (o p:List UInt8) (lo:Nat) (st:Option Int) (e:d9 o.toArray.size st al=((lo:Int),((aa o):Int))):DI o p lo (kH ah (af o) (af p) st al):=by
 unfold kH;refine(ae<|Ot o p st al lo (aa o) e)▸?_;by_cases h:((aa o):Int)-lo<aa p
 ·refine(ae<|if_pos h)▸?_;exact .none λn B=>by unfold uQ;refine(ae<|decide_eq_false<|by exactλM=>bj [aa o,lo,aa p,n] [] [(1,xi<|.s aJ bf,ct),(1,bf,ig),(1,.a ig ct,aJ)] rfl h (cl B)<|cl M)▸?_;rfl
 ·refine(ae<|if_neg h)▸?_;simp only[GI,bO,if_false];unfold af3;simp only[aR,zw];refine(ae List.find?_map)▸?_
  cases Y:(dg<|aa o+1-(lo+aa p)).find? ((λi=>(o.drop i).take (aa p)==p)∘(· +lo)) with
  |none=>
   rw[List.find?_range_eq_none] at Y;refine .none λn B=>?_;unfold uQ;by_cases q:n+aa p<=aa o
   ·have:=Y (n-lo) (by exact cP<|bj [n,aa p,aa o,n-lo,lo,aa o+1-(lo+aa p)] [] [(1,.a aJ bf,ct),(1,.a ig<|.v 4,aJ),(1,xi ct,.a (.v 5)<|.a (.v 4) bf),(1,xi<|.v 5,xi ig)] rfl (cl q) (cl<|an<|bP<|cP<|bj [lo,n] [] [(1,aJ,bf),(1,xi bf,aJ)] rfl<|cl B)<|cl<|an<|ae<|bP<|cP<|bj [aa p,aa o,lo] [] [(1,aJ,.s bf ct),(1,xi<|xi bf,.a ct aJ)] rfl<|cX.mp h);simp only[Sz,bP B,jV] at this
    (refine(ae this)▸?_;rw[hV])
   ·refine(ae<|decide_eq_false q)▸?_;rfl
  |some i=>
   rw[List.find?_range_eq_some] at Y;refine iZ Y λJ W E=>?_;rw[pr] at W;refine .some (i+lo) (cg _ _) ?_ λm t F=>?_
   ·unfold uQ;exact(ae<|decide_eq_true<|by exact cP<|bj [i,aa o+1-(lo+aa p),lo,aa p,aa o] [] [(1,xi aJ,bf),(1,.a bf<|.a ct ig,xi<|.v 4),(1,xi<|.v 4,.a (.a aJ ct) ig)] rfl (cl W)<|cl<|an<|bP<|cP<|bj [aa p,aa o,lo] [] [(1,aJ,.s bf ct),(1,xi<|xi bf,.a ct aJ)] rfl<|cX.mp h)▸J
   ·have:=E (m-lo) (by exact cP<|bj [m,i,lo,m-lo] [] [(1,xi aJ,.a bf ct),(1,.a ig ct,aJ),(1,xi bf,xi ig)] rfl (cl F)<|cl<|an<|bP<|cP<|bj [lo,m] [] [(1,aJ,bf),(1,xi bf,aJ)] rfl<|cl t);simp only[Sz,bP t,jV] at this;unfold uQ;(refine(ae this)▸?_;rw[hV])
theorem ET (p):∀n,((dg n).reverse.find? p=al/\∀i<n,p i=ah)\/∃i<n,(dg n).reverse.find? p=ab i/\p i=ao/\∀j<n,i<j->p j=ah
 |0=>.inl ⟨rfl,by simp⟩
 |n+1=>by
  (refine(ae la)▸(ae List.reverse_append)▸(ae List.reverse_singleton)▸(ae Ju)▸?_)
  cases h:p n with
  |true=>exact .inr ⟨n,by exact cP<|bj [n] [] [(1,xi<|xi aJ,xi aJ)] rfl,by rw[List.find?_cons_of_pos h],h,λj J W=>(absurd (bX (iP J) W)<|GC _)⟩
  |false=>
   rw[List.find?_cons_of_neg<|by simp[h]];rcases ET p n with ⟨J,W⟩|⟨i,D,J,W,E⟩
   ·exact .inl ⟨J,λi D=>by
     by_cases q:i=n
     ·exact(ae q)▸h
     ·exact W i<|pK (iP D) q⟩
   ·exact .inr ⟨i,by exact cP<|bj [i,n] [] [(1,xi aJ,bf),(1,xi<|xi bf,xi aJ)] rfl<|cl D,J,W,λj Q F=>by
     by_cases q:j=n
     ·exact(ae q)▸h
     ·exact E j (pK (iP Q) q) F⟩
theorem yQ (o p:List UInt8) (D:Nat) (y:D<=aa o) (st j:Option Int) (e:d9 o.toArray.size st j=(((0:Nat):Int),(D:Int))):KT o p D (kH ao (af o) (af p) st j):=by
 unfold kH;refine(ae<|Ot o p st j 0 D e)▸?_;by_cases h:(D:Int)-(0:Nat)<aa p
 ·refine(ae<|if_pos h)▸?_;exact .none λn B=>(absurd (eF (cl<|aM (cg _ n) B)<|eF (aT (Jy _).symm) h)<|abk _)
 ·refine(ae<|if_neg h)▸?_;simp only[GI,if_true];unfold af0;simp only[aR,zw,afO,fO,List.map_id'];rcases ET (λi=>(o.drop i).take (aa p)==p) (D+1-aa p) with ⟨J,W⟩|⟨i,f,J,W,E⟩
  ·refine(ae J)▸?_;exact .none λn B=>by unfold uQ;(refine(ae<|W n<|by exact cP<|bj [n,aa p,D,D+1-aa p] [] [(1,.a aJ bf,ct),(1,xi ct,.a ig bf),(1,xi ig,xi aJ)] rfl (cl B)<|cl<|an<|ae<|bP<|cP<|bj [aa p,D] [] [(1,aJ,.s bf ef),(1,xi<|xi bf,aJ)] rfl<|cX.mp h)▸?_;rw[hV])
  ·refine(ae J)▸?_;refine .some i (by exact cP<|bj [i,D+1-aa p,aa p,D] [] [(1,xi aJ,bf),(1,.a bf ct,xi ig),(1,xi ig,.a aJ ct)] rfl (cl f)<|cl<|an<|bP<|cP<|bj [aa p,D] [] [(1,aJ,.s bf ef),(1,xi<|xi bf,aJ)] rfl<|cX.mp h) (by unfold uQ;(refine(ae<|decide_eq_true<|by exact cP<|bj [D,aa o,i,D+1-aa p,aa p] [] [(1,aJ,bf),(1,xi ct,ig),(1,.a ig<|.v 4,xi aJ),(1,xi bf,.a ct<|.v 4)] rfl (cl y) (cl f)<|cl<|an<|bP<|cP<|bj [aa p,D] [] [(1,aJ,.s bf ef),(1,xi<|xi bf,aJ)] rfl<|cX.mp h)▸ag W ?_);rfl) λm t F=>?_;unfold uQ;(refine(ae<|E m (by exact cP<|bj [m,aa p,D,D+1-aa p] [] [(1,.a aJ bf,ct),(1,xi ct,.a ig bf),(1,xi ig,xi aJ)] rfl (cl t)<|cl<|an<|ae<|bP<|cP<|bj [aa p,D] [] [(1,aJ,.s bf ef),(1,xi<|xi bf,aJ)] rfl<|cX.mp h) F)▸?_;rw[hV])
def dO (G:List Tk) (p:List UInt8) (n:Nat):Bool:=uQ (av G) p n&&(my G n&&(decide (n+aa p=aa (av G))||my G (n+(aa p):Nat)))
theorem tP {n:Nat} (h:dO ts p n=ao):n∈dj 0 ts:=by unfold dO at h;simp only[bt] at h;exact C2 h.2.1
def eU (G:List Tk) (p:List UInt8):List Nat:=(dj 0 G).filter<|dO G p
theorem FU {b n:Nat} (J:b<=n) (W:dO G p n=ao) (E:∀m,b<=m->m<n->dO G p m=ah):((eU G p).filter λn=>decide<|b<=n).head?=ab n:=by
 unfold eU;refine(ae Oh)▸?_;refine w5 (mO G 0) (tP W) (by simp[J,W]) λm _ F=>?_;by_cases q:b<=m
 ·(refine(ae<|E m q F)▸?_;rw[hV])
 ·refine(ae<|decide_eq_false q)▸?_;rfl
theorem zu {b:Nat} (h:∀m,b<=m->dO G p m=ah):((eU G p).filter λn=>decide<|b<=n)=[]:=by
 unfold eU;refine ag Oh<|pe λm _=>?_
 by_cases q:b<=m
 ·(refine(ae<|h m q)▸?_;rw[hV])
 ·refine(ae<|decide_eq_false q)▸?_;rfl
theorem Uk {n:Nat} (W:dO G p n=ao) (E:∀m,n<m->dO G p m=ah):(eU G p).getLast?=ab n:=
 wY (mO G 0) (tP W) W λm _ F=>E m F
noncomputable def qG (o:List UInt8) (k:Nat):List Nat->Nat->List (List UInt8)
 |[],b=>[o.drop b]
 |n::l,b=>if b<=n then(o.drop b).take (n-b)::qG o k l (n+k) else qG o k l b
theorem BD {k b:Nat}:∀{l},(l.filter λn=>decide<|b<=n)=[]->qG o k l b=[o.drop b]
 |[],_=>rfl
 |n::l,h=>by
  have B:¬b<=n:=λq=>by rw[jd<|by simpa using q] at h;cases h
  rw[gy<|by simpa using B] at h;show(if b<=n then _ else _)=_;exact ag (if_neg B)<|BD h
theorem BC {k b n:Nat} (z:0<k) (R:b<=n):∀{l},(l.filter λn=>decide<|b<=n).head?=ab n->qG o k l b=(o.drop b).take (n-b)::qG o k l (n+k)
 |[],h=>by exact aC h
 |m::l,h=>by
  show(if b<=m then _ else _)=_::(if n+k<=m then _ else _);by_cases t:b<=m
  ·rw[jd<|by simpa using t] at h;cases h
   (refine ag (if_pos t) ?_;rw[if_neg<|by exactλM=>bj [k,n] [] [(1,xi ef,aJ),(1,.a bf aJ,bf)] rfl (cl z)<|cl M])
  ·rw[gy<|by simpa using t] at h
   (refine ag (if_neg t)<|(ae<|if_neg<|by exactλM=>bj [k,b,n,m] [] [(1,xi ef,aJ),(1,bf,ct),(1,xi ig,bf),(1,.a ct aJ,ig)] rfl (cl z) (cl R) (cl<|wE.mp t)<|cl M)▸?_);exact BC z R h
theorem Fw (d I):oj d I=(I.zipIdx.flatMap λx=>(if x.2>0 then d else[])++x.1):=by
 unfold oj af1
 have:∀(l:List (List UInt8)) (k:Nat) (S:Array UInt8),((l.map λb=>af b).zipIdx k).foldl (λJ (p,i)=>(if i>0 then J++af d else J)++p) S=S++af ((l.zipIdx k).flatMap λx=>(if x.2>0 then d else[])++x.1):=by
  intro l
  induction l with
  |nil=>intro k S;simp
  |cons x l o=>intro k S;simp only[bu,yn,nY,Sw];refine ag (o ..) ?_;by_cases z:k>0<;>simp[z]
 have:=this I 0 #[];refine(ae this)▸?_;simp
theorem sZ (I):oj [] I=I.flatten:=by
 refine ag (Fw ..) ?_;simp only[ite_self,gA]
 have:∀(l:List (List UInt8)) (k:Nat),((l.zipIdx k).flatMap λx=>x.1)=l.flatten:=by
  intro l
  induction l with
  |nil=>intro k;rfl
  |cons x l o=>intro k;simp[yn,o]
 exact this I 0
theorem Mv (sep I) (m:Nat) (h:∀b∈I,aa b<=m):aa (oj sep I)<=aa I*(aa sep+m):=by
 refine(ae (Fw ..))▸?_
 have:∀(l:List (List UInt8)) (k:Nat),(∀b∈l,aa b<=m)->aa ((l.zipIdx k).flatMap λx=>(if x.2>0 then sep else[])++x.1)<=aa l*(aa sep+m):=by
  intro l
  induction l with
  |nil=>intro k _;simp
  |cons x l o=>
   intro k h;have J:=o (k+1) λb R=>h b<|by simp[R]
   have W:=h x<|by simp
   have E:aa (if k>0 then sep else[])<=aa sep:=by split<;>simp
   simp only[yn,Sw,aI,bL,agL,agJ];exact cP<|bj [aa<|xt (λx ↦ (if x.snd>0 then sep else[])++x.fst)<|l.zipIdx<|k+1,aa l*(aa sep+m),aa x,m,aa<|if k>0 then sep else[],aa sep] [] [(1,aJ,bf),(1,ct,ig),(1,.v 4,.v 5),(1,xi<|.a bf<|.a (.v 5) ig,.a (.a (.v 4) ct) aJ)] rfl (cl J) (cl W)<|cl E
 exact this I 0 h
theorem Ls (sep:Nat) (I) (m:Nat) (h:∀b∈I,aa b<=m):yz sep I<=aa I*(sep+m):=by
 unfold yz
 have:∀(l:List (List UInt8)) (S:Nat),(∀b∈l,aa b<=m)->(l.map λb=>af b).foldl (· +·.size) S<=S+aa l*m:=by
  intro l
  induction l with
  |nil=>intro S _;simp
  |cons x l o=>
   intro S h;have J:=o (S+aa x) λb R=>h b<|by simp[R]
   have W:=h x<|by simp
   simp only[bu,nY,aR,bL,agL,agJ] at J|-
   exact cP<|bj [agM (λc p ↦ c+p.size) (S+aa x)<|rl (λb ↦ (af b)) l,S,aa x,aa l*m,m] [] [(1,aJ,.a (.a bf ct) ig),(1,ct,.v 4),(1,xi<|.a bf<|.a ig<|.v 4,aJ)] rfl (cl J)<|cl W
 have J:=this I (sep*(aa I-1)) h;refine(ae (vF ..))▸?_;have W:sep*(aa I-1)<=aa I*sep:=by exact(ae (afN ..))▸Nat.mul_le_mul_right _ (sE _ _)
 refine(ae (Nat.mul_add ..))▸?_;exact cP<|bj [agM (λc p ↦ c+p.size) (sep*(aa I-1))<|rl (λb ↦ (af b)) I,sep*(aa I-1),aa I*m,aa I*sep] [] [(1,aJ,.a bf ct),(1,bf,ig),(1,xi<|.a ig ct,aJ)] rfl (cl J)<|cl W
theorem zN:∀I:List (List UInt8),zO (I.map .bytes)=ab I
 |[]=>rfl
 |b::I=>by show(zO<|I.map .bytes).map _=_;refine(ae<|zN I)▸?_;rfl
theorem u4 (h:∀b∈I,aa b<=1000) (P:aa I<=200) (G:aa d<=10):zh (.bytes d) [.lst<|I.map .bytes] H=.ok (.bytes<|oj d I) H:=by
 have J:=Mv d I 1000 h;have W:=Ls (aa d) I 1000 h;have E:=DW P<|by exact cP<|bj [aa d] [] [(1,aJ,.n 10),(1,xi<|.n 1010,.a aJ<|.n 1000)] rfl<|cl G
 show bJ (zO<|I.map .bytes) (λI=>if aa (oj d I)<=16777216/\yz (aa d) I<=16777216 then ax (qi<|oj d I) else aP) H=_;refine(ae (zN ..))▸?_;exact congrFun (if_pos ⟨vD ‹_› ‹_› (by rfl),vD ‹_› ‹_› (by rfl)⟩) H
theorem iR (h:bo B e V H=.exc p H₁):nU B (e::r) V H=.exc p H₁:=wo h
theorem jM (h:bo B e V H=.ok a Z) (k:nU B r V Z=.exc p H₂):nU B (e::r) V H=.exc p H₂:=fg h<|wo k
theorem jN (h:nU B D V H=.exc p H₁):bo B (.az a D) V H=.exc p H₁:=wo h
theorem zA (h:nU B u V H=.exc p H₁):bo B (.tup u) V H=.exc p H₁:=wo h
theorem iQ (h:bo B o V H=.ok q Z) (t:(CM O q).isSome=ao) (I:nU B D V Z=.ok l g) (k:WM O q l g=r):bo B (.gb O o D) V H=r:=
 Ro h (by
  unfold Bg
  cases e:CM O q with
  |none=>rw[e] at t;cases t
  |some _=>exact fg I k)
theorem nZ (h:bo B e V H=.exc p H₁):fR B Q (.ret e::l) V H=.exc p H₁:=wo<|wo h
theorem GR (h:bo B e V H=.exc p H₁):fR B Q (.assign i e::l) V H=.exc p H₁:=wo<|wo h
theorem Kx (h:m H=.ok p H) (A:cZ H=ao) (F:i8 p=ao):IF m H=.ok p H:=by unfold IF;refine(ae h)▸?_;dsimp only;(refine(ae fy)▸(ae A)▸(ae F)▸?_);rfl
def FW (w:List Nat) (c:PV):PV:=.tup [cV "struct",.tup [cV "name",.str w,.tup []],c]
theorem Rg (A:cZ H=ao) (F:gS y=ao):rR 112 [.str w,.tup y] H=.ok (FW w<|.tup y) H:=by
 refine(ae<|show rR 112 [.str w,.tup y]=_ from vT (v:=fW) (Q:=fW) (j:=MW) (f:=⟨112,13,ah,[],[]⟩) (i:=0) (n:=2) (l:=4) (by kernel_rfl) (by kernel_rfl) (by kernel_rfl) (by kernel_rfl) rfl rfl)▸?_;refine aE (aK<|bG<|bw (ac rfl<|ac (gk (ac rfl aq) ?_)<|ac (dJ (ac rfl aq) rfl) aq)<|by simp) A<|by simp[FW,lu,lw,iV,lx,fi,f9,cV,F]
 have:rR 105 [.str w] H=.ok (.tup [cV "name",.str w,.tup []]) H:=by refine(ae<|show rR 105 [.str w]=_ from vT (v:=fW) (Q:=fW) (j:=MW) (f:=⟨105,12,ah,[],[]⟩) (i:=1) (n:=1) (l:=1) (by kernel_rfl) (by kernel_rfl) (by kernel_rfl) (by kernel_rfl) rfl rfl)▸?_;exact aE (aK<|bG<|bw (ac rfl<|ac rfl<|ac rfl aq)<|by simp) A rfl
 exact this
theorem Ln (A:cZ H=ao) (F:gS y=ao):dF 119 [.str w,.tup y] H=.ok (FW w<|.tup y) H:=by unfold dF;refine(ae<|if_pos rfl)▸?_;unfold Lo;rw[if_pos<|by kernel_rfl];exact Kx (gk (ac rfl<|ac rfl aq)<|Rg A F) A<|by simp[FW,lu,lw,iV,lx,fi,f9,cV,F]
theorem n4 (A:cZ H=ao) (z:Dh (.str t) [cV "utf-8"] H=.ok (.bytes b) H):dF 126 [.str w,.str t] H=.ok (FW w<|.tup [.tup [cV "text",.bytes b]]) H:=by
 unfold dF
 (rewrite[if_neg<|by decide];refine(ae<|if_pos rfl)▸?_)
 unfold Lo;rw[if_pos<|by kernel_rfl]
 have:rR 98 [.str t] H=.ok (.tup [cV "text",.bytes b]) H:=by refine(ae<|show rR 98 [.str t]=_ from vT (v:=fW) (Q:=fW) (j:=MW) (f:=⟨98,11,ah,[],[]⟩) (i:=2) (n:=1) (l:=1) (c:=[.ret<|.tup [.const<|cV "text",.gb .encode cy [.const<|cV "utf-8"]]]) (by kernel_rfl) (by kernel_rfl) (by kernel_rfl) (by kernel_rfl) (by kernel_rfl) rfl)▸?_;exact aE (aK<|bG<|bw (ac rfl<|ac (iQ rfl rfl (ac rfl aq) z) aq)<|by simp) A rfl
 exact Kx (gk (ac rfl<|ac (bw (ac (gk (ac rfl aq) this) aq)<|by simp) aq)<|Rg A rfl) A rfl
theorem E8 {v Q:nW} {j:List FE} {i l:Nat} {f:FE} {c:List CS} {d:PV} (Y:(j[i]?).map (λg=>(g.addr,g.k,g.keep,g.muts,g.defs))=ab (f.addr,f.k,f.keep,f.muts,f.defs)) (G:((j.take i).all λg=>decide<|f.addr≠g.addr)=ao) (B:(match (bF f.k).1.args with|[a,b]=>b.arg==a.arg|_=>ao)=ah) (U:(bF f.k).2.2.names.length=l) (P:Ds f.k f.muts=c) (X:f.defs=[d]) {p:PV}:
 iG v Q j f.addr [p]=iH f.keep (kJ (iG v Q<|j.drop<|i+1) Q l c [p,d]):=by
 rw[a9] at Y;refine aH Y ?_;clear Y;intro S N e;obtain⟨a,k,W,m,q⟩:=S;obtain⟨s,t,o,u,fd⟩:=f;simp only[AO] at e;refine Dm e ?_;clear e;intro S Z H L z;subst S;subst Z;subst H;subst L;subst z;refine bd (aA.mp N) λD e=>?_
 have h:j=j.take i++(⟨a,k,W,m,q⟩::j.drop (i+1)):=by(refine(e)▸(ae (GL ..))▸?_;rw[fa])
 refine ag (show iG v Q j a [p]=iG v Q (j.take i++(⟨a,k,W,m,q⟩::j.drop (i+1))) a [p] by rw[<-h]) ?_;rw[pS G];show(if a=a then _ else _)=_;rw[if_pos rfl];unfold fnOf fnM;dsimp only at B U P X|-
 cases I:(bF k).1.args with
 |nil=>rw[I] at B;cases B
 |cons x r=>
  cases r with
  |nil=>rw[I] at B;cases B
  |cons y r=>
   induction r with
   |cons _ _=>rw[I] at B;cases B
   |nil=>rw[I] at B;rw[if_neg (by simp),X];refine ag (if_pos B) ?_;rw[U,P]
def a0 (o:List UInt8):PV:=.tup [cV "text",.bytes o]
def l8 (n:Int):PV:=.tup [cV "int",cV "Int64",.int n]
def sv (b:Bool):PV:=.tup [cV "bool",.bool b]
def uR:PV:=.tup [cV "nothing"]
set_option genCtorIdx false
inductive Ix where
 |bl (c:Bool)
 |nm (big:Bool) (n:Int)
set_option genCtorIdx true
def Ix.p:Ix->PV
 |.bl c=>sv c
 |.nm ao n=>.tup [cV "int",cV "BigInt",.int n]
 |.nm ah n=>l8 n
noncomputable def Ix.w:Ix->Int
 |.bl ao=>1
 |.bl ah=>0
 |.nm _ n=>n
noncomputable def Ix.room (x:Ix):Bool:=decide (-9223372036854775808<=x.w/\x.w<9223372036854775808)
section
variable {H:Hp} {o:List UInt8}
theorem jY (A:cZ H=ao) (n:Int):b6 84 [.int n] H=.ok (l8 n) H:=by refine(ae<|show b6 84 [.int n]=_ from E8 (v:=rR) (Q:=dF) (j:=r6) (f:=⟨84,9,ah,[],[cV "Int64"]⟩) (i:=69) (l:=2) (c:=c_9) (d:=cV "Int64") (by kernel_rfl) (by kernel_rfl) (by kernel_rfl) (by kernel_rfl) (by kernel_rfl) rfl)▸?_;exact aE (aK<|bG<|bw (ac rfl<|ac rfl<|ac rfl aq)<|by simp) A rfl
theorem Im (A:cZ H=ao) (n:Int) (s:List Nat):b6 84 [.int n,.str s] H=.ok (.tup [cV "int",.str s,.int n]) H:=by rw[o_9 rfl];exact aE (aK<|bG<|bw (ac rfl<|ac rfl<|ac rfl aq)<|by simp) A rfl
theorem qJ (A:cZ H=ao) (b:Bool):b6 91 [.bool b] H=.ok (sv b) H:=by
 rw[ahx rfl];cases b
 ·exact aE (aK<|bG<|dZ rfl rfl) A rfl
 ·exact aE (aK<|bG<|eY rfl rfl) A rfl
theorem cO (A:cZ H=ao):b6 679 [a0 o,cV "text"] H=.ok (.bytes o) H:=by rw[acz rfl];exact aE (aK<|eQ (a7 (bx rfl rfl rfl) rfl rfl) bH<|bG<|bx rfl rfl rfl) A rfl
theorem lh (A:cZ H=ao) (x:Ix):b6 686 [x.p] H=.ok (.int x.w) H:=by
 rw[acy rfl]
 induction x with
 |bl b=>cases b<;>exact aE (aK<|kj (a7 (bx rfl rfl rfl) rfl rfl)<|bG<|dJ (ac (bx rfl rfl rfl) aq) rfl) A rfl
 |nm g n=>cases g<;>exact aE (aK<|eQ (a7 (bx rfl rfl rfl) rfl rfl) bH<|eQ (a7 (bx rfl rfl rfl) rfl rfl) bH<|bG<|bx rfl rfl rfl) A rfl
theorem OD {B:nW} {V:bN}:bo B (.bin ah .Pow (cI 2)<|cI 63) V H=.ok (.int 9223372036854775808) H:=rfl
theorem P5 {B:nW} {V:bN}:bo B (.bin ah .Sub (cI 0)<|.bin ah .Pow (cI 2)<|cI 63) V H=.ok (.int (-9223372036854775808)) H:=rfl
theorem gU (x:Ix):i8 x.p=true:=by
 induction x with
 |bl _=>rfl
 |nm g n=>cases g<;>rfl
def gp (o:List UInt8) (v:PV):PV:=FW gq<|.tup [a0 o,v]
theorem qd (A:cZ H=ao) {v:PV} (f:i8 v=ao):dF 119 [cV "BoundsError",.tup [a0 o,v]] H=.ok (gp o v) H:=
 Ln A (by simp[fi,f9,a0,lu,lw,iV,lx,cV,f])
theorem eX {v:PV} (f:i8 v=ao):i8 (gp o v)=true:=by simp[fi,f9,a0,lu,lw,iV,lx,cV,f,gp,FW]
theorem gW (A:cZ H=ao) (x:Ix) (h:x.room=ao):b6 693 [.bytes o,x.p] H=.ok (.int x.w) H:=by rw[WC rfl];exact aE (aK<|bT (ay (ac rfl aq) rfl<|lh A x)<|eQ (gK<|Cc P5 rfl OD h) bH<|bG rfl) A rfl
theorem l9 (A:cZ H=ao) (x:Ix) (h:x.room=ah):b6 693 [.bytes o,x.p] H=.exc (gp o x.p) H:=by rw[WC rfl];exact b8 (cY<|bT (ay (ac rfl aq) rfl<|lh A x)<|tr (gK<|Cc P5 rfl OD h)<|mr (ac rfl<|ac (bw (ac (bw (ac rfl<|ac rfl aq)<|by simp)<|ac rfl aq)<|by simp) aq)<|qd A<|gU x) A<|eX<|gU x
theorem wl (A:cZ H=ao) (N:aa o<=1000) {n:Int} (h:1<=n/\n<=aa o):b6 460 [.bytes o,.int n] H=.ok .none H:=by rw[ab0 rfl];exact aE (vR<|eQ (gK<|gs rfl rfl (dy rfl N)<|decide_eq_true h) bH bH) A rfl
theorem acJ (n:Int):i8 (l8 n)=true:=rfl
theorem zK (A:cZ H=ao) (N:aa o<=1000) {n:Int} (h:¬(1<=n/\n<=aa o)):b6 460 [.bytes o,.int n] H=.exc (gp o<|l8 n) H:=by rw[ab0 rfl];exact b8 (cY<|tr (gK<|gs rfl rfl (dy rfl N)<|decide_eq_false h)<|mr (ac rfl<|ac (bw (ac (bw (ac rfl<|ac rfl aq)<|by simp)<|ac (ay (ac rfl aq) rfl<|jY A n) aq)<|by simp) aq)<|qd A rfl) A<|eX rfl
def yy (w:List Nat) (b:List UInt8):PV:=FW w<|.tup [a0 b]
noncomputable def mU:List Nat:=[65,114,103,117,109,101,110,116,69,114,114,111,114]
noncomputable def T0:List UInt8:=[110,111,32,115,105,103,110,32,98,101,103,105,110,115,32,97,116,32,116,104,105,115,32,105,110,100,101,120]
end
section
variable {H:Hp} {ts:List Tk}
theorem qc (u:dA ts) (A:cZ H=ao) {n:Int} (h:my ts (n-1)=ao):b6 467 [.bytes<|av ts,.int n] H=.ok .none H:=by
 have B:1<=n/\n<=aa (av ts):=by refine jX λq=>?_;rw[Km ts (n-1) λh=>q ⟨aaJ.mp h.1,Int.le_of_sub_one_lt h.2⟩] at h;cases h
 rw[YW rfl];exact aE (vR<|hX (ay (ac rfl<|ac rfl aq) rfl<|wl A u.z B)<|eQ (gK<|jA<|ay (ac rfl<|ac rfl aq) rfl<|ag (lm ts (n-1) u.KN u.z A)<|by rw[h]) bH bH) A rfl
theorem ud (u:dA ts) (A:cZ H=ao) {n:Int} (h:¬(1<=n/\n<=aa (av ts))):b6 467 [.bytes<|av ts,.int n] H=.exc (gp (av ts)<|l8 n) H:=by rw[YW rfl];exact b8 (cY<|sK<|ay (ac rfl<|ac rfl aq) rfl<|zK A u.z h) A<|eX rfl
theorem ue (u:dA ts) (A:cZ H=ao) {n:Int} (B:1<=n/\n<=aa (av ts)) (h:my ts (n-1)=ah):b6 467 [.bytes<|av ts,.int n] H=.exc (yy mU T0) H:=by rw[YW rfl];exact b8 (cY<|hX (ay (ac rfl<|ac rfl aq) rfl<|wl A u.z B)<|tr (gK<|jA<|ay (ac rfl<|ac rfl aq) rfl<|ag (lm ts (n-1) u.KN u.z A)<|by rw[h])<|mr (ac rfl<|ac rfl aq)<|n4 A rfl) A rfl
end
noncomputable def Tk.shown:Tk->Int
 |.a=>97
 |.e=>233
 |.u=>8364
 |_=>65533
def xe (n:Int):PV:=.tup [cV "char",.int n]
theorem IU (A:cZ H=ao) (t:Tk):b6 700 [.int t.code] H=.ok (xe t.shown) H:=by
 have:∀(x y:Int),kJ (oI<|69+1) dF 2 (Ds 119 []) [.int x] H=.ok (xe y) H->b6 700 [.int x] H=.ok (xe y) H:=λx y h=>pU (i:=66) rfl rfl rfl rfl rfl rfl h A rfl
 cases t<;>exact this _ _ rfl
theorem IQ (u:dA (p++t::q)) (A:cZ H=ao) {n:Int} (h:n=aa (av p)+1):b6 481 [.bytes<|av<|p++t::q,.int n] H=.ok (.int t.code) H:=by
 subst h;have R:my (p++t::q) (((aa<|av p):Int)+1-1)=true:=by exact(ae (co ..))▸u7 p q t
 rw[abY rfl];exact aE (aK<|hX (ay (ac rfl<|ac rfl aq) rfl<|qc u A R)<|bG<|bx (ay (ac rfl<|ac (bn rfl rfl<|congrArg (λx=>dt (dq x) H)<|co _ 1) aq) rfl<|pn u.KN u.z A) rfl rfl) A rfl
theorem Gb {n:Int} (A:cZ H=ao) (h:b6 467 [.bytes<|av G,.int n] H=.exc D H) (F:i8 D=ao):b6 481 [.bytes<|av G,.int n] H=.exc D H:=by rw[abY rfl];exact b8 (cY<|sK<|ay (ac rfl<|ac rfl aq) rfl h) A F
def upT:CE:=.bool ao [.cmp dE [.Lt] [.bv eN [cy]],.not<|.az 247 [cy,dE]]
def upB:List CS:=[.aug 2 .Add<|cI 1]
def upV (G:List Tk) (i j:Int):bN:=[ab<|.bytes<|av G,ab<|.int i,ab<|.int j,al,al,al]
theorem S0 {j:Nat} {i:Int} (u:dA G) (A:cZ H=ao) (C:j<aa (av G)):jW (oI 56) upT (upV G i j) (bo (oI 56) upT<|upV G i j) H=.ok (!my G j) H:=
 j6 (a7 rfl (dy rfl u.z)<|dP<|decide_eq_true<|cJ.mpr C) (ja<|gK<|jA<|ay (ac rfl<|ac rfl aq) rfl<|lm G j u.KN u.z A)
inductive UpR (ts:List Tk) (i:Int) (j f:Nat) (H:Hp):Prop
 |mk (r:Nat) (h1:j<=r) (h2:r<=aa (av ts)) (h3:r=aa (av ts)\/my ts r=ao) (h4:∀k:Nat,j<=k->k<r->my ts k=ah) (h5:g8 (λτ=>jW (oI 56) upT τ<|bo (oI 56) upT τ) (λτ=>fR (oI 56) dF upB τ) f (upV ts i j) H=.ok (.next,upV ts i r) H)
theorem abx (u:dA G) (A:cZ H=ao) (i:Int) (f:Nat):∀(j:Nat),aa (av G)<f+j->j<=aa (av G)->UpR G i j f H:=by
 induction f with
 |zero=>intro j Y Q;exact absurd Q<|wE.mpr<|by rwa [fO] at Y
 |succ f o=>
  intro j Y Q;rcases wF Q with hl|hl
  ·have Z:=S0 (i:=i) u A hl
   cases R:my G j with
   |true=>exact .mk j (bS _) Q (.inr R) (λk J W=>absurd W<|cW.mpr J)<|lj<|ag Z<|by refine(ae R)▸?_;rfl
   |false=>obtain⟨r,J,W,E,X,U⟩:=o (j+1) (by rwa [Ss,d8] at Y) hl;exact .mk r (xN J) W E (λk l c=>(wF l).elim (λq=>X k q c) λq=>by exact(q)▸R)<|qt (ag Z<|by refine(ae R)▸?_;rfl) (yr rfl rfl rfl bH) U
  ·exact .mk j (bS _) Q (.inl hl) (λk J W=>absurd W<|cW.mpr J)<|lj<|l0<|a7 rfl (dy rfl u.z)<|dP<|decide_eq_false<|by exact(ae hl)▸abk _
theorem T4 (u:dA G) (A:cZ H=ao) (i:Nat) (D:i<aa (av G)):b6 254 [.bytes<|av G,.int i] H=.ok (.int<|uW G i) H:=by
 have:=u.len;obtain⟨r,J,W,E,X,U⟩:=abx u A i 200 (i+1) (by exact cP<|bj [aa<|av G,i] [] [(1,aJ,.n 100),(1,xi<|.a (.n 200)<|xi bf,xi aJ)] rfl<|cl this) D;refine(ae<|Fh (i:=i) (by exact dI.mpr<|by assumption) W E λk l c=>X k (by exact cJ.mp<|by assumption) c)▸?_;rw[ahu rfl]
 exact aE (aK (bT (bn rfl rfl rfl) (nH U (bG (dJ (ac rfl<|ac (dy rfl u.z) aq) (show _=dt (dq r) H by
  show dt (dq<|if((aa<|av G):Int)<r then _ else _) H=_
  rw[if_neg<|by exactλM=>bj [r,aa<|av G] [] [(1,aJ,bf),(1,xi bf,aJ)] rfl (cl W) M])))))) A rfl
def dnT:CE:=.bool ao [.cmp dE [.GtE] [cI 0],.not<|.az 247 [cy,dE]]
def dnB:List CS:=[.aug 2 .Sub<|cI 1]
def dnV (G:List Tk) (i j:Int):bN:=[ab<|.bytes<|av G,ab<|.int i,ab<|.int j,al,al,al,al]
theorem Vh {i j:Int} (u:dA G) (A:cZ H=ao) (C:0<=j):jW (oI 53) dnT (dnV G i j) (bo (oI 53) dnT<|dnV G i j) H=.ok (!my G j) H:=
 j6 (a7 rfl rfl<|jv<|decide_eq_true C) (ja<|gK<|jA<|ay (ac rfl<|ac rfl aq) rfl<|lm G j u.KN u.z A)
inductive DnR (ts:List Tk) (i j:Int) (f:Nat) (H:Hp):Prop
 |mk (r:Int) (h1:r<=j) (h2:-1<=r) (h3:r=-1\/my ts r=ao) (h4:∀k:Int,r<k->k<=j->my ts k=ah) (h5:g8 (λτ=>jW (oI 53) dnT τ<|bo (oI 53) dnT τ) (λτ=>fR (oI 53) dF dnB τ) f (dnV ts i j) H=.ok (.next,dnV ts i r) H)
theorem aek (u:dA G) (A:cZ H=ao) (i:Int) (f:Nat):∀(j:Int),j<f->-1<=j->DnR G i j (f+1) H:=by
 have neg:∀(f:Nat) (j:Int),-1<=j->¬0<=j->DnR G i j (f+1) H:=λf j Q C=>.mk j (fV _) Q (.inl<|by exact cD (dr<|bj [] [j] [(1,xi cz,ef),(1,xi<|.g ia,cz)] rfl<|iX.mp C)<|dr<|bj [] [j] [(1,.g ia,cz),(1,xi cz,.g ia)] rfl Q) (λk J W=>absurd W<|iX.mpr J)<|lj<|l0<|a7 rfl rfl<|jv<|decide_eq_false C
 induction f with
 |zero=>intro j Y Q;exact neg 0 j Q<|iX.mpr Y
 |succ f o=>
  intro j Y Q;by_cases C:0<=j
  case neg=>exact neg (f+1) j Q C
  have z:=Vh (i:=i) u A C
  cases R:my G j with
  |true=>exact .mk j (fV _) Q (.inr R) (λk J W=>absurd W<|iX.mpr J)<|lj<|ag z<|by refine(ae R)▸?_;rfl
  |false=>
   obtain⟨r,J,W,E,X,U⟩:=o (j-1) (by exact dr<|bj [f] [j] [(1,xi cz,xi aJ),(1,xi aJ,xi<|.s cz ia)] rfl Y)<|by exact dr<|bj [] [j] [(1,ef,cz),(1,xi<|.s cz ia,.g ia)] rfl C
   exact .mk r (by exact dr<|bj [] [r,j] [(1,cz,.s (.w 1) ia),(1,xi<|.w 1,cz)] rfl J) W E (λk l c=>(Int.lt_or_eq_of_le c).elim (λq=>X k l<|NT q) λq=>by exact(ae q)▸R)<|qt (ag z<|by refine(ae R)▸?_;rfl) (yr rfl rfl rfl bH) U
theorem TJ (u:dA G) (A:cZ H=ao) (i:Int) (D:0<=i/\i<=aa (av G)):b6 261 [.bytes<|av G,.int i] H=.ok (.int<|rQ G i) H:=by
 have:=u.len;obtain⟨r,J,W,E,X,U⟩:=aek u A i 199 (i-1) (by exact dr<|bj [aa<|av G] [i] [(1,cz,aJ),(1,aJ,.n 100),(1,xi<|.n 199,xi<|.s cz ia)] rfl D.2<|cl this)<|by exact dr<|bj [] [i] [(1,ef,cz),(1,xi<|.s cz ia,.g ia)] rfl D.1
 refine(ae<|Pw (by exact dr<|bj [] [r,i] [(1,cz,.s (.w 1) ia),(1,xi<|.w 1,xi cz)] rfl J) W E λk l c=>X k (by assumption)<|by exact dr<|bj [] [k,i] [(1,xi cz,.w 1),(1,xi<|.s (.w 1) ia,cz)] rfl c)▸?_;rw[aht rfl]
 exact aE (aK (bT (bn (dJ (ac rfl<|ac (dy rfl u.z) aq) (show _=dt (.int i) H by
  show dt (dq<|if((aa<|av G):Int)<i then _ else _) H=_
  rw[if_neg<|by exactλM=>bj [aa<|av G] [i] [(1,cz,aJ),(1,xi aJ,cz)] rfl D.2 M])) rfl rfl) (nH U (bG (dJ (ac rfl<|ac mv aq) (show _=dt (dq r) H by
  show dt (dq<|if(-1:Int)>r then _ else _) H=_
  rw[if_neg<|by exactλM=>bj [] [r] [(1,.g ia,cz),(1,xi cz,.g ia)] rfl W M])))))) A rfl
theorem HO (u:dA G) (A:cZ H=ao) (n:Int) (h:0<=n/\n<=aa (av G)):b6 488 [.bytes<|av G,.int n] H=.ok (.int<|uW G (n-1)+1) H:=by
 rw[abX rfl];refine aE (aK<|eQ (gK<|gs rfl rfl (dy rfl u.z)<|decide_eq_true h) bH<|bG ?_) A rfl;by_cases F:0<n
 ·refine eY (a7 rfl rfl<|jg<|decide_eq_true F) (bn (a:=.int<|uW G<|n-1) (ay (ac rfl<|ac (bn rfl rfl rfl) aq) rfl ?_) rfl rfl);obtain⟨i,D⟩:∃i:Nat,n-1=i:=⟨(n-1).toNat,by exact ae<|bA<|NT<|by assumption⟩;exact(ae D)▸T4 u A i (by exact cP<|bj [aa<|av G,i] [n] [(1,cz,aJ),(1,bf,.s cz ia),(1,xi aJ,xi bf)] rfl h.2<|aT<|ae D)
 ·refine dZ (a7 rfl rfl<|jg<|decide_eq_false F) ?_;rw[Fh (by exact dr<|bj [] [n] [(1,cz,ef),(1,xi ef,xi<|.s cz ia)] rfl<|cX.mp F) (by exact cP<|bj [aa<|av G] [] [(1,xi aJ,ef)] rfl) ?_ λj J W=>(absurd W<|iK _)]
  ·rfl
  ·induction G with
   |nil=>exact .inl rfl
   |cons t r=>exact .inr<|u7 [] r t
theorem Fg (u:dA G) (A:cZ H=ao) (n:Int) (h:¬(0<=n/\n<=aa (av G))):b6 488 [.bytes<|av G,.int n] H=.exc (gp (av G)<|l8 n) H:=by rw[abX rfl];exact b8 (cY<|tr (gK<|gs rfl rfl (dy rfl u.z)<|decide_eq_false h)<|mr (ac rfl<|ac (bw (ac (bw (ac rfl<|ac rfl aq)<|by simp)<|ac (ay (ac rfl aq) rfl<|jY A n) aq)<|by simp) aq)<|qd A rfl) A<|eX rfl
theorem yX (u:dA G) (A:cZ H=ao) (n:Int) (h:1<=n/\n<=aa (av G)+1):b6 495 [.bytes<|av G,.int n] H=.ok (.int<|rQ G (n-1)+1) H:=by rw[abW rfl];exact aE (aK<|eQ (gK<|gs rfl rfl (bn (dy rfl u.z) rfl rfl)<|decide_eq_true h) bH<|bG<|bn (ay (ac rfl<|ac (bn rfl rfl rfl) aq) rfl<|TJ u A (n-1)<|by exact⟨dr<|bj [] [n] [(1,ia,cz),(1,xi<|.s cz ia,ef)] rfl h.1,dr<|bj [aa<|av G] [n] [(1,cz,xi aJ),(1,xi aJ,.s cz ia)] rfl h.2⟩) rfl rfl) A rfl
theorem E2 (u:dA G) (A:cZ H=ao) (n:Int) (h:¬(1<=n/\n<=aa (av G)+1)):b6 495 [.bytes<|av G,.int n] H=.exc (gp (av G)<|l8 n) H:=by rw[abW rfl];exact b8 (cY<|tr (gK<|gs rfl rfl (bn (dy rfl u.z) rfl rfl)<|decide_eq_false h)<|mr (ac rfl<|ac (bw (ac (bw (ac rfl<|ac rfl aq)<|by simp)<|ac (ay (ac rfl aq) rfl<|jY A n) aq)<|by simp) aq)<|qd A rfl) A<|eX rfl
theorem Ay (u:dA G) (A:cZ H=ao):b6 502 [.bytes<|av G] H=.ok (.int<|rQ G (aa<|av G)+1) H:=by rw[ahn rfl];refine aE (aK<|bG<|ay (ac rfl<|ac (bn (dy rfl u.z) rfl rfl) aq) rfl<|ag (yX u A _ (by exact⟨dr<|bj [aa<|av G] [] [(1,xi<|xi aJ,ia)] rfl,dr<|bj [aa<|av G] [] [(1,xi<|xi aJ,xi aJ)] rfl⟩)) ?_) A rfl;rw[co]
def mh (G:List Tk):List PV:=G.map λt=>.int t.code
theorem JG:∀{G k x},x∈(dj k G).zip G->∃p q,G=p++x.2::q/\x.1=k+aa (av p)
 |t::r,k,x,h=>by
  rcases aL.mp h with rfl|h
  ·exact⟨[],r,rfl,rfl⟩
  ·exact iB (JG h) λp q m i=>⟨t::p,q,by refine(ae m)▸?_;rfl,by(refine ag i<|(ae<|show av (t::p)=t.b++av p from rfl)▸(ae aI)▸?_);exact d8 _ _ _⟩
theorem A7 (l:List u) (n):(dg n).filterMap (λk=>l[k]?)=l.take n:=by
 induction n with
 |zero=>rfl
 |succ n o=>
  (refine(ae la)▸ag mX<|(ae o)▸(ae lS)▸?_)
  cases h:l[n]? with
  |none=>refine(ae<|qo h)▸?_;rfl
  |some a=>refine(ae<|qn h)▸?_;rfl
theorem YD (n:Nat):z0 (((n+1:Nat):Int)-1) (-1) (-1)=(dg<|n+1).map λk=>n-k:=by
 have e:((n+1:Nat):Int)-1=n:=by exact(ae (AR ..))▸co _ _
 refine(ae e)▸?_;show(dg (if(n:Int)>-1 then((n:Int)- -1- -1-1) / 1 else 0).toNat).map (λ(k:Nat)=>((n:Int)+-1*(k:Int)).toNat)=_
 (rewrite[if_pos<|lK (by decide)<|bB n];refine(ae (agN ..))▸(ae (agN ..))▸(ae (co ..))▸(ae (afV ..))▸?_)
 refine oH λk _=>?_
 (refine((gY ..))▸(wH)▸?_)
 exact abj n k
theorem Pz (l:List u):qY l al al (ab (-1))=l.reverse:=by
 induction l with
 |nil=>rfl
 |cons a r=>
  show(z0 (((aa r+1:Nat):Int)-1) (-1) (-1)).filterMap (λk=>(a::r)[k]?)=_
  (refine(ae (YD ..))▸ag Oj ?_)
  have h:∀m,m<=aa r+1->(dg m).filterMap ((λk=>(a::r)[k]?)∘λk=>aa r-k)=(dg m).filterMap λk=>(a::r).reverse[k]?:=λm t=>by
   induction m with
   |zero=>rfl
   |succ m o=>
    (refine(ae la)▸ag mX ?_;refine(ae mX)▸(ae<|o<|xN t)▸?_)
    refine congrArg _ ?_;show tH _ [m]=tH _ [m];unfold tH;refine(ae<|show((λk=>(a::r)[k]?)∘λk=>r.length-k) m=(a::r).reverse[m]? from(List.getElem?_reverse t).symm)▸?_;rfl
  (refine ag (h _ (bS _))<|ag (A7 ..)<|((bL (a:=a)))▸(kE)▸?_;rw[fy])
theorem pP {l:List PV} (h:nu H o=ab l) (R:∀b,o≠.bytes b) (z:aa l<=1000):l4 ah o .none .none (.int (-1)) H=.ok (.lst l.reverse) H:=by
 have e:l4 ah o .none .none (.int (-1))=gQ o λxs=>if aa xs<=16777216/\(ab (-1:Int))≠ab 0 then ly ah (qY xs al al<|ab (-1)) else aP:=by cases o<;>first|rfl|exact absurd rfl<|R _
 refine(ae e)▸?_;refine kW h ?_;rw[if_pos ⟨kz ‹_› (by rfl),by decide⟩,Pz];rfl
theorem zH (u:dA ts) (A:cZ H=ao):b6 273 [.bytes<|av ts] H=.ok (.lst<|mh ts) H:=by
 have m:dC (dj 0 ts)=((dj 0 ts).zip ts).map λx=>.int x.1:=by
  have:=rk (l₁:=dj 0 ts) (l₂:=ts)<|by exact(ae (eK ..))▸bS _
  unfold dC
  conv=>lhs;rw[<-this]
  rw[gO];rfl
 have i:(((dj 0 ts).zip ts).map λx=>.int x.2.code)=mh ts:=by
  have:=rj (l₁:=dj 0 ts) (l₂:=ts)<|by rw[eK];exact bS _
  unfold mh
  conv=>rhs;rw[<-this]
  rw[gO];rfl
 rw[ahr rfl];have N:=fQ ts;have:=u.len;refine aE (aK<|bG<|i▸sb (CW<|gk (ac rfl aq)<|wP rfl u A) m (by rw[sG,eK];exact cP<|bj [aa ts,aa<|av ts,min (aa ts)<|aa ts] [] [(1,aJ,bf),(1,bf,.n 100),(1,ct,aJ),(1,xi<|.n 1000,ct)] rfl (cl N) (cl this)<|cl<|an<|eJ<|cP<|bj [aa ts] [] [(1,xi aJ,aJ)] rfl) λx T=>?_) A<|a _
 refine iB (JG T) λp q S C=>?_;subst S;rw[fO] at C;exact⟨_,rfl,bx (ay (ac rfl<|ac (by rw[C];rfl) aq) rfl<|pn u.KN u.z A) rfl rfl⟩
where a (ts:List Tk):gS (mh ts)=true:=mP (λ_=>rfl) ts
theorem Mi (u:dA G) (A:cZ H=ao):b6 280 [.bytes<|av G] H=.ok (.int<|aa G) H:=by
 have N:=fQ G;have:=u.len;rw[ahq rfl];refine aE (aK<|bG<|dJ (ac (gk (ac rfl aq)<|wP rfl u A) aq)<|ag (Bi<|by(rewrite[dC];refine(ae (aB ..))▸(ae (eK ..))▸?_);exact vD ‹_› ‹_› (by rfl)) ?_) A rfl
 (rewrite[dC];refine(ae (aB ..))▸?_;rw[eK])
theorem BK (f:u->Bool):∀l:List u,Dw (l.map λx=>.bool<|f x)=ab (l.map f)
 |[]=>rfl
 |x::l=>by show(Dw<|l.map λx=>.bool<|f x).map _=_;refine(ae<|BK f l)▸?_;rfl
def CJ (G:List Tk):Bool:=G.all λt=>decide<|0<=t.code
theorem yv (u:dA G) (A:cZ H=ao):b6 285 [.bytes<|av G] H=.ok (.bool<|CJ G) H:=by have N:=fQ G;have:=u.len;rw[ahp rfl];refine aE (aK<|bG<|dJ (ac (sb (CW<|ay (ac rfl aq) rfl<|zH u A) rfl (vD ‹_› ‹_› (by rfl)) λt _=>⟨_,rfl,oq rfl rfl<|jv rfl⟩) aq) ?_) A rfl;show bJ (Dw<|G.map λt=>.bool<|decide<|0<=t.code) (λI=>ax<|PV.bool<|I.all id) H=_;refine(ae (BK ..))▸?_;show dt (PV.bool<|(G.map λt=>decide<|0<=t.code).all id) H=_;unfold CJ;refine(ae abg)▸?_;rfl
def Z8:List CS:=[.fc (.cmp cy [.Lt] [cI 0]) [.ret<|.bv ug [.list ah [.bin ah .Sub (.neg<|cI 1) cy]]] [],.assign 1<|.az 205 [cy],.fc (.cmp ck [.Eq] [cI 1]) [.ret<|.bv ug [.list ah [cy]]] [],.mG [2,3] [.list ao [],cy],.for [4] ao (.bv jK [.bin ah .Sub ck<|cI 1]) [.expr<|.gb iS dE [.bin ah .Add (cI 128)<|.bin ah .Mod i6<|cI 64],.aug 3 .FloorDiv<|cI 64],.assign 5<|.bin ah .Add (.sub (.tup [cI 0,cI 0,cI 192,cI 224,cI 240]) ck) i6,.ret<|.bv ug [.bin ah .Add (.list ah [pv])<|.slice ah dE (.const<|.none) (.const<|.none)<|.neg<|cI 1]]
theorem ahw:O1 212 35 1 9 Z8:=dz 35 ["found"] [] rfl
theorem pZ {b:Int} (h:bo B x V H=.ok (.int b) H) (z:-2000<=b/\b<=2000) (e:el 0 b=l):rt B (.bv jK [x]) V (bo B (.bv jK [x]) V) H=.ok l H:=
 fg (dJ (ac h aq) rfl) (by unfold et;dsimp only;(refine ag (if_pos ⟨by exact dr<|bj [] [] [(1,xi ef,.g<|.n 4611686018427387904)] rfl,by exact dr<|bj [] [] [(1,xi<|.n 4611686018427387904,xi ef)] rfl,by exact dr<|bj [] [b] [(1,.g<|.n 2000,cz),(1,xi cz,.g<|.n 4611686018427387904)] rfl z.1,by exact dr<|bj [] [b] [(1,cz,.n 2000),(1,xi<|.n 4611686018427387904,xi cz)] rfl z.2⟩) ?_;rw[e]))
theorem pQ {p:PV} (h:∃V,fR B Q body (D.map ab++aW (n-aa D) al) H=.ok (.ret p,V) H'):kJ B Q n body D H=.ok p H':=aK h.choose_spec
theorem nV {p:PV} (h:m H=.ok p (H++[l])) (A:cZ H=ao) (F:i8 p=ao):iH ah m H=.ok p H:=by
 have:=zL h (by exact(ae<|k5 rfl)▸A) F
 rwa [k5 rfl] at this
theorem nR:nu (H++[l]) (.dR<|aa H)=ab l:=by
 show(H++[l])[aa H]?=_
 (refine ag (cj<|bS _) ?_;refine(ae (kn ..))▸?_);rfl
theorem Rk (A:cZ H=ao) (t:Tk):b6 212 [.int t.code] H=.ok (.bytes t.b) H:=by
 rw[ahw rfl];have d:∀(x:Int) (b:List UInt8),kJ (oI 35) dF 9 Z8 [.int x] H=.ok (.bytes b) H->iH ah (kJ (oI 35) dF 9 Z8 [.int x]) H=.ok (.bytes b) H:=λx b h=>aE h A rfl
 induction t with
 |c=>exact d _ _ rfl
 |n=>exact d _ _ rfl
 |a=>exact aE (aK<|eQ (a7 rfl rfl<|dP rfl) bH<|bT (ay (ac rfl aq) rfl<|qy A 97<|by decide)<|kj (a7 rfl rfl<|fq rfl)<|bG rfl) A rfl
 |e=>
  refine nV (l:=[.int 0xA9]) (pQ ?_) A rfl
  exact⟨_,(eQ (a7 rfl rfl<|dP rfl) bH (bT (ay (ac rfl aq) rfl<|qy A 233<|by decide) (eQ (a7 rfl rfl<|fq rfl) bH (iT (ac xb<|ac rfl aq) ⟨rfl,by simp⟩
   (qW (pZ rfl (by decide) rfl) (iw rfl (hX (jO rfl rfl<|by simp)<|yr rfl rfl rfl bH) rfl)<|bT rfl<|bG<|dJ (ac (bn rfl (il rfl rfl rfl mv<|pP nR nofun (by simp)) rfl) aq) rfl)))))⟩
 |u=>
  refine nV (l:=[.int 0xAC,.int 0x82]) (pQ ?_) A rfl
  exact⟨_,(eQ (a7 rfl rfl<|dP rfl) bH (bT (ay (ac rfl aq) rfl<|qy A 8364<|by decide) (eQ (a7 rfl rfl<|fq rfl) bH (iT (ac xb<|ac rfl aq) ⟨rfl,by simp⟩
   (qW (pZ rfl (by decide) rfl) (iw rfl (hX (jO rfl rfl<|by simp)<|yr rfl rfl rfl bH)<|iw rfl (hX (jO rfl rfl<|by simp)<|yr rfl rfl rfl bH) rfl)<|bT rfl<|bG<|dJ (ac (bn rfl (il rfl rfl rfl mv<|pP nR nofun (by simp)) rfl) aq) rfl)))))⟩
theorem uP:∀G,(G.map SG).flatten=av G
 |[]=>rfl
 |t::r=>by(refine(ae bu)▸ag Sv<|(ae<|uP r)▸?_);rfl
theorem yx (t:Tk):aa t.b<=3:=by cases t<;>decide
theorem Mr (N:aa G<=100) (A:cZ H=ao):b6 290 [.lst<|mh G] H=.ok (.bytes<|av G) H:=by
 (rewrite[aho rfl];refine((uP ..))▸((sZ ..))▸?_)
 refine aE (aK<|bG<|iQ rfl rfl (ac (sb (nb rfl) rfl (kz ‹_› (by rfl)) λt _=>⟨_,rfl,ay (ac rfl aq) rfl<|Rk A t⟩) aq) ?_) A rfl
 have:=u4 (H:=H) (d:=[]) (I:=G.map SG) (λb R=>by
  refine aH (b2.mp R) λt _ S=>?_;subst S
  have:=yx t;exact kz ‹_› (by rfl)) (by exact(ae (aB ..))▸(kz ‹_› (by rfl)))<|by simp
 rw[gO] at this;exact this
theorem ER (u:dA G) (A:cZ H=ao):b6 529 [.bytes<|av G] H=.ok (.bytes<|av G.reverse) H:=by have N:=fQ G;have:=u.len;rw[ahl rfl];refine aE (aK<|bG<|ay (ac (il (ay (ac rfl aq) rfl<|zH u A) rfl rfl mv<|pP rfl nofun (by(rewrite[mh];refine(ae (aB ..))▸?_);exact vD ‹_› ‹_› (by rfl))) aq) rfl ?_) A rfl;refine(ae<|show(mh G).reverse=mh G.reverse by simp[mh])▸?_;exact Mr (by exact(ae kE)▸(vD ‹_› ‹_› (by rfl))) A
theorem pi (h:bo B x V H=r):bo B (.bool i [x]) V H=r:=h
theorem Dj (h:bo B x V H=.ok (.bool c) H) (P:c=!i):bo B (.bool i<|x::y::l) V H=.ok (.bool c) H:=
 fg h (fg rfl<|by rw[if_neg<|by rw[P];cases i<;>decide];rfl)
theorem Dk (h:bo B x V H=.ok (.bool i) H) (k:bo B (.bool i<|y::l) V H=r):bo B (.bool i<|x::y::l) V H=r:=
 fg h (fg rfl<|by exact(ae<|if_pos rfl)▸k)
theorem Rp (h:bo B x V H=.ok (.bool c) H) (k:c=ao->bo B (.bool ao<|y::l) V H=.ok (.bool d) H):bo B (.bool ao<|x::y::l) V H=.ok (.bool<|c&&d) H:=by
 cases c with
 |false=>exact Dj h rfl
 |true=>exact Dk h<|k rfl
theorem Rm (h:bo B x V H=.ok (.bool c) H) (k:c=ah->bo B (.bool ah<|y::l) V H=.ok (.bool d) H):bo B (.bool ah<|x::y::l) V H=.ok (.bool<|c||d) H:=by
 cases c with
 |true=>exact Dj h rfl
 |false=>exact Dk h<|k rfl
theorem jh:lF .Eq (.bytes a) (.bytes b) H=.ok (a==b) H:=rfl
def yu (G:List Tk) (n:Int) (k:Nat):Bool:=decide ((k:Int)=0)||(my G n&&(decide (n+k=aa (av G))||my G (n+k)))
theorem qF (u:dA G) (A:cZ H=ao) (n:Int) (k:Nat):b6 536 [.bytes<|av G,.int n,.int k] H=.ok (.bool<|yu G n k) H:=by rw[ahk rfl];exact aE (aK<|bG<|Rm (oq rfl rfl<|fq rfl) λ_=>pi<|Rp (ay (ac rfl<|ac rfl aq) rfl<|lm G n u.KN u.z A) λ_=>pi<|Rm (oq (bn rfl rfl rfl) (dy rfl u.z)<|fq rfl) λ_=>pi<|ay (ac rfl<|ac (bn rfl rfl rfl) aq) rfl<|lm G _ u.KN u.z A) A rfl
theorem Ep (F:p≠[]) (h:uQ (av G) p n=ao):yu G n (aa p)=dO G p n:=by
 have:¬(((aa p):Int)=0):=λq=>F<|cw.mp<|by exact cf (cP<|bj [aa p] [] [(1,aJ,ef),(1,xi ef,aJ)] rfl<|aT q)<|cP<|bj [aa p] [] [(1,ef,aJ),(1,xi aJ,ef)] rfl<|aT<|ae q
 unfold yu dO;rw[h,decide_eq_false this,aaR,nt];congr 2;exact decide_eq_decide.mpr<|lf (m:=n+p.length)
theorem yt (o:List UInt8) (lo:Nat):d9 o.toArray.size (ab (lo:Int)) al=((lo:Int),((aa o):Int)):=by unfold d9;simp only[GH,aR];rw[if_neg (by exactλM=>bj [lo] [] [(1,xi aJ,ef)] rfl M),if_neg<|by exactλM=>bj [aa o] [] [(1,xi aJ,ef)] rfl M];simp
theorem Eo (o:List UInt8):d9 o.toArray.size al al=(((0:Nat):Int),((aa o):Int)):=by unfold d9;simp only[GH,aR];rw[if_neg (by exactλM=>bj [] [] [(1,xi ef,ef)] rfl M),if_neg<|by exactλM=>bj [aa o] [] [(1,xi aJ,ef)] rfl M];simp
theorem Yn (o:List UInt8) (D:Nat) (h:D<=aa o):d9 o.toArray.size (ab 0) (ab (D:Int))=(((0:Nat):Int),(D:Int)):=by unfold d9;simp only[GH,aR];rw[if_neg (by exactλM=>bj [] [] [(1,xi ef,ef)] rfl M),if_neg<|by exactλM=>bj [D] [] [(1,xi aJ,ef)] rfl M];simp;exact Wd<|cl h
theorem IG {n:Nat} (J:bo B x V H=.ok (.bytes o) H) (W:bo B y V H=.ok (.bytes p) H) (E:bo B z V H=.ok (.int n) H):bo B (.gb .find x [y,z]) V H=.ok (.int<|kH ah (af o) (af p) (ab (n:Int)) al) H:=
 iQ J rfl (ac W<|ac E aq) rfl
inductive DJ (ts:List Tk) (p:List UInt8) (b:Nat):Int->Prop
 |none (h:∀m,b<=m->dO ts p m=ah):DJ ts p b (-1)
 |some (n:Nat) (h1:b<=n) (h2:dO ts p n=ao) (h3:∀m,b<=m->m<n->dO ts p m=ah):DJ ts p b n
inductive VU (ts:List Tk) (p:List UInt8):Int->Prop
 |none (h:∀m,dO ts p m=ah):VU ts p (-1)
 |some (n:Nat) (h2:dO ts p n=ao) (h3:∀m,n<m->dO ts p m=ah):VU ts p n
theorem lY (h:uQ (av G) p n=ah):dO G p n=false:=by unfold dO;refine(ae h)▸?_;rfl
theorem HL {n:Nat} (h:uQ o p n=ao):n+aa p<=aa o:=by unfold uQ at h;simp only[bt,decide_eq_true_eq] at h;exact h.1
def fT:CE:=.bool ao [.cmp i6 [.GtE] [cI 0],.not<|.az 536 [cy,i6,.bv eN [ck]]]
def fB:List CS:=[.assign 3<|.gb XO cy [ck,.bin ah .Add i6<|cI 1]]
def ffV (G:List Tk) (p:List UInt8) (i r:Int):bN:=[ab<|.bytes<|av G,ab<|.bytes p,ab<|.int i,ab<|.int r,al,al,al,al]
theorem UV {n:Nat} {i:Int} (u:dA G) (F:p≠[]) (N:aa p<=1000) (A:cZ H=ao) (h:uQ (av G) p n=ao):jW (oI 45) fT (ffV G p i n) (bo (oI 45) fT<|ffV G p i n) H=.ok (!dO G p n) H:=
 j6 (a7 rfl rfl<|jv<|decide_eq_true<|bB n) (ja<|gK<|jA<|ay (ac rfl<|ac rfl<|ac (dy rfl N) aq) rfl<|ag (qF u A n<|aa p)<|by rw[Ep F h])
def FfR (G:List Tk) (p:List UInt8) (b:Nat) (i r:Int) (f:Nat) (H:Hp):Prop:=∃q,DJ G p b q/\g8 (λd=>jW (oI 45) fT d<|bo (oI 45) fT d) (λd=>fR (oI 45) dF fB d) f (ffV G p i r) H=.ok (.next,ffV G p i q) H
theorem YT {n:Nat} (F:p≠[]) (h:uQ o p n=ao):n<aa o:=
 lJ (jn<|kG.mpr F) (HL h)
theorem adU (u:dA G) (F:p≠[]) (Z:aa p<=1000) (A:cZ H=ao) (b:Nat) (i:Int) (f:Nat):∀(lo:Nat) (r:Int),aa (av G)<f+lo->b<=lo->(∀m,b<=m->m<lo->dO G p m=ah)->DI (av G) p lo r->FfR G p b i r (f+1) H:=by
 induction f with
 |zero=>
  intro lo r Y R N d
  induction d with
  |none h=>exact⟨-1,.none λm t=>(mq m lo).elim (N m t) λq=>lY<|h m q,lj<|l0<|a7 rfl rfl rfl⟩
  |some n J W E=>exact absurd (YT F W)<|cW.mpr<|eS<|lJ (by rwa [fO] at Y) J
 |succ f o=>
  intro lo r Y R N d
  induction d with
  |none h=>exact⟨-1,.none λm t=>(mq m lo).elim (N m t) λq=>lY<|h m q,lj<|l0<|a7 rfl rfl rfl⟩
  |some n J W E=>
   have z:=UV (i:=i) u F Z A W;have j:∀m,b<=m->m<n->dO G p m=false:=λm l c=>(mq m lo).elim (N m l) λq=>lY<|E m q c
   cases P:dO G p n with
   |true=>exact⟨n,.some n (aM R J) P j,lj<|ag z<|by refine(ae P)▸?_;rfl⟩
   |false=>refine aH (o (n+1) _ (by exact cP<|bj [aa<|av G,f,lo,n] [] [(1,xi aJ,.a (xi bf) ct),(1,ct,ig),(1,xi<|.a bf<|xi ig,xi aJ)] rfl (cl Y)<|cl J) (by exact cP<|bj [b,lo,n] [] [(1,aJ,bf),(1,bf,ct),(1,xi<|xi ct,aJ)] rfl (cl R)<|cl J) (λm l c=>(mq m n).elim (j m l) λq=>by refine(ae<|cf (iP c) q)▸?_;exact P) (Db (av G) p (n+1) (ab ((n+1:Nat):Int))<|yt _ _)) λq X U=>?_;exact⟨q,X,qt (ag z<|by refine(ae P)▸?_;rfl) (bT (IG rfl rfl<|bn rfl rfl rfl) bH) U⟩
theorem FT (u:dA G) (F:p≠[]) (N:aa p<=1000) (A:cZ H=ao) (b:Nat) (R:b<=aa (av G)):∃q,DJ G p b q/\b6 543 [.bytes<|av G,.bytes p,.int<|b+1] H=.ok (.int<|q+1) H:=by have:=u.len;refine aH (adU u F N A b (b+1) 199 b _ (by exact cP<|bj [aa<|av G,b] [] [(1,aJ,.n 100),(1,xi<|.a (.n 199) bf,xi aJ)] rfl<|cl this) (bS _) (λm _ _=>by exact absurd (by assumption)<|cW.mpr<|by assumption) (Db (av G) p b (ab (b:Int))<|yt _ _)) λq J W=>⟨q,J,?_⟩;rw[YU rfl];exact aE (aK<|eQ (gK<|gs rfl rfl (bn (dy rfl u.z) rfl rfl)<|decide_eq_true<|by exact⟨dr<|bj [b] [] [(1,xi<|xi aJ,ia)] rfl,dr<|bj [b,aa<|av G] [] [(1,aJ,bf),(1,xi<|xi bf,xi aJ)] rfl<|cl R⟩) bH<|bT (IG rfl rfl<|bn rfl rfl<|congrArg (λx=>dt (dq x) H)<|co _ 1)<|nH W<|bG rfl) A rfl
theorem ML (o:List UInt8) (b:Nat) (R:b<=aa o):kH ah (af o) #[] (ab (b:Int)) al=b:=by
 have Y:=Db o [] b (ab (b:Int))<|yt _ _
 have L:uQ o [] b=true:=by unfold uQ;simpa using R
 generalize Z:kH ah (af o) [].toArray (ab (b:Int)) al=r at Y
 induction Y with
 |none h=>rw[h b<|bS _] at L;cases L
 |some n J W E=>
  by_cases q:n=b
  ·rw[q]
  ·rw[E b (bS _)<|pK J<|jm q] at L;cases L
theorem Bt (u:dA G) (A:cZ H=ao) (b:Nat) (R:b<=aa (av G)):b6 543 [.bytes<|av G,.bytes [],.int<|b+1] H=.ok (.int<|b+1) H:=by
 have Y:bo (oI 45) (.gb XO cy [ck,.bin ah .Sub dE<|cI 1]) [ab<|.bytes<|av G,ab<|.bytes [],ab<|.int<|b+1,al,al,al,al,al] H=.ok (.int b) H:=by refine ag (IG rfl rfl<|bn rfl rfl<|congrArg (λx=>dt (dq x) H)<|co _ 1) ?_;rw[show kH ah (af<|av G) (af ([]:List UInt8)) (ab (b:Int)) al=b from ML _ b R]
 rw[YU rfl];exact aE (aK<|eQ (gK<|gs rfl rfl (bn (dy rfl u.z) rfl rfl)<|decide_eq_true<|by exact⟨dr<|bj [b] [] [(1,xi<|xi aJ,ia)] rfl,dr<|bj [b,aa<|av G] [] [(1,aJ,bf),(1,xi<|xi bf,xi aJ)] rfl<|cl R⟩) bH<|bT Y<|nH (lj<|a u A)<|bG rfl) A rfl
where a {V:bN} {b:Nat} {i:Int} (u:dA G) (A:cZ H=ao):jW (oI 45) fT (ab (.bytes<|av G)::ab (.bytes [])::ab (.int i)::ab (.int b)::V) (bo (oI 45) fT<|ab (.bytes<|av G)::ab (.bytes [])::ab (.int i)::ab (.int b)::V) H=.ok ah H:=j6 (a7 rfl rfl<|jv<|decide_eq_true<|bB _)<|ja<|gK (c:=ao)<|jA<|ay (ac rfl<|ac rfl<|ac rfl aq) rfl<|ag (qF u A b 0)<|by simp[yu]
theorem MU (u:dA G) (A:cZ H=ao) (n:Int) (h:¬(1<=n/\n<=aa (av G)+1)):b6 543 [.bytes<|av G,.bytes p,.int n] H=.exc (gp (av G)<|l8 n) H:=by rw[YU rfl];exact b8 (cY<|tr (gK<|gs rfl rfl (bn (dy rfl u.z) rfl rfl)<|decide_eq_false h)<|mr (ac rfl<|ac (bw (ac (bw (ac rfl<|ac rfl aq)<|by simp)<|ac (ay (ac rfl aq) rfl<|jY A n) aq)<|by simp) aq)<|qd A rfl) A<|eX rfl
def lT:CE:=.bool ao [.cmp dE [.GtE] [cI 0],.not<|.az 536 [cy,dE,.bv eN [ck]]]
def lB:List CS:=[.assign 2<|.gb SH cy [ck,cI 0,.bin ah .Sub (.bin ah .Add dE<|.bv eN [ck])<|cI 1]]
def flV (G:List Tk) (p:List UInt8) (r:Int):bN:=[ab<|.bytes<|av G,ab<|.bytes p,ab<|.int r,al,al]
theorem UT (u:dA G) (F:p≠[]) (N:aa p<=1000) (A:cZ H=ao) (h:uQ (av G) p n=ao):jW (oI 43) lT (flV G p n) (bo (oI 43) lT<|flV G p n) H=.ok (!dO G p n) H:=
 j6 (a7 rfl rfl<|jv<|decide_eq_true<|bB n) (ja<|gK<|jA<|ay (ac rfl<|ac rfl<|ac (dy rfl N) aq) rfl<|ag (qF u A n<|aa p)<|by rw[Ep F h])
def FlR (G:List Tk) (p:List UInt8) (r:Int) (f:Nat) (H:Hp):Prop:=∃q,VU G p q/\g8 (λd=>jW (oI 43) lT d<|bo (oI 43) lT d) (λd=>fR (oI 43) dF lB d) f (flV G p r) H=.ok (.next,flV G p q) H
theorem adS (u:dA G) (F:p≠[]) (V:aa p<=1000) (A:cZ H=ao) (f:Nat):∀(D:Nat) (r:Int),D<=f->D<=aa (av G)->(∀m,D<m+aa p->dO G p m=ah)->KT (av G) p D r->FlR G p r (f+1) H:=by
 have al:∀(f D:Nat),(∀m,D<m+aa p->dO G p m=ah)->(∀n,n+aa p<=D->uQ (av G) p n=ah)->FlR G p (-1) (f+1) H:=λf D N h=>⟨-1,.none λm=>(mq D<|m+aa p).elim (N m) λq=>lY<|h m q,lj<|l0<|a7 rfl rfl rfl⟩;have i:=kG.mpr F
 induction f with
 |zero=>
  intro D r Y R N d
  induction d with
  |none h=>exact al 0 D N h
  |some n J W E=>exact absurd i<|cW.mpr<|aM (cg _ n)<|aM J Y
 |succ f o=>
  intro D r Y R N d
  induction d with
  |none h=>exact al (f+1) D N h
  |some n J W E=>
   have Z:=UT u F V A W;have j:∀m,n<m->dO G p m=false:=λm l=>(mq D<|m+aa p).elim (N m) λq=>lY<|E m q l
   cases P:dO G p n with
   |true=>exact⟨n,.some n P j,lj<|ag Z<|by refine(ae P)▸?_;rfl⟩
   |false=>
    obtain⟨k,z⟩:∃k,n+p.length=k+1:=⟨n+aa p-1,((bP<|aM i (cg ..)).symm)⟩
    refine aH (o k _ (by exact cP<|bj [D,f,n,aa p,k] [] [(1,aJ,xi bf),(1,.a ct ig,aJ),(1,xi<|.v 4,.a ct ig),(1,xi bf,.v 4)] rfl (cl Y) (cl J)<|cl<|an<|ae z) (by exact cP<|bj [D,aa<|av G,n,aa p,k] [] [(1,aJ,bf),(1,.a ct ig,aJ),(1,xi<|.v 4,.a ct ig),(1,xi bf,.v 4)] rfl (cl R) (cl J)<|cl<|an<|ae z) (λm l=>(mq n m).elim (j m) λq=>by
     exact(ae<|show m=n by exact cf (cP<|bj [m,n] [] [(1,aJ,bf),(1,xi bf,aJ)] rfl<|cl q)<|cP<|bj [n,p.length,k,m] [] [(1,.a aJ bf,xi ct),(1,xi ct,.a ig bf),(1,xi ig,aJ)] rfl (cl<|an z)<|cl l)▸P) (yQ (av G) p k (by exact cP<|bj [D,aa<|av G,n,aa p,k] [] [(1,aJ,bf),(1,.a ct ig,aJ),(1,xi<|.v 4,.a ct ig),(1,xi bf,.v 4)] rfl (cl R) (cl J)<|cl<|an<|ae z) (ab 0) (ab (k:Int))<|Yn _ _ (by exact cP<|bj [D,aa<|av G,n,aa p,k] [] [(1,aJ,bf),(1,.a ct ig,aJ),(1,xi<|.v 4,.a ct ig),(1,xi bf,.v 4)] rfl (cl R) (cl J)<|cl<|an<|ae z))) λq X U=>?_
    refine⟨q,X,qt (ag Z<|by rw[P];rfl) (bT (iQ rfl rfl (ac rfl<|ac rfl<|ac (bn (bn rfl (dy rfl V) rfl) rfl<|show _=dt (dq k) H from ?_) aq) rfl) bH) U⟩;exact congrArg (λx=>dt (dq x) H)<|by exact cD (dr<|bj [n,p.length,k] [] [(1,.a aJ bf,xi ct),(1,xi ct,.s (.a aJ bf) ia)] rfl<|cl<|an z)<|dr<|bj [k,n,p.length] [] [(1,xi aJ,.a bf ct),(1,xi<|.s (.a bf ct) ia,aJ)] rfl<|cl<|an<|ae z
theorem Uj (u:dA G) (F:p≠[]) (N:aa p<=1000) (A:cZ H=ao):∃q,VU G p q/\b6 550 [.bytes<|av G,.bytes p] H=.ok (.int<|q+1) H:=by have:=u.len;refine aH (adS u F N A 199 (aa<|av G) _ (kz ‹_› (by rfl)) (bS _) (λm t=>lY<|by unfold uQ;rw[decide_eq_false<|by exactλM=>bj [aa<|av G,m,aa p] [] [(1,xi aJ,.a bf ct),(1,.a bf ct,aJ)] rfl (cl t)<|cl M];rfl) (yQ (av G) p _ (bS _) al al (Eo _))) λq J W=>?_;refine⟨q,J,?_⟩;rw[abV rfl];exact aE (aK<|bT (iQ rfl rfl (ac rfl aq) rfl)<|nH W<|bG rfl) A rfl
theorem Hv (o:List UInt8):kH ao (af o) #[] al al=aa o:=by
 have Y:=yQ o [] (aa o) (bS _) al al<|Eo _
 have L:uQ o [] (aa o)=true:=by unfold uQ;simp
 generalize Z:kH ao (af o) [].toArray al al=r at Y
 induction Y with
 |none h=>rw[h (aa o)<|bS _] at L;cases L
 |some n J W E=>
  have:=HL W;by_cases q:n=aa o
  ·rw[q]
  ·rw[E (aa o) (bS _)<|by simp at this;exact pK this q] at L;cases L
theorem Qk (u:dA G) (A:cZ H=ao):b6 550 [.bytes<|av G,.bytes []] H=.ok (.int<|aa (av G)+1) H:=by
 have Y:bo (oI 43) (.gb SH cy [ck]) [ab<|.bytes<|av G,ab<|.bytes [],al,al,al] H=.ok (.int<|aa<|av G) H:=by refine ag (iQ rfl rfl (ac rfl aq) rfl) ?_;show dt (dq<|kH ao (af<|av G) #[] al al) H=_;rw[Hv]
 rw[abV rfl];exact aE (aK<|bT Y<|nH (lj<|j6 (a7 rfl rfl<|jv<|decide_eq_true<|bB _)<|ja<|gK (c:=ao)<|jA<|ay (ac rfl<|ac rfl<|ac rfl aq) rfl<|ag (qF u A _ 0)<|by simp[yu])<|bG rfl) A rfl
def sB:List CS:=[.assign 4<|.az 543 [cy,ck,i6],.fc (.cmp kX [.Eq] [cI 0]) [.ret<|.bin ah .Add dE<|.list ah [.slice ah cy (.bin ah .Sub i6<|cI 1) (.const<|.none)<|.const<|.none]] [],.expr<|.gb iS dE [.slice ah cy (.bin ah .Sub i6<|cI 1) (.bin ah .Sub kX<|cI 1)<|.const<|.none],.assign 3<|.bin ah .Add kX<|.bv eN [ck]]
theorem m8 {n:Nat}:(((n:Int)+1)-1)=n:=co _ _
theorem yg (e:H[j]?=ab l) (z:aa l+aa r<=1000):CG ah .Add (.dR j) (.lst r) H=.ok (.lst<|l++r) H:=by
 unfold CG;rw[if_neg (by decide),if_pos ⟨rfl,rfl⟩];refine kW e<|kW rfl ?_
 rw[if_pos<|kz ‹_› (by rfl)];rfl
theorem abF (Z:dA G) (F:p≠[]) (N:aa p<=1000) (A:cZ H=ao):∀(f b:Nat) (S) (y),aa (av G)<f+b->b<=aa (av G)->aa S<=b->
 ∃V l,g8 (λd=>jW (oI 32) (.const<|.bool ao) d<|bo (oI 32) (.const<|.bool ao) d) (λd=>fR (oI 32) dF sB d) f [ab<|.bytes<|av G,ab<|.bytes p,ab<|.dR<|aa H,ab<|.int<|b+1,y,al,al,al] (H++[S.map .bytes])=
  .ok (.ret<|.lst<|(S++qG (av G) (aa p) (eU G p) b).map .bytes,V) (H++[l]):=by
 intro f
 induction f with
 |zero=>intro b S y Y R I;exact absurd (fO b▸Y)<|cW.mpr R
 |succ f o=>
  intro b S y Y R I;have:=Z.len;have i:=kG.mpr F;have k:cZ (H++[S.map qi])=true:=nJ A<|mP (λ_=>rfl) S
  refine aH (FT Z F N k b R) λq J W=>?_;have j:(H++[S.map .bytes])[aa H]?=ab (S.map .bytes):=by(refine ag (cj<|bS _) ?_;refine(ae (kn ..))▸?_);rfl
  induction J with
  |none h=>
   refine(ae<|BD<|zu h)▸?_;refine⟨_,S.map .bytes,abw rfl<|bT (ay (ac rfl<|ac rfl<|ac rfl aq) rfl W)<|kj (a7 rfl rfl rfl)<|bG<|bn rfl (iA (ac (il (l:=.int b) rfl (bn rfl rfl ?_) rfl rfl<|Cj Z.z) aq)<|by simp) ?_⟩
   ·exact congrArg (λx=>dt (dq x) _) m8
   ·refine ag (yg j<|by simp;exact aM (aM (by assumption)<|aM (by assumption)<|by assumption)<|by decide) ?_;simp
  |some n E X U=>
   have L:n+aa p<=aa (av G):=by unfold dO at X;simp only[bt] at X;exact HL X.1
   refine kY (o (n+aa p) (S++[((av G).drop b).take<|n-b]) (ab<|.int<|n+1) (by exact cP<|bj [aa<|av G,f,b,aa p,n] [] [(1,xi aJ,.a (xi bf) ct),(1,xi ef,ig),(1,ct,.v 4),(1,xi<|.a bf<|.a (.v 4) ig,xi aJ)] rfl (cl Y) (cl i)<|cl E) L<|by simp;exact cP<|bj [S.length,b,p.length,n] [] [(1,aJ,bf),(1,xi ef,ct),(1,bf,ig),(1,xi<|.a ig ct,xi aJ)] rfl (cl I) (cl i)<|cl E) λV l e=>?_
   refine⟨V,l,qt (g:=H++[S.map .bytes++[.bytes<|((av G).drop b).take<|n-b]]) rfl (bT (ay (ac rfl<|ac rfl<|ac rfl aq) (by kernel_rfl) W) (eQ (c:=ah) (a7 rfl rfl<|fq<|decide_eq_false<|by exactλM=>bj [n] [] [(1,xi aJ,ef)] rfl<|aT M) bH
    (hX (jO (l:=S.map .bytes) rfl (il (l:=.int b) (u:=.int n) rfl (bn rfl rfl ?_) (bn rfl rfl ?_) rfl<|n8 Z.z)<|by simp;exact cP<|bj [b,(av G).length,S.length] [] [(1,aJ,bf),(1,ct,aJ),(1,bf,.n 100),(1,xi<|.n 16777216,ct)] rfl (cl R) (cl I)<|cl this)<|bT (p:=.int<|(n+p.length:Nat)+1) (bn rfl (dy rfl N) ?_) bH))) ?_⟩
   ·exact congrArg (λx=>dt (dq x) _) m8
   ·exact congrArg (λx=>dt (dq x) _) m8
   ·exact congrArg (λx=>dt (dq x) _)<|show(n:Int)+1+p.length=((n+p.length:Nat):Int)+1 by exact cD (dr<|bj [n,p.length] [] [(1,xi<|xi<|.a aJ bf,.a (xi aJ) bf)] rfl)<|dr<|bj [n,p.length] [] [(1,xi<|.a (xi aJ) bf,xi<|.a aJ bf)] rfl
   ·refine(ae<|BC i E<|FU E X U)▸?_;simp only[b3,eZ] at e|-
    exact e
theorem O7 (u:dA G) (F:p≠[]) (N:aa p<=1000) (A:cZ H=ao):b6 555 [.bytes<|av G,.bytes p] H=.ok (.lst<|(qG (av G) (aa p) (eU G p) 0).map .bytes) H:=by
 have:=u.len;refine kY (abF u F N A 200 0 [] al (by exact bX (by assumption)<|by decide) (by exact cP<|bj [aa<|av G] [] [(1,xi aJ,ef)] rfl)<|by simp) λV l h=>?_;have X:(p==([]:List UInt8))=false:=by simpa using F
 rw[ahj rfl];exact nV (aK<|eQ (c:=ah) (a7 rfl rfl<|by(refine ag jh ?_;rw[X])) bH<|iT (ac xb<|ac rfl aq) ⟨rfl,by simp⟩<|Oq h) A<|by show gS _=ao;exact mP (λ_=>rfl) _
theorem v8 (f:u->Int):∀l:List u,w3 (l.map λx=>.int<|f x)=ab (l.map f)
 |[]=>rfl
 |x::l=>by show(w3<|l.map λx=>.int<|f x).map _=_;refine(ae<|v8 f l)▸?_;rfl
noncomputable def lA (I:List (List UInt8)):Int:=(I.map λb=>((aa b):Int)).sum
theorem Bk:∀bs,(∀b∈bs,aa b<=900)->0<=lA bs/\lA bs<=aa bs*900
 |[],_=>by simp[lA]
 |b::bs,h=>by
  have J:=Bk bs λx T=>h x<|by simp[T]
  have W:=h b<|by simp
  have e:lA (b::bs)=aa b+lA bs:=by simp[lA]
  refine(ae e)▸?_;simp only[bL];exact⟨dr<|bj [aa b] [lA bs] [(1,ef,cz),(1,xi<|.a aJ cz,ef)] rfl J.1,dr<|bj [aa bs,aa b] [lA bs] [(1,cz,.r aJ 900),(1,bf,.n 900),(1,xi<|.r (xi aJ) 900,.a bf cz)] rfl J.2<|cl W⟩
theorem ON {I:List (List UInt8)} (h:∀b∈I,aa b<=900) (P:aa I<=200):Lu [.lst<|I.map λb=>.int<|aa b] H=.ok (.int<|lA I) H:=by
 have e:Lu [.lst<|I.map λb=>dq b.length] H=bJ (w3<|I.map λb=>dq b.length) (λj=>if rO j=ao then ax (dq j.sum) else aP) H:=rfl
 (refine ag e<|(ae (v8 (λb:List UInt8=>((aa b):Int)) ..))▸?_)
 refine ag (congrFun (if_pos ?_) H) ?_;rotate_left
 ·rfl
 ·unfold rO;simp only[bt,cm,decide_eq_true_eq,aB,b2];refine⟨λx T=>?_,kz ‹_› (by rfl)⟩;refine aH T λb R S=>?_;subst S;have:=h b R;exact⟨dr<|bj [aa b] [] [(1,xi aJ,ef)] rfl,dr<|bj [aa b] [] [(1,aJ,.n 900),(1,xi<|.n 1099511627776,xi aJ)] rfl<|cl this⟩
theorem ui {n:Int} (A:cZ H=ao) (h:n<=200000):b6 474 [.int n] H=.ok .none H:=by rw[abZ rfl];exact aE (vR<|eQ (a7 rfl rfl<|jg<|decide_eq_false<|by exactλM=>bj [] [n] [(1,cz,.n 200000),(1,xi<|.n 200000,cz)] rfl h M) bH bH) A rfl
noncomputable def PG:List Nat:=[79,118,101,114,102,108,111,119,69,114,114,111,114]
noncomputable def Ey:List UInt8:=[97,32,116,101,120,116,32,111,102,32,116,111,111,32,109,97,110,121,32,111,99,116,101,116,115]
theorem Gk {n:Int} (A:cZ H=ao) (h:200000<n):b6 474 [.int n] H=.exc (yy PG Ey) H:=by rw[abZ rfl];exact b8 (cY<|tr (a7 rfl rfl<|jg<|decide_eq_true<|by with_reducible assumption)<|mr (ac rfl<|ac rfl aq)<|n4 A rfl) A rfl
theorem pW {a b:Int} (h:ir a=ao):CG ah .Mult (.int a) (.int b) H=.ok (.int<|a*b) H:=by show(if(ir a||ir b)=ao then ax (dq<|a*b) else aP) H=_;refine(ae h)▸?_;rfl
theorem Fv (h:∀b∈I,aa b<=900) (P:aa I<=200) (G:aa d<=2) (A:cZ H=ao):
 kJ (oI 36) dF 6 Z6 [.lst<|I.map .bytes,.bytes d] H=.ok (.bytes<|oj d I) H:=by
 refine bC (Bk I h) λJ W=>?_
 have C:((aa d):Int)*(if((aa I):Int)-1>0 then((aa I):Int)-1 else 0)<=2*200:=by
  have:(if((aa I):Int)-1>0 then((aa I):Int)-1 else 0)<=200/\0<=(if((aa I):Int)-1>0 then((aa I):Int)-1 else 0):=by split;exact⟨fP (Int.sub_le_self _ (by decide))<|cl P,sI ‹_›⟩;decide
  exact Int.mul_le_mul (by exact dI.mpr<|by with_reducible assumption) this.1 this.2<|by exact dr<|bj [] [] [(1,xi<|.n 2,ef)] rfl
 refine aK<|hX (ay (ac (bn (dJ (ac (sb (nb rfl) rfl (kz ‹_› (by rfl)) λb R=>⟨_,rfl,dy rfl (by have:=h b R;exact kz ‹_› (by rfl))⟩) aq)<|ON h P) (bn (dy rfl<|kz ‹_› (by rfl)) (dJ (ac rfl<|ac (bn (dJ (ac rfl aq)<|Bi<|by exact(ae (aB ..))▸(kz ‹_› (by rfl))) rfl rfl) aq) rfl)<|pW<|by simp[ir];exact⟨dr<|bj [aa d] [] [(1,xi aJ,xi<|.g<|.n 9223372036854775808)] rfl,dr<|bj [aa d] [] [(1,aJ,.n 2),(1,xi<|.n 9223372036854775808,xi aJ)] rfl<|cl G⟩) rfl) aq) rfl<|ui A ?_)<|bG<|iQ rfl rfl (ac rfl aq)<|u4 (λb R=>by have:=h b R;exact kz ‹_› (by rfl)) P<|kz ‹_› (by rfl)
 refine(ae (aB ..))▸?_;exact fP (D0 (fP W<|jo (cl P)<|by decide) C)<|by decide
theorem Qt (h:∀b∈I,aa b<=900) (P:aa I<=200) (G:aa d<=2) (A:cZ H=ao):b6 515 [.lst<|I.map .bytes,.bytes d] H=.ok (.bytes<|oj d I) H:=by rw[ahm rfl];exact aE (Fv h P G A) A rfl
theorem Fx {I:List (List UInt8)} (h:∀b∈I,aa b<=900) (P:aa I<=200) (A:cZ H=ao):b6 515 [.lst<|I.map .bytes] H=.ok (.bytes I.flatten) H:=by
 (refine(ae<|show b6 515 [.lst<|I.map .bytes]=_ from E8 (v:=rR) (Q:=dF) (j:=r6) (f:=⟨515,83,ah,[],[.bytes []]⟩) (i:=35) (l:=6) (c:=Z6) (d:=.bytes []) (by kernel_rfl) (by kernel_rfl) (by kernel_rfl) (by kernel_rfl) (by kernel_rfl) rfl)▸((sZ ..))▸?_)
 exact aE (Fv h P (by simp) A) A rfl
theorem Dq {k:Nat}:∀{l b},(∀x∈qG o k l b,aa x<=aa o)/\aa (qG o k l b)<=aa l+1
 |[],b=>⟨λx hx=>by simp only[qG,aU] at hx;(refine(ae hx)▸(ae hJ)▸?_);exact cP<|bj [aa o-b,aa o] [] [(1,aJ,bf),(1,xi bf,aJ)] rfl<|cl<|sE _ _,by simp[qG]⟩
 |n::l,b=>by
  unfold qG;split
  ·refine bC (Dq) λJ W=>⟨λx hx=>?_,by simp;with_reducible assumption⟩;rcases aL.mp hx with rfl|hx
   ·(refine(ae rm)▸(ae hJ)▸?_);exact cP<|bj [aa o-b,aa o,min (n-b)<|aa o-b] [] [(1,aJ,bf),(1,ct,aJ),(1,xi bf,ct)] rfl (cl<|sE _ _)<|cl<|V6 _ _
   ·exact J x hx
  ·exact bC (Dq) λJ W=>⟨J,by simp;exact cP<|bj [aa<|qG o k l b,aa l] [] [(1,aJ,xi bf),(1,xi<|xi<|xi bf,aJ)] rfl<|cl W⟩
def AE (G:List Tk) (p:List UInt8):List (List UInt8):=qG (av G) (aa p) (eU G p) 0
theorem Dr (u:dA ts):(∀x∈AE ts p,aa x<=100)/\aa (AE ts p)<=101:=by
 have J:=Dq (o:=av ts) (k:=p.length) (l:=eU ts p) (b:=0)
 have W:aa (eU ts p)<=aa ts:=by
  unfold eU;have:=f4 (dO ts p)<|dj 0 ts
  rw[eK] at this;exact this
 have E:=fQ ts;have X:=u.len;exact⟨λx T=>by have:=J.1 x T;exact vD ‹_› ‹_› (by rfl),by have:=J.2;unfold AE;exact cP<|bj [aa<|qG (av ts) (aa p) (eU ts p) 0,aa<|eU ts p,aa ts,aa<|av ts] [] [(1,aJ,xi bf),(1,bf,ct),(1,ct,ig),(1,ig,.n 100),(1,xi<|.n 101,aJ)] rfl (cl J.2) (cl W) (cl E)<|cl X⟩
theorem EV (u:dA G) (F:p≠[]) (N:aa p<=1000) (A:cZ H=ao) (Z:aa d<=2):b6 562 [.bytes<|av G,.bytes p,.bytes d] H=.ok (.bytes<|oj d<|AE G p) H:=by
 have P:=Dr (p:=p) u;have X:(p==([]:List UInt8))=false:=by simpa using F
 rw[abU rfl];exact aE (aK<|eQ (a7 rfl rfl<|by(refine ag jh ?_;rw[X])) bH<|bG<|ay (ac (ay (ac rfl<|ac rfl aq) rfl<|O7 u F N A)<|ac rfl aq) rfl<|Qt (λb R=>by have:=P.1 b R;exact kz ‹_› (by rfl)) (by unfold AE at P;exact cP<|bj [aa<|qG (av G) (aa p) (eU G p) 0] [] [(1,aJ,.n 101),(1,xi<|.n 200,aJ)] rfl<|cl P.2) Z A) A rfl
noncomputable def YZ:List UInt8:=[110,111,116,104,105,110,103,32,99,97,110,110,111,116,32,98,101,32,114,101,112,108,97,99,101,100]
theorem Cr (A:cZ H=ao):b6 562 [.bytes o,.bytes [],.bytes d] H=.exc (yy mU YZ) H:=by rw[abU rfl];exact b8 (cY<|tr (a7 rfl rfl rfl)<|mr (ac rfl<|ac rfl aq)<|n4 A rfl) A rfl
theorem yE (u:dA G) (N:aa p<=1000) (A:cZ H=ao):b6 576 [.bytes<|av G,.bytes p] H=.ok (.bool<|((av G).take (aa p)==p)&&(decide (((aa p):Int)=aa (av G))||my G (aa p))) H:=by rw[ahi rfl];exact aE (aK<|bG<|Rp (oq (il rfl rfl (dy rfl N) rfl<|Tq u.z) rfl jh) λ_=>pi<|Rm (oq (dy rfl N) (dy rfl u.z)<|fq rfl) λ_=>pi<|ay (ac rfl<|ac (dy rfl N) aq) rfl<|lm G _ u.KN u.z A) A rfl
theorem Df (u:dA G) (N:aa p<=1000) (A:cZ H=ao) (h:aa (av G)<aa p):b6 583 [.bytes<|av G,.bytes p] H=.ok (.bool ah) H:=by rw[abT rfl];exact aE (aK<|bT (bn (dy rfl u.z) (dy rfl N) rfl)<|bG<|Dj (oq rfl rfl<|jv<|decide_eq_false<|by exactλM=>bj [aa<|av G,aa p] [] [(1,xi aJ,bf),(1,ef,.s aJ bf)] rfl (cl h) M) rfl) A rfl
theorem De {n:Nat} (u:dA G) (N:aa p<=1000) (A:cZ H=ao) (h:aa (av G)=n+aa p):b6 583 [.bytes<|av G,.bytes p] H=.ok (.bool<|((av G).drop n==p)&&((p==[])||my G n)) H:=by
 have e:((aa<|av G):Int)-aa p=n:=by exact cD (dr<|bj [aa<|av G,n,aa p] [] [(1,aJ,.a bf ct),(1,xi bf,.s aJ ct)] rfl<|cl<|an h)<|dr<|bj [n,aa p,aa<|av G] [] [(1,.a aJ bf,ct),(1,xi<|.s ct bf,aJ)] rfl<|cl<|an<|ae h
 rw[abT rfl];exact aE (aK<|bT (bn (dy rfl u.z) (dy rfl N)<|congrArg (λx=>dt (dq x) H) e)<|bG<|Dk (oq rfl rfl<|jv<|decide_eq_true<|by with_reducible exact bB _)<|Rp (oq (il rfl rfl rfl rfl<|Cj u.z) rfl jh) λ_=>pi<|Rm (oq rfl rfl jh) λ_=>pi<|ay (ac rfl<|ac rfl aq) rfl<|lm G _ u.KN u.z A) A rfl
theorem OP {a b:Int} (A:cZ H=ao) (h:a<=b) (F:i8 D=ao) (J:b6 467 [.bytes o,.int a] H=.exc D H):b6 509 [.bytes o,.int a,.int b] H=.exc D H:=by rw[YV rfl];exact b8 (cY<|eQ (a7 rfl rfl<|dP<|decide_eq_false<|by exactλM=>bj [] [a,b] [(1,cz,.w 1),(1,xi<|.w 1,cz)] rfl h M) bH<|sK<|ay (ac rfl<|ac rfl aq) rfl J) A F
theorem OO {a b:Int} (A:cZ H=ao) (h:a<=b) (F:i8 D=ao) (J:b6 467 [.bytes o,.int a] H=.ok .none H) (W:b6 467 [.bytes o,.int b] H=.exc D H):b6 509 [.bytes o,.int a,.int b] H=.exc D H:=by rw[YV rfl];exact b8 (cY<|eQ (a7 rfl rfl<|dP<|decide_eq_false<|by exactλM=>bj [] [a,b] [(1,cz,.w 1),(1,xi<|.w 1,cz)] rfl h M) bH<|hX (ay (ac rfl<|ac rfl aq) rfl J)<|sK<|ay (ac rfl<|ac rfl aq) rfl W) A F
theorem Yy {a:Nat} {b:Int} (u:dA (p++t::q)) (A:cZ H=ao) (R:b=aa (av p)+1) (h:a<=aa (av p)) (I:my (p++t::q) a=ao):
 b6 509 [.bytes<|av<|p++t::q,.int<|a+1,.int b] H=.ok (.bytes<|((av<|p++t::q).drop a).take<|aa (av p)+aa t.b-a) H:=by
 subst R;have m:my (p++t::q) ((a:Int)+1-1)=true:=by exact(ae (co ..))▸I
 have i:my (p++t::q) (((aa<|av p):Int)+1-1)=true:=by exact(ae (co ..))▸u7 p q t
 rw[YV rfl];refine aE (aK<|eQ (a7 rfl rfl<|dP<|decide_eq_false<|by exactλM=>bj [a,aa<|av p] [] [(1,aJ,bf),(1,xi<|xi bf,xi aJ)] rfl (cl h) M) bH<|hX (ay (ac rfl<|ac rfl aq) rfl<|qc u A m)<|hX (ay (ac rfl<|ac rfl aq) rfl<|qc u A i)<|bG<|il rfl (bn rfl rfl ?_) (bx (ay (ac rfl<|ac (bn rfl rfl ?_) aq) rfl<|pn u.KN u.z A) rfl rfl) rfl<|n8 u.z) A rfl
 ·exact congrArg (λx=>dt (dq x) H) m8
 ·exact congrArg (λx=>dt (dq x) H) m8
noncomputable def acQ:List UInt8:=[97,32,116,101,120,116,32,99,97,110,110,111,116,32,115,116,97,110,100,32,108,101,115,115,32,116,104,97,110,32,110,111,32,116,105,109,101,115]
theorem TD {n:Int} (A:cZ H=ao) (h:n<0):b6 522 [.bytes o,.int n] H=.exc (yy mU acQ) H:=by rw[TX rfl];exact b8 (cY<|tr (a7 rfl rfl<|dP<|decide_eq_true h)<|mr (ac rfl<|ac rfl aq)<|n4 A rfl) A rfl
theorem A4 {n:Nat} (h:n<=1000):ir (n:Int)=true:=by simp[ir];exact⟨dr<|bj [n] [] [(1,xi aJ,xi<|.g<|.n 9223372036854775808)] rfl,dr<|bj [n] [] [(1,aJ,.n 1000),(1,xi<|.n 9223372036854775808,xi aJ)] rfl<|cl h⟩
theorem Pn (A:cZ H=ao) (N:aa o<=1000) {n:Int} (h:0<=n) (R:200000<((aa o):Int)*n):b6 522 [.bytes o,.int n] H=.exc (yy PG Ey) H:=by rw[TX rfl];exact b8 (cY<|eQ (a7 rfl rfl<|dP<|decide_eq_false<|by exactλM=>bj [] [n] [(1,ef,cz),(1,xi cz,ef)] rfl h M) bH<|sK<|ay (ac (bn (dy rfl N) rfl<|pW<|A4 N) aq) rfl<|Gk A R) A rfl
theorem TC {n:Int} (A:cZ H=ao) (h:0<=n):b6 522 [.bytes [],.int n] H=.ok (.bytes []) H:=by rw[TX rfl];exact aE (aK<|eQ (a7 rfl rfl<|dP<|decide_eq_false<|by exactλM=>bj [] [n] [(1,ef,cz),(1,xi cz,ef)] rfl h M) bH<|hX (ay (ac (bn (dy rfl<|by simp) rfl<|pW rfl) aq) rfl<|ui A<|by simp)<|bG<|dZ (a7 rfl rfl rfl) rfl) A rfl
theorem nM:lF .NotEq (.bytes a) (.bytes b) H=.ok (!(a==b)) H:=rfl
theorem Kd {n:Nat} (B:n<=8) (L:o≠[]) (N:aa o<=1000):CG ah .Mult (.bytes o) (.int n) H=.ok (.bytes (aW n o).flatten) H:=by have E:=DW N B;show(if o≠[]/\-1048576<=(n:Int)/\(n:Int)<=1048576/\aa o*(n:Int).toNat<=16777216/\aa o<=16777216 then ax (qi (aW (n:Int).toNat o).flatten) else aP) H=_;rw[if_pos ⟨L,by exact dr<|bj [n] [] [(1,xi aJ,.g<|.n 1048576)] rfl,by exact dr<|bj [n] [] [(1,aJ,.n 8),(1,xi<|.n 1048576,aJ)] rfl<|cl B,by rw[ek];exact kz ‹_› (by rfl),kz ‹_› (by rfl)⟩,ek];rfl
theorem YJ (A:cZ H=ao) (L:o≠[]) (N:aa o<=1000) {n:Nat} (B:n<=8):b6 522 [.bytes o,.int n] H=.ok (.bytes (aW n o).flatten) H:=by
 have E:=DW N B;have X:(!(o==([]:List UInt8)))=true:=by simpa using L
 rw[TX rfl];refine aE (aK<|eQ (a7 rfl rfl<|dP<|decide_eq_false<|by exactλM=>bj [n] [] [(1,xi aJ,ef)] rfl M) bH<|hX (ay (ac (bn (dy rfl N) rfl<|pW<|A4 N) aq) rfl<|ui A ?_)<|bG<|eY (a7 rfl rfl<|by(refine ag nM ?_;rw[X]))<|bn rfl rfl<|Kd B L N) A rfl;exact((Int.natCast_mul ..))▸dr (bj [aa o*n] [] [(1,aJ,.m 1000<|.n 8),(1,xi<|.n 200000,aJ)] rfl<|cl E)
def aix:List CS:=[.expr<|.az 616 [ck],.fc (.not<|.cmp (.bin ah .Sub (cI 0)<|.bin ah .Pow (cI 2)<|cI 4000) [.Lt,.Lt] [cy,.bin ah .Pow (cI 2)<|cI 4000]) [.raise 126 [xs7,cS [97,32,110,117,109,98,101,114,32,111,102,32,116,111,111,32,109,97,110,121,32,102,105,103,117,114,101,115]]] [],.mG [2,3] [.bv VM [cy],.list ao []],.while (.bool ah [.cmp dE [.Gt] [cI 0],.cmp i6 [.Eq] [.list ah []]]) [.expr<|.gb iS i6 [.sub (cB [48,49,50,51,52,53,54,55,56,57,97,98,99,100,101,102,103,104,105,106,107,108,109,110,111,112,113,114,115,116,117,118,119,120,121,122])<|.bin ah .Mod dE ck],.aug 2 .FloorDiv ck],.ret<|.bin ah .Add (.fc (.cmp cy [.Lt] [cI 0]) (cB [45])<|cB [])<|.bv ug [.slice ah i6 (.const<|.none) (.const<|.none)<|.neg<|cI 1]]
theorem ahh:O1 623 19 2 10 aix:=dz 99 ["found"] [] rfl
theorem VH (A:cZ H=ao):b6 616 [.int 16] H=.ok .none H:=pU (i:=19) rfl rfl rfl rfl rfl rfl rfl A rfl
theorem Zl {n:Int} (h:0<=n/\n<1000) (C:bo B cy V H=.ok (.int n) H):jW B (.not<|.cmp (.bin ah .Sub (cI 0)<|.bin ah .Pow (cI 2)<|cI 4000) [.Lt,.Lt] [cy,.bin ah .Pow (cI 2)<|cI 4000]) V (bo B (.not<|.cmp (.bin ah .Sub (cI 0)<|.bin ah .Pow (cI 2)<|cI 4000) [.Lt,.Lt] [cy,.bin ah .Pow (cI 2)<|cI 4000]) V) H=.ok ah H:=by
 have e:∀{B:nW} {V:bN},bo B (.bin ah .Pow (cI 2)<|cI 4000) V H=.ok (.int<|2^4000) H:=by intros;kernel_rfl
 have big:(1000:Int)<=2^4000:=by decide+kernel
 generalize (2:Int)^4000=m at*;exact gK<|Ce (bn rfl e rfl) C (dP<|decide_eq_true<|by exact dr<|bj [] [n,m] [(1,ef,cz),(1,.n 1000,.w 1),(1,xi cz,xi<|.s ef<|.w 1)] rfl h.1 big) e<|dP<|decide_eq_true<|by exact dr<|bj [] [n,m] [(1,xi cz,.n 1000),(1,.n 1000,.w 1),(1,xi<|.w 1,xi cz)] rfl h.2 big
def ae9:List CS:=[.ret<|.gb MN.rjust (.az 623 [cy,cI 16]) [ck,cB [48]]]
def RO:List CS:=[.fc (.cmp cy [.In] [.const<|.xD [10,9,13,0,92,36,34] [.bytes [92,110],.bytes [92,116],.bytes [92,114],.bytes [92,48],.bytes [92,92],.bytes [92,36],.bytes [92,34]]]) [.ret<|.sub (.const<|.xD [10,9,13,0,92,36,34] [.bytes [92,110],.bytes [92,116],.bytes [92,114],.bytes [92,48],.bytes [92,92],.bytes [92,36],.bytes [92,34]]) cy] [],.fc (.cmp cy [.Lt] [cI 0]) [.ret<|.bin ah .Add (cB [92,120])<|.az 635 [.bin ah .Sub (.neg<|cI 1) cy,cI 2]] [],.fc (.bool ah [.cmp cy [.Lt] [cI 32],.cmp cy [.Eq] [cI 127]]) [.ret<|.bin ah .Add (cB [92,120])<|.az 635 [cy,cI 2]] [],.ret<|.az 212 [cy]]
theorem acC:O1 635 18 2 3 ae9:=dz 101 [] [] rfl
theorem acB:O1 642 17 1 4 RO:=dz 102 [] [] rfl
theorem ZT (e:H[j]?=ab (x::l)):lF .Eq (.dR j) (.lst []) H=.ok ah H:=by show zx _ _ H=_;unfold zx;simp only[nu,e];rw[if_pos<|by simp]
theorem QH {n:Int} (A:cZ H=ao) (h:0<=n/\n<1000) (T:decide (0<n)=ao) (J:decide (0<n.fdiv 16)=ao) (W:decide (0<(n.fdiv 16).fdiv 16)=ah)
 (L:∀H:Hp,uH (.bytes vd) (.int<|n.fmod 16) H=.ok (.int x.toNat) H) (f:∀H:Hp,uH (.bytes vd) (.int<|(n.fdiv 16).fmod 16) H=.ok (.int y.toNat) H) (I:∀H:Hp,VM [.int n] H=.ok (.int n) H) (B:decide (n<0)=ah)
 (R:∀H:Hp,ug [.lst [.int y.toNat,.int x.toNat]] H=.ok (.bytes [y,x]) H):b6 635 [.int n,.int 2] H=.ok (.bytes [y,x]) H:=by
 have t:b6 623 [.int n,.int 16] H=.ok (.bytes [y,x]) H:=by
  rw[ahh rfl];refine nV (l:=[.int x.toNat,.int y.toNat]) (pQ ?_) A rfl
  exact⟨_,hX (ay (ac rfl aq) rfl<|VH A) (eQ (Zl h rfl) bH (iT (ac (dJ (ac rfl aq)<|I H)<|ac xb aq) ⟨rfl,by simp⟩ (nH
   (qt (A0<|a7 rfl rfl<|jg T) (hX (jO rfl (bx rfl (bn rfl rfl rfl)<|L _)<|by simp)<|yr rfl rfl rfl bH)
    (qt (A0<|a7 rfl rfl<|jg J) (hX (jO rfl (bx rfl (bn rfl rfl rfl)<|f _)<|by simp)<|yr rfl rfl rfl bH)
     (lj<|tw (a7 rfl rfl<|jg W)<|ja<|a7 rfl rfl<|ZT nR)))
   (bG<|bn (dZ (a7 rfl rfl<|dP B) rfl) (dJ (ac (il rfl rfl rfl mv<|pP nR nofun (by simp)) aq)<|R _) rfl))))⟩
 rw[acC rfl];exact aE (aK<|bG<|iQ (ay (ac rfl<|ac rfl aq) rfl t) rfl (ac rfl<|ac rfl aq) rfl) A rfl
noncomputable abbrev ad4:PV:=.xD [10,9,13,0,92,36,34] [.bytes [92,110],.bytes [92,116],.bytes [92,114],.bytes [92,48],.bytes [92,92],.bytes [92,36],.bytes [92,34]]
def Tk.Ad:Tk->List UInt8
 |.c=>[92,120,99,51]
 |.n=>[92,120,97,57]
 |t=>t.b
theorem ZS (A:cZ H=ao) (t:Tk):b6 642 [.int t.code] H=.ok (.bytes t.Ad) H:=by
 rw[acB rfl]
 have f:∀(n:Int) (b:List UInt8),b6 635 [.int (-1-n),.int 2] H=.ok (.bytes b) H->aa b<=2->lF .In (.int n) ad4 H=.ok ah H->n<0->iH ah (kJ (oI 17) dF 4 RO [.int n]) H=.ok (.bytes<|[92,120]++b) H:=λn b h C D B=>
  aE (aK (eQ (a7 rfl rfl D) bH (kj (a7 rfl rfl<|dP<|decide_eq_true B) (bG (bn rfl (ay (ac (bn mv rfl rfl)<|ac rfl aq) rfl h) (by
   show(if 2+aa b<=16777216 then ax (qi<|[92,120]++b) else aP) H=_
   rw[if_pos<|by exact cP<|bj [aa b] [] [(1,aJ,.n 2),(1,xi<|.n 16777216,.a (.n 2) aJ)] rfl<|cl C];rfl)))))) A rfl
 have d:∀(t:Tk),lF .In (.int t.code) ad4 H=.ok ah H->32<=t.code->t.code≠127->iH ah (kJ (oI 17) dF 4 RO [.int t.code]) H=.ok (.bytes t.b) H:=λt D J W=>aE (aK<|eQ (a7 rfl rfl D) bH<|eQ (a7 rfl rfl<|dP<|decide_eq_false<|by exactλM=>bj [] [t.code] [(1,.n 32,cz),(1,xi cz,ef)] rfl J M) bH<|eQ (tw (a7 rfl rfl<|dP<|decide_eq_false<|by exactλM=>bj [] [t.code] [(1,.n 32,cz),(1,xi cz,.n 32)] rfl J M)<|ja<|a7 rfl rfl<|fq<|decide_eq_false W) bH<|bG<|ay (ac rfl aq) rfl<|Rk A t) A rfl
 induction t with
 |a=>exact d .a rfl (by decide)<|by decide
 |e=>exact d .e rfl (by decide)<|by decide
 |u=>exact d .u rfl (by decide)<|by decide
 |c=>exact f (-196) [99,51] (QH A (by decide) rfl rfl rfl (λ_=>rfl) (λ_=>rfl) (λ_=>rfl) rfl λ_=>rfl) (by decide) rfl<|by decide
 |n=>exact f (-170) [97,57] (QH A (by decide) rfl rfl rfl (λ_=>rfl) (λ_=>rfl) (λ_=>rfl) rfl λ_=>rfl) (by decide) rfl<|by decide
open Tk renaming Ad->rB
section
variable {ts p q:List Tk} {o:List UInt8}
def wrB:List CS:=[.fc (.bool ao [.cmp kX [.Eq] [cI 0],.cmp (.bin ah .Add i6<|cI 1) [.Lt] [.bv eN [dE]],.cmp (cI 48) [.LtE,.LtE] [.sub dE<|.bin ah .Add i6<|cI 1,cI 57]]) [.expr<|.gb iS ck [cB [92,120,48,48]]] [.expr<|.gb iS ck [.az 642 [kX]]]]
theorem Vo (t:Tk):decide (t.code=0)=false:=by cases t<;>rfl
theorem Wl (A:cZ H=ao):∀(q) (S) (k:Nat) (x y),aa S+aa q<=1000->∃Y i,ik (λd p=>f0 d [3,4] ah p) (λd=>fR (oI 13) dF wrB d) (jr k<|mh q) [ab<|.bytes o,ab<|.dR<|aa H,ab<|.lst<|mh ts,x,y,al,al,al,al] (H++[S.map .bytes])=
 .ok (.next,[ab<|.bytes o,ab<|.dR<|aa H,ab<|.lst<|mh ts,Y,i,al,al,al,al]) (H++[(S++q.map rB).map .bytes])
 |[],S,k,x,y,_=>⟨x,y,by(refine(ae rG)▸(ae (fh ..))▸?_);rfl⟩
 |t::q,S,k,x,y,N=>by
  refine kY (Wl A q (S++[t.Ad]) (k+1) (ab<|.int k) (ab<|.int t.code)<|by simp at N|-;exact cP<|bj [aa S,aa q] [] [(1,.a aJ<|xi bf,.n 1000),(1,xi<|.n 1000,.a (xi aJ) bf)] rfl<|cl N) λY i h=>?_;refine⟨Y,i,iw rfl (eQ (l0<|a7 rfl rfl<|fq<|Vo t) (hX (jO rfl (ay (ac rfl aq) rfl<|ZS (nJ A<|mP (λ_=>rfl) S) t)<|by simp at N|-;exact aM (aM (cn _ _)<|by assumption)<|by decide) bH) bH) ?_⟩;simp only[b3,eZ] at h|-
  exact h
theorem Uz (h:bo B x V H=.ok (.lst l) H):rt B (.enum x) V (bo B (.enum x) V) H=.ok (jr 0 l) H:=fg h rfl
def Ym (ts:List Tk):List UInt8:=[34]++(ts.map rB).flatten++[34]
theorem ID (t:Tk):aa t.Ad<=4:=by cases t<;>decide
theorem yb:∀(q:List Tk),(q.map rB).flatten.length<=4*aa q
 |[]=>by simp
 |t::q=>by have:=yb q;have:=ID t;simp only[bu,Sv,aI,bL];exact cP<|bj [(rl rB q).flatten.length,aa q,aa t.Ad] [] [(1,aJ,.m 4 bf),(1,ct,.n 4),(1,xi<|.m 4<|xi bf,.a ct aJ)] rfl (cl<|by assumption)<|cl this
theorem te (h:aa a+aa b<=1000):CG ah .Add (.bytes a) (.bytes b) H=.ok (.bytes<|a++b) H:=by show(if aa a+aa b<=16777216 then ax (qi<|a++b) else aP) H=_;rw[if_pos<|kz ‹_› (by rfl)];rfl
theorem GS (u:dA ts) (A:cZ H=ao):b6 649 [.bytes<|av ts] H=.ok (.bytes<|Ym ts) H:=by
 have N:=fQ ts;have:=u.len;have Y:=yb ts;refine kY (Wl (o:=av ts) (ts:=ts) A ts [] 0 al al<|by simp;exact vD ‹_› ‹_› (by rfl)) λx y h=>?_;rw[gA] at h;rw[acA rfl]
 have Q:bo (oI 13) (.gb pL (cB []) [ck]) [ab<|.bytes<|av ts,ab<|.dR<|aa H,ab<|.lst<|mh ts,x,y,al,al,al,al] (H++[(ts.map rB).map .bytes])=.ok (.bytes (ts.map rB).flatten) (H++[(ts.map rB).map .bytes]):=by
  refine iQ rfl rfl (ac rfl aq) ?_
  have:=u4 (H:=H++[(ts.map rB).map .bytes]) (d:=[]) (I:=ts.map rB) (λb R=>by
   refine aH (b2.mp R) λt _ S=>?_;subst S
   have:=ID t;exact kz ‹_› (by rfl)) (by exact(ae (aB ..))▸(vD ‹_› ‹_› (by rfl)))<|by simp
  rw[sZ] at this;refine ag ?_ this;exact kW nR rfl
 exact nV (aK<|iT (ac xb<|ac (ay (ac rfl aq) rfl<|zH u<|nJ A rfl) aq) ⟨rfl,by simp⟩<|qW (Uz rfl) h<|bG<|bn (bn rfl Q<|te<|by simp only[bL,d7];exact cP<|bj [aa ts,aa<|av ts,(rl rB ts).flatten.length] [] [(4,aJ,bf),(4,bf,.n 100),(1,ct,.m 4 aJ),(1,xi<|.n 1000,.a (xi ef) ct)] rfl (cl N) (cl this)<|cl Y) rfl<|te<|by simp only[bL,d7,aI];exact cP<|bj [aa ts,aa<|av ts,(rl rB ts).flatten.length] [] [(4,aJ,bf),(4,bf,.n 100),(1,ct,.m 4 aJ),(1,xi<|.n 1000,.a (.a (xi ef) ct)<|xi ef)] rfl (cl N) (cl this)<|cl Y) A rfl
end
def Hd (d:bk) (D:List PV) (q:PV):Prop:=∀a b c,pE [.tup<|a::b::.ref d::c,.tup D] []=.ok q []
theorem Hd.ok (h:b6 d [.tZ,.lst D] []=.ok p []) (B:i8 p=ao) (z:aa D<=1000):Hd d D p:=λa b c=>by
 show(if aa D<=16777216 then _ else _)=_
 (refine ag (if_pos<|kz ‹_› (by rfl))<|(ae h)▸?_)
 exact if_pos<|by refine ag B ?_;rfl
open Hd renaming ok->mY
theorem Hd.exc (h:b6 d [.tZ,.lst D] []=.exc p []) (B:i8 p=ao) (L:lO p=ab q) (z:aa D<=1000):Hd d D q:=λa b c=>by
 show(if aa D<=16777216 then _ else _)=_
 (refine ag (if_pos<|kz ‹_› (by rfl))<|(ae h)▸?_)
 show(if(cZ ([]:Hp)&&i8 p)=ao then(match lO p with|some q=>dt q []|none=>.stuck) else .stuck)=_
 (refine ag (if_pos<|by rw[B];rfl) ?_;rw[L])
open Hd renaming exc->mZ
def cQ (o:List UInt8) (x:Ix):PV:=.tup [.str gq,.tup [a0 o,if x.room then l8 x.w else x.p]]
theorem jz:lO (gp o v)=ab (.tup [.str gq,.tup [a0 o,v]]):=by show ab (if gq=gq then Wi [.str gq,.tup [a0 o,v]] else _)=_;rw[if_pos rfl]
noncomputable def j0 (w:List Nat):PV:=.tup [.str w]
theorem qp (h:w≠gq):lO (yy w b)=ab (j0 w):=by show ab (if w=gq then _ else Wi [.str w])=_;refine(ae<|if_neg h)▸?_;rfl
theorem wv:mU≠gq:=by decide+kernel
theorem TQ:PG≠gq:=by decide+kernel
def PN (b:UInt8):PV:=.tup [cV "int",cV "UInt8",.int b.toNat]
section
variable {x:Ix}
theorem fm:cZ []=true:=rfl
theorem ox (h:x.room=ao):cQ o x=.tup [.str gq,.tup [a0 o,l8 x.w]]:=by unfold cQ;refine(ae h)▸?_;rfl
theorem qL (h:x.room=ah):cQ o x=.tup [.str gq,.tup [a0 o,x.p]]:=by unfold cQ;refine(ae h)▸?_;rfl
theorem sS (h:-1<=x.w/\x.w<=2000):x.room=true:=decide_eq_true<|by exact⟨dr<|bj [] [x.w] [(1,.g ia,cz),(1,xi cz,.g<|.n 9223372036854775808)] rfl h.1,dr<|bj [] [x.w] [(1,cz,.n 2000),(1,xi<|.n 9223372036854775808,xi cz)] rfl h.2⟩
theorem L6 (h:x.room=ah):Hd 735 [a0 o,x.p] (cQ o x):=by refine mZ (p:=gp o x.p) ?_ (eX<|gU x) (by(refine ag jz ?_;rw[qL h])) (by simp);rw[PS rfl];exact b8 (cY<|bT (ay (ac (bx rfl rfl rfl)<|ac rfl aq) rfl<|cO fm)<|GR<|ay (ac rfl<|ac (bx rfl rfl rfl) aq) rfl<|l9 fm x h) rfl<|eX<|gU x
theorem L5 (N:aa o<=1000) (h:x.room=ao) (U:¬(1<=x.w/\x.w<=aa o)):Hd 735 [a0 o,x.p] (cQ o x):=by refine mZ (p:=gp o<|l8 x.w) ?_ (eX rfl) (by(refine ag jz ?_;rw[ox h])) (by simp);rw[PS rfl];exact b8 (cY<|bT (ay (ac (bx rfl rfl rfl)<|ac rfl aq) rfl<|cO fm)<|bT (ay (ac rfl<|ac (bx rfl rfl rfl) aq) rfl<|gW fm x h)<|sK<|ay (ac rfl<|ac rfl aq) rfl<|zK fm N U) rfl<|eX rfl
theorem PM (N:aa o<=1000) {n:Nat} (P:o[n]?=ab c) (U:x.w=n+1):Hd 735 [a0 o,x.p] (PN c):=by have B:=(aA.mp P).1;refine mY ?_ rfl (by simp);rw[PS rfl];refine aE (aK<|bT (ay (ac (bx rfl rfl rfl)<|ac rfl aq) rfl<|cO fm)<|bT (ay (ac rfl<|ac (bx rfl rfl rfl) aq) rfl<|ag (gW fm x<|sS<|by exact⟨dr<|bj [n] [x.w] [(1,xi aJ,cz),(1,xi cz,.g ia)] rfl<|aT<|ae U,dr<|bj [aa o,n] [x.w] [(1,aJ,.n 1000),(1,cz,xi bf),(1,xi bf,aJ),(1,xi<|.n 2000,cz)] rfl (cl N) (aT U)<|cl B⟩)<|by rw[U])<|hX (ay (ac rfl<|ac rfl aq) rfl<|wl fm N<|by exact⟨dr<|bj [n] [] [(1,xi<|xi aJ,ia)] rfl,dr<|bj [n,aa o] [] [(1,xi aJ,bf),(1,xi bf,xi aJ)] rfl<|cl B⟩)<|bG<|ay (ac (bx rfl (bn rfl rfl ?_)<|rM P N)<|ac rfl aq) rfl<|Im fm _ _) rfl rfl;exact congrArg (λx=>dt (dq x) []) m8
theorem aai (h:x.room=ah):Hd 742 [a0 o,x.p] (cQ o x):=by refine mZ (p:=gp o x.p) ?_ (eX<|gU x) (by(refine ag jz ?_;rw[qL h])) (by simp);rw[PR rfl];exact b8 (cY<|bT (ay (ac (bx rfl rfl rfl)<|ac rfl aq) rfl<|cO fm)<|nZ<|jN<|iR<|jN<|jM rfl<|iR<|ay (ac rfl<|ac (bx rfl rfl rfl) aq) rfl<|l9 fm x h) rfl<|eX<|gU x
theorem RY (d:x.room=ao) (h:b6 467 [.bytes<|av G,.int x.w] []=.exc D []) (F:i8 D=ao) (g:lO D=ab due):Hd 742 [a0<|av G,x.p] due:=by refine mZ ?_ F g (by simp);rw[PR rfl];exact b8 (cY<|bT (ay (ac (bx rfl rfl rfl)<|ac rfl aq) rfl<|cO fm)<|nZ<|jN<|iR<|ay (ac rfl<|ac (ay (ac rfl<|ac (bx rfl rfl rfl) aq) rfl<|gW fm x d) aq) rfl<|Gb fm h F) rfl F
theorem afi (u:dA (p++t::q)) (U:x.w=aa (av p)+1):Hd 742 [a0<|av<|p++t::q,x.p] (xe t.shown):=by have C:=u.len;rw[sW] at C;refine mY ?_ rfl (by simp);rw[PR rfl];exact aE (aK<|bT (ay (ac (bx rfl rfl rfl)<|ac rfl aq) rfl<|cO fm)<|bG<|ay (ac (ay (ac rfl<|ac (ay (ac rfl<|ac (bx rfl rfl rfl) aq) rfl<|gW fm x<|sS<|by exact⟨dr<|bj [aa<|av p] [x.w] [(1,xi aJ,cz),(1,xi cz,.g ia)] rfl<|aT<|ae U,dr<|bj [aa<|av p,aa t.b,aa<|av q] [x.w] [(1,cz,xi aJ),(1,.a (.a aJ bf) ct,.n 100),(1,xi<|.n 2000,cz)] rfl (aT U)<|cl C⟩) aq) rfl<|IQ u fm U) aq) rfl<|IU fm t) rfl rfl
theorem P4 (h:x.room=ah):Hd 749 [a0 o,x.p] (cQ o x):=by refine mZ (p:=gp o x.p) ?_ (eX<|gU x) (by(refine ag jz ?_;rw[qL h])) (by simp);rw[PQ rfl];exact b8 (cY<|bT (ay (ac (bx rfl rfl rfl)<|ac rfl aq) rfl<|cO fm)<|nZ<|jN<|iR<|jN<|jM rfl<|iR<|ay (ac rfl<|ac (bx rfl rfl rfl) aq) rfl<|l9 fm x h) rfl<|eX<|gU x
theorem P3 (u:dA G) (h:x.room=ao) (U:¬(0<=x.w/\x.w<=aa (av G))):Hd 749 [a0<|av G,x.p] (cQ (av G) x):=by refine mZ (p:=gp (av G)<|l8 x.w) ?_ (eX rfl) (by(refine ag jz ?_;rw[ox h])) (by simp);rw[PQ rfl];exact b8 (cY<|bT (ay (ac (bx rfl rfl rfl)<|ac rfl aq) rfl<|cO fm)<|nZ<|jN<|iR<|ay (ac rfl<|ac (ay (ac rfl<|ac (bx rfl rfl rfl) aq) rfl<|gW fm x h) aq) rfl<|Fg u fm _ U) rfl<|eX rfl
theorem T5 (u:dA G) (U:0<=x.w/\x.w<=aa (av G)):Hd 749 [a0<|av G,x.p] (l8<|uW G (x.w-1)+1):=by have C:=u.len;refine mY ?_ rfl (by simp);rw[PQ rfl];exact aE (aK<|bT (ay (ac (bx rfl rfl rfl)<|ac rfl aq) rfl<|cO fm)<|bG<|ay (ac (ay (ac rfl<|ac (ay (ac rfl<|ac (bx rfl rfl rfl) aq) rfl<|gW fm x<|sS<|by exact⟨dr<|bj [] [x.w] [(1,ef,cz),(1,xi cz,.g ia)] rfl U.1,dr<|bj [aa<|av G] [x.w] [(1,cz,aJ),(1,aJ,.n 100),(1,xi<|.n 2000,cz)] rfl U.2<|cl C⟩) aq) rfl<|HO u fm _ U) aq) rfl<|jY fm _) rfl rfl
theorem Pv (h:x.room=ah):Hd 756 [a0 o,x.p] (cQ o x):=by refine mZ (p:=gp o x.p) ?_ (eX<|gU x) (by(refine ag jz ?_;rw[qL h])) (by simp);rw[PP rfl];exact b8 (cY<|bT (ay (ac (bx rfl rfl rfl)<|ac rfl aq) rfl<|cO fm)<|nZ<|jN<|iR<|jN<|jM rfl<|iR<|ay (ac rfl<|ac (bx rfl rfl rfl) aq) rfl<|l9 fm x h) rfl<|eX<|gU x
theorem Pu (u:dA G) (h:x.room=ao) (U:¬(1<=x.w/\x.w<=aa (av G)+1)):Hd 756 [a0<|av G,x.p] (cQ (av G) x):=by refine mZ (p:=gp (av G)<|l8 x.w) ?_ (eX rfl) (by(refine ag jz ?_;rw[ox h])) (by simp);rw[PP rfl];exact b8 (cY<|bT (ay (ac (bx rfl rfl rfl)<|ac rfl aq) rfl<|cO fm)<|nZ<|jN<|iR<|ay (ac rfl<|ac (ay (ac rfl<|ac (bx rfl rfl rfl) aq) rfl<|gW fm x h) aq) rfl<|E2 u fm _ U) rfl<|eX rfl
theorem TK (u:dA G) (U:1<=x.w/\x.w<=aa (av G)+1):Hd 756 [a0<|av G,x.p] (l8<|rQ G (x.w-1)+1):=by have C:=u.len;refine mY ?_ rfl (by simp);rw[PP rfl];exact aE (aK<|bT (ay (ac (bx rfl rfl rfl)<|ac rfl aq) rfl<|cO fm)<|bG<|ay (ac (ay (ac rfl<|ac (ay (ac rfl<|ac (bx rfl rfl rfl) aq) rfl<|gW fm x<|sS<|by exact⟨dr<|bj [] [x.w] [(1,ia,cz),(1,xi cz,.g ia)] rfl U.1,dr<|bj [aa<|av G] [x.w] [(1,cz,xi aJ),(1,aJ,.n 100),(1,xi<|.n 2000,cz)] rfl U.2<|cl C⟩) aq) rfl<|yX u fm _ U) aq) rfl<|jY fm _) rfl rfl
theorem O3 (u:dA G):Hd 770 [a0<|av G,x.p] (sv<|my G<|x.w-1):=by refine mY ?_ rfl (by simp);rw[acu rfl];exact aE (aK<|bG<|ay (ac (ay (ac (ay (ac (bx rfl rfl rfl)<|ac rfl aq) rfl<|cO fm)<|ac (bn (ay (ac (bx rfl rfl rfl) aq) rfl<|lh fm x) rfl rfl) aq) rfl<|lm G _ u.KN u.z fm) aq) rfl<|qJ fm _) rfl rfl
theorem Mj (u:dA G):Hd 721 [a0<|av G] (l8<|aa G):=by refine mY ?_ rfl (by simp);rw[acw rfl];exact aE (aK<|bG<|ay (ac (ay (ac (ay (ac (bx rfl rfl rfl)<|ac rfl aq) rfl<|cO fm) aq) rfl<|Mi u fm) aq) rfl<|jY fm _) rfl rfl
theorem Ul (u:dA G):Hd 763 [a0<|av G] (l8<|rQ G (aa<|av G)+1):=by refine mY ?_ rfl (by simp);rw[acv rfl];exact aE (aK<|bG<|ay (ac (ay (ac (ay (ac (bx rfl rfl rfl)<|ac rfl aq) rfl<|cO fm) aq) rfl<|Ay u fm) aq) rfl<|jY fm _) rfl rfl
theorem Ow (u:dA G):Hd 777 [a0<|av G] (sv<|CJ G):=by refine mY ?_ rfl (by simp);rw[acs rfl];exact aE (aK<|bG<|ay (ac (ay (ac (ay (ac (bx rfl rfl rfl)<|ac rfl aq) rfl<|cO fm) aq) rfl<|yv u fm) aq) rfl<|qJ fm _) rfl rfl
theorem ES (u:dA G):Hd 808 [a0<|av G] (a0<|av G.reverse):=by refine mY ?_ rfl (by simp);rw[acq rfl];exact aE (aK<|bG<|bw (ac rfl<|ac (ay (ac (ay (ac (bx rfl rfl rfl)<|ac rfl aq) rfl<|cO fm) aq) rfl<|ER u fm) aq)<|by simp) rfl rfl
theorem GT (u:dA G):Hd 923 [a0<|av G] (a0<|Ym G):=by
 have N:=fQ G;have:=u.len;have Y:=yb G;refine mY ?_ rfl (by simp);rw[acm rfl]
 have Q:=Fx (I:=[Ym G]) (λb R=>by
  refine(ae<|aU.mp R)▸?_;simp only[Ym,bL,d7,aI];exact cP<|bj [aa G,aa<|av G,(rl rB G).flatten.length] [] [(4,aJ,bf),(4,bf,.n 100),(1,ct,.m 4 aJ),(1,xi<|.n 900,.a (.a (xi ef) ct)<|xi ef)] rfl (cl N) (cl this)<|cl Y) (by simp) fm
 rw[show[Ym G].flatten=Ym G by simp] at Q;exact aE (aK<|bT (bx rfl rfl rfl)<|kj (a7 (bx rfl rfl rfl) rfl rfl)<|bG<|bw (ac rfl<|ac (ay (ac (iA (ac (ay (ac (bx rfl rfl rfl) aq) rfl<|GS u fm) aq)<|by simp) aq) rfl Q) aq)<|by simp) rfl rfl
end
section
variable {x y:Ix}
theorem Ve (h:y.w<x.w):Hd 789 [a0 o,x.p,y.p] (a0 []):=by refine mY ?_ rfl (by simp);rw[Fd rfl];exact aE (aK<|bT (ay (ac (bx rfl rfl rfl)<|ac rfl aq) rfl<|cO fm)<|kj (a7 (ay (ac (bx rfl rfl rfl) aq) rfl<|lh fm y) (ay (ac (bx rfl rfl rfl) aq) rfl<|lh fm x)<|dP<|decide_eq_true h)<|bG rfl) rfl rfl
theorem s7 (h:x.w<=y.w) (k:fR (oI 47) dF (RN.drop 2) [ab .tZ,ab<|.lst [a0 o,x.p,y.p],ab<|.bytes o,al,al,al,al] []=r):
 fR (oI 47) dF RN ([.tZ,.lst [a0 o,x.p,y.p]].map ab++aW (7-2) al) []=r:=
 bT (ay (ac (bx rfl rfl rfl)<|ac rfl aq) rfl<|cO fm) (eQ (a7 (ay (ac (bx rfl rfl rfl) aq) rfl<|lh fm y) (ay (ac (bx rfl rfl rfl) aq) rfl<|lh fm x)<|dP<|decide_eq_false<|by exactλM=>bj [] [x.w,y.w] [(1,cz,.w 1),(1,xi<|.w 1,cz)] rfl h M) bH k)
theorem M6 (h:x.w<=y.w) (T:x.room=ah):Hd 789 [a0 o,x.p,y.p] (cQ o x):=by refine mZ (p:=gp o x.p) ?_ (eX<|gU x) (by(refine ag jz ?_;rw[qL T])) (by simp);rw[Fd rfl];exact b8 (cY (s7 h<|nZ<|zA<|jM rfl<|iR<|jN<|jM rfl<|iR<|ay (ac rfl<|ac (bx rfl rfl rfl) aq) rfl<|l9 fm x T)) rfl<|eX<|gU x
theorem M5 (h:x.w<=y.w) (T:x.room=ao) (I:y.room=ah):Hd 789 [a0 o,x.p,y.p] (cQ o y):=by refine mZ (p:=gp o y.p) ?_ (eX<|gU y) (by(refine ag jz ?_;rw[qL I])) (by simp);rw[Fd rfl];exact b8 (cY (s7 h<|nZ<|zA<|jM rfl<|iR<|jN<|jM rfl<|jM (ay (ac rfl<|ac (bx rfl rfl rfl) aq) rfl<|gW fm x T)<|iR<|ay (ac rfl<|ac (bx rfl rfl rfl) aq) rfl<|l9 fm y I)) rfl<|eX<|gU y
theorem vk (h:x.w<=y.w) (T:x.room=ao) (I:y.room=ao) (G:b6 509 [.bytes o,.int x.w,.int y.w] []=.exc D []) (F:i8 D=ao) (g:lO D=ab due):Hd 789 [a0 o,x.p,y.p] due:=by refine mZ ?_ F g (by simp);rw[Fd rfl];exact b8 (cY<|s7 h<|nZ<|zA<|jM rfl<|iR<|ay (ac rfl<|ac (ay (ac rfl<|ac (bx rfl rfl rfl) aq) rfl<|gW fm x T)<|ac (ay (ac rfl<|ac (bx rfl rfl rfl) aq) rfl<|gW fm y I) aq) rfl G) rfl F
theorem Vf (h:x.w<=y.w) (T:x.room=ao) (I:y.room=ao) (G:b6 509 [.bytes o,.int x.w,.int y.w] []=.ok (.bytes r) []):Hd 789 [a0 o,x.p,y.p] (a0 r):=by refine mY ?_ rfl (by simp);rw[Fd rfl];exact aE (aK<|s7 h<|bG<|bw (ac rfl<|ac (ay (ac rfl<|ac (ay (ac rfl<|ac (bx rfl rfl rfl) aq) rfl<|gW fm x T)<|ac (ay (ac rfl<|ac (bx rfl rfl rfl) aq) rfl<|gW fm y I) aq) rfl G) aq)<|by simp) rfl rfl
def lD (r:Int):PV:=if 0<r then l8 r else uR
theorem nS (r:Int):i8 (lD r)=true:=by unfold lD;split<;>rfl
theorem wd {j i:Nat} {r:Int} (C:bo (oI j) (.loc i) V []=.ok (.int r) []) (G:((r6.take j).all λf=>decide<|(84:bk)≠f.addr)=ao):
 fR (oI j) dF [.ret<|.fc (.cmp (.loc i) [.Gt] [cI 0]) (.az 84 [.loc i])<|.const<|.tup [.str [110,111,116,104,105,110,103]]] V []=.ok (.ret<|lD r,V) []:=by
 unfold lD;by_cases h:0<r
 ·refine(ae<|if_pos h)▸?_;exact bG<|eY (a7 C rfl<|jg<|decide_eq_true h)<|ay (ac C aq) G<|jY fm r
 ·refine(ae<|if_neg h)▸?_;exact bG<|dZ (a7 C rfl<|jg<|decide_eq_false h) rfl
theorem Ra (h:x.room=ah):Hd 825 [a0 o,a0 p,x.p] (cQ o x):=by refine mZ (p:=gp o x.p) ?_ (eX<|gU x) (by(refine ag jz ?_;rw[qL h])) (by simp);rw[J9 rfl];exact b8 (cY<|bT (ay (ac (bx rfl rfl rfl)<|ac rfl aq) rfl<|cO fm)<|GR<|(eY (a7 rfl rfl rfl)<|ay (ac rfl<|ac (bx rfl rfl rfl) aq) rfl<|l9 fm x h)) rfl<|eX<|gU x
theorem Q8 (d:x.room=ao) (h:b6 543 [.bytes o,.bytes p,.int x.w] []=.exc D []) (F:i8 D=ao) (g:lO D=ab due):Hd 825 [a0 o,a0 p,x.p] due:=by refine mZ ?_ F g (by simp);rw[J9 rfl];exact b8 (cY<|bT (ay (ac (bx rfl rfl rfl)<|ac rfl aq) rfl<|cO fm)<|bT ((eY (a7 rfl rfl rfl)<|ay (ac rfl<|ac (bx rfl rfl rfl) aq) rfl<|gW fm x d))<|GR<|ay (ac rfl<|ac (ay (ac (bx rfl rfl rfl)<|ac rfl aq) rfl<|cO fm)<|ac rfl aq) rfl h) rfl F
theorem Ku {r:Int} (d:x.room=ao) (h:b6 543 [.bytes o,.bytes p,.int x.w] []=.ok (.int r) []):Hd 825 [a0 o,a0 p,x.p] (lD r):=by refine mY ?_ (nS r) (by simp);rw[J9 rfl];exact aE (aK<|bT (ay (ac (bx rfl rfl rfl)<|ac rfl aq) rfl<|cO fm)<|bT ((eY (a7 rfl rfl rfl)<|ay (ac rfl<|ac (bx rfl rfl rfl) aq) rfl<|gW fm x d))<|bT (ay (ac rfl<|ac (ay (ac (bx rfl rfl rfl)<|ac rfl aq) rfl<|cO fm)<|ac rfl aq) rfl h)<|wd rfl rfl) rfl<|nS r
theorem Q9 {r:Int} (h:b6 543 [.bytes o,.bytes p,.int 1] []=.ok (.int r) []):Hd 825 [a0 o,a0 p] (lD r):=by refine mY ?_ (nS r) (by simp);rw[J9 rfl];exact aE (aK<|bT (ay (ac (bx rfl rfl rfl)<|ac rfl aq) rfl<|cO fm)<|bT (dZ (a7 rfl rfl rfl) rfl)<|bT (ay (ac rfl<|ac (ay (ac (bx rfl rfl rfl)<|ac rfl aq) rfl<|cO fm)<|ac rfl aq) rfl h)<|wd rfl rfl) rfl<|nS r
theorem Q7 {r:Int} (h:b6 550 [.bytes o,.bytes p] []=.ok (.int r) []):Hd 832 [a0 o,a0 p] (lD r):=by refine mY ?_ (nS r) (by simp);rw[acp rfl];exact aE (aK<|bT (ay (ac (ay (ac (bx rfl rfl rfl)<|ac rfl aq) rfl<|cO fm)<|ac (ay (ac (bx rfl rfl rfl)<|ac rfl aq) rfl<|cO fm) aq) rfl h)<|wd rfl rfl) rfl<|nS r
theorem LB (h:b6 576 [.bytes o,.bytes p] []=.ok (.bool c) []):Hd 846 [a0 o,a0 p] (sv c):=by refine mY ?_ rfl (by simp);rw[aco rfl];exact aE (aK<|bG<|ay (ac (ay (ac (ay (ac (bx rfl rfl rfl)<|ac rfl aq) rfl<|cO fm)<|ac (ay (ac (bx rfl rfl rfl)<|ac rfl aq) rfl<|cO fm) aq) rfl h) aq) rfl<|qJ fm _) rfl rfl
theorem U5 (h:b6 583 [.bytes o,.bytes p] []=.ok (.bool c) []):Hd 853 [a0 o,a0 p] (sv c):=by refine mY ?_ rfl (by simp);rw[acn rfl];exact aE (aK<|bG<|ay (ac (ay (ac (ay (ac (bx rfl rfl rfl)<|ac rfl aq) rfl<|cO fm)<|ac (ay (ac (bx rfl rfl rfl)<|ac rfl aq) rfl<|cO fm) aq) rfl h) aq) rfl<|qJ fm _) rfl rfl
theorem Bz (k:fR (oI 30) dF (RM.drop 1) [ab .tZ,ab<|.lst [a0 o,a0 p,a0 s],ab<|.bytes o,ab<|.bytes p,ab<|.bytes s,al] []=r):
 fR (oI 30) dF RM ([.tZ,.lst [a0 o,a0 p,a0 s]].map ab++aW (6-2) al) []=r:=
 Em (sb (l:=[o,p,s]) (nb rfl) rfl (by simp) λb _=>⟨_,rfl,ay (ac rfl<|ac rfl aq) rfl<|cO fm⟩) rfl k
theorem YK (h:b6 562 [.bytes o,.bytes p,.bytes s] []=.ok (.bytes r) []):Hd 818 [a0 o,a0 p,a0 s] (a0 r):=by refine mY ?_ rfl (by simp);rw[WA rfl];exact aE (aK<|Bz<|bG<|bw (ac rfl<|ac (ay (ac rfl<|ac rfl<|ac rfl aq) (by kernel_rfl) h) aq)<|by simp) rfl rfl
theorem TB (h:b6 562 [.bytes o,.bytes p,.bytes s] []=.exc D []) (F:i8 D=ao) (g:lO D=ab due):Hd 818 [a0 o,a0 p,a0 s] due:=by refine mZ (p:=D) ?_ F g (by simp);rw[WA rfl];exact b8 (cY<|Bz<|nZ<|zA<|jM rfl<|iR<|ay (ac rfl<|ac rfl<|ac rfl aq) rfl h) rfl F
theorem JW (h:b6 522 [.bytes o,.int x.w] []=.ok (.bytes r) []):Hd 801 [a0 o,x.p] (a0 r):=by refine mY ?_ rfl (by simp);rw[WB rfl];exact aE (aK<|bG<|bw (ac rfl<|ac (ay (ac (ay (ac (bx rfl rfl rfl)<|ac rfl aq) rfl<|cO fm)<|ac (ay (ac (bx rfl rfl rfl) aq) rfl<|lh fm x) aq) rfl h) aq)<|by simp) rfl rfl
theorem EW (h:b6 522 [.bytes o,.int x.w] []=.exc D []) (F:i8 D=ao) (g:lO D=ab due):Hd 801 [a0 o,x.p] due:=by refine mZ ?_ F g (by simp);rw[WB rfl];exact b8 (cY<|nZ<|zA<|jM rfl<|iR<|ay (ac (ay (ac (bx rfl rfl rfl)<|ac rfl aq) rfl<|cO fm)<|ac (ay (ac (bx rfl rfl rfl) aq) rfl<|lh fm x) aq) rfl h) rfl F
noncomputable def T1:List UInt8:=[110,111,32,110,97,109,101,32,111,102,32,97,32,115,121,109,98,111,108]
theorem JM (u:dA G) (h:G=[]\/CJ G=ah):Hd 930 [a0<|av G] (j0 mU):=by
 refine mZ (p:=yy mU T1) ?_ rfl (qp wv) (by simp);rw[Wz rfl];refine b8 (cY<|bT (ay (ac (bx rfl rfl rfl)<|ac rfl aq) rfl<|cO fm)<|tr (c:=ao) ?_ (mr (ac rfl<|ac rfl aq)<|n4 fm rfl)) rfl rfl;rcases h with rfl|h
 ·exact A0<|a7 rfl rfl rfl
 ·cases J:(av G==([]:List UInt8)) with
  |true=>exact A0<|a7 rfl rfl<|by(refine ag jh ?_;rw[J])
  |false=>exact tw (a7 rfl rfl<|by(refine ag jh ?_;rw[J]))<|ja<|gK<|jA<|ay (ac rfl aq) rfl<|ag (yv u fm)<|by rw[h]
theorem Yx (u:dA G) (T:(av G==([]:List UInt8))=ah) (h:CJ G=ao) (g:vn (.bytes<|av G) [.str [117,116,102,45,56]] []=.ok (.str s) []):Hd 930 [a0<|av G] (.tup [cV "sym",.str s]):=by refine mY ?_ rfl (by simp);rw[Wz rfl];exact aE (aK<|bT (ay (ac (bx rfl rfl rfl)<|ac rfl aq) rfl<|cO fm)<|eQ (tw (a7 rfl rfl<|by(refine ag jh ?_;rw[T]))<|ja<|gK (c:=ao)<|jA<|ay (ac rfl aq) rfl<|ag (yv u fm)<|by rw[h]) bH<|bG<|bw (ac rfl<|ac (iQ rfl rfl (ac rfl aq) g) aq)<|by simp) rfl rfl
end
theorem bV (h:nU (oQ j) D V H=.ok l Z) (G:((rr.take j).all λf=>decide<|a≠f.addr)=ao) (k:iN a l Z=r):bo (oQ j) (.az a D) V H=r:=gk h<|c2 G k
theorem Rn (h:jW B (.cmp l z R) V (bo B (.cmp l z R) V) H=.ok c H₁):bo B (.cmp l z R) V H=.ok (.bool c) H₁:=by
 have e:jW B (.cmp l z R) V (bo B (.cmp l z R) V) H=aw (bo B l V) (λa=>pf B a z R V) H:=rfl;have Z:bo B (.cmp l z R) V H=aw (bo B l V) (λa=>aw (pf B a z R V) λb=>ax<|.bool b) H:=rfl;rw[e,fU] at h
 (refine ag Z<|ag (fU ..) ?_)
 cases q:bo B l V H with
 |ok a i=>rw[q] at h;exact fg h rfl
 |exc p i=>rw[q] at h;cases h
 |stuck=>rw[q] at h;cases h
theorem DC (l) (a:Int):(dC l).all (λq=>(mK 8 q<|.int a).isSome)=true:=cm.mpr λq L=>by refine aH (b2.mp L) λn _ S=>?_;subst S;rfl
theorem td (l) (a:Int):WY ah (.int a) (.lst<|dC l) H=.ok (l.any λn=>decide<|(n:Int)=a) H:=by
 have e:WY ah (.int a) (.lst<|dC l) H=(if(dC l).all (λq=>(mK 8 q<|.int a).isSome) then ax ((dC l).any (λq=>mK 8 q (.int a)==ab ao)!=ah) else aP) H:=rfl
 (refine ag e<|(ae<|if_pos<|DC l a)▸?_)
 show dt _ H=_;unfold dC;refine(ae rH)▸?_;simp only[pt];congr 2;funext n;show(ab ((n:Int)==a)==ab ao)=_;rw[iE];simp
theorem Be (l) (a:Int):WY ao (.int a) (.lst<|dC l) H=.ok (!(l.any λn=>decide<|(n:Int)=a)) H:=by
 have e:WY ao (.int a) (.lst<|dC l) H=(if(dC l).all (λq=>(mK 8 q<|.int a).isSome) then ax ((dC l).any (λq=>mK 8 q (.int a)==ab ao)!=ao) else aP) H:=rfl;have i:=td (H:=H) l a;have C:WY ah (.int a) (.lst<|dC l) H=(if(dC l).all (λq=>(mK 8 q<|.int a).isSome) then ax ((dC l).any (λq=>mK 8 q (.int a)==ab ao)!=ah) else aP) H:=rfl;rw[C,if_pos<|DC l a] at i
 (refine ag e<|(ae<|if_pos<|DC l a)▸?_)
 injection i with i
 rw[pt] at i
 (refine(ae i)▸(ae (vC ..))▸?_);rfl
theorem Ki:∀l:List Nat,(∀n∈l,n<=1000)->NL (l.map λn:Nat=>mE n)=ao/\Sq (l.map λn:Nat=>mE n)=0/\xm (l.map λn:Nat=>mE n)<=20*aa l
 |[],_=>⟨rfl,rfl,by simp[xm]⟩
 |n::l,h=>by
  refine iZ (Ki l λm t=>h m<|by simp[t]) λJ W E=>?_;have B:=h n<|by simp
  refine⟨by simp only[bu,NL,Ag,J,aaS],by simp only[bu,Sq,Ed,W,Nat.max_self],?_⟩;simp only[bu,xm,BW,bL]
  have:(if((n:Int)==0)=ao then 0 else(n:Int).natAbs.log2+1)<=11:=by
   split
   ·with_reducible exact cg _ _
   ·rename_i L;have a:n≠0:=by simpa using L
    have:=(Nat.log2_lt a).mpr<|show n<2^10 by exact bX (by with_reducible assumption)<|by decide
    exact(ae (Int.natAbs_natCast ..))▸Jt (by with_reducible assumption) (by decide)
  exact(gh ..).symm▸Nat.add_le_add E (aM (z4 this)<|by decide)
theorem QB {a:Nat} (I:a∈l) (C:∀n∈l,n<=1000) (N:aa l<=1000):C3 (.lst<|dC l) [.int a] H=.ok (.int<|l.idxOf a) H:=by
 have e:C3 (.lst<|dC l) [.int a] H=bJ (w3<|dC l) (λj=>if(a:Int)∈j/\nw (.list<|j.map .int)=ao then ax (dq (j.idxOf (a:Int):Nat)) else aP) H:=rfl;refine ag e ?_;unfold dC;refine(ae (v8 (λn:Nat=>(n:Int)) ..))▸?_;show(if(a:Int)∈l.map (λn:Nat=>(n:Int))/\nw (.list<|(l.map λn:Nat=>(n:Int)).map .int)=ao then ax (dq ((l.map λn:Nat=>(n:Int)).idxOf (a:Int):Nat)) else aP) H=_;refine iZ (Ki l C) λJ W E=>?_
 have b:nw (.list<|(l.map λn:Nat=>(n:Int)).map .int)=true:=by
  have t:(l.map λn:Nat=>(n:Int)).map mE=l.map λn:Nat=>mE n:=by refine ag gO ?_;rfl
  refine(ae t)▸?_;have i:Ag (.list (l.map λn:Nat=>mE n))=true:=by simp only[Ag];exact J
  have Z:Ed (.list (l.map λn:Nat=>mE n))<=64:=by simp only[Ed,W];with_reducible exact cg _ _
  have Y:BW (.list (l.map λn:Nat=>mE n))<=2^20:=by simp only[BW];exact aM E<|aM (Oe 20 N)<|by decide
  unfold nw
  (refine(ae i)▸(ae<|decide_eq_true Z)▸ag (decide_eq_true Y) ?_);rfl
 have D:(l.map λn:Nat=>(n:Int)).idxOf (a:Int)=l.idxOf a:=by
  clear e J W E C N I b
  induction l with
  |nil=>rfl
  |cons m l o=>
   (refine(ae bu)▸ag V8 ?_;rewrite[V8];refine(ae o)▸?_)
   by_cases q:m=a
   ·subst q;simp
   ·(refine(ae<|show((m:Int)==(a:Int))=ah by simpa usingλh=>q<|Int.ofNat.inj h)▸?_;rw[show(m==a)=ah by simpa using q])
 rw[if_pos ⟨b2.mpr ⟨a,I,rfl⟩,b⟩,D];rfl
theorem MT {n:Nat} (h:n<=1000):vc n=true:=by unfold vc;rw[decide_eq_true (fP (by decide)<|bB n),decide_eq_true<|eF (dI.mpr h)<|by decide];rfl
theorem zq {n:Nat} (h:l[n]?=ab q) (N:aa l<=1000):kM l n=ab q:=by
 have B:=(aA.mp h).1;have Y:vc n=true:=MT<|by exact cP<|bj [aa l,n] [] [(1,aJ,.n 1000),(1,xi bf,aJ),(1,xi<|.n 1000,bf)] rfl (cl N)<|cl B
 have D:zj n (aa l)=ab n:=by
  unfold zj
  (refine ag (if_neg<|by exactλM=>bj [n] [] [(1,xi aJ,ef)] rfl M)<|ag (if_pos<|by exact cJ.mpr<|by with_reducible assumption) ?_;rw[ek])
 unfold kM;rw[if_pos Y,D];exact h
theorem Iv (h:l.getLast?=ab q):kM l (-1)=ab q:=by
 have X:0<aa l:=by
  induction l with
  |nil=>exact aC h
  |cons _ _=>simp
 have D:zj (-1) (aa l)=ab (aa l-1):=by
  unfold zj
  (refine ag (if_pos<|by exact dr<|bj [] [] [(1,xi ef,xi<|.g ia)] rfl)<|ag (if_pos<|by exact dr<|bj [aa l] [] [(1,xi ef,aJ),(1,xi<|.g ia,.g aJ)] rfl<|cl X) ?_)
  congr 1;exact(congrArg Int.toNat<|xO (-1) _).trans<|abj l.length 1
 unfold kM
 (refine ag (if_pos<|by decide)<|(ae D)▸?_)
 rw[DX] at h;exact h
theorem Hb {k:Int} (e:kM l k=ab q):uH (.lst l) (.int k) H=.ok q H:=by show bJ (kM l k) (λq=>ax q) H=_;refine(ae e)▸?_;rfl
theorem Yz {j:Nat} {k:Int} (h:H[j]?=ab l) (e:kM l k=ab q):uH (.dR j) (.int k) H=.ok q H:=by show bJ (H[j]?) (λl=>bJ (kM l k) λq=>ax q) H=_;refine(ae h)▸?_;exact Hb e
theorem yA {n:Nat} (h:l[n]?=ab q) (N:aa l<=1000):uH (.lst l) (.int n) H=.ok q H:=Hb<|zq h N
theorem OS {j:Nat} {n:Nat} (e:H[j]?=ab l) (h:l[n]?=ab q) (N:aa l<=1000):uH (.dR j) (.int n) H=.ok q H:=Yz e<|zq h N
theorem sub_neg (h:l.getLast?=ab q):uH (.lst l) (.int (-1)) H=.ok q H:=Hb<|Iv h
theorem LV (l:List u) (n:Nat) (h:n<=aa l):qY l al (ab (n:Int)) al=l.take n:=by
 unfold qY;refine(ae (sliceBounds_plain ..))▸?_;simp only[Option.elim,si,eJ h]
 have e:z0 (((0:Nat):Int)) (n:Int) 1=dg n:=by
  unfold z0;dsimp only;rw[if_pos<|by decide]
  have:(if((0:Nat):Int)<n then((n:Int)-(0:Nat)+1-1) / 1 else 0).toNat=n:=by
   induction n with
   |zero=>rfl
   |succ n=>
    refine(ae<|if_pos<|cJ.mpr<|mn n)▸?_;show((((n+1:Nat):Int)-0+1-1) / 1).toNat=_
    (refine(ae (afV ..))▸(ae (co ..))▸(ae (Jy ..))▸?_);rfl
  refine(ae this)▸?_
  conv=>rhs;rw[<-List.map_id (dg n)]
  refine oH λk _=>?_;simp
 rw[e];exact A7 l n
theorem Hn {n:Nat} (h:n<=aa l) (N:aa l<=1000):l4 ah (.lst l) .none (.int n) .none H=.ok (.lst<|l.take n) H:=by have e:l4 ah (.lst l) .none (.int n) .none H=(if l.length<=16777216/\(al:Option Int)≠ab 0 then ly ah (qY l al (ab (n:Int)) al) else aP) H:=rfl;rw[e,if_pos ⟨kz ‹_› (by rfl),by simp⟩,LV _ _ h];rfl
def aeK:List CS:=[.ret<|.xF [.bytes [97],.bytes [195,169],.bytes [226,130,172]] [.int 97,.int 233,.int 8364] cy<|cI 65533]
theorem acg:OQ 1024 ah 4 1 1 aeK:=lQ 168 [] [] rfl
theorem yU (A:cZ H=ao) (t:Tk):iN 1024 [.bytes t.b] H=.ok (.int t.shown) H:=by rw[acg rfl];cases t<;>exact aE (aK<|bG rfl) A rfl
theorem o7 (A:cZ H=ao) (n:Int):iN 1031 [.int n] H=.ok (l8 n) H:=by rw[acf rfl];exact aE (aK<|bG<|bw (ac rfl<|ac rfl<|ac rfl aq)<|by simp) A rfl
theorem eA (A:cZ H=ao) (x:Ix):iN 1045 [x.p] H=.ok (.int x.w) H:=by
 rw[acd rfl]
 induction x with
 |bl b=>cases b<;>exact aE (aK<|bG<|eY (a7 (bx rfl rfl rfl) rfl rfl)<|dJ (ac (bx rfl rfl rfl) aq) rfl) A rfl
 |nm g n=>cases g<;>exact aE (aK<|bG<|dZ (a7 (bx rfl rfl rfl) rfl rfl)<|bx rfl rfl rfl) A rfl
theorem abD {a b c:Int} {x:Bool} (h:bo B l V H=.ok (.int a) H) (J:bo B r V H=.ok (.int b) H) (W:bo B s V H=.ok (.int c) H) (e:decide (a<=b/\b<c)=x):bo B (.cmp l [.LtE,.Lt] [r,s]) V H=.ok (.bool x) H:=Rn<|Cc h J W e
theorem uM (A:cZ H=ao) (x:Ix):iN 1052 [x.p] H=.ok (.bool x.room) H:=by rw[ab9 rfl];exact aE (aK<|bG<|abD P5 (bV (ac rfl aq) rfl<|eA A x) OD rfl) A rfl
theorem uU:i8 (cQ o x)=true:=by unfold cQ;cases x.room<;>simp[lu,lw,iV,lx,fi,f9,a0,cV,gU,l8]
theorem xR (h:bo B (.az a D) V H=.ok (.bool c) H):jW B (.az a D) V (bo B (.az a D) V) H=.ok c H:=fg h rfl
theorem xU (A:cZ H=ao) (x:Ix):iN 1059 [.bytes o,x.p] H=.ok (cQ o x) H:=by
 rw[ab8 rfl];refine aE (aK<|bG<|bw (ac rfl<|ac (bw (ac (bw (ac rfl<|ac rfl aq)<|by simp)<|ac ?_ aq)<|by simp) aq)<|by simp) A uU;have z:=λ{V:bN} (C:bo (oQ 9) ck V H=.ok x.p H)=>xR<|bV (ac C aq) rfl<|uM A x
 cases d:x.room with
 |true=>exact eY (ag (z rfl)<|by rw[d])<|bV (ac (bV (ac rfl aq) rfl<|eA A x) aq) rfl<|o7 A _
 |false=>exact dZ (ag (z rfl)<|by rw[d]) rfl
def dB (G:List Tk):List PV:=G.map λt=>.bytes t.b
def pT:CE:=.cmp dE [.Lt] [.bv eN [cy]]
def pB:List CS:=[.assign 3<|.fc (.cmp (.sub cy dE) [.Eq] [cI 226]) (cI 3)<|.fc (.cmp (.slice ah cy dE (.bin ah .Add dE<|cI 2)<|.const<|.none) [.Eq] [cB [195,169]]) (cI 2)<|cI 1,.expr<|.gb iS ck [.slice ah cy dE (.bin ah .Add dE i6)<|.const<|.none],.assign 2<|.bin ah .Add dE i6]
theorem aiu (P:zY (p++t::q)) (V:t≠.u):(((av<|p++t::q).drop<|aa<|av p).take 2==([195,169]:List UInt8))=decide (aa t.b=2):=by
 refine(ae (Fc ..))▸?_;have P:=zY.drop P
 induction t with
 |u=>exact absurd rfl V
 |e=>rfl
 |a=>cases q with
  |nil=>rfl
  |cons s q=>cases s<;>rfl
 |n=>cases q with
  |nil=>rfl
  |cons s q=>cases s<;>rfl
 |c=>cases q with
  |nil=>rfl
  |cons s q=>cases s<;>first|exact P.elim|rfl
theorem abP (Z:dA G) (A:cZ H=ao):∀q p,G=p++q->∀(f:Nat) (y),aa q<f->
 ∃i,g8 (λd=>jW (oQ 15) pT d<|bo (oQ 15) pT d) (λd=>fR (oQ 15) dF pB d) f [ab<|.bytes<|av G,ab<|.dR<|aa H,ab<|.int<|aa<|av p,y,al] (H++[dB p])=.ok (.next,[ab<|.bytes<|av G,ab<|.dR<|aa H,ab<|.int<|aa<|av G,i,al]) (H++[dB G]):=by
 intro q
 induction q with
 |nil=>
  intro p e f y Y;cases f with|zero=>exact absurd Y (iK _)|succ f=>?_
  rw[fh] at e;subst e;exact⟨y,lj<|a7 rfl (dy rfl Z.z)<|dP<|decide_eq_false<|by exactλM=>bj [aa<|av G] [] [(1,xi aJ,aJ)] rfl M⟩
 |cons t q o=>
  intro p e f y Y;cases f with|zero=>exact absurd Y (iK _)|succ f=>?_
  have C:aa (av p)<aa (av G):=by(refine(ae e)▸(ae sW)▸?_);have:=n0 t;exact cP<|bj [aa t.b,aa<|av p,aa<|av q] [] [(1,ia,aJ),(1,xi<|.a (.a bf aJ) ct,xi bf)] rfl<|cl this
  have T:(av G)[aa<|av p]?=t.b[0]?:=by exact(ae e)▸pF 0 (n0 t)
  refine bd (o (p++[t]) (by refine ag e ?_;simp) f (ab<|.int<|aa t.b)<|sF Y) λi h=>?_;have k:((av G).drop<|aa<|av p).take (aa t.b)=t.b:=by exact(ae e)▸Te p q t
  refine⟨i,qt (g:=H++[dB p++[.bytes t.b]]) (a7 rfl (dy rfl Z.z)<|dP<|decide_eq_true<|by exact cJ.mpr<|by assumption) (bT (p:=.int t.b.length) ?_ (hX (jO rfl (il rfl rfl (bn rfl rfl rfl) rfl<|ag (n8 Z.z)<|by(refine(ae (gz ..))▸?_;rw[k])) (by
   have:=fQ p;have:=Z.len
   simp only[dB,aB];exact cP<|bj [aa<|av p,aa<|av G,aa p] [] [(1,xi aJ,bf),(1,ct,aJ),(1,bf,.n 100),(1,xi<|.n 16777216,ct)] rfl (cl C) (cl<|by assumption)<|cl this))<|bT (bn rfl rfl rfl) bH)) ?_⟩
  ·have X:∀{c:UInt8},t.b[0]?=ab c->bo (oQ 15) (.sub cy dE) [ab<|.bytes<|av G,ab<|.dR<|aa H,ab<|.int<|aa<|av p,y,al] (H++[dB p])=.ok (.int c.toNat) (H++[dB p]):=λP=>bx rfl rfl (rM (ag T P) Z.z)
   have U:t≠.u->bo (oQ 15) (.fc (.cmp (.slice ah cy dE (.bin ah .Add dE<|cI 2)<|.const<|.none) [.Eq] [cB [195,169]]) (cI 2)<|cI 1) [ab<|.bytes<|av G,ab<|.dR<|aa H,ab<|.int<|aa<|av p,y,al] (H++[dB p])=.ok (.int<|aa t.b) (H++[dB p]):=λV=>by
    have j:(((av G).drop<|aa<|av p).take 2==([195,169]:List UInt8))=decide (aa t.b=2):=by
     have:=Z.KN;rw[e] at this|-
     exact aiu this V
    have v:bo (oQ 15) (.slice ah cy dE (.bin ah .Add dE<|cI 2)<|.const<|.none) [ab<|.bytes<|av G,ab<|.dR<|aa H,ab<|.int<|aa<|av p,y,al] (H++[dB p])=.ok (.bytes<|((av G).drop<|aa<|av p).take 2) (H++[dB p]):=
     il rfl rfl (bn rfl rfl rfl) rfl (ag (n8 Z.z)<|by rw[gz])
    induction t with
    |u=>exact absurd rfl V
    |e=>exact eY (a7 v rfl<|by(refine ag jh<|(ae j)▸?_);rfl) rfl
    |a=>exact dZ (a7 v rfl<|by(refine ag jh<|(ae j)▸?_);rfl) rfl
    |c=>exact dZ (a7 v rfl<|by(refine ag jh<|(ae j)▸?_);rfl) rfl
    |n=>exact dZ (a7 v rfl<|by(refine ag jh<|(ae j)▸?_);rfl) rfl
   induction t with
   |u=>exact eY (a7 (X rfl) rfl<|fq rfl) rfl
   |a=>exact dZ (a7 (X rfl) rfl<|fq rfl)<|U nofun
   |e=>exact dZ (a7 (X rfl) rfl<|fq rfl)<|U nofun
   |c=>exact dZ (a7 (X rfl) rfl<|fq rfl)<|U nofun
   |n=>exact dZ (a7 (X rfl) rfl<|fq rfl)<|U nofun
  ·rw[pa] at h;simpa[dB,av] using h
theorem Fe (G):gS (dB G)=true:=mP (λ_=>rfl) G
theorem tV (u:dA G) (A:cZ H=ao):iN 1012 [.bytes<|av G] H=.ok (.lst<|dB G) H:=by
 have C:=fQ G;have:=u.len;refine bd (abP u A G [] rfl 200 al<|by exact bX (aM (by assumption)<|by assumption)<|by decide) λy h=>?_;rw[aci rfl]
 have:=Ge (m:=kJ (oQ 15) dF 5 Xl [.bytes<|av G]) (l:=dB G)
  (aK<|iT (ac xb<|ac rfl aq) ⟨rfl,by simp⟩<|nH h<|bG rfl)
  (by exact(ae<|k5 rfl)▸A) (bS _) (by simp) (Fe _)
 rwa [k5 rfl] at this
theorem Fb:∀G k i,i<aa G->(dj k G)[i]?=ab (k+aa (av<|G.take i))
 |t::r,k,0,_=>rfl
 |t::r,k,i+1,h=>by
  show(dj (k+aa t.b) r)[i]?=_
  (refine ag (Fb r _ i (by simpa using h))<|(ae NP)▸(ae<|show av (t::r.take i)=t.b++av (r.take i) from rfl)▸(ae aI)▸?_;rw[d8])
theorem Bj:∀G,lA (G.map SG)=aa (av G)
 |[]=>rfl
 |t::r=>by
  have e:lA ((t::r).map SG)=aa t.b+lA (r.map SG):=by simp[lA]
  (refine ag e<|(ae<|Bj r)▸(ae<|show av (t::r)=t.b++av r from rfl)▸(ae aI)▸?_);exact cD (dr<|bj [aa t.b,aa<|av r] [] [(1,xi<|.a aJ bf,.a aJ bf)] rfl)<|dr<|bj [aa t.b,aa<|av r] [] [(1,xi<|.a aJ bf,.a aJ bf)] rfl
theorem BN (G):dC (dj 1 G)=(dg<|aa G).map λi=>.int (1+lA ((G.take i).map SG)):=by
 refine Sx λi=>?_;by_cases h:i<aa G
 ·simp only[dC,bY,List.getElem?_range h,Fb G 1 i h,Bj,ym];exact congrArg (λx:Int=>ab<|dq x)<|cD (dr<|bj [aa<|av<|ajm i G] [] [(1,xi<|.a ia aJ,.a ia aJ)] rfl)<|dr<|bj [aa<|av<|ajm i G] [] [(1,xi<|.a ia aJ,.a ia aJ)] rfl
 ·(refine ag (Jv<|by simp[dC,eK];exact cP<|bj [aa G,i] [] [(1,aJ,bf),(1,xi bf,aJ)] rfl<|cl<|cW.mp h) ?_;rw[Jv<|by simp;exact cP<|bj [aa G,i] [] [(1,aJ,bf),(1,xi bf,aJ)] rfl<|cl<|cW.mp h])
theorem yS (n:Nat):el 0 n=(dg n).map λi:Nat=>.int i:=by
 unfold el
 (refine(ae (Jy ..))▸(ae (ek ..))▸?_)
 refine oH λi _=>?_;rw[sH]
theorem l5 (u:dA G) (A:cZ H=ao):iN 1017 [.bytes<|av G] H=.ok (.lst<|dC<|dj 1 G) H:=by
 have C:=fQ G;have:=u.len;have N:aa (dB G)<=1000:=by simp[dB];exact vD ‹_› ‹_› (by rfl)
 have J:eN [.lst<|dB G] H=.ok (.int G.length) H:=ag (Bi N)<|by simp[dB]
 (rewrite[ach rfl];refine(ae (BN ..))▸?_)
 refine aE (aK<|bT (bV (ac rfl aq) rfl<|tV u A)<|bG<|sb (pZ (dJ (ac rfl aq) J) (by exact⟨dr<|bj [aa G] [] [(1,xi aJ,.g<|.n 2000)] rfl,dr<|bj [aa G,aa<|av G] [] [(1,aJ,bf),(1,bf,.n 100),(1,xi<|.n 2000,aJ)] rfl (cl C)<|cl this⟩)<|yS _) rfl (by simp;exact vD ‹_› ‹_› (by rfl)) λi D=>?_) A<|by exact((BN ..))▸uT _
 have D:=pr.mp D;have f:i<=aa (dB G):=by simp[dB];exact eS<|by assumption
 have z:(dB G).take i=(G.take i).map λt=>.bytes t.b:=by simp[dB,aaG]
 have Z:=ON (H:=H) (I:=(G.take i).map SG) (λb R=>by
  refine aH (b2.mp R) λt _ S=>?_;subst S
  have:=yx t;exact kz ‹_› (by rfl))<|by simp;exact cP<|bj [aa G,aa<|av G,i,min i<|aa G] [] [(1,aJ,bf),(1,bf,.n 100),(1,xi ct,aJ),(1,ig,ct),(1,xi<|.n 200,ig)] rfl (cl C) (cl this) (cl D)<|cl<|an<|eJ<|cP<|bj [i,aa G] [] [(1,xi aJ,bf),(1,xi bf,aJ)] rfl<|cl D
 rw[gO] at Z;refine⟨_,rfl,bn rfl (dJ (ac (sb (Il (il rfl rfl rfl rfl<|ag (Hn f N)<|by rw[z]) rfl) rfl (by simp;exact cP<|bj [aa G,aa<|av G,i,min i<|aa G] [] [(1,aJ,bf),(1,bf,.n 100),(1,xi ct,aJ),(1,ig,ct),(1,xi<|.n 1000,ig)] rfl (cl C) (cl this) (cl D)<|cl<|an<|eJ<|cP<|bj [i,aa G] [] [(1,xi aJ,bf),(1,xi bf,aJ)] rfl<|cl D) λt _=>⟨_,rfl,dy rfl (by have:=yx t;exact kz ‹_› (by rfl))⟩) aq) Z) rfl⟩
section
variable {H:Hp} {ts:List Tk} {p:List UInt8}
theorem BP {l r:List PV} (z:aa l+aa r<=1000):CG ah .Add (.lst l) (.lst r) H=.ok (.lst<|l++r) H:=by
 unfold CG;rw[if_neg (by decide),if_pos ⟨rfl,rfl⟩];refine kW rfl<|kW rfl ?_
 rw[if_pos<|kz ‹_› (by rfl)];rfl
theorem HR (l:List PV):lF .NotEq (.lst l) (.lst []) H=.ok (!l.isEmpty) H:=by
 show aw (zx (.lst l)<|.lst []) (λx=>ax<|!x) H=_
 induction l with
 |nil=>refine fg ?_ rfl;unfold zx;simp[nu]
 |cons x l=>refine fg ?_ rfl;unfold zx;simp[nu]
def sU (ts:List Tk) (p:List UInt8):List Nat:=if p=[] then dj 1 ts++[aa (av ts)+1] else(eU ts p).map (· +1)
theorem HM {o:List UInt8} {n:Nat} (h:n<=aa o):uQ o p n=((o.drop n).take (aa p)==p):=by
 unfold uQ
 cases q:((o.drop n).take (aa p)==p) with
 |false=>rw[hV]
 |true=>
  have:=congrArg aa<|eq_of_beq q
  rw[rm,hJ] at this;rw[decide_eq_true<|by exact cP<|bj [aa p,min (aa p)<|aa o-n,aa o-n,n,aa o] [] [(1,aJ,bf),(1,.a ct ig,.v 4),(1,bf,ct),(1,xi<|.v 4,.a ig aJ)] rfl (cl<|an<|ae this) (cl<|an<|bP<|cP<|bj [n,aa o] [] [(1,aJ,bf),(1,xi bf,aJ)] rfl<|cl h)<|cl<|V6 _ _];rfl
theorem wg (n:Nat):((dj 1 ts++[aa (av ts)+1]).any λm=>decide<|(m:Int)=(n:Int)+1)=(decide (n=aa (av ts))||my ts n):=by
 (refine ag Wa<|(ae (l7 ..))▸(ae rH)▸?_)
 have Z:((dj 0 ts).any<|(λm:Nat=>decide<|(m:Int)=(n:Int)+1)∘λm=>m+1)=my ts n:=by unfold my;congr 1;funext m;show decide (((m+1:Nat):Int)=(n:Int)+1)=decide ((m:Int)=n);exact decide_eq_decide.mpr<|(lf (m:=m+1) (n:=n+1)).trans<|Jr.trans lf.symm
 (refine(ae Z)▸ag (Bool.or_comm ..) ?_)
 congr 1;simp only[vA,abf,aaQ];exact decide_eq_decide.mpr<|(lf (m:=_+1) (n:=n+1)).trans<|Jr.trans eq_comm
theorem LU {n:Nat} (B:n∈dj 0 ts):dO ts p n=(((av ts).drop n).take (aa p)==p&&((dj 1 ts++[aa (av ts)+1]).any λm=>decide<|(m:Int)=((n+(aa p):Nat):Int)+1)):=by have F:=kv ts 0 n B;unfold dO;rw[HM (by exact cP<|bj [n,aa<|av ts] [] [(1,xi aJ,.a ef bf),(1,xi bf,aJ)] rfl<|cl F.2),wg,s0.mpr ⟨n,B,rfl⟩,nt]
theorem xY (a b:List Nat):dC a++dC b=dC (a++b):=by simp[dC]
theorem afh {B:nW} {V:bN} {x y:CE} {c d:Bool} (h:jW B x V (bo B x V) H=.ok c H) (k:c=ao->jW B y V (bo B y V) H=.ok d H):jW B (.bool ao [x,y]) V (bo B (.bool ao [x,y]) V) H=.ok (c&&d) H:=by
 induction c with
 |false=>exact l0 h
 |true=>exact j6 h<|ja<|k rfl
theorem yT (Z:dA ts) (N:aa p<=1000) (A:cZ H=ao):iN 1076 [.bytes<|av ts,.bytes p] H=.ok (.lst<|dC<|sU ts p) H:=by
 have C:=fQ ts;have:=Z.len;have R:aa (dC<|dj 1 ts)<=100:=by simp[dC,eK];exact vD ‹_› ‹_› (by rfl)
 have J:dC (dj 1 ts)++[.int<|(av ts).length+1]=dC (dj 1 ts++[(av ts).length+1]):=xY _ [aa (av ts)+1];rw[ab5 rfl];refine aE (pQ ?_) A<|uT _
 unfold sU;by_cases F:p=[]
 ·refine(ae<|if_pos F)▸?_;subst F;exact⟨_,bT (bV (ac rfl aq) rfl<|l5 Z A)<|bT (bn rfl (iA (ac (bn (dy rfl Z.z) rfl rfl) aq)<|by simp)<|ag (BP<|by simp;exact kz ‹_› (by rfl))<|by rw[J])<|kj (a7 rfl rfl rfl)<|bG rfl⟩
 ·refine(ae<|if_neg F)▸?_;have X:(p==([]:List UInt8))=false:=by simpa using F
  have m:dC (dj 1 ts)=(dj 0 ts).map λn:Nat=>.int (n+1):=by refine(ae (l7 ..))▸?_;simp[dC]
  have i:dC ((eU ts p).map (· +1))=((dj 0 ts).filter<|dO ts p).map λn:Nat=>.int (n+1):=by simp[dC,eU]
  refine(ae i)▸?_;refine⟨_,bT (bV (ac rfl aq) rfl<|l5 Z A)<|bT (bn rfl (iA (ac (bn (dy rfl Z.z) rfl rfl) aq)<|by simp)<|ag (BP<|by simp;exact kz ‹_› (by rfl))<|by rw[J])<|eQ (a7 rfl rfl<|by(refine ag jh ?_;rw[X])) bH<|bG<|sd (nb rfl) m (by exact(ae (eK ..))▸(vD ‹_› ‹_› (by rfl))) λn B=>⟨_,rfl,?_,λ_=>rfl⟩⟩;refine(ae<|LU B)▸?_;have m1:∀{H:Hp},CG ah .Sub (.int<|(n:Int)+1) (.int 1) H=.ok (.int n) H:=λ{H}=>congrArg (λx=>dt (dq x) H) m8;refine afh (a7 (il (l:=.int n) (u:=.int (n+p.length:Nat)) rfl (bn rfl rfl m1) (bn (bn rfl rfl m1) (dy rfl N) rfl) rfl<|(n8 Z.z).trans<|by rw[gz]) rfl jh) λ_=>a7 (bn rfl (dy rfl N) rfl) rfl<|(ae<|show(n:Int)+1+p.length=((n+p.length:Nat):Int)+1 by exact cD (dr<|bj [n,p.length] [] [(1,xi<|xi<|.a aJ bf,.a (xi aJ) bf)] rfl)<|dr<|bj [n,p.length] [] [(1,xi<|.a (xi aJ) bf,xi<|.a aJ bf)] rfl)▸?_
  exact td _ _
def cuB:List CS:=[.fc (.cmp kX [.GtE] [i6]) [.expr<|.gb iS dE [.slice ah cy (.bin ah .Sub i6<|cI 1) (.bin ah .Sub kX<|cI 1)<|.const<|.none],.assign 3<|.bin ah .Add kX<|.bv eN [ck]] []]
theorem aet {o:List UInt8} (L:aa o<=1000) (N:aa p<=1000):∀(l:List Nat) (S:List (List UInt8)) (b:Nat) (y:Option PV),aa S+aa l<=1000->∃f U i,S++qG o (aa p) l b=f++[o.drop U]/\aa f<=1000/\
 ik (λd p=>f0 d [4] ao p) (λd=>fR (oQ 8) dF cuB d) (l.map λn:Nat=>.int<|n+1) [ab<|.bytes o,ab<|.bytes p,ab<|.dR<|aa H,ab<|.int<|b+1,y,al,al,al] (H++[S.map .bytes])=
  .ok (.next,[ab<|.bytes o,ab<|.bytes p,ab<|.dR<|aa H,ab<|.int<|U+1,i,al,al,al]) (H++[f.map .bytes]):=by
 intro l
 induction l with
 |nil=>exactλS b y I=>⟨S,b,y,rfl,I,rfl⟩
 |cons n l Y=>
  intro S b y I;have m1:∀{n:Nat} {H:Hp},CG ah .Sub (.int<|(n:Int)+1) (.int 1) H=.ok (.int n) H:=λ{n H}=>congrArg (λx=>dt (dq x) H) m8;unfold qG;by_cases h:b<=n
  ·refine(ae<|if_pos h)▸?_;refine wi (Y (S++[(o.drop b).take<|n-b]) (n+aa p) (ab<|.int<|n+1)<|by simp at I|-;exact cP<|bj [aa S,aa l] [] [(1,.a aJ<|xi bf,.n 1000),(1,xi<|.n 1000,.a (xi aJ) bf)] rfl<|cl I) λf U i e z r=>?_;refine⟨f,U,i,by refine(e)▸?_;simp,z,iw (Z:=H++[S.map .bytes++[.bytes<|(o.drop b).take<|n-b]]) rfl (eQ (a7 rfl rfl<|jv<|decide_eq_true<|by exact dr<|bj [b,n] [] [(1,aJ,bf),(1,xi<|xi bf,xi aJ)] rfl<|cl h) (hX (jO rfl (il rfl (bn rfl rfl m1) (bn rfl rfl m1) rfl<|n8 L)<|by simp at I|-;exact aM (aM (cn _ _)<|by assumption)<|by decide)<|bT (p:=.int<|(n+p.length:Nat)+1) (bn rfl (dy rfl N) ?_) bH) bH) ?_⟩
   ·exact congrArg (λx=>dt (dq x) _)<|show(n:Int)+1+p.length=((n+p.length:Nat):Int)+1 by exact cD (dr<|bj [n,p.length] [] [(1,xi<|xi<|.a aJ bf,.a (xi aJ) bf)] rfl)<|dr<|bj [n,p.length] [] [(1,xi<|.a (xi aJ) bf,xi<|.a aJ bf)] rfl
   ·simp only[b3] at r;exact r
  ·refine(ae<|if_neg h)▸?_;refine wi (Y S b (ab<|.int<|n+1)<|by simp at I|-;exact cP<|bj [S.length,l.length] [] [(1,.a aJ<|xi bf,.n 1000),(1,xi<|.n 1000,.a aJ bf)] rfl<|cl I) λf U i e z r=>?_;exact⟨f,U,i,e,z,iw rfl (eQ (c:=ah) (a7 rfl rfl<|jv<|decide_eq_false<|by exactλM=>bj [n,b] [] [(1,xi aJ,bf),(1,xi bf,xi aJ)] rfl (cl<|wE.mp h) M) bH bH) r⟩
theorem TH (u:dA ts) (F:p≠[]) (N:aa p<=1000) (A:cZ H=ao):iN 1083 [.bytes<|av ts,.bytes p] H=.ok (.lst<|(AE ts p).map .bytes) H:=by
 have C:=Dr (p:=p) u
 have W:aa (eU ts p)<=100:=by
  have E:=f4 (dO ts p)<|dj 0 ts
  rw[eK] at E;have:=fQ ts;have:=u.len;unfold eU;exact aM (aM (by assumption)<|aM (by assumption)<|by assumption)<|by decide
 refine wi (aet (H:=H) u.z N (eU ts p) [] 0 al<|by simp;exact kz ‹_› (by rfl)) λS b y e z r=>?_;rw[gA] at e;have m1:∀{n:Nat} {H:Hp},CG ah .Sub (.int<|(n:Int)+1) (.int 1) H=.ok (.int n) H:=λ{n H}=>congrArg (λx=>dt (dq x) H) m8;have X:(p==([]:List UInt8))=false:=by simpa using F
 have D:dC (sU ts p)=(eU ts p).map λn:Nat=>.int (n+1):=by unfold sU dC;refine(ae<|if_neg F)▸?_;simp
 have j:(H++[S.map qi])[H.length]?=ab (S.map .bytes):=nR
 have J:aa S<=101:=by have:=congrArg aa e;simp only[aI,bL,d7] at this;have:=C.2;unfold AE at this;exact cP<|bj [aa S,aa<|qG (av ts) p.length (eU ts p) 0] [] [(1,.a aJ<|xi ef,bf),(1,bf,.n 101),(1,xi<|.n 101,aJ)] rfl (cl<|an<|ae<|by assumption)<|cl this
 unfold AE
 (refine(ae e)▸?_;rw[ab4 rfl])
 refine nV (l:=S.map .bytes) (pQ ⟨_,eQ (c:=ah) (a7 rfl rfl<|by(refine ag jh ?_;rw[X])) bH<|iT (y:=[.dR H.length,.int 1]) (ac xb<|ac rfl aq) ⟨rfl,by simp⟩<|qW (CW<|bV (ac rfl<|ac rfl aq) (by kernel_rfl)<|(yT u N<|nJ A rfl).trans<|by refine(ae D)▸?_;rfl) r<|bG<|bn rfl (iA (l:=[.bytes<|(av ts).drop b]) (ac (il (l:=.int b) rfl (bn rfl rfl m1) rfl rfl<|Cj u.z) aq)<|by simp)<|(yg j<|by simp;exact kz ‹_› (by rfl)).trans<|by simp⟩) A<|mP (λ_=>rfl) _
end
noncomputable def Q6 (g:List PV->Bool):PV->Bool
 |.none=>ao
 |.bool _=>ao
 |.int _=>ao
 |.str _=>ao
 |.bytes _=>ao
 |.tup l=>g l
 |_=>ah
noncomputable def p9 (d:Nat):PV->Bool:=xL (Q6 λ_=>ah) (λ_ f=>Q6 λl=>l.all f) d
theorem Q5 (o:∀p,f p=ao->g p p=ab ao/\i8 p=ao) (l) (h:l.all f=ao):yW g l l=ab ao/\gS l=true:=by
 induction l with
 |nil=>exact⟨rfl,rfl⟩
 |cons p l F=>have⟨a,b⟩:=(bt _ _).mp h;have⟨J,W⟩:=o p a;have⟨E,X⟩:=F b;exact⟨by show((g p p).bind λx=>(yW g l l).map λy=>x&&y)=_;(refine(ae J)▸(ae E)▸?_);rfl,by show(i8 p&&gS l)=ao;(refine(ae W)▸ag X ?_);rfl⟩
theorem Bs (o:∀l,g l=ao->q l l=ab ao/\gS l=ao) (p) (h:Q6 g p=ao):J0 q p p=ab ao/\i8 p=true:=by
 cases p with
 |none=>exact⟨rfl,rfl⟩
 |bool b=>exact⟨congrArg ab<|beq_self_eq_true b,rfl⟩
 |int b=>exact⟨congrArg ab<|beq_self_eq_true b,rfl⟩
 |str b=>exact⟨congrArg ab<|beq_self_eq_true b,rfl⟩
 |bytes b=>exact⟨congrArg ab<|beq_self_eq_true b,rfl⟩
 |tup l=>have⟨a,b⟩:=o l h;exact⟨a,b⟩
 |_=>cases h
theorem Kt (d):∀p,p9 d p=ao->mK d p p=ab ao/\i8 p=true:=by
 induction d with
 |zero=>exactλp h=>Bs (λ_ h=>kh h) p h
 |succ d o=>exactλp h=>Bs (Q5 o) p h
def ahb (O:List Nat):Option Addr:=(okV<|uH (.dct cG d5) (.str O) []).bind Xf
def ej (O:List Nat) (d:bk):Prop:=ahb O=ab d
theorem ej.get (h:ej O d):∃a b c,uH (.dct cG d5) (.str O) []=.ok (.tup<|a::b::.ref d::c) []:=by exact aH (bind_some h) λp e h=>aH (bind_some h) λm em h=>Vb (E3 h) λa b c l g h=>⟨a,b,l,by(refine ag (HJ e)<|(ae<|o8 em)▸(ae g)▸?_;rw[uN h])⟩
inductive gJ:PV->Prop
 |mk (nm:List Nat) (args:List PV) (due:PV) (F4:bk) (r:ej nm F4) (h:Hd F4 args due) (f:p9 8 due=ao) (n:gS args=ao):gJ (.tup [.str nm,.tup args,due])
theorem gJ.i8 (h:gJ c):Internal.i8 c=true:=by
 induction h with
 |mk O D q d r h f n=>have:=(Kt _ _ f).2;simp[lu,lw,iV,lx,fi,f9,n,this]
theorem A6:ej (ba "text_octet").cps.toList 735:=by unfold ej;kernel_rfl
theorem yP:ej (ba "text_at").cps.toList 742:=by unfold ej;kernel_rfl
theorem EO:ej (ba "text_next").cps.toList 749:=by unfold ej;kernel_rfl
theorem EN:ej (ba "text_prev").cps.toList 756:=by unfold ej;kernel_rfl
theorem Cq:ej (ba "text_is_start").cps.toList 770:=by unfold ej;kernel_rfl
theorem Ht:ej (ba "text_length").cps.toList 721:=by unfold ej;kernel_rfl
theorem Pf:ej (ba "text_last").cps.toList 763:=by unfold ej;kernel_rfl
theorem Cp:ej (ba "text_is_valid").cps.toList 777:=by unfold ej;kernel_rfl
theorem Co:ej (ba "text_reversed").cps.toList 808:=by unfold ej;kernel_rfl
theorem EM:ej (ba "text_written").cps.toList 923:=by unfold ej;kernel_rfl
theorem o6:ej (ba "text_sub").cps.toList 789:=by unfold ej;kernel_rfl
theorem rP:ej (ba "text_find").cps.toList 825:=by unfold ej;kernel_rfl
theorem Ar:ej (ba "text_find_last").cps.toList 832:=by unfold ej;kernel_rfl
theorem Hr:ej (ba "text_starts").cps.toList 846:=by unfold ej;kernel_rfl
theorem Pg:ej (ba "text_ends").cps.toList 853:=by unfold ej;kernel_rfl
theorem uK:ej (ba "text_replaced").cps.toList 818:=by unfold ej;kernel_rfl
theorem lp:ej (ba "text_repeated").cps.toList 801:=by unfold ej;kernel_rfl
theorem Aq:ej (ba "text_of_number").cps.toList 881:=by unfold ej;kernel_rfl
theorem Hs:ej (ba "text_number").cps.toList 888:=by unfold ej;kernel_rfl
theorem Hu:ej (ba "text_joined").cps.toList 794:=by unfold ej;kernel_rfl
theorem tU:ej (ba "symbol_of").cps.toList 930:=by unfold ej;kernel_rfl
theorem Ph:ej (ba "char_of").cps.toList 902:=by unfold ej;kernel_rfl
def zT (G:List Tk) (w:Int):List Nat:=0::(dj 1 G).filter λn:Nat=>decide<|(n:Int)<w
def tc (G:List Tk) (w:Int):List Nat:=((dj 1 G).filter λn:Nat=>decide<|w<n)++[aa (av G)+1]
theorem RV (G) (w:Int):(tc G w)[0]?=ab (uW G (w-1)+1):=by
 unfold tc uW
 (refine(ae (l7 ..))▸(ae Ai)▸?_)
 have:((λn:Nat=>decide<|w<n)∘λm=>m+1)=λn:Nat=>decide (w-1<n):=by funext n;show decide (w<((n+1:Nat):Int))=_;exact decide_eq_decide.mpr<|⟨@Int.sub_right_lt_of_lt_add w n 1,@Int.lt_add_of_sub_right_lt w n 1⟩
 refine(ae this)▸?_;cases(dj 0 G).filter λn:Nat=>decide (w-1<n)<;>rfl
theorem KQ (G) (w:Int):∃n,(zT G w).getLast?=ab n/\(n:Int)=rQ G (w-1)+1:=by
 unfold zT rQ
 (refine(ae (l7 ..))▸(ae Ai)▸?_)
 have:((λn:Nat=>decide<|(n:Int)<w)∘λm=>m+1)=λn:Nat=>decide ((n:Int)<w-1):=by funext n;show decide (((n+1:Nat):Int)<w)=_;exact decide_eq_decide.mpr<|⟨@Int.lt_sub_right_of_add_lt n 1 w,@Int.add_lt_of_lt_sub_right n 1 w⟩
 refine(ae this)▸?_
 cases h:((dj 0 G).filter λn:Nat=>decide<|(n:Int)<w-1).getLast? with
 |none=>rw[List.getLast?_eq_none_iff] at h;refine(ae h)▸?_;exact⟨0,rfl,rfl⟩
 |some n=>
  refine⟨n+1,?_,by simp⟩
  (refine ag List.getLast?_cons ?_;refine(ae xo)▸?_;refine(ae h)▸?_);rfl
def ixV (G:List Tk) (x:Ix) (a M:PV):bN:=[ab<|.bytes<|av G,ab x.p,ab<|.int x.w,ab<|a0<|av G,ab<|.lst<|dC<|dj 1 G,ab a,ab<|.int<|aa<|av G,ab M,ab<|.lst<|dC<|tc G x.w,ab<|.lst<|dC<|zT G x.w,al,al,al,al,al,al,al]
def Si (B:nW) (V:bN) (H:Hp) (e:CE) (O:String) (D:List PV):Prop:=∃d,bo B e V H=.ok d H/\gJ (.tup [cV O,.tup D,d])
theorem jB (o) (x:Ix):gS [a0 o,x.p]=true:=by simp[fi,f9,lu,lw,iV,lx,a0,cV,gU]
theorem US (d) (x:Ix):p9 (d+1) x.p=true:=by
 cases d<;>cases x with
 |bl _=>rfl
 |nm g _=>cases g<;>rfl
theorem lE (d:Nat) (o) (x:Ix):p9 (d+3) (cQ o x)=true:=by
 have h:=US d x;unfold cQ;cases x.room
 ·show(ao&&((p9 (d+1) (a0 o)&&(p9 (d+1) x.p&&ao))&&ao))=ao;refine(ae h)▸?_;cases d<;>rfl
 ·cases d<;>rfl
theorem M4 (u:dA G) (M):Si (oQ 3) (ixV G x (cQ (av G) x) M) H (.fc (.cmp (cI 1) [.LtE,.LtE] [dE,pM]) (.tup [wK,cS [85,73,110,116,56],.sub cy<|.bin ah .Sub dE<|cI 1]) pv) "text_octet" [a0<|av G,x.p]:=by
 have C:=u.len;by_cases h:1<=x.w/\x.w<=aa (av G)
 ·obtain⟨n,B⟩:∃n:Nat,x.w=n+1:=⟨(x.w-1).toNat,by exact cD (dr<|bj [(x.w-1).toNat] [x.w] [(1,.s cz ia,aJ),(1,xi<|xi aJ,cz)] rfl<|aT<|ae<|bA<|dr<|bj [] [x.w] [(1,ia,cz),(1,xi<|.s cz ia,ef)] rfl h.1)<|dr<|bj [(x.w-1).toNat] [x.w] [(1,aJ,.s cz ia),(1,xi cz,xi aJ)] rfl<|aT<|bA<|dr<|bj [] [x.w] [(1,ia,cz),(1,xi<|.s cz ia,ef)] rfl h.1⟩;have F:n<aa (av G):=by exact cP<|bj [aa<|av G,n] [x.w] [(1,cz,aJ),(1,xi bf,cz),(1,xi aJ,xi bf)] rfl h.2<|aT<|ae B
  have P:=aO F;refine⟨PN (av G)[n],eY (gs rfl rfl rfl<|decide_eq_true h) (bw (ac rfl<|ac rfl<|ac (bx rfl (bn rfl rfl ?_)<|rM P u.z) aq)<|by simp),.mk _ _ _ _ A6 (PM u.z P B) rfl (jB _ _)⟩;refine(ae B)▸?_;exact congrArg (λx=>dt (dq x) H) m8
 ·refine⟨cQ (av G) x,dZ (gs rfl rfl rfl<|decide_eq_false h) rfl,.mk _ _ _ _ A6 ?_ (lE _ _ _) (jB _ _)⟩
  cases d:x.room with
  |false=>exact L6 d
  |true=>exact L5 u.z d h
inductive FsR (ts:List Tk) (w:Int):PV->Prop
 |sign (p:List Tk) (t:Tk) (q:List Tk) (e:ts=p++t::q) (hw:w=aa (av p)+1):FsR ts w (xe t.shown)
 |no (h:my ts (w-1)=ah):FsR ts w (j0 mU)
theorem ZY (u:dA G) (Y:FsR G x.w M):Si (oQ 3) (ixV G x (cQ (av G) x) M) H (.fc (.cmp (cI 1) [.LtE,.LtE] [dE,pM]) SU pv) "text_at" [a0<|av G,x.p]:=by
 have C:=u.len;by_cases h:1<=x.w/\x.w<=aa (av G)
 ·refine⟨M,eY (gs rfl rfl rfl<|decide_eq_true h) rfl,?_⟩
  induction Y with
  |sign p t q e U=>subst e;exact .mk _ _ _ _ yP (afi u U) rfl (jB _ _)
  |no R=>exact .mk _ _ _ _ yP (RY (sS<|by exact⟨dr<|bj [] [x.w] [(1,ia,cz),(1,xi cz,.g ia)] rfl h.1,dr<|bj [aa<|av G] [x.w] [(1,aJ,.n 100),(1,cz,aJ),(1,xi<|.n 2000,cz)] rfl (cl C) h.2⟩) (ue u fm h R) rfl<|qp wv) rfl (jB _ _)
 ·refine⟨cQ (av G) x,dZ (gs rfl rfl rfl<|decide_eq_false h) rfl,.mk _ _ _ _ yP ?_ (lE _ _ _) (jB _ _)⟩
  cases d:x.room with
  |false=>exact aai d
  |true=>exact RY d (ud u fm h) (eX rfl)<|by(refine ag jz ?_;rw[ox d])
theorem P6 {i n:Nat} (h:l[i]?=ab n):(dC l)[i]?=ab (.int n):=by unfold dC;(refine ag bY ?_;refine(ae h)▸?_);rfl
theorem vW {n:Nat} (h:l.getLast?=ab n):(dC l).getLast?=ab (.int n):=by unfold dC;(refine ag xo ?_;refine(ae h)▸?_);rfl
theorem I2 (u:dA G) (w:Int):aa (dC<|tc G w)<=1000:=by
 have J:=f4 (λn:Nat=>decide<|w<n)<|dj 1 G
 have W:=fQ G;have:=u.len;rw[eK] at J;simp[dC,tc];exact aM (aM (by assumption)<|aM (by assumption)<|by assumption)<|by decide
theorem Rw (u:dA G) (A:cZ H=ao) (M:PV):Si (oQ 3) (ixV G x (cQ (av G) x) M) H (.fc (.cmp (cI 0) [.LtE,.LtE] [dE,pM]) (.az 1031 [.sub xy<|cI 0]) pv) "text_next" [a0<|av G,x.p]:=by
 have C:=u.len;by_cases h:0<=x.w/\x.w<=aa (av G)
 ·exact⟨l8<|uW G (x.w-1)+1,eY (gs rfl rfl rfl<|decide_eq_true h)<|bV (ac (bx rfl rfl<|yA (P6<|RV G x.w)<|I2 u _) aq) rfl<|o7 A _,.mk _ _ _ _ EO (T5 u h) rfl (jB _ _)⟩
 ·refine⟨cQ (av G) x,dZ (gs rfl rfl rfl<|decide_eq_false h) rfl,.mk _ _ _ _ EO ?_ (lE _ _ _) (jB _ _)⟩
  cases d:x.room with
  |false=>exact P4 d
  |true=>exact P3 u d h
theorem Rv (u:dA G) (A:cZ H=ao) (M:PV):Si (oQ 3) (ixV G x (cQ (av G) x) M) H (.fc (.cmp (cI 1) [.LtE,.LtE] [dE,.bin ah .Add pM<|cI 1]) (.az 1031 [.sub B5<|.neg<|cI 1]) pv) "text_prev" [a0<|av G,x.p]:=by
 have C:=u.len;by_cases h:1<=x.w/\x.w<=aa (av G)+1
 ·exact aH (KQ G x.w) λn J W=>⟨l8<|rQ G (x.w-1)+1,eY (gs rfl rfl (bn rfl rfl rfl)<|decide_eq_true h) (bV (ac (bx rfl mv<|sub_neg<|vW J) aq) rfl<|ag (o7 A _)<|by rw[W]),.mk _ _ _ _ EN (TK u h) rfl (jB _ _)⟩
 ·refine⟨cQ (av G) x,dZ (gs rfl rfl (bn rfl rfl rfl)<|decide_eq_false h) rfl,.mk _ _ _ _ EN ?_ (lE _ _ _) (jB _ _)⟩
  cases d:x.room with
  |false=>exact Pv d
  |true=>exact Pu u d h
theorem oy (G) (w:Int):((dj 1 G).any λn:Nat=>decide<|(n:Int)=w)=my G (w-1):=by
 (refine(ae (l7 ..))▸ag rH ?_)
 unfold my;congr 1;funext n;show decide (((n+1:Nat):Int)=w)=_;exact decide_eq_decide.mpr (⟨λh=>h▸(co n 1).symm,λh=>(congrArg (· +1) h).trans<|Int.sub_add_cancel w 1⟩)
theorem M3 (u:dA G) (M):Si (oQ 3) (ixV G x (cQ (av G) x) M) H (.tup [D5,.cmp dE [.In] [kX]]) "text_is_start" [a0<|av G,x.p]:=
 ⟨sv<|my G<|x.w-1,bw (ac rfl<|ac (oq rfl rfl<|ag (td _ _)<|by rw[oy]) aq) (by simp),.mk _ _ _ _ Cq (O3 u) rfl (jB _ _)⟩
def jT (D:List PV):Prop:=∀c∈D,gJ c
theorem jT.gS:∀{D},jT D->Internal.gS D=ao
 |[],_=>rfl
 |c::D,h=>by simp[fi,f9,(h c<|by simp).i8,jT.gS (λd g=>h d (by simp[g]):jT D)]
theorem jT.cons (h:gJ c) (G:jT D):jT (c::D):=λd hd=>by
 rcases aL.mp hd with rfl|hd
 ·exact h
 ·exact G d hd
open jT renaming cons->XR
theorem jT.nil:jT []:=λ_ h=>by cases h
theorem jT.app (I:jT a) (R:jT b):jT (a++b):=λc P=>(eB.mp P).elim (I c)<|R c
theorem ve (h:fR B Q [s] V H=.ok (.next,d) H'):fR B Q (s::l) V H=fR B Q l d H':=by
 have e:fR B Q [s] V H=aw (Kv B Q s V) (λx=>match x.1 with|.next=>fR B Q [] x.2|f=>ax (f,x.2)) H:=rfl;have Z:fR B Q (s::l) V H=aw (Kv B Q s V) (λx=>match x.1 with|.next=>fR B Q l x.2|f=>ax (f,x.2)) H:=rfl;rw[e,fU] at h
 (refine ag Z<|ag (fU ..) ?_)
 cases q:Kv B Q s V H with
 |ok a G=>rw[q] at h;obtain⟨f,v⟩:=a;cases f<;>cases h;rfl
 |exc p G=>rw[q] at h;cases h
 |stuck=>rw[q] at h;cases h
theorem UF (p q t):(dj 1<|p++t::q).idxOf (aa (av p)+1)=aa p:=by
 have h:aa (av p)+1∉dj 1 p:=λh=>by have:=kv p 1 _ h;exact bj [aa<|av p] [] [(1,xi<|xi aJ,.a ia aJ)] rfl<|cl this.2
 (refine(ae (pV ..))▸ag List.idxOf_append<|ag (if_neg h)<|(ae (eK ..))▸(ae<|show dj (1+(av p).length) (t::q)=(1+(av p).length)::dj (1+(av p).length+t.b.length) q from rfl)▸(ae (gh 1 ..))▸?_;rw[List.idxOf_cons_self,fO])
theorem T8 (p q t):aa (av p)+1∈dj 1 (p++t::q):=by
 (refine(ae (pV ..))▸(ae<|show dj (1+(av p).length) (t::q)=(1+(av p).length)::dj (1+(av p).length+t.b.length) q from rfl)▸(ae (gh 1 ..))▸?_)
 simp
theorem TW (u:dA G):∀n∈dj 1 G,n<=1000:=λn B=>by exact aM (eS (kv G 1 n B).2)<|aM (dH u.len 1)<|by decide
theorem Ky {j i k:Nat} (u:dA (p++t::q)) (A:cZ H=ao) {w:Int} (U:w=aa (av p)+1) (T:bo (oQ j) cy V H=.ok (.bytes<|av<|p++t::q) H) (D:bo (oQ j) (.loc i) V H=.ok (.lst<|dC<|dj 1<|p++t::q) H) (z:bo (oQ j) (.loc k) V H=.ok (.int w) H)
 (G:((rr.take j).all λf=>decide<|(1012:bk)≠f.addr)=ao):bo (oQ j) (.sub (.az 1012 [.loc 0])<|.gb .index (.loc i) [.loc k]) V H=.ok (.bytes t.b) H:=by
 have W:=fQ<|p++t::q
 have E:=u.len;refine bx (bV (ac T aq) G<|tV u A) (iQ D rfl (ac (a:=.int ((av p).length+1:Nat)) (ag z<|by rw[U];rfl) aq)<|ag (QB (T8 p q t) (TW u)<|by rw[eK];exact vD ‹_› ‹_› (by rfl))<|by rw[UF])<|yA (by simp[dB])<|by simp[dB] at W|-;exact vD ‹_› ‹_› (by rfl)
theorem A8 (u:dA G) (A:cZ H=ao) (x:Ix):∃D,iN 1064 [.bytes<|av G,x.p] H=.ok (.lst D) H/\jT D/\aa D=5:=by
 have W:=fQ G;have E:=u.len
 have J:aa ((dj 1 G).filter λn:Nat=>decide<|x.w<n)<=100:=by
  have:=f4 (λn:Nat=>decide<|x.w<n)<|dj 1 G
  rw[eK] at this;exact aM (aM (by with_reducible assumption)<|aM (by with_reducible assumption)<|by with_reducible assumption)<|by decide
 have d:aa ((dj 1 G).filter λn:Nat=>decide<|(n:Int)<x.w)<=100:=by
  have:=f4 (λn:Nat=>decide<|(n:Int)<x.w)<|dj 1 G
  rw[eK] at this;exact aM (aM (by with_reducible assumption)<|aM (by with_reducible assumption)<|by with_reducible assumption)<|by decide
 obtain⟨M,Y,h⟩:∃M,FsR G x.w M/\fR (oQ 3) dF [.fc (.cmp dE [.In] [kX]) [.assign 7<|.tup [cS [99,104,97,114],.az 1024 [.sub (.az 1012 [cy])<|.gb af5 kX [dE]]]] []]
  [ab<|.bytes<|av G,ab x.p,ab<|.int x.w,ab<|a0<|av G,ab<|.lst<|dC<|dj 1 G,ab<|cQ (av G) x,ab<|.int<|aa<|av G,ab<|j0 mU,al,al,al,al,al,al,al,al,al] H=
  .ok (.next,[ab<|.bytes<|av G,ab x.p,ab<|.int x.w,ab<|a0<|av G,ab<|.lst<|dC<|dj 1 G,ab<|cQ (av G) x,ab<|.int<|aa<|av G,ab M,al,al,al,al,al,al,al,al,al]) H:=by
  cases R:my G (x.w-1) with
  |false=>exact⟨_,.no R,eQ (a7 rfl rfl<|ag (td _ _)<|by rw[oy,R]) bH bH⟩
  |true=>
   refine aH (s0.mp R) λm _ Z=>?_;refine se (Bo<|by rw[Z];exact R) λp t q S e=>?_;subst S;have U:x.w=aa (av p)+1:=by exact cD (dr<|bj [m,aa<|av p] [x.w] [(1,.s cz ia,aJ),(1,aJ,bf),(1,xi<|xi bf,cz)] rfl (aT<|ae Z)<|cl<|an e)<|dr<|bj [m,aa<|av p] [x.w] [(1,aJ,.s cz ia),(1,bf,aJ),(1,xi cz,xi bf)] rfl (aT Z)<|cl<|an<|ae e
   exact⟨_,.sign p t q rfl U,eQ (a7 rfl rfl<|ag (td _ _)<|by rw[oy,R]) (bT (bw (ac rfl<|ac (bV (ac (Ky u A U rfl rfl rfl rfl) aq) rfl<|yU A t) aq)<|by simp) bH) bH⟩
 refine aH (M4 (H:=H) (x:=x) u M) λI T c1=>aH (ZY (H:=H) (x:=x) u Y) λO i c2=>aH (Rw (x:=x) u A M) λX C B=>?_;refine aH (Rv (H:=H) (x:=x) u A M) λb F L=>aH (M3 (H:=H) (x:=x) u M) λc k a=>?_;have Q:=XR c1<|.cons c2<|.cons B<|.cons L<|.cons a .nil
 refine⟨_,?_,Q,rfl⟩;have j:∀(P:Nat->Bool),dC ((dj 1 G).filter P)=((dj 1 G).filter P).map λn:Nat=>.int n:=λ_=>rfl;rw[ab7 rfl];refine aE (aK (V:=ixV G x (cQ (av G) x) M) ?_) A Q.gS;refine iT (y:=[.int x.w,a0<|av G,.lst<|dC<|dj 1 G]) (ac (bV (ac rfl aq) (by kernel_rfl)<|eA A x)<|ac (bw (ac rfl<|ac rfl aq)<|by simp)<|ac (bV (ac rfl aq) (by kernel_rfl)<|l5 u A) aq) ⟨rfl,by simp⟩ ?_;refine iT (y:=[cQ (av G) x,.int (av G).length,j0 mU]) (ac (bV (ac rfl<|ac rfl aq) (by kernel_rfl)<|xU A x)<|ac (dy rfl u.z)<|ac rfl aq) ⟨rfl,by simp⟩ ?_;refine(ve h).trans ?_;refine iT (y:=[.lst<|dC<|tc G x.w,.lst<|dC<|zT G x.w]) (ac (bn (sd (l:=dj 1 G) (g:=λn:Nat=>.int n) (f:=λn:Nat=>.int n) (P:=λn:Nat=>decide<|x.w<n) (nb rfl) rfl (by rw[eK];exact vD ‹_› ‹_› (by rfl)) λn _=>⟨_,rfl,a7 rfl rfl<|jg rfl,λ_=>rfl⟩) (iA (ac (bn rfl rfl rfl) aq)<|by simp)<|(BP<|by simp;exact kz ‹_› (by rfl)).trans<|congrArg (λl=>dt (amC l) H)<|xY _ [(av G).length+1])<|ac (bn rfl (sd (l:=dj 1 G) (g:=λn:Nat=>.int n) (f:=λn:Nat=>.int n) (P:=λn:Nat=>decide<|(n:Int)<x.w) (nb rfl) rfl (by rw[eK];exact vD ‹_› ‹_› (by rfl)) λn _=>⟨_,rfl,a7 rfl rfl<|dP rfl,λ_=>rfl⟩)<|(BP<|by simp;exact aM (dH d 1)<|by decide).trans<|congrArg (λl=>dt (amC l) H)<|xY [0] _) aq) ⟨rfl,by simp⟩ ?_;exact bG<|iA (ac (bw (ac rfl<|ac (bw (ac rfl<|ac rfl aq)<|by simp)<|ac T aq)<|by simp)<|ac (bw (ac rfl<|ac (bw (ac rfl<|ac rfl aq)<|by simp)<|ac i aq)<|by simp)<|ac (bw (ac rfl<|ac (bw (ac rfl<|ac rfl aq)<|by simp)<|ac C aq)<|by simp)<|ac (bw (ac rfl<|ac (bw (ac rfl<|ac rfl aq)<|by simp)<|ac F aq)<|by simp)<|ac (bw (ac rfl<|ac (bw (ac rfl<|ac rfl aq)<|by simp)<|ac k aq)<|by simp) aq)<|by simp
theorem Zi (h:bo B (.tup u) V H=.ok (.tup l) H):rt B (.tup u) V (bo B (.tup u) V) H=.ok l H:=fg h rfl
def JN (G:List Tk) (x y:Ix) (z:Option PV):bN:=[ab<|.bytes<|av G,ab x.p,ab y.p,ab<|.int x.w,ab<|.int y.w,ab<|.lst<|dC<|dj 1 G,z,al,al,al,al,al,al]
def suA:List CS:=[.fc (.not<|.az 1052 [pM]) [.ret<|.az 1059 [cy,pM]] []]
def suB:List CS:=[.fc (.not<|.cmp (cI 1) [.LtE,.LtE] [.az 1045 [pM],.bv eN [cy]]) [.ret<|.az 1059 [cy,pM]] [],.fc (.cmp (.az 1045 [pM]) [.NotIn] [pv]) [.ret<|.tup [El]] []]
theorem Hc (A:cZ H=ao) (v:Ix) (h:v.room=ao):fR (oQ 1) dF suA (JN G x y<|ab v.p) H=.ok (.next,JN G x y<|ab v.p) H:=
 eQ (gK<|xR<|bV (ac rfl aq) rfl<|ag (uM A v)<|by rw[h]) bH bH
theorem JQ (A:cZ H=ao) (v:Ix) (h:v.room=ah):fR (oQ 1) dF suA (JN G x y<|ab v.p) H=.ok (.ret<|cQ (av G) v,JN G x y<|ab v.p) H:=
 kj (gK<|xR<|bV (ac rfl aq) rfl<|ag (uM A v)<|by rw[h]) (bG<|bV (ac rfl<|ac rfl aq) rfl<|xU A v)
theorem JO (u:dA G) (A:cZ H=ao) (v:Ix) (h:¬(1<=v.w/\v.w<=aa (av G))):fR (oQ 1) dF suB (JN G x y<|ab v.p) H=.ok (.ret<|cQ (av G) v,JN G x y<|ab v.p) H:=
 kj (gK<|gs rfl (bV (ac rfl aq) rfl<|eA A v) (dy rfl u.z)<|decide_eq_false h) (bG<|bV (ac rfl<|ac rfl aq) rfl<|xU A v)
theorem JP (u:dA G) (A:cZ H=ao) (v:Ix) (h:1<=v.w/\v.w<=aa (av G)) (R:my G (v.w-1)=ah):fR (oQ 1) dF suB (JN G x y<|ab v.p) H=.ok (.ret<|j0 mU,JN G x y<|ab v.p) H:=
 eQ (gK<|gs rfl (bV (ac rfl aq) rfl<|eA A v) (dy rfl u.z)<|decide_eq_true h) bH (kj (c:=ao) (a7 (bV (ac rfl aq) rfl<|eA A v) rfl<|ag (Be _ _)<|by(refine(ae (oy ..))▸(ae R)▸?_);rfl)<|bG rfl)
theorem Cg (u:dA G) (A:cZ H=ao) (v:Ix) (h:1<=v.w/\v.w<=aa (av G)) (R:my G (v.w-1)=ao):fR (oQ 1) dF suB (JN G x y<|ab v.p) H=.ok (.next,JN G x y<|ab v.p) H:=
 eQ (gK<|gs rfl (bV (ac rfl aq) rfl<|eA A v) (dy rfl u.z)<|decide_eq_true h) bH (eQ (c:=ah) (a7 (bV (ac rfl aq) rfl<|eA A v) rfl<|ag (Be _ _)<|by(refine(ae (oy ..))▸(ae R)▸?_);rfl) bH bH)
theorem Cf (u:dA G) (A:cZ H=ao) (h:x.w<=y.w) (k:fR (oQ 1) dF (Gi.drop 2) (JN G x y al) H=r):fR (oQ 1) dF Gi ([.bytes<|av G,x.p,y.p].map ab++aW (13-3) al) H=r:=
 iT (ac (bV (ac rfl aq) rfl<|eA A x)<|ac (bV (ac rfl aq) rfl<|eA A y)<|ac (bV (ac rfl aq) rfl<|l5 u A) aq) ⟨rfl,by simp⟩ (eQ (a7 rfl rfl<|dP<|decide_eq_false<|by exactλM=>bj [] [x.w,y.w] [(1,cz,.w 1),(1,xi<|.w 1,cz)] rfl h M) bH k)
theorem w2:rt (oQ 1) (.tup [ck,dE]) (JN G x y z) (bo (oQ 1) (.tup [ck,dE])<|JN G x y z) H=.ok [x.p,y.p] H:=Zi<|bw (ac rfl<|ac rfl aq)<|by simp
theorem yB (u:dA G) (A:cZ H=ao) (h:x.w<=y.w) (T:x.room=ao) (I:y.room=ao) (k:fR (oQ 1) dF (Gi.drop 3) (JN G x y<|ab y.p) H=r):fR (oQ 1) dF Gi ([.bytes<|av G,x.p,y.p].map ab++aW (13-3) al) H=r:=
 Cf u A h (qW w2 (iw rfl (Hc A x T)<|iw rfl (Hc A y I) rfl) k)
theorem mQ (o) (x y:Ix):gS [a0 o,x.p,y.p]=true:=by simp[fi,f9,lu,lw,iV,lx,a0,cV,gU]
theorem TG (u:dA G) (A:cZ H=ao) (x y:Ix):∃d,iN 1071 [.bytes<|av G,x.p,y.p] H=.ok d H/\gJ (.tup [cV "text_sub",.tup [a0<|av G,x.p,y.p],d]):=by
 have C:=u.len;rw[ab6 rfl];by_cases h:y.w<x.w
 ·exact⟨a0 [],aE (aK<|iT (ac (bV (ac rfl aq) rfl<|eA A x)<|ac (bV (ac rfl aq) rfl<|eA A y)<|ac (bV (ac rfl aq) rfl<|l5 u A) aq) ⟨rfl,by simp⟩<|kj (a7 rfl rfl<|dP<|decide_eq_true h)<|bG rfl) A rfl,.mk _ _ _ _ o6 (Ve h) rfl (mQ _ _ _)⟩
 have h:x.w<=y.w:=by exact dr<|bj [] [x.w,y.w] [(1,cz,.w 1),(1,xi<|.w 1,cz)] rfl<|cX.mp h
 cases T:x.room with
 |false=>exact⟨_,aE (aK<|Cf u A h<|rL w2<|w7 rfl<|JQ A x T) A uU,.mk _ _ _ _ o6 (M6 h T) (lE _ _ _) (mQ _ _ _)⟩
 |true=>
 cases I:y.room with
 |false=>exact⟨_,aE (aK<|Cf u A h<|rL w2<|iw rfl (Hc A x T)<|w7 rfl<|JQ A y I) A uU,.mk _ _ _ _ o6 (M5 h T I) (lE _ _ _) (mQ _ _ _)⟩
 |true=>
 by_cases c:1<=x.w/\x.w<=aa (av G)
 case neg=>exact⟨_,aE (aK<|yB u A h T I<|rL w2<|w7 rfl<|JO u A x c) A uU,.mk _ _ _ _ o6 (vk h T I (OP fm h (eX rfl)<|ud u fm c) (eX rfl)<|by(refine ag jz ?_;rw[ox T])) (lE _ _ _) (mQ _ _ _)⟩
 cases f:my G (x.w-1) with
 |false=>exact⟨_,aE (aK<|yB u A h T I<|rL w2<|w7 rfl<|JP u A x c f) A rfl,.mk _ _ _ _ o6 (vk h T I (OP fm h rfl<|ue u fm c f) rfl<|qp wv) rfl (mQ _ _ _)⟩
 |true=>
 by_cases g:1<=y.w/\y.w<=aa (av G)
 case neg=>exact⟨_,aE (aK<|yB u A h T I<|rL w2<|iw rfl (Cg u A x c f)<|w7 rfl<|JO u A y g) A uU,.mk _ _ _ _ o6 (vk h T I (OO fm h (eX rfl) (qc u fm f)<|ud u fm g) (eX rfl)<|by(refine ag jz ?_;rw[ox I])) (lE _ _ _) (mQ _ _ _)⟩
 cases j:my G (y.w-1) with
 |false=>exact⟨_,aE (aK<|yB u A h T I<|rL w2<|iw rfl (Cg u A x c f)<|w7 rfl<|JP u A y g j) A rfl,.mk _ _ _ _ o6 (vk h T I (OO fm h rfl (qc u fm f)<|ue u fm g j) rfl<|qp wv) rfl (mQ _ _ _)⟩
 |true=>
 refine aH (s0.mp j) λm _ Y=>se (Bo<|by rw[Y];exact j) λp t q e X=>?_;obtain⟨n,B⟩:∃n:Nat,x.w=n+1:=⟨(x.w-1).toNat,by exact cD (dr<|bj [(x.w-1).toNat] [x.w] [(1,.s cz ia,aJ),(1,xi<|xi aJ,cz)] rfl<|aT<|ae<|bA<|dr<|bj [] [x.w] [(1,ia,cz),(1,xi<|.s cz ia,ef)] rfl c.1)<|dr<|bj [(x.w-1).toNat] [x.w] [(1,aJ,.s cz ia),(1,xi cz,xi aJ)] rfl<|aT<|bA<|dr<|bj [] [x.w] [(1,ia,cz),(1,xi<|.s cz ia,ef)] rfl c.1⟩;have U:y.w=aa (av p)+1:=by exact cD (dr<|bj [m,aa<|av p] [y.w] [(1,.s cz ia,aJ),(1,aJ,bf),(1,xi<|xi bf,cz)] rfl (aT<|ae Y)<|cl<|an X)<|dr<|bj [m,aa<|av p] [y.w] [(1,aJ,.s cz ia),(1,bf,aJ),(1,xi cz,xi bf)] rfl (aT Y)<|cl<|an<|ae X
 refine⟨a0<|((av G).drop n).take<|aa (av p)+aa t.b-n,aE (aK<|yB u A h T I<|qW w2 (iw rfl (Cg u A x c f)<|iw rfl (Cg u A y g j) rfl)<|bG<|bw (ac rfl<|ac (il rfl (bn rfl rfl ?_) (bn (Z:=H) (a:=.int (av p).length) (bn rfl rfl ?_) (dy ?_ (by have:=yx t;exact kz ‹_› (by rfl))) rfl) rfl<|n8 u.z) aq)<|by simp) A rfl,.mk _ _ _ _ o6 (Vf h T I ?_) rfl (mQ _ _ _)⟩
 ·rw[B];exact congrArg (λx=>dt (dq x) H) m8
 ·rw[U];exact congrArg (λx=>dt (dq x) H) m8
 ·subst e;exact Ky (i:=5) (k:=4) u A U rfl rfl rfl<|by kernel_rfl
 ·subst e;rw[B];exact Yy u fm U (by exact cP<|bj [m,(av p).length,n] [x.w,y.w] [(1,cz,.w 1),(1,.s (.w 1) ia,aJ),(1,aJ,bf),(1,xi ct,cz),(1,xi bf,ct)] rfl (cX.mp<|by assumption) (aT<|ae Y) (cl<|an X)<|aT<|ae B)<|by rw[B,co] at f;exact f
def r5 (l:List Nat):PV:=match l.head? with
 |some n=>l8 n
 |none=>uR
def wZ (l:List Nat):PV:=match l.getLast? with
 |some n=>l8 n
 |none=>uR
theorem zs (d l):p9 (d+1) (r5 l)=true:=by unfold r5;split<;>cases d<;>rfl
theorem MR (d l):p9 (d+1) (wZ l)=true:=by unfold wZ;split<;>cases d<;>rfl
theorem Di {j i:Nat} (A:cZ H=ao) (C:bo (oQ j) (.loc i) V H=.ok (.lst<|dC l) H) (z:aa l<=1000) (G:((rr.take j).all λf=>decide<|(1031:bk)≠f.addr)=ao):
 bo (oQ j) (.fc (.cmp (.loc i) [.NotEq] [.list ah []]) (.az 1031 [.sub (.loc i)<|cI 0])<|.tup [Yj]) V H=.ok (r5 l) H:=by
 have Z:=a7 C (iA aq<|by simp)<|HR<|dC l
 induction l with
 |nil=>exact dZ Z<|bw (ac rfl aq)<|by simp
 |cons n l=>exact eY Z<|bV (ac (bx C rfl<|yA rfl<|by simpa[dC] using z) aq) G<|o7 A _
theorem ZV {j i:Nat} (A:cZ H=ao) (C:bo (oQ j) (.loc i) V H=.ok (.lst<|dC l) H) (G:((rr.take j).all λf=>decide<|(1031:bk)≠f.addr)=ao):
 bo (oQ j) (.fc (.cmp (.loc i) [.NotEq] [.list ah []]) (.az 1031 [.sub (.loc i)<|.neg<|cI 1])<|.tup [Yj]) V H=.ok (wZ l) H:=by
 have z:=a7 C (iA aq<|by simp)<|HR<|dC l
 induction l with
 |nil=>exact dZ z<|bw (ac rfl aq)<|by simp
 |cons n l=>
  unfold wZ;have N:(n::l).getLast?=ab ((n::l).getLast<|by simp):=List.getLast?_eq_some_getLast<|by simp
  refine(ae N)▸?_;exact eY z<|bV (ac (bx C mv<|sub_neg<|vW N) aq) G<|o7 A _
theorem J3 (u:dA G) (F:p≠[]) (N:aa p<=1000) (b:Nat) (R:b<=aa (av G)):∃r,b6 543 [.bytes<|av G,.bytes p,.int<|b+1] []=.ok (.int r) []/\lD r=r5 ((sU G p).filter λn:Nat=>decide<|(b:Int)+1<=n):=by
 refine aH (FT u F N fm b R) λq J W=>⟨_,W,?_⟩
 have e:((sU G p).filter λn:Nat=>decide<|(b:Int)+1<=n)=((eU G p).filter λn=>decide<|b<=n).map (· +1):=by
  unfold sU
  (refine(ae<|if_neg F)▸ag Ai ?_)
  congr 2;funext n;show decide ((b:Int)+1<=((n+1:Nat):Int))=_;exact decide_eq_decide.mpr<|(dI (m:=b+1) (n:=n+1)).trans Nat.succ_le_succ_iff
 refine(ae e)▸?_;unfold r5;refine(ae List.head?_map)▸?_
 induction J with
 |none h=>refine(ae<|zu h)▸?_;rfl
 |some n E X U=>refine(ae<|FU E X U)▸?_;unfold lD;refine ag (if_pos<|by exact dr<|bj [n] [] [(1,xi<|xi aJ,xi ef)] rfl) ?_;rfl
theorem TM (u:dA G) (N:aa p<=1000):∃r,b6 543 [.bytes<|av G,.bytes p,.int 1] []=.ok (.int r) []/\lD r=r5 (sU G p):=by
 by_cases F:p=[]
 ·subst F;refine⟨_,Bt u fm 0<|hH _,?_⟩;unfold sU;refine(ae<|if_pos rfl)▸?_;cases G<;>rfl
 ·refine aH (J3 u F N 0<|hH _) λr J W=>⟨r,J,ag W ?_⟩;congr 1;refine NQ.mpr λn B=>?_;unfold sU at B;rw[if_neg F] at B;refine aH (b2.mp B) λm _ S=>?_;subst S;exact decide_eq_true<|by exact dr<|bj [m] [] [(1,xi<|xi aJ,xi ef)] rfl
theorem TL (u:dA G) (N:aa p<=1000):∃r,b6 550 [.bytes<|av G,.bytes p] []=.ok (.int r) []/\lD r=wZ (sU G p):=by
 by_cases F:p=[]
 ·subst F;refine⟨_,Qk u fm,?_⟩;unfold sU wZ lD
  (refine(ae<|if_pos rfl)▸ag (if_pos<|by exact dr<|bj [aa<|av G] [] [(1,xi<|xi aJ,xi ef)] rfl) ?_;refine(ae List.getLast?_concat)▸?_);rfl
 ·refine aH (Uj u F N fm) λq J W=>⟨_,W,?_⟩;unfold sU wZ
  (refine(ae<|if_neg F)▸(ae xo)▸?_)
  induction J with
  |none h=>have:eU G p=[]:=pe λm _=>h m;refine(ae this)▸?_;rfl
  |some n X U=>refine(ae<|Uk X U)▸?_;unfold lD;refine ag (if_pos<|by exact dr<|bj [n] [] [(1,xi<|xi aJ,xi ef)] rfl) ?_;rfl
theorem HG (n):((eU ts p).any λm=>decide<|m=n)=dO ts p n:=by
 rw[iE,rn];constructor
 ·rintro ⟨m,J,W⟩;rw[decide_eq_true_eq] at W;subst W;exact(V7.mp J).2
 ·intro h;exact⟨n,V7.mpr ⟨a h,h⟩,by simp⟩
where a {n:Nat} (h:dO ts p n=ao):n∈dj 0 ts:=tP h
theorem Py (F:p≠[]) (n:Nat):((sU G p).any λm:Nat=>decide<|(m:Int)=(n:Int)+1)=dO G p n:=by
 refine((HG n))▸?_;unfold sU
 (refine(ae<|if_neg F)▸ag rH ?_)
 congr 1;funext m;show decide (((m+1:Nat):Int)=(n:Int)+1)=_;exact decide_eq_decide.mpr<|(lf (m:=m+1) (n:=n+1)).trans Jr
theorem LD (G p):(((av G).take (aa p)==p)&&(decide (((aa p):Int)=aa (av G))||my G (aa p)))=((sU G p).any λm:Nat=>decide<|(m:Int)=1):=by
 by_cases F:p=[]
 ·subst F;have:=wg (ts:=G) 0;unfold sU;refine(ae<|if_pos rfl)▸?_;refine ag ?_ this.symm;simp only[d7,List.take_zero,BEq.rfl,nt];congr 1;exact decide_eq_decide.mpr<|lf
 ·have J:=Py (G:=G) F 0;refine ag ?_ J.symm;unfold dO
  (refine(ae<|HM<|hH _)▸(ae XE)▸?_)
  cases q:((av G).take (aa p)==p) with
  |false=>rfl
  |true=>
   have R:my G ((0:Nat):Int)=true:=by
    induction G with
    |nil=>have:=eq_of_beq q;simp[av] at this;exact absurd this.symm<|by simpa using F
    |cons t r=>exact u7 [] r t
   rw[R,fO,nt,nt,nt];congr 1;exact decide_eq_decide.mpr<|lf
theorem U6 {n:Nat} (h:aa (av G)=n+aa p):(((av G).drop n==p)&&((p==[])||my G n))=((sU G p).any λm:Nat=>decide<|(m:Int)=(n:Int)+1):=by
 by_cases F:p=[]
 ·subst F;have:=wg (ts:=G) n;unfold sU
  (refine(ae<|if_pos rfl)▸(ae this)▸?_)
  have B:n=aa (av G):=by simpa using h.symm
  refine(ae B)▸?_;simp
 ·refine(ae (Py F ..))▸?_;have X:(p==([]:List UInt8))=false:=by simpa using F
  unfold dO;rw[HM (by exact cP<|bj [n,aa p,aa<|av G] [] [(1,.a aJ bf,ct),(1,xi ct,aJ)] rfl<|cl<|an<|ae h),fH (by rw[hJ];exact cP<|bj [aa<|av G,n,aa p,aa (av G)-n] [] [(1,aJ,.a bf ct),(1,.a ig bf,aJ),(1,xi ct,ig)] rfl (cl<|an h)<|cl<|an<|bP<|cP<|bj [n,aa p,aa<|av G] [] [(1,.a aJ bf,ct),(1,xi ct,aJ)] rfl<|cl<|an<|ae h),X,aaR,decide_eq_true h.symm,Bool.true_or,Bool.and_true]
theorem YO (h:n∈sU G p):1<=n:=by
 unfold sU at h;split at h
 ·rcases eB.mp h with h|h
  ·have:=kv G 1 n h;exact cP<|bj [n] [] [(1,ia,aJ),(1,xi aJ,ia)] rfl<|cl this.1
  ·rw[aU] at h;exact cP<|bj [aa<|av G,n] [] [(1,xi aJ,bf),(1,xi bf,ia)] rfl<|cl<|an<|ae h
 ·refine aH (b2.mp h) λm _ S=>?_;subst S;exact cg _ _
theorem YP (u:dA G):aa (sU G p)<=101:=by
 have E:=f4 (dO G p)<|dj 0 G
 rw[eK] at E;have:=fQ G;have:=u.len;unfold sU;split
 ·rw[aI,eK];simp;exact vD ‹_› ‹_› (by rfl)
 ·rw[aB];unfold eU;exact aM (aM (by assumption)<|aM (by assumption)<|by assumption)<|by decide
def seV (G:List Tk) (p:List UInt8) (x:Ix) (q:PV) (l:Option PV) (r:Option PV):bN:=[ab<|.bytes<|av G,ab<|.bytes p,ab x.p,ab<|a0<|av G,ab<|a0 p,ab<|.lst<|dC<|sU G p,ab<|.int x.w,ab q,l,r,al,al,al,al,al,al]
theorem y2 (o p) (x:Ix):gS [a0 o,a0 p,x.p]=true:=by simp[fi,f9,lu,lw,iV,lx,a0,cV,gU]
theorem KP (l) (w:Int):lF .In (.int w) (.lst<|dC l) H=.ok (l.any λn:Nat=>decide<|(n:Int)=w) H:=td l w
theorem HD (u:dA G) (N:aa p<=100) (A:cZ H=ao) (x:Ix):∃D,iN 1088 [.bytes<|av G,.bytes p,x.p] H=.ok (.lst D) H/\jT D/\aa D=6:=by
 have W:=fQ G;have E:=u.len;have C:p.length<=1000:=(kz ‹_› (by rfl));have hpl:=YP (p:=p) u;have X:p≠[]->(!(p==([]:List UInt8)))=true:=λh=>by simpa using h
 obtain⟨q,l,hd,k⟩:∃q l,fR (oQ 7) dF [CS.fc (N2 (cI 1) [agR,agR] [pM,nP ah ny (aku eN [cy])<|cI 1]) [CS.assign 8<|CE.fc (N2 ck [yp] [cB []]) (aju ck pv [al,al,ab 6] [1] ao [N2 ck [CmpOp.GtE] [dE]])<|ajt ah [pM],CS.assign 7<|CE.fc (N2 xy [yp] [ajt ah []]) (XQ 1031 [CE.sub xy<|cI 0])<|amE [Yj]] []]
  (seV G p x (cQ (av G) x) al al) H=.ok (.next,seV G p x q l al) H/\gJ (.tup [cV "text_find",.tup [a0<|av G,a0 p,x.p],q]):=by
  by_cases h:1<=x.w/\x.w<=(av G).length+1
  ·obtain⟨b,R⟩:∃b:Nat,x.w=b+1:=⟨(x.w-1).toNat,by exact cD (dr<|bj [(x.w-1).toNat] [x.w] [(1,.s cz ia,aJ),(1,xi<|xi aJ,cz)] rfl<|aT<|ae<|bA<|dr<|bj [] [x.w] [(1,ia,cz),(1,xi<|.s cz ia,ef)] rfl h.1)<|dr<|bj [(x.w-1).toNat] [x.w] [(1,aJ,.s cz ia),(1,xi cz,xi aJ)] rfl<|aT<|bA<|dr<|bj [] [x.w] [(1,ia,cz),(1,xi<|.s cz ia,ef)] rfl h.1⟩;have d:x.room=true:=sS<|by exact⟨dr<|bj [] [x.w] [(1,ia,cz),(1,xi cz,.g ia)] rfl h.1,dr<|bj [(av G).length] [x.w] [(1,aJ,.n 100),(1,cz,xi aJ),(1,xi<|.n 2000,cz)] rfl (cl E) h.2⟩
   by_cases F:p=[]
   ·subst F;refine⟨r5 [b+1],ab<|.lst<|dC [b+1],eQ (c:=ao) (gs rfl rfl (bn (dy rfl u.z) rfl rfl)<|decide_eq_true h) (bT (dZ (a7 rfl rfl rfl)<|iA (l:=dC [b+1]) (ac (show _=dt (dq ((b+1:Nat):Int)) H by show dt (dq x.w) H=_;refine(ae R)▸?_;rfl) aq)<|by simp[dC])<|bT (Di (l:=[b+1]) A rfl (by simp)<|by kernel_rfl) bH) bH,.mk _ _ _ _ rP ?_ rfl (y2 _ _ _)⟩;have:=Ku (o:=av G) (p:=[]) (x:=x) (r:=b+1) d<|by refine(ae R)▸?_;exact Bt u fm b<|by exact cP<|bj [(av G).length,b] [x.w] [(1,cz,xi aJ),(1,xi bf,cz),(1,xi aJ,bf)] rfl h.2<|aT<|ae R
    unfold lD at this;rw[if_pos<|by exact dr<|bj [b] [] [(1,xi<|xi aJ,xi ef)] rfl] at this;exact this
   ·refine aH (J3 u F C b<|by exact cP<|bj [(av G).length,b] [x.w] [(1,cz,xi aJ),(1,xi bf,cz),(1,xi aJ,bf)] rfl h.2<|aT<|ae R) λr h4 U=>?_;refine⟨_,ab<|.lst<|dC ((sU G p).filter λn:Nat=>decide<|x.w<=n),eQ (c:=ao) (gs rfl rfl (bn (dy rfl u.z) rfl rfl)<|decide_eq_true h) (bT (eY (a7 rfl rfl<|by(refine ag nM ?_;rw[X F]))<|sd (l:=sU G p) (g:=λn:Nat=>.int n) (f:=λn:Nat=>.int n) (P:=λn:Nat=>decide<|x.w<=n) (nb rfl) rfl (kz ‹_› (by rfl)) λn _=>⟨_,rfl,a7 rfl rfl<|jv rfl,λ_=>rfl⟩)<|bT (Di (l:=(sU G p).filter λn:Nat=>decide<|x.w<=n) A rfl (by have:=f4 (λn:Nat=>decide<|x.w<=n)<|sU G p;exact vD ‹_› ‹_› (by rfl))<|by kernel_rfl) bH) bH,.mk _ _ _ _ rP ?_ (zs _ _) (y2 _ _ _)⟩
    (refine(ae R)▸?_;refine(U)▸?_)
    exact Ku d<|by refine(ae R)▸?_;exact h4
  ·refine⟨cQ (av G) x,al,eQ (c:=ah) (gs rfl rfl (bn (dy rfl u.z) rfl rfl)<|decide_eq_false h) bH bH,.mk _ _ _ _ rP ?_ (lE _ _ _) (y2 _ _ _)⟩
   cases d:x.room with
   |false=>exact Ra d
   |true=>exact Q8 d (MU u fm _ h) (eX rfl)<|by(refine ag jz ?_;rw[ox d])
 obtain⟨i,J,Y⟩:∃i,bo (oQ 7) (CE.fc (N2 ck [yp] [cB []]) (amE [ki,CE.gb pL (cB [120,121]) [XQ 1083 [cy,ck]]])<|amE [El]) (seV G p x q l al) H=.ok i H/\gJ (.tup [cV "text_replaced",.tup [a0<|av G,a0 p,a0 [120,121]],i]):=by
  by_cases F:p=[]
  ·subst F;exact⟨j0 mU,dZ (a7 rfl rfl rfl) rfl,.mk _ _ _ _ uK (TB (Cr fm) rfl<|qp wv) rfl rfl⟩
  ·have O:=Dr (p:=p) u;exact⟨a0<|oj [120,121]<|AE G p,eY (a7 rfl rfl<|by(refine ag nM ?_;rw[X F])) (bw (ac rfl<|ac (iQ rfl rfl (ac (bV (ac rfl<|ac rfl aq) (by kernel_rfl)<|TH u F C A) aq)<|u4 (λb R=>by have:=O.1 b R;exact kz ‹_› (by rfl)) (by exact cP<|bj [(AE G p).length] [] [(1,aJ,.n 101),(1,xi<|.n 200,aJ)] rfl<|cl O.2)<|by simp) aq)<|by simp),.mk _ _ _ _ uK (YK<|EV u F C fm<|by simp) rfl rfl⟩
 refine aH (TM (p:=p) u C) λr2 T q2=>?_;refine aH (TL (p:=p) u C) λS L q3=>?_;have j:gJ (.tup [cV "text_find",.tup [a0<|av G,a0 p],r5<|sU G p]):=.mk _ _ _ _ rP (q2▸Q9 T) (zs _ _) rfl;have v:gJ (.tup [cV "text_find_last",.tup [a0<|av G,a0 p],wZ<|sU G p]):=.mk _ _ _ _ Ar (q3▸Q7 L) (MR _ _) rfl;have I:gJ (.tup [cV "text_starts",.tup [a0<|av G,a0 p],sv ((sU G p).any λm:Nat=>decide<|(m:Int)=1)]):=.mk _ _ _ _ Hr (LB<|LD G p▸yE u C fm) rfl rfl
 have Z:gJ (.tup [cV "text_ends",.tup [a0<|av G,a0 p],sv ((sU G p).any λm:Nat=>decide<|(m:Int)=(av G).length-p.length+1)]):=by
  refine .mk _ _ _ _ Pg (U5 ?_) rfl rfl;by_cases h:(av G).length<p.length
  ·rw[show((sU G p).any λm:Nat=>decide<|(m:Int)=(av G).length-p.length+1)=ah from lU.mpr λm t=>by
    have:=YO t
    rw[decide_eq_true_eq];exactλM=>bj [(av G).length,p.length,m] [] [(1,xi aJ,bf),(1,ia,ct),(1,ct,xi<|.s aJ bf)] rfl (cl h) (cl this)<|aT M]
   exact Df u C fm h
  ·have B:(av G).length=((av G).length-p.length)+p.length:=by exact cf (cP<|bj [(av G).length,(av G).length-p.length,p.length] [] [(1,aJ,.a bf ct),(1,xi<|.a bf ct,aJ)] rfl<|cl<|an<|ae<|bP<|cP<|bj [p.length,(av G).length] [] [(1,aJ,bf),(1,xi bf,aJ)] rfl<|cl<|cW.mp h) (cP<|bj [(av G).length-p.length,p.length,(av G).length] [] [(1,.a aJ bf,ct),(1,xi ct,.a aJ bf)] rfl<|cl<|an<|bP<|cP<|bj [p.length,(av G).length] [] [(1,aJ,bf),(1,xi bf,aJ)] rfl<|cl<|cW.mp h)
   have e:=U6 B
   (refine(ae<|show(((av G).length:Int)-p.length+1)=(((av G).length-p.length:Nat):Int)+1 by exact cD (dr<|bj [(av G).length,(av G).length-p.length,p.length] [] [(1,aJ,.a bf ct),(1,xi<|xi bf,xi<|.s aJ ct)] rfl<|cl<|an B)<|dr<|bj [(av G).length-p.length,p.length,(av G).length] [] [(1,.a aJ bf,ct),(1,xi<|xi<|.s ct bf,xi aJ)] rfl<|cl<|an<|ae B)▸?_;refine(e)▸?_)
   exact De u C fm B
 have Q:=XR k<|.cons j<|.cons v<|.cons I<|.cons Z<|.cons Y .nil
 refine⟨_,?_,Q,rfl⟩;rw[ab3 rfl];refine aE (aK (V:=seV G p x q l<|ab i) ?_) A Q.gS;refine iT (y:=[a0<|av G,a0 p,.lst<|dC<|sU G p]) (ac (bw (ac rfl<|ac rfl aq)<|by simp)<|ac (bw (ac rfl<|ac rfl aq)<|by simp)<|ac (bV (ac rfl<|ac rfl aq) (by kernel_rfl)<|yT u C A) aq) ⟨rfl,by simp⟩ ?_;refine iT (y:=[.int x.w,cQ (av G) x]) (ac (bV (ac rfl aq) (by kernel_rfl)<|eA A x)<|ac (bV (ac rfl<|ac rfl aq) (by kernel_rfl)<|xU A x) aq) ⟨rfl,by simp⟩ ?_;refine(ve hd).trans ?_;refine bT J ?_
 exact bG (iA (ac (bw (ac rfl<|ac (bw (ac rfl<|ac rfl<|ac rfl aq)<|by simp)<|ac rfl aq)<|by simp) (ac (bw (ac rfl<|ac (bw (ac rfl<|ac rfl aq)<|by simp)<|ac (Di A rfl (kz ‹_› (by rfl))<|by kernel_rfl) aq)<|by simp) (ac (bw (ac rfl<|ac (bw (ac rfl<|ac rfl aq)<|by simp)<|ac (ZV A rfl<|by kernel_rfl) aq)<|by simp)
  (ac (bw (ac rfl<|ac (bw (ac rfl<|ac rfl aq)<|by simp)<|ac (bw (ac rfl<|ac (oq rfl rfl<|KP _ _) aq)<|by simp) aq)<|by simp)<|ac (bw (ac rfl<|ac (bw (ac rfl<|ac rfl aq)<|by simp)<|ac (bw (ac rfl<|ac (oq (bn (bn (dy rfl u.z) (dy rfl C) rfl) rfl rfl) rfl<|KP _ _) aq)<|by simp) aq)<|by simp)<|ac (bw (ac rfl<|ac (bw (ac rfl<|ac rfl<|ac (bw (ac rfl<|ac rfl aq)<|by simp) aq)<|by simp)<|ac rfl aq)<|by simp) aq))))<|by simp)
theorem A1:∀D:List Nat,EE (D.map λc=>.str [c])=ab (D.map λc=>[c])
 |[]=>rfl
 |c::D=>by show(EE<|D.map λc=>.str [c]).map _=_;refine(ae<|A1 D)▸?_;rfl
theorem Mt (cs):Qs [] (cs.map λc=>[c])=cs:=by
 have h:∀(r:List Nat) (S:Array Nat),((r.map λc=>[c]).map λb=>(⟨af b⟩:am)).foldl (λS p=>S++#[]++p.cps) S=S++af r:=by
  intro r
  induction r with
  |nil=>intro S;simp
  |cons c r o=>intro S;rw[bu,bu,nY,o];simp
 induction cs with
 |nil=>rfl
 |cons c r=>show(((r.map λc=>[c]).map λb=>(⟨af b⟩:am)).foldl (λS p=>S++#[]++p.cps) #[c]).toList=_;refine(ae (h ..))▸?_;simp
theorem Ih (D:List Nat) (N:aa D<=1000):JoinOk ⟨af ([]:List Nat)⟩ (sN<|D.map λc=>[c])=true:=by
 have h:∀(r:List Nat) (k:Nat),(sN<|r.map λc=>[c]).foldl (· +·.length+(⟨([]:List Nat).toArray⟩:am).length) k=k+aa r:=by
  intro r
  induction r with
  |nil=>intro k;rfl
  |cons c r o=>
   intro k;unfold sN at o|-
   rw[bu,bu,nY,o];show k+1+0+aa r=k+(aa r+1);exact cf (cP<|bj [k,aa r] [] [(1,xi<|.a aJ<|xi bf,.a (.a (xi aJ) ef) bf)] rfl)<|cP<|bj [k,aa r] [] [(1,xi<|.a (.a (xi aJ) ef) bf,.a aJ<|xi bf)] rfl
 unfold JoinOk ajr
 (refine(ae (vF ..))▸(ae (h ..))▸(ae (fO ..))▸?_)
 have:¬(aa D>i5):=by exact(ae bg)▸λM=>bj [aa D] [] [(1,aJ,.n 1000),(1,xi<|.n 16777216,aJ)] rfl (cl N)<|cl M
 simp[this]
theorem Mu (D) (N:aa D<=1000):zh (.str []) [.lst<|D.map λc=>.str [c]] H=.ok (.str D) H:=by show bJ (EE<|D.map λc=>.str [c]) (λI=>if JoinOk ⟨af ([]:List Nat)⟩ (sN I)=ao then ax (PV.str<|Qs [] I) else aP) H=_;refine(ae (A1 ..))▸?_;refine ag (congrFun (if_pos<|Ih D N) H) ?_;refine(ae (Mt ..))▸?_;rfl
theorem ag5 {p:Nat} {o:List UInt8} (h:o[p]?=ab 97):fS (af o) p=(.char 97,p+1):=by
 have:o.toArray.getD p 0=97:=by simp[oN,h]
 unfold fS;refine(ae this)▸?_;rfl
theorem ag4 {p:Nat} {o:List UInt8} (h:o[p]?=ab 0xC3) (J:o[p+1]?=ab 0xA9):fS (af o) p=(.char 233,p+2):=by
 have:o.toArray.getD p 0=0xC3:=by simp[oN,h]
 unfold fS;refine(ae this)▸?_;simp[la,J,aaN]
theorem ag3 {p:Nat} {o:List UInt8} (h:o[p]?=ab 0xE2) (J:o[p+1]?=ab 0x82) (W:o[p+2]?=ab 0xAC):fS (af o) p=(.char 8364,p+3):=by
 have:o.toArray.getD p 0=0xE2:=by simp[oN,h]
 unfold fS;rw[this];simp[la,J,W,aaN]
theorem Z1:∀q p,G=p++q->CJ q=ao->∀f J,aa q<=f->amD (af<|av G) f (aa<|av p) J=ab (J++q.map λt=>t.code.toNat,aa<|av G):=by
 intro q
 induction q with
 |nil=>
  intro p e _ f J _;rw[fh] at e;subst e
  (refine(ae rG)▸(ae (fh ..))▸?_)
  induction f with
  |zero=>rfl
  |succ f=>exact if_pos<|bS _
 |cons t q o=>
  intro p e h f J Y;cases f with|zero=>exact absurd Y (Nat.not_succ_le_zero _)|succ f=>?_
  have C:aa (av p)<aa (av G):=by(refine(ae e)▸(ae sW)▸?_);have:=n0 t;exact cP<|bj [aa t.b,aa<|av p,aa<|av q] [] [(1,ia,aJ),(1,xi<|.a (.a bf aJ) ct,xi bf)] rfl<|cl this
  simp only[CJ,nr,bt] at h;have o:=o (p++[t]) (by refine ag e ?_;simp) h.2 f (J++[t.code.toNat])<|Nat.le_of_succ_le_succ Y
  have V:fS (af<|av G) (aa<|av p)=(.char t.code.toNat,aa (av p)+aa t.b):=by
   have at_:∀k,k<aa t.b->(av G)[aa (av p)+k]?=t.b[k]?:=λk z=>by exact(ae e)▸pF k z
   induction t with
   |a=>exact ag5<|at_ 0<|by decide
   |e=>exact ag4 (at_ 0<|by decide)<|at_ 1<|by decide
   |u=>exact ag3 (at_ 0<|by decide) (at_ 1<|by decide)<|at_ 2<|by decide
   |c=>exact absurd h.1<|by decide
   |n=>exact absurd h.1<|by decide
  show MB.Dp _ (amD _ f) _ _=_;unfold MB.Dp
  (refine ag (if_neg<|by simpa using C)<|(ae V)▸?_)
  show amD (af<|av G) f (aa (av p)+aa t.b) (J++[t.code.toNat])=_;rw[pa,aI,show aa (av [t])=(aa t.b) by simp[av]] at o;refine ag o ?_;simp
theorem M9 (u:dA G) (T:G≠[]) (h:CJ G=ao):vn (.bytes<|av G) [.str [117,116,102,45,56]] H=.ok (.str<|G.map λt=>t.code.toNat) H:=by
 have N:=fQ G;have:=u.len;have g:=Z1 (G:=G) G [] rfl h (aa<|av G) [] N
 cases L:av G with
 |nil=>
  induction G with
  |nil=>exact absurd rfl T
  |cons t r=>have:=n0 t;have e:=congrArg aa L;rw[show av (t::r)=t.b++av r from rfl,aI,d7] at e;exact absurd (aM this<|aM (cn ..)<|an e)<|by decide
 |cons c D=>
  rw[L] at g;have e:vn (.bytes<|c::D) [.str [117,116,102,45,56]] H=(if[117,116,102,45,56]=MB.u8W/\(c::D).length<=16777216/\c::D≠[] then bJ (amD (c::D).toArray (c::D).toArray.size 0 []) (λr=>if r.1.length<=16777216 then ax (.str r.1) else aP) else aP) H:=rfl;have C:aa (c::D)<=100:=by exact(L)▸this
  rw[e,if_pos ⟨rfl,kz ‹_› (by rfl),nofun⟩];have f:amD (c::D).toArray (c::D).toArray.size 0 []=ab (G.map λt=>t.code.toNat,(c::D).length):=g;rw[f];exact congrFun (if_pos<|by rw[aB];exact vD ‹_› ‹_› (by rfl)) H
theorem LI (G):((G.map λt=>.int t.shown).any λq=>mK 8 q (.int 65533)==ab ao)=!(CJ G):=by
 unfold CJ
 (refine ag rH<|(ae List.not_all_eq_any_not)▸?_)
 congr 1;funext t;cases t<;>rfl
theorem O9 (G):lF .NotIn (.int 65533) (.lst<|G.map λt=>.int t.shown) H=.ok (CJ G) H:=by have e:lF .NotIn (.int 65533) (.lst<|G.map λt=>.int t.shown) H=(if(G.map λt=>dq t.shown).all (λq=>(mK 8 q<|.int 65533).isSome) then ax ((G.map λt=>dq t.shown).any (λq=>mK 8 q (.int 65533)==ab ao)!=ao) else aP) H:=rfl;rw[e,if_pos (cm.mpr λq L=>by refine aH (b2.mp L) λn _ S=>?_;subst S;rfl),LI];show dt _ H=_;simp
theorem Gp (G):∃n,(0::dj 1 G).getLast?=ab n/\(n:Int)=rQ G (aa<|av G)+1:=by refine aH (KQ G<|aa (av G)+1) λn J W=>⟨n,?_,by(refine ag W ?_;rw[co])⟩;refine(J)▸?_;unfold zT;rw[NQ.mpr λn B=>?_];have:=kv G 1 n B;exact decide_eq_true<|by exact dr<|bj [n,aa<|av G] [] [(1,xi aJ,.a ia bf),(1,xi<|xi bf,xi aJ)] rfl<|cl this.2
theorem CT (f) (Y:∀t,aa (f t)<=4) (N:aa G<=100):zh (.bytes []) [.lst<|G.map λt=>.bytes<|f t] H=.ok (.bytes (G.map f).flatten) H:=by
 have:=u4 (H:=H) (d:=[]) (I:=G.map f) (λb R=>by
  refine aH (b2.mp R) λt _ S=>?_;subst S
  have:=Y t;exact kz ‹_› (by rfl)) (by exact(ae (aB ..))▸(kz ‹_› (by rfl)))<|by simp
 rw[gO,sZ] at this;exact this
theorem ad6 {j:Nat} (A:cZ H=ao) (t:Tk) (C:bo (oQ j) ck V H=.ok (.bytes t.b) H) (G:((rr.take j).all λf=>decide<|(1024:bk)≠f.addr)=ao):
 bo (oQ j) (.fc (.cmp (.az 1024 [ck]) [.NotEq] [cI 65533]) ck<|.fc (.cmp ck [.Eq] [cB [195]]) (cB [92,120,99,51])<|cB [92,120,97,57]) V H=.ok (.bytes t.Ad) H:=by
 have z:=λ{c:Bool} (P:(!decide (t.shown=65533))=c)=>a7 (bV (ac C aq) G<|yU A t) (show bo (oQ j) (.const<|.int 65533) V H=_ from rfl)<|KJ P
 induction t with
 |a=>exact eY (z rfl) C
 |e=>exact eY (z rfl) C
 |u=>exact eY (z rfl) C
 |c=>exact dZ (z rfl)<|eY (a7 C rfl rfl) rfl
 |n=>exact dZ (z rfl)<|dZ (a7 C rfl rfl) rfl
def whV (G:List Tk) (O:Option PV):bN:=[ab<|.bytes<|av G,ab<|a0<|av G,ab<|.lst<|dB G,ab<|.lst<|dC<|dj 1 G,ab<|.lst<|G.map λt=>.int t.shown,ab<|.bool<|CJ G,ab<|.bytes (G.map rB).flatten,O,al,al,al,al]
theorem Fa:∀{G},CJ G=ao->(G.map λt=>.str [t.shown.toNat])=(G.map λt=>t.code.toNat).map λc=>PV.str [c]
 |[],_=>rfl
 |t::r,h=>by simp only[CJ,nr,bt] at h;rw[bu,bu,bu,Fa h.2];congr 3;cases t<;>first|rfl|exact absurd h.1<|by decide
theorem TU (h:CJ G=ao) (z:t∈G):0<=t.code:=by unfold CJ at h;simpa using cm.mp h t z
theorem LP (u:dA G) (A:cZ H=ao):∃D,iN 1093 [.bytes<|av G] H=.ok (.lst D) H/\jT D/\aa D=6:=by
 have W:=fQ G;have E:=u.len;have Y:=yb G
 obtain⟨O,B,e⟩:∃O,bo (oQ 2) (.fc (.bool ao [pv,.cmp kX [.NotEq] [.list ah []]]) (.tup [cS [115,121,109],.gb pL (cS []) [.comp (.bv Vq [ck]) kX [al,al,al] [1] ao []]])<|.tup [El]) (whV G al) H=.ok O H/\gJ (.tup [cV "symbol_of",.tup [a0<|av G],O]):=by
  have C:∀{c:Bool},CJ G=c->jW (oQ 2) pv (whV G al) (bo (oQ 2) pv<|whV G al) H=.ok c H:=λ{c} P=>fg (a:=.bool c) (by refine(P)▸?_;rfl) rfl;have S:=a7 (B:=oQ 2) (V:=whV G al) (l:=.loc 4) rfl (iA aq<|by simp)<|HR (H:=H)<|G.map λt=>dq t.shown
  cases L:CJ G with
  |false=>exact⟨j0 mU,dZ (l0<|C L) rfl,.mk _ _ _ _ tU (JM u<|.inr L) rfl rfl⟩
  |true=>
   by_cases T:G=[]
   ·exact⟨j0 mU,dZ (j6 (C L)<|ja<|S.trans<|by refine(ae T)▸?_;rfl) rfl,.mk _ _ _ _ tU (JM u<|.inl T) rfl rfl⟩
   ·have X:(av G==([]:List UInt8))=false:=by
     induction G with
     |nil=>exact absurd rfl T
     |cons t r=>cases t<;>rfl
    refine⟨.tup [cV "sym",.str<|G.map λt=>t.code.toNat],eY (j6 (C L)<|ja<|S.trans<|by rw[show(G.map λt=>dq t.shown).isEmpty=ah by simpa using T];rfl) (bw (ac rfl<|ac (iQ rfl rfl (ac (sb (l:=G) (g:=λt=>.int t.shown) (f:=λt=>.str [t.shown.toNat]) (nb rfl) rfl (vD ‹_› ‹_› (by rfl)) λt z=>⟨_,rfl,dJ (ac rfl aq) ?_⟩) aq) ?_) aq)<|by simp),.mk _ _ _ _ tU (Yx u X L<|M9 u T L) rfl rfl⟩
    ·have:=TU L z;cases t<;>first|rfl|exact absurd this<|by decide
    ·rw[Fa L];exact Mu (G.map λt=>t.code.toNat)<|by rw[aB];exact vD ‹_› ‹_› (by rfl)
 refine aH (Gp G) λm d h=>?_;have k:gJ (.tup [cV "text_length",.tup [a0<|av G],l8 G.length]):=.mk _ _ _ _ Ht (Mj u) rfl rfl;have j:gJ (.tup [cV "text_last",.tup [a0<|av G],l8 m]):=.mk _ _ _ _ Pf (h▸Ul u) rfl rfl;have v:gJ (.tup [cV "text_is_valid",.tup [a0<|av G],sv<|CJ G]):=.mk _ _ _ _ Cp (Ow u) rfl rfl;have I:gJ (.tup [cV "text_reversed",.tup [a0<|av G],a0<|av G.reverse]):=.mk _ _ _ _ Co (ES u) rfl rfl;have Z:gJ (.tup [cV "text_written",.tup [a0<|av G],a0<|Ym G]):=.mk _ _ _ _ EM (GT u) rfl rfl;have Q:=XR k<|.cons j<|.cons v<|.cons I<|.cons Z<|.cons e .nil
 refine⟨_,?_,Q,rfl⟩
 have i:zh (.bytes []) [.lst (dB G).reverse] H=.ok (.bytes<|av G.reverse) H:=by
  have:=CT (H:=H) (G:=G.reverse) SG (λt=>by have:=yx t;exact kz ‹_› (by rfl))<|by refine(ae kE)▸?_;exact vD ‹_› ‹_› (by rfl)
  rw[uP] at this;refine(ae<|show(dB G).reverse=G.reverse.map λt=>.bytes t.b by simp[dB])▸?_;exact this
 have J:eN [.lst<|dB G] H=.ok (.int G.length) H:=(Bi<|by simp[dB];exact vD ‹_› ‹_› (by rfl)).trans<|by simp[dB]
 rw[ab2 rfl];refine aE (aK (V:=whV G<|ab O) ?_) A Q.gS;refine iT (y:=[a0<|av G,.lst<|dB G,.lst<|dC<|dj 1 G]) (ac (bw (ac rfl<|ac rfl aq)<|by simp)<|ac (bV (ac rfl aq) (by kernel_rfl)<|tV u A)<|ac (bV (ac rfl aq) (by kernel_rfl)<|l5 u A) aq) ⟨rfl,by simp⟩ ?_;refine bT (sb (l:=G) (g:=λt=>.bytes t.b) (f:=λt=>.int t.shown) (nb rfl) rfl (vD ‹_› ‹_› (by rfl)) λt _=>⟨_,rfl,bV (ac rfl aq) (by kernel_rfl)<|by exact yU A t⟩) ?_;refine bT (oq rfl rfl<|O9 G) ?_;refine bT (iQ rfl rfl (ac (sb (l:=G) (g:=λt=>.bytes t.b) (f:=λt=>.bytes t.Ad) (nb rfl) rfl (vD ‹_› ‹_› (by rfl)) λt _=>⟨_,rfl,ad6 A t rfl<|by kernel_rfl⟩) aq)<|by exact CT rB ID<|vD ‹_› ‹_› (by rfl)) ?_;refine bT B ?_
 exact bG (iA (ac (bw (ac rfl<|ac (bw (ac rfl aq)<|by simp)<|ac (bV (ac (dJ (ac rfl aq) J) aq) (by kernel_rfl)<|o7 A _) aq)<|by simp) (ac (bw (ac rfl<|ac (bw (ac rfl aq)<|by simp)<|ac (bV (ac (bx (bn (iA (l:=dC [0]) (ac rfl aq)<|by simp[dC]) rfl<|(BP<|by simp[dC,eK];exact cP<|bj [G.length,(av G).length] [] [(1,aJ,bf),(1,bf,.n 100),(1,xi<|.n 1000,.a ia aJ)] rfl (cl W)<|cl E).trans<|congrArg (λl=>dt (amC l) H)<|xY [0]<|dj 1 G) mv<|sub_neg<|vW d) aq) (by kernel_rfl)<|o7 A _) aq)<|by simp)
  (ac (bw (ac rfl<|ac (bw (ac rfl aq)<|by simp)<|ac (bw (ac rfl<|ac rfl aq)<|by simp) aq)<|by simp) (ac (bw (ac rfl<|ac (bw (ac rfl aq)<|by simp)<|ac (bw (ac rfl<|ac (iQ rfl rfl (ac (il rfl rfl rfl mv<|pP rfl nofun (by simp[dB];exact vD ‹_› ‹_› (by rfl))) aq) i) aq)<|by simp) aq)<|by simp)
  (ac (bw (ac rfl<|ac (bw (ac rfl aq)<|by simp)<|ac (bw (ac rfl<|ac (bn (bn rfl rfl<|te<|by simp only[bL,d7];exact cP<|bj [G.length,(av G).length,(rl rB G).flatten.length] [] [(4,aJ,bf),(4,bf,.n 100),(1,ct,.m 4 aJ),(1,xi<|.n 1000,.a (xi ef) ct)] rfl (cl W) (cl E)<|cl Y) rfl<|te<|by simp only[bL,d7,aI];exact cP<|bj [G.length,(av G).length,(rl rB G).flatten.length] [] [(4,aJ,bf),(4,bf,.n 100),(1,ct,.m 4 aJ),(1,xi<|.n 1000,.a (.a (xi ef) ct)<|xi ef)] rfl (cl W) (cl E)<|cl Y) aq)<|by simp) aq)<|by simp)<|ac (bw (ac rfl<|ac (bw (ac rfl aq)<|by simp)<|ac rfl aq)<|by simp) aq)))))<|by simp)
noncomputable def ti (a b:Int):List PV:=[.int a,.int b]
inductive rg (H:Hp) (j:Nat):Prop
 |mk (a b:Int) (e:H[j]?=ab (ti a b)) (ha:0<=a) (hb:0<=b)
inductive gf (H:Hp) (j:Nat):Hp->Prop
 |mk (a b:Int) (ha:0<=a) (hb:0<=b):gf H j (H.set j (ti a b))
theorem gf.at_ (h:gf H j i) (v:rg H j):rg i j:=by
 induction h with
 |mk a b I R=>obtain⟨_,_,e,_,_⟩:=v;have:=(aA.mp e).1;exact⟨a,b,by rw[cH this],I,R⟩
theorem gf.trans (h:gf H j i) (G:gf i j H''):gf H j H'':=by
 induction h with
 |mk a b I R=>
  induction G with
  |mk c d P g=>exact(ae (abe ..))▸.mk c d P g
theorem gf.refl (v:rg H j):gf H j H:=by
 obtain⟨a,b,e,I,R⟩:=v;have h:=gf.mk (H:=H) (j:=j) a b I R;refine bd (aA.mp e) λQ V=>?_
 rwa [<-V,List.set_getElem_self] at h
theorem TV (h:cZ H=ao) (n:gS l=ao):cZ (H.set j l)=true:=by
 unfold cZ at*;rw[cm] at*;intro x T;rcases List.mem_or_eq_of_mem_set T with q|q
 ·exact h x q
 ·exact(ae q)▸n
theorem gf.ok (h:gf H j i) (A:cZ H=ao):cZ i=true:=by
 induction h with
 |mk a b I R=>exact TV A rfl
theorem gf.len (h:gf H j i):aa i=aa H:=by
 induction h with
 |mk a b I R=>rw[d6]
theorem gf.get (h:gf H j Z) (n:i≠j):Z[i]?=H[i]?:=by
 induction h with
 |mk a b I R=>rw[dQ<|jm n]
theorem mR (h:m H=.ok p H') (d:gf H j H') (A:cZ H=ao) (F:i8 p=ao):iH ah m H=.ok p H':=by
 have e:H'.take (aa H)=H':=by(refine(d.len)▸?_;rw[fy])
 have:=zL h (by exact(ae e)▸d.ok A) F
 rwa [e] at this
theorem Wj {j k:Nat} (f:bo B v V H=.ok p H) (L:bo B o V H=.ok (.dR j) H) (D:bo B i V H=.ok (.int k) H) (e:H[j]?=ab y) (z:k<aa y) (N:aa y<=1000)
 (c:fR B Q l V (H.set j<|y.set k p)=r):fR B Q (.setItem o i v::l) V H=r:=by
 refine fg (fg f<|fg L<|fg D<|fg (a:=()) ?_ rfl) c;show(match H[j]? with|some l=>if 0<=(k:Int)/\(k:Int)<aa l/\aa l<=16777216 then dt () (H.set j<|l.set (k:Int).toNat p) else .stuck|none=>.stuck)=_;refine(ae e)▸?_;dsimp only
 (refine ag (if_pos ⟨by exact bB _,by exact cJ.mpr (by assumption),kz ‹_› (by rfl)⟩) ?_;rw[ek])
theorem ya {b:Int} (a:Int) (R:0<b):0<=h8 a b/\h8 a b<b:=by rw[Int.fmod_eq_emod_of_nonneg _ (by exact dr<|bj [] [b] [(1,xi ef,cz),(1,xi cz,ef)] rfl R)];exact⟨Int.emod_nonneg _ (afS R),Int.emod_lt_of_pos _ R⟩
theorem U0 {a b:Int} (I:0<=a) (R:0<b):0<=rz a b:=by rw[Int.fdiv_eq_ediv_of_nonneg _ (by exact dr<|bj [] [b] [(1,xi ef,cz),(1,xi cz,ef)] rfl R)];exact Int.ediv_nonneg I<|by exact dr<|bj [] [b] [(1,xi ef,cz),(1,xi cz,ef)] rfl R
theorem vV {a b:Int} (R:0<b):CG ah .Mod (.int a) (.int b) H=.ok (.int<|h8 a b) H:=by show(if b=0 then aP else ax (dq<|h8 a b)) H=_;rw[if_neg<|by exactλM=>bj [] [b] [(1,xi ef,cz),(1,cz,ef)] rfl R<|aT M];rfl
theorem PI {a b:Int} (R:0<b/\b<=1000):CG ah .FloorDiv (.int a) (.int b) H=.ok (.int<|rz a b) H:=by show(if b=0\/1073741824<=b.natAbs then aP else ax (dq<|rz a b)) H=_;rw[if_neg λh=>h.elim (afS R.1) λh=>absurd (aM h<|dI.mp<|fP (aT<|Int.natAbs_of_nonneg<|sI R.1) R.2)<|by decide];rfl
theorem y8 {a b:Int} (h:ir b=ao):CG ah .Mult (.int a) (.int b) H=.ok (.int<|a*b) H:=by
 show(if(ir a||ir b)=ao then ax (dq<|a*b) else aP) H=_
 (refine(ae h)▸(ae (GO ..))▸?_);rfl
theorem Z0 (v:rg H j) (A:cZ H=ao) (m:Nat) (t:0<m/\m<=1000):∃(r:Nat) (H':Hp),iN 1000 [.dR j,.int m] H=.ok (.int r) H'/\r<m/\gf H j H':=by
 obtain⟨a,b,e,I,R⟩:=v;have c:∀{V:bN},bo (oQ 18) cy V H=.ok (.dR j) H->bo (oQ 18) (.sub cy<|.const<|.int 0) V H=.ok (.int a) H:=λh=>bx h rfl<|OS e rfl<|by simp[ti]
 have l:∀{V:bN},bo (oQ 18) cy V H=.ok (.dR j) H->bo (oQ 18) (.sub cy<|.const<|.int 1) V H=.ok (.int b) H:=λh=>bx h rfl<|OS e rfl<|by simp[ti]
 have Q:=(aA.mp e).1;by_cases h:0<a
 ·refine bC (ya a (b:=m)<|by exact dr<|bj [m] [] [(1,xi ef,aJ),(1,xi aJ,xi ef)] rfl<|cl t.1) λJ W=>?_;have g:=gf.mk (H:=H) (j:=j) (rz a m) b (U0 I<|by exact dr<|bj [m] [] [(1,xi ef,aJ),(1,xi aJ,xi ef)] rfl<|cl t.1) R;refine⟨(h8 a m).toNat,_,?_,((Int.toNat_lt' t.1).mpr W),g⟩
  (refine(ae<|bA J)▸?_;rw[Wy rfl])
  exact mR (aK<|kj (a7 (c rfl) rfl<|jg<|decide_eq_true h)<|bT (bn (c rfl) rfl<|vV<|by exact dr<|bj [m] [] [(1,xi ef,aJ),(1,xi aJ,xi ef)] rfl<|cl t.1)<|Wj (bn (c rfl) rfl<|PI<|by exact⟨dr<|bj [m] [] [(1,xi ef,aJ),(1,xi aJ,xi ef)] rfl<|cl t.1,dr<|bj [m] [] [(1,aJ,.n 1000),(1,xi<|.n 1000,aJ)] rfl<|cl t.2⟩) rfl rfl e (by simp[ti]) (by simp[ti])<|bG rfl) g A rfl
 ·refine bC (ya (b*239+4001) (b:=65327)<|by decide) λJ W=>bC (ya (rz (h8 (b*239+4001) 65327) 7)<|by exact dr<|bj [m] [] [(1,xi ef,aJ),(1,xi aJ,xi ef)] rfl<|cl t.1) λE X=>?_;have g:=gf.mk (H:=H) (j:=j) a (h8 (b*239+4001) 65327) I J;refine⟨(h8 (rz (h8 (b*239+4001) 65327) 7) m).toNat,_,?_,by exact cP<|bj [m,((((b*239+4001).fmod 65327).fdiv 7).fmod ↑m).toNat] [(((b*239+4001).fmod 65327).fdiv 7).fmod ↑m] [(1,xi cz,aJ),(1,bf,cz),(1,xi aJ,xi bf)] rfl X<|aT<|bA<|dr<|bj [] [(((b*239+4001).fmod 65327).fdiv 7).fmod ↑m] [(1,ef,cz),(1,xi cz,ef)] rfl E,g⟩;have i:(H.set j<|ti a<|h8 (b*239+4001) 65327)[j]?=ab (ti a<|h8 (b*239+4001) 65327):=by rw[cH Q]
  (refine(ae<|bA E)▸?_;rw[Wy rfl])
  exact mR (aK (eQ (a7 (c rfl) rfl<|jg<|decide_eq_false h) bH (Wj (bn (bn (bn (l rfl) rfl<|y8 rfl) rfl rfl) rfl<|vV<|by decide) rfl rfl e (by simp[ti]) (by simp[ti])
   (bG<|bn (bn (bx rfl rfl<|OS i rfl<|by simp[ti]) rfl<|PI<|by decide) rfl<|vV<|by exact dr<|bj [m] [] [(1,xi ef,aJ),(1,xi aJ,xi ef)] rfl<|cl t.1)))) g A rfl
theorem Bv {k:Nat} (v:rg H j) (A:cZ H=ao) {m:Nat} (t:0<m/\m<=1000) (T:bo (oQ k) x V H=.ok (.dR j) H) (J:bo (oQ k) y V H=.ok (.int m) H) (G:((rr.take k).all λf=>decide<|(1000:bk)≠f.addr)=ao):
 ∃(r:Nat) (H':Hp),bo (oQ k) (.az 1000 [x,y]) V H=.ok (.int r) H'/\r<m/\gf H j H':=by
 exact cL (Z0 v A m t) λr H' h d g=>⟨r,H',bV (ac T<|ac J aq) G h,d,g⟩
theorem canon:∀f,∃G,zY G/\av G=av f/\aa G<=aa f
 |[]=>⟨[],trivial,rfl,bS _⟩
 |t::r=>by
  refine gG (canon r) λG P L C=>?_
  have g:∀s,s≠.c->∃G,zY G/\av G=av (s::r)/\aa G<=aa (s::r):=λs Z=>by
   refine⟨s::G,?_,?_,by simp;assumption⟩
   ·cases s<;>first|exact absurd rfl Z|exact P
   ·show s.b++av G=s.b++av r;rw[L]
  induction t with
  |c=>
   induction G with
   |nil=>exact⟨[.c],trivial,by show[0xC3]++av []=[0xC3]++av r;rw[L],by simp⟩
   |cons s q=>
    induction s with
    |n=>refine⟨.e::q,(show zY q from zY.tail P),?_,by simp at C|-;exact cP<|bj [aa q,aa r] [] [(1,xi aJ,bf),(1,xi bf,aJ)] rfl<|cl C⟩;show[0xC3,0xA9]++av q=[0xC3]++av r;refine(L)▸?_;rfl
    |a=>exact⟨.c::.a::q,P,by show[0xC3]++av (.a::q)=[0xC3]++av r;rw[L],by simp at C|-;assumption⟩
    |e=>exact⟨.c::.e::q,P,by show[0xC3]++av (.e::q)=[0xC3]++av r;rw[L],by simp at C|-;assumption⟩
    |c=>exact⟨.c::.c::q,P,by show[0xC3]++av (.c::q)=[0xC3]++av r;rw[L],by simp at C|-;assumption⟩
    |u=>exact⟨.c::.u::q,P,by show[0xC3]++av (.u::q)=[0xC3]++av r;rw[L],by simp at C|-;assumption⟩
  |a=>exact g .a nofun
  |e=>exact g .e nofun
  |n=>exact g .n nofun
  |u=>exact g .u nofun
theorem HK:∀G,aa (av G)<=3*aa G
 |[]=>bS _
 |t::r=>by
  have:=HK r;have:=yx t
  (refine(ae<|show av (t::r)=t.b++av r from rfl)▸(ae aI)▸(ae bL)▸?_);exact cP<|bj [aa<|av r,aa r,aa t.b] [] [(1,aJ,.m 3 bf),(1,ct,.n 3),(1,xi<|.m 3<|xi bf,.a ct aJ)] rfl (cl<|by assumption)<|cl this
noncomputable def uZ:List Tk:=[.a,.e,.c,.n,.u]
def elO:CE:=.sub i6<|.az 1000 [kX,cI 5]
theorem F8 (u:∀k:PV,f0 (ru V [al,al,al,ab 2,ab 0]) [1] ao k=ab [al,ab k,al,ab<|.lst<|uZ.map λt=>.bytes t.b,ab<|.dR j]):∀M S H,rg H j->cZ H=ao->∃(f:List Tk) (i:Hp),hY (λp=>match f0 (ru V [al,al,al,ab 2,ab 0]) [1] ao p with
        |none=>aP
        |some d=>gV<|aw (w8 (oQ 17) [] d) λok=>if ok then aw (bo (oQ 17) elO d) λq=>ax (ab q) else ax al) M S H=.ok (S++f.map λt=>.bytes t.b) i/\aa f=aa M/\gf H j i
 |[],S,H,v,A=>⟨[],H,by simp[hY,ax],rfl,.refl v⟩
 |k::M,S,H,v,A=>by
  refine cL (Bv (k:=17) (V:=[al,ab k,al,ab<|.lst<|uZ.map λt=>.bytes t.b,ab<|.dR j]) (x:=.loc 4) (y:=.const<|.int 5) v A (by decide) rfl rfl rfl) λr E e X g=>?_;obtain⟨t,z⟩:∃t,uZ[r]?=ab t:=⟨_,aO X⟩;refine cL (F8 u M (S++[.bytes t.b]) E (g.at_ v)<|g.ok A) λf G Y C O=>?_;refine⟨t::f,G,?_,by simp[C],g.trans O⟩;refine fg (Z:=E) (a:=ab<|.bytes t.b) ?_ ?_
  ·dsimp only;refine(ae (u ..))▸?_;exact xX<|fg (m:=w8 (oQ 17) [] _) (a:=ao) rfl<|fg (m:=bo (oQ 17) elO _) (bx rfl e<|yA (by(refine ag bY ?_;refine(ae z)▸?_);rfl)<|by simp[uZ]) rfl
  ·dsimp only;refine ag Y ?_;simp
theorem Bb (v:rg H j) (A:cZ H=ao) (m:Nat) (Y:m<=20):∃(G:List Tk) (H':Hp),iN 1005 [.dR j,.int m] H=.ok (.bytes<|av G) H'/\zY G/\aa G<=m/\gf H j H':=by
 refine cL (Bv (k:=17) (V:=[ab<|.dR j,ab<|.int m,ab<|.lst<|uZ.map λt=>.bytes t.b,al,al]) (x:=.loc 0) (y:=.bin ah .Add ck<|.const<|.int 1) v A (by exact⟨cP<|bj [m] [] [(1,xi<|xi aJ,xi ef)] rfl,cP<|bj [m] [] [(1,aJ,.n 20),(1,xi<|.n 1000,xi aJ)] rfl<|cl Y⟩) rfl rfl rfl) λr H1 e d Z=>?_;have N:aa (el 0 r)=r:=by refine(ae (yS ..))▸?_;simp
 refine cL (F8 (V:=[ab<|.dR j,ab<|.int m,ab<|.lst<|uZ.map λt=>.bytes t.b,al,al]) (λ_=>rfl) (el 0 r) [] H1 (Z.at_ v)<|Z.ok A) λf H2 i C O=>gG (canon f) λG P L S=>?_;refine⟨G,H2,?_,P,by exact cP<|bj [r,m,(el 0 ↑r).length,f.length,G.length] [] [(1,xi aJ,xi bf),(1,ct,aJ),(1,ig,ct),(1,.v 4,ig),(1,xi bf,.v 4)] rfl (cl d) (cl<|an N) (cl<|an C)<|cl S,Z.trans O⟩;rw[gA] at i;have Q:=CT (H:=H2) (G:=f) SG (λt=>by have:=yx t;exact kz ‹_› (by rfl))<|by exact cP<|bj [m,r,(el 0 ↑r).length,f.length] [] [(1,aJ,.n 20),(1,xi bf,xi aJ),(1,ct,bf),(1,ig,ct),(1,xi<|.n 100,ig)] rfl (cl Y) (cl d) (cl<|an N)<|cl<|an C
 rw[uP] at Q
 (refine(ae L)▸?_;rw[acj rfl])
 have u:rt (oQ 17) (aku jK [XQ 1000 [cy,nP ah ny ck<|cI 1]]) [ab<|.dR j,ab<|.int m,ab<|.lst<|uZ.map λt=>.bytes t.b,al,al] (bo (oQ 17) (aku jK [XQ 1000 [cy,nP ah ny ck<|cI 1]]) [ab<|.dR j,ab<|.int m,ab<|.lst<|uZ.map λt=>.bytes t.b,al,al]) H=.ok (el 0 r) H1:=
  fg (m:=bo (oQ 17) (aku jK [XQ 1000 [cy,nP ah ny ck<|cI 1]]) _) (dJ (ac e aq) (r:=.ok (.JV 0 r) H1) rfl) (by unfold et;dsimp only;rw[if_pos ⟨by exact dr<|bj [] [] [(1,xi ef,.g<|.n 4611686018427387904)] rfl,by exact dr<|bj [] [] [(1,xi<|.n 4611686018427387904,xi ef)] rfl,by exact dr<|bj [r] [] [(1,xi aJ,.g<|.n 4611686018427387904)] rfl,by exact dr<|bj [m,r] [] [(1,aJ,.n 20),(1,xi bf,xi aJ),(1,xi<|.n 4611686018427387904,xi bf)] rfl (cl Y)<|cl d⟩])
 have a:bo (oQ 17) (aju elO (aku jK [XQ 1000 [cy,nP ah ny ck<|cI 1]]) [al,al,al,ab 2,ab 0] [1] ao []) [ab<|.dR j,ab<|.int m,ab<|.lst<|uZ.map λt=>.bytes t.b,al,al] H=.ok (.lst<|f.map λt=>.bytes t.b) H2:=by refine fg u ?_;rw[if_pos<|by rw[N];exact cP<|bj [m,r] [] [(1,aJ,.n 20),(1,xi bf,xi aJ),(1,xi<|.n 16777216,bf)] rfl (cl Y)<|cl d];exact fg i rfl
 exact mR (aK<|bT (iA (ac rfl<|ac rfl<|ac rfl<|ac rfl<|ac rfl aq)<|by simp)<|bG<|iQ rfl rfl (ac a aq) Q) (Z.trans O) A rfl
noncomputable def I1:List Int:=[9223372036854775808,-9223372036854775809,18446744073709551617,9223372036854775807,-9223372036854775808]
inductive DG (n:Nat):Ix->Prop
 |bl (b:Bool):DG n (.bl b)
 |nm (g:Bool) (k:Int) (h:-1<=k/\k<=n+2):DG n (.nm g k)
 |big (k:Int) (h:k∈I1):DG n (.nm ao k)
theorem Kn (v:rg H j) (A:cZ H=ao) (N:aa o<=100):∃(x:Ix) (H':Hp),iN 1038 [.dR j,.bytes o] H=.ok x.p H'/\DG (aa o) x/\gf H j H':=by
 refine cL (Bv (k:=16) (V:=[ab<|.dR j,ab<|.bytes o,al,al,al,al]) (x:=.loc 0) (y:=.bin ah .Add (.bv eN [.loc 1])<|.const<|.int 4) v A (by exact⟨cP<|bj [aa o] [] [(1,xi<|.a aJ<|.n 4,xi ef)] rfl,cP<|bj [aa o] [] [(1,aJ,.n 100),(1,xi<|.n 1000,.a aJ<|.n 4)] rfl<|cl N⟩) rfl (bn (dy rfl<|kz ‹_› (by rfl)) rfl rfl)<|by kernel_rfl) λr E e d Z=>cL (Bv (k:=16) (V:=[ab<|.dR j,ab<|.bytes o,al,al,al,al]) (x:=.loc 0) (y:=.const<|.int 6) (Z.at_ v) (Z.ok A) (by decide) rfl rfl rfl) λw H2 i U O=>?_;have f:=Z.trans O;rw[ace rfl]
 have B:∀{q:j1 (ge×bN)},fR (oQ 16) dF (RL.drop 1) [ab<|.dR j,ab<|.bytes o,ab<|.int<|(r:Int)-1,ab<|.int w,al,al] H2=q->fR (oQ 16) dF RL ([PV.dR j,.bytes o].map ab++aW (6-2) al) H=q:=λk=>iT (y:=[.int<|(r:Int)-1,.int w]) (ac (bn e rfl rfl)<|ac i aq) ⟨rfl,by simp⟩ k
 by_cases T:(w:Int)=0
 ·refine⟨.bl<|decide<|h8 ((r:Int)-1) 2=0,H2,?_,.bl _,f⟩;exact mR (aK<|B<|kj (c:=ao) (a7 rfl rfl<|fq<|decide_eq_true T)<|bG<|bw (ac rfl<|ac (oq (bn rfl rfl<|vV<|by decide) rfl<|fq rfl) aq)<|by simp) f A rfl
 by_cases J:(w:Int)=1
 ·refine cL (Bv (k:=16) (V:=[ab<|.dR j,ab<|.bytes o,ab<|.int<|(r:Int)-1,ab<|.int w,al,al]) (x:=.loc 0) (y:=.const<|.int 5) (f.at_ v) (f.ok A) (m:=5) (by decide) rfl rfl<|by kernel_rfl) λs Y C G b=>?_;obtain⟨k,z⟩:∃k,I1[s]?=ab k:=⟨_,aO<|by exact G⟩;have t:bo (oQ 16) (ajt ah [nP ah qm (cI 2)<|cI 63,nP ah uy (nP ah uy (cI 0)<|nP ah qm (cI 2)<|cI 63)<|cI 1,nP ah ny (nP ah qm (cI 2)<|cI 64)<|cI 1,nP ah uy (nP ah qm (cI 2)<|cI 63)<|cI 1,nP ah uy (cI 0)<|nP ah qm (cI 2)<|cI 63]) [ab<|.dR j,ab<|.bytes o,ab<|.int<|(r:Int)-1,ab<|.int w,al,al] H2=.ok (.lst<|I1.map .int) H2:=by kernel_rfl
  refine⟨.nm ao k,Y,?_,.big k<|bq z,f.trans b⟩;exact mR (aK<|B<|eQ (c:=ah) (a7 rfl rfl<|fq<|decide_eq_false T) bH<|kj (c:=ao) (a7 rfl rfl<|fq<|decide_eq_true J)<|bG<|bw (ac rfl<|ac rfl<|ac (bx t C<|yA (by(refine ag bY ?_;refine(ae z)▸?_);rfl)<|by simp[I1]) aq)<|by simp) (f.trans b) A rfl
 ·by_cases W:(w:Int)=2
  ·exact⟨.nm ao<|(r:Int)-1,H2,mR (aK<|B<|eQ (c:=ah) (a7 rfl rfl<|fq<|decide_eq_false T) bH<|eQ (c:=ah) (a7 rfl rfl<|fq<|decide_eq_false J) bH<|bG<|bw (ac rfl<|ac (eY (a7 rfl rfl<|fq<|decide_eq_true W) rfl)<|ac rfl aq)<|by simp) f A rfl,.nm _ _ (by exact⟨dr<|bj [r] [] [(1,xi<|.s aJ ia,.g ia)] rfl,dr<|bj [r,o.length] [] [(1,xi aJ,.a bf<|.n 4),(1,xi<|.a bf<|.n 2,.s aJ ia)] rfl<|cl d⟩),f⟩
  ·exact⟨.nm ah<|(r:Int)-1,H2,mR (aK<|B<|eQ (c:=ah) (a7 rfl rfl<|fq<|decide_eq_false T) bH<|eQ (c:=ah) (a7 rfl rfl<|fq<|decide_eq_false J) bH<|bG<|bw (ac rfl<|ac (dZ (a7 rfl rfl<|fq<|decide_eq_false W) rfl)<|ac rfl aq)<|by simp) f A rfl,.nm _ _ (by exact⟨dr<|bj [r] [] [(1,xi<|.s aJ ia,.g ia)] rfl,dr<|bj [r,o.length] [] [(1,xi aJ,.a bf<|.n 4),(1,xi<|.a bf<|.n 2,.s aJ ia)] rfl<|cl d⟩),f⟩
theorem Yp (j:List Int) (B:aa j<=63) (e:Nat):∃a b,iN 993 [.lst<|j.map .int,.int e] H=.ok (.dR<|aa H) (H++[ti a b])/\0<=a/\0<=b:=by
 obtain⟨c,t⟩:∃c:Int,bo (oQ 19) (.fc (.cmp ck [.Lt] [.bv eN [cy]]) (.sub cy ck)<|cI 0) [ab<|.lst<|j.map .int,ab<|.int e,al,al,al] H=.ok (.int c) H:=by
  have C:=Bi (H:=H) (l:=j.map .int)<|by exact(ae (aB ..))▸(kz ‹_› (by rfl))
  rw[aB] at C;by_cases h:e<aa j
  ·exact⟨j[e],eY (a7 rfl (dJ (ac rfl aq) C)<|dP<|decide_eq_true<|by exact cJ.mpr<|by assumption)<|bx rfl rfl<|yA (by(refine ag bY ?_;refine(ae<|aO h)▸?_);rfl)<|by exact(ae (aB ..))▸(kz ‹_› (by rfl))⟩
  ·exact⟨0,dZ (a7 rfl (dJ (ac rfl aq) C)<|dP<|decide_eq_false<|by exactλM=>bj [aa j,e] [] [(1,aJ,bf),(1,xi bf,aJ)] rfl (cl<|cW.mp h) M) rfl⟩
 obtain⟨C5,y,T⟩:∃C5:Int,bo (oQ 19) (.fc (.cmp dE [.GtE] [cI 0]) dE<|.bin ah .Sub (cI 4) dE) [ab<|.lst<|j.map .int,ab<|.int e,ab<|.int c,al,al] H=.ok (.int C5) H/\0<=C5:=by
  by_cases h:0<=c
  ·exact⟨c,eY (a7 rfl rfl<|jv<|decide_eq_true h) rfl,h⟩
  ·exact⟨4-c,dZ (a7 rfl rfl<|jv<|decide_eq_false h)<|bn rfl rfl rfl,by exact dr<|bj [] [c] [(1,xi cz,ef),(1,xi<|.s (.n 4) cz,ef)] rfl<|iX.mp h⟩
 obtain⟨a,I,f⟩:∃a:Int,bo (oQ 19) (.fc (.cmp i6 [.GtE] [.bin ah .Pow (cI 10)<|cI 15]) i6<|cI 0) [ab<|.lst<|j.map .int,ab<|.int e,ab<|.int c,ab<|.int C5,al] H=.ok (.int a) H/\0<=a:=by
  have F:bo (oQ 19) (.bin ah .Pow (cI 10)<|cI 15) [ab<|.lst<|j.map .int,ab<|.int e,ab<|.int c,ab<|.int C5,al] H=.ok (.int 1000000000000000) H:=rfl;by_cases h:1000000000000000<=C5
  ·exact⟨C5,eY (a7 rfl F<|jv<|decide_eq_true h) rfl,T⟩
  ·exact⟨0,dZ (a7 rfl F<|jv<|decide_eq_false h) rfl,fV _⟩
 refine⟨a,h8 (h8 C5 999863*283+107*e+47) 65327,?_,f,(ya _ (by decide)).1⟩;rw[ack rfl]
 have d:kJ (oQ 19) dF 5 Xm [.lst<|j.map .int,.int e] H=.ok (.dR<|aa H) (H++[ti a<|h8 (h8 C5 999863*283+107*e+47) 65327]):=
  aK (bT t<|bT y<|bG<|fg (ac I<|ac (bn (bn (bn (bn (bn rfl rfl<|vV<|by decide) rfl<|y8 rfl) (bn rfl rfl<|pW rfl) rfl) rfl rfl) rfl<|vV<|by decide) aq) rfl)
 unfold iH;refine(ae d)▸?_;rfl
noncomputable def ael (r:Nat):Nat->Nat->List UInt8->List UInt8
 |0,_,S=>S
 |f+1,m,S=>if m=0 then S else ael r f (m / r) (vd.getD (m%r) 0::S)
def AC (n:Int) (r:Nat):List UInt8:=(if n<0 then[45] else[])++(if n=0 then[48] else ael r 80 n.natAbs [])
noncomputable def Av:List Ix:=[.bl ao,.nm ah (-255),.nm ao 9223372036854775808,.nm ao 9223372036854775807,.nm ah 1295]
noncomputable def xz:List (List Nat×Int):=[(("Int64":am).cps.toList,2),(("UInt8":am).cps.toList,16),(("Int64":am).cps.toList,36),(("Int64":am).cps.toList,37),([],1),(("BigInt":am).cps.toList,18446744073709551616)]
def oV (x:List Nat×Int):PV:=if x.1=[] then sv ao else .tup [cV "int",.str x.1,.int x.2]
noncomputable def KI:List Ix:=[.bl ao,.nm ah 55295,.nm ah 55296,.nm ah 57343,.nm ah 57344,.nm ah 1114111,.nm ah 1114112,.nm ah (-1),.nm ao 18446744073709551616]
noncomputable def aev:List Ix:=[.bl ao,.bl ah,.nm ah 2,.nm ah (-1),.nm ao 18446744073709551616,.nm ao (-1180591620717411303424)]
noncomputable def kK (n:Int):Bool:=decide (0<=n/\n<55296)||decide (57343<n/\n<1114112)
theorem RF:∀x∈KI,Hd 902 [x.p] (if kK x.w then xe x.w else j0 mU):=by intro x T;simp only[KI,aL,aY,or_false] at T;rcases T with rfl|rfl|rfl|rfl|rfl|rfl|rfl|rfl|rfl<;>(intro a b c;kernel_rfl)
noncomputable def wt (r:Int):Bool:=decide<|2<=r/\r<=36
theorem Rb:∀x∈Av,∀r∈xz,Hd 881 [x.p,oV r] (if wt r.2 then a0 (AC x.w r.2.toNat) else j0 mU):=by intro x T r d;simp only[Av,xz,aL,aY,or_false] at T d;rcases T with rfl|rfl|rfl|rfl|rfl<;>rcases d with rfl|rfl|rfl|rfl|rfl|rfl<;>(intro a b c;kernel_rfl)
noncomputable def xf (r:Int):Nat:=if r<=2 then 2 else if 36<=r then 36 else r.toNat
noncomputable def Gq (n:Int):PV:=.tup [cV "int",if decide (-9223372036854775808<=n/\n<9223372036854775808) then cV "Int64" else cV "BigInt",.int n]
theorem RW:∀x∈Av,∀r∈xz,Hd 888 [a0<|AC x.w<|xf r.2,oV r] (if wt r.2 then Gq x.w else j0 mU):=by intro x T r d;simp only[Av,xz,aL,aY,or_false] at T d;rcases T with rfl|rfl|rfl|rfl|rfl<;>rcases d with rfl|rfl|rfl|rfl|rfl|rfl<;>(intro a b c;kernel_rfl)
theorem A9 {f:FE} (Y:(rr[i]?).map (λg=>(g.addr,g.k,g.keep,g.muts,g.defs))=ab (f.addr,f.k,f.keep,f.muts,f.defs)) (G:((rr.take i).all λg=>decide<|f.addr≠g.addr)=ao) (B:(bF f.k).1.args.length=n) (U:(bF f.k).2.2.names.length=l) (z:f.keep=ah) (C:aa y=n)
 (h:kJ (oQ<|i+1) dF l (Ds f.k f.muts) y H=.ok p H) (A:cZ H=ao) (F:i8 p=ao):iN f.addr y H=.ok p H:=by
 show iG CF dF rr f.addr y H=_;rw[vT Y G B U rfl C,z];exact aE h A F
theorem zv (A:cZ H=ao):∀x∈Av,∀r:Nat,r=2\/r=16\/r=36->iN 1100 [.int x.w,.int r] H=.ok (a0<|AC x.w r) H:=by
 have j:∀(n:Int) (r:Nat),kJ (oQ<|5+1) dF 5 (Ds 180 []) [.int n,.int r] H=.ok (a0<|AC n r) H->iN 1100 [.int n,.int r] H=.ok (a0<|AC n r) H:=λn r h=>A9 (f:=⟨1100,180,ah,[],[]⟩) rfl rfl rfl rfl rfl rfl h A rfl
 intro x T r d;simp only[Av,aL,aY,or_false] at T;rcases T with rfl|rfl|rfl|rfl|rfl<;>rcases d with rfl|rfl|rfl<;>exact j _ _ (by kernel_rfl)
noncomputable def o4:Ix->List UInt8
 |.bl ao=>[116,114,117,101]
 |.bl ah=>[102,97,108,115,101]
 |.nm _ k=>AC k 10
theorem Fy {n:Nat} (B:n<=18) (h:DG n x):(∃b,x=.bl b)\/∃g k,x=.nm g k/\(k∈I1\/k∈(dg 22).map λi:Nat=>(i:Int)-1):=by
 induction h with
 |bl b=>exact .inl ⟨b,rfl⟩
 |nm g k h=>exact .inr ⟨g,k,rfl,.inr<|b2.mpr ⟨(k+1).toNat,pr.mpr (by exact cP<|bj [n,(k+1).toNat] [k] [(1,aJ,.n 18),(1,cz,.a aJ<|.n 2),(1,bf,xi cz),(1,xi<|.n 22,xi bf)] rfl (cl B) h.2<|aT<|bA<|dr<|bj [] [k] [(1,.g ia,cz),(1,xi<|xi cz,ef)] rfl h.1),by exact cD (dr<|bj [(k+1).toNat] [k] [(1,aJ,xi cz),(1,xi cz,.s aJ ia)] rfl<|aT<|bA<|dr<|bj [] [k] [(1,.g ia,cz),(1,xi<|xi cz,ef)] rfl h.1)<|dr<|bj [(k+1).toNat] [k] [(1,xi cz,aJ),(1,xi<|.s aJ ia,cz)] rfl<|aT<|ae<|bA<|dr<|bj [] [k] [(1,.g ia,cz),(1,xi<|xi cz,ef)] rfl h.1⟩⟩
 |big k h=>exact .inr ⟨ao,k,rfl,.inl h⟩
theorem E4 (B:n<=18) (h:DG n x):b6 707 [.tZ,x.p] []=.ok (.bytes<|o4 x) []/\aa (o4 x)<=40:=by
 rcases Fy B h with ⟨b,rfl⟩|⟨g,k,rfl,hk⟩
 ·cases b<;>exact⟨by kernel_rfl,by decide⟩
 ·rcases hk with hk|hk
  ·simp only[I1,aL,aY,or_false] at hk;cases g<;>rcases hk with rfl|rfl|rfl|rfl|rfl<;>exact⟨by kernel_rfl,by decide+kernel⟩
  ·simp only[show((dg 22).map λi:Nat=>(i:Int)-1)=[-1,0,1,2,3,4,5,6,7,8,9,10,11,12,13,14,15,16,17,18,19,20] by decide,aL,aY,or_false] at hk;cases g<;>rcases hk with rfl|rfl|rfl|rfl|rfl|rfl|rfl|rfl|rfl|rfl|rfl|rfl|rfl|rfl|rfl|rfl|rfl|rfl|rfl|rfl|rfl|rfl<;>exact⟨by kernel_rfl,by decide+kernel⟩
noncomputable def tdE:CE:=.gb aaW (.xF [.str [84,114,117,101],.str [70,97,108,115,101]] [.str [116,114,117,101],.str [102,97,108,115,101]] (.bv Ly [.sub dE<|cI 1])<|.bv Ly [.sub dE<|.neg<|cI 1]) [cS [97,115,99,105,105]]
theorem Td (B:n<=18) (h:DG n x):bo (oQ 5) tdE (a::b::ab x.p::V) H=.ok (.bytes<|o4 x) H:=by
 rcases Fy B h with ⟨b,rfl⟩|⟨g,k,rfl,hk⟩
 ·cases b<;>kernel_rfl
 ·rcases hk with hk|hk
  ·simp only[I1,aL,aY,or_false] at hk;cases g<;>rcases hk with rfl|rfl|rfl|rfl|rfl<;>kernel_rfl
  ·simp only[show((dg 22).map λi:Nat=>(i:Int)-1)=[-1,0,1,2,3,4,5,6,7,8,9,10,11,12,13,14,15,16,17,18,19,20] by decide,aL,aY,or_false] at hk;cases g<;>rcases hk with rfl|rfl|rfl|rfl|rfl|rfl|rfl|rfl|rfl|rfl|rfl|rfl|rfl|rfl|rfl|rfl|rfl|rfl|rfl|rfl|rfl|rfl<;>kernel_rfl
noncomputable def Lq:PV:=.tup [cV "sym",.str [233]]
theorem Ms (B:n<=18) (h:DG n x) (N:aa o<=100):Hd 794 [a0 o,x.p,Lq] (a0<|o++o4 x++[195,169]):=by
 refine bC (E4 B h) λJ W=>?_;have T:b6 707 [.tZ,a0 o] []=.ok (.bytes o) []:=rfl;have E:b6 707 [.tZ,Lq] []=.ok (.bytes [195,169]) []:=rfl;refine mY ?_ rfl (by simp)
 have Q:=Fx (I:=[o,o4 x,[195,169]]) (λb R=>by
  simp only[aL,aY,or_false] at R;rcases R with rfl|rfl|rfl
  ·exact kz ‹_› (by rfl)
  ·exact kz ‹_› (by rfl)
  ·simp) (by simp) fm
 rw[show[o,o4 x,[195,169]].flatten=o++o4 x++[195,169] by simp] at Q;rw[acr rfl];refine aE (aK<|bG<|bw (ac rfl<|ac (ay (ac (sb (l:=[(a0 o,o),(x.p,o4 x),(Lq,[195,169])]) (g:=K0) (f:=λy=>.bytes y.2) (nb rfl) rfl (by simp) λy I=>⟨_,rfl,ay (ac rfl<|ac rfl aq) rfl ?_⟩) aq) rfl Q) aq)<|by simp) rfl rfl;simp only[aL,aY,or_false] at I;rcases I with rfl|rfl|rfl
 ·exact T
 ·exact J
 ·exact E
def aiw:CE:=.list ah [.tup [D5,.const<|.bool ao],.tup [D5,.const<|.bool ah],.az 1031 [cI 2],.az 1031 [.neg<|cI 1],.tup [wK,Ek,.bin ah .Pow (cI 2)<|cI 64],.tup [wK,Ek,.bin ah .Sub (cI 0)<|.bin ah .Pow (cI 2)<|cI 70]]
def aiv:CE:=.list ah [.tup [D5,.const<|.bool ao],.az 1031 [cI 55295],.az 1031 [cI 55296],.az 1031 [cI 57343],.az 1031 [cI 57344],.az 1031 [cI 1114111],.az 1031 [cI 1114112],.az 1031 [.neg<|cI 1],.tup [wK,Ek,.bin ah .Pow (cI 2)<|cI 64]]
def ahz:CE:=.list ah [.tup [D5,.const<|.bool ao],.az 1031 [.neg<|cI 255],.tup [wK,Ek,.bin ah .Pow (cI 2)<|cI 63],.tup [wK,Ek,.bin ah .Sub (.bin ah .Pow (cI 2)<|cI 63)<|cI 1],.az 1031 [cI 1295]]
def ahe:CE:=.list ah [.az 1031 [cI 2],.tup [wK,cS [85,73,110,116,56],cI 16],.az 1031 [cI 36],.az 1031 [cI 37],.tup [D5,.const<|.bool ao],.tup [wK,Ek,.bin ah .Pow (cI 2)<|cI 64]]
def Po:CE:=.tup [ki,.fc (.bool ao [.cmp ck [.NotEq] [cB []],.cmp (cI 0) [.LtE,.Lt] [kX,cI 9]]) (.bin ah .Mult ck kX)<|cB []]
def ahc:CS:=.fc (.bool ah [.cmp kX [.Lt] [cI 0],.bool ao [.cmp kX [.Gt] [cI 9],.cmp ck [.NotEq] [cB []]]]) [.assign 5<|.fc (.cmp kX [.Lt] [cI 0]) (.tup [El])<|.tup [xs7]] []
def isE:CE:=.bool ah [.cmp (cI 0) [.LtE,.Lt] [.az 1045 [pM],cI 55296],.cmp (cI 57343) [.Lt,.Lt] [.az 1045 [pM],cI 1114112]]
def ail:CS:=.fc (.cmp (cI 2) [.LtE,.LtE] [.az 1045 [B5],cI 36]) [.assign 10<|.az 1100 [.az 1045 [xy],.az 1045 [B5]],.assign 11<|.tup [wK,.fc (.az 1052 [xy]) (cS [73,110,116,54,52]) Ek,.az 1045 [xy]]] []
def nc0:CE:=.tup [xs9,.tup [.tup [ki,ck],i6],pv]
def nc1:CE:=.tup [cS [99,104,97,114,95,111,102],.tup [pM],.fc SU (.tup [cS [99,104,97,114],.az 1045 [pM]])<|.tup [El]]
def nc2:CE:=.tup [cS [116,101,120,116,95,111,102,95,110,117,109,98,101,114],.tup [xy,B5],.loc 10]
def nc3:CE:=.tup [cS [116,101,120,116,95,110,117,109,98,101,114],.tup [.az 1100 [.az 1045 [xy],.bv xB [cI 2,.bv CL [cI 36,.az 1045 [B5]]]],B5],.loc 11]
def nc4:CE:=.tup [cS [116,101,120,116,95,106,111,105,110,101,100],.tup [.tup [ki,ck],dE,.tup [cS [115,121,109],cS [233]]],.tup [ki,.bin ah .Add (.bin ah .Add ck<|.loc 12)<|cB [195,169]]]
theorem EY (A:cZ H=ao):∀r∈xz,iN 1045 [oV r] H=.ok (.int r.2) H:=by
 have j:∀(p:PV) (n:Int),kJ (oQ<|11+1) dF 2 (Ds 171 []) [p] H=.ok (.int n) H->iN 1045 [p] H=.ok (.int n) H:=λp n h=>A9 (f:=⟨1045,171,ah,[],[]⟩) rfl rfl rfl rfl rfl rfl h A rfl
 intro r d;simp only[xz,aL,aY,or_false] at d;rcases d with rfl|rfl|rfl|rfl|rfl|rfl<;>exact j _ _ rfl
theorem ph {n:Int} (A:cZ H=ao) (h:bo (oQ 5) e V H=.ok (.int n) H):bo (oQ 5) (.az 1031 [e]) V H=.ok (l8 n) H:=bV (ac h aq) rfl<|o7 A n
theorem zB {n:Int} (I:bo (oQ 5) a V H=.ok (.str s) H) (R:bo (oQ 5) b V H=.ok (.str t) H) (h:bo (oQ 5) e V H=.ok (.int n) H):bo (oQ 5) (.tup [a,b,e]) V H=.ok (.tup [.str s,.str t,.int n]) H:=bw (ac I<|ac R<|ac h aq)<|by simp
theorem aeu (A:cZ H=ao):bo (oQ 5) aiw V H=.ok (.lst<|aev.map Ix.p) H:=
 iA (ac (bw (ac rfl<|ac rfl aq)<|by simp)<|ac (bw (ac rfl<|ac rfl aq)<|by simp)<|ac (ph A rfl)<|ac (ph A rfl)<|ac (zB rfl rfl rfl)<|ac (zB rfl rfl rfl) aq) (by decide)
theorem Z4 (A:cZ H=ao):bo (oQ 5) aiv V H=.ok (.lst<|KI.map Ix.p) H:=
 iA (ac (bw (ac rfl<|ac rfl aq)<|by simp)<|ac (ph A rfl)<|ac (ph A rfl)<|ac (ph A rfl)<|ac (ph A rfl)<|ac (ph A rfl)<|ac (ph A rfl)<|ac (ph A rfl)<|ac (zB rfl rfl rfl) aq) (by decide)
theorem acI (A:cZ H=ao):bo (oQ 5) ahz V H=.ok (.lst<|Av.map Ix.p) H:=
 iA (ac (bw (ac rfl<|ac rfl aq)<|by simp)<|ac (ph A rfl)<|ac (zB rfl rfl rfl)<|ac (zB rfl rfl rfl)<|ac (ph A rfl) aq) (by decide)
theorem abM (A:cZ H=ao):bo (oQ 5) ahe V H=.ok (.lst<|xz.map oV) H:=
 iA (ac (ph A rfl)<|ac (zB rfl rfl rfl)<|ac (ph A rfl)<|ac (ph A rfl)<|ac (bw (ac rfl<|ac rfl aq)<|by simp)<|ac (zB rfl rfl rfl) aq) (by decide)
noncomputable def Wu (j:Nat) (o:List UInt8) (v c:PV) (w:Int) (d:Option PV):bN:=[ab<|.dR j,ab<|.bytes o,ab v,ab c,ab<|.int w,d,al,al,al,al,al,al,al,al,al,al,al,al,al,al,al]
theorem JX {w:Int} (U:w<0\/0<=w/\w<=8\/200000<w) (F:¬w<=8):200000<w:=U.elim (λh=>absurd (sI<|kr h<|by decide) F) λh=>h.elim (λh=>absurd h.2 F) id
theorem TE (N:aa o<=100) {c:Ix} (U:c.w<0\/(0<=c.w/\c.w<=8)\/200000<c.w):∃d q,bo (oQ 5) Po (Wu j o v c.p c.w al) H=.ok d H/\fR (oQ 5) dF [ahc] (Wu j o v c.p c.w<|ab d) H=.ok (.next,Wu j o v c.p c.w<|ab q) H/\gJ (.tup [cV "text_repeated",.tup [a0 o,c.p],q]):=by
 have X:∀{V:bN},lF .NotEq (.bytes o) (.bytes []) H=.ok (!(o==[])) H:=nM;by_cases T:c.w<0
 ·have g:bo (oQ 5) Po (Wu j o v c.p c.w al) H=.ok (a0 []) H:=by
   refine bw (ac rfl<|ac (dZ ?_ rfl) aq)<|by simp
   cases L:(!(o==([]:List UInt8))) with
   |false=>exact l0<|a7 rfl rfl<|ag nM<|by rw[L]
   |true=>exact j6 (a7 rfl rfl<|ag nM<|by rw[L])<|ja<|Cc rfl rfl rfl<|decide_eq_false λh=>absurd h.1<|iX.mpr T
  exact⟨_,_,g,eQ (A0<|a7 rfl rfl<|dP<|decide_eq_true T) (bT (eY (a7 rfl rfl<|dP<|decide_eq_true T) rfl) bH) bH,.mk _ _ _ _ lp (EW (TD fm T) rfl<|qp wv) rfl (jB _ _)⟩
 by_cases L:o=[]
 ·subst L;have g:bo (oQ 5) Po (Wu j [] v c.p c.w al) H=.ok (a0 []) H:=bw (ac rfl<|ac (dZ (l0<|a7 rfl rfl rfl) rfl) aq)<|by simp
  refine⟨_,_,g,eQ (c:=ah) (tw (a7 rfl rfl<|dP<|decide_eq_false T)<|ja ?_) bH bH,.mk _ _ _ _ lp (JW<|TC fm<|by exact dr<|bj [] [c.w] [(1,ef,cz),(1,xi cz,ef)] rfl<|cX.mp T) rfl (jB _ _)⟩;by_cases e:9<c.w
  ·exact j6 (a7 rfl rfl<|jg<|decide_eq_true e)<|ja<|a7 rfl rfl rfl
  ·exact l0<|a7 rfl rfl<|jg<|decide_eq_false e
 have B:(!(o==([]:List UInt8)))=true:=by simpa using L
 by_cases F:c.w<=8
 ·obtain⟨n,P⟩:∃n:Nat,c.w=n:=⟨c.w.toNat,by exact cD (dr<|bj [c.w.toNat] [c.w] [(1,cz,aJ),(1,xi aJ,cz)] rfl<|aT<|ae<|bA<|dr<|bj [] [c.w] [(1,ef,cz),(1,xi cz,ef)] rfl<|cX.mp T)<|dr<|bj [c.w.toNat] [c.w] [(1,aJ,cz),(1,xi cz,aJ)] rfl<|aT<|bA<|dr<|bj [] [c.w] [(1,ef,cz),(1,xi cz,ef)] rfl<|cX.mp T⟩;rw[P] at T F|-
  have g:bo (oQ 5) Po (Wu j o v c.p n al) H=.ok (a0 (aW n o).flatten) H:=bw (ac rfl<|ac (eY (j6 (a7 rfl rfl<|ag nM<|by rw[B])<|ja<|Cc rfl rfl rfl<|decide_eq_true<|by exact⟨dr<|bj [n] [] [(1,xi aJ,ef)] rfl,dr<|bj [n] [] [(1,aJ,.n 8),(1,xi<|.n 9,xi aJ)] rfl F⟩)<|bn rfl rfl<|Kd (by exact cP<|bj [n] [] [(1,aJ,.n 8),(1,xi<|.n 8,aJ)] rfl F) L<|kz ‹_› (by rfl)) aq)<|by simp
  exact⟨_,_,g,eQ (tw (a7 rfl rfl<|dP<|decide_eq_false T)<|ja<|l0<|a7 rfl rfl<|jg<|decide_eq_false<|by exactλM=>bj [n] [] [(1,aJ,.n 8),(1,xi<|.n 9,aJ)] rfl F M) bH bH,.mk _ _ _ _ lp (JW<|by exact(ae P)▸YJ fm L (kz ‹_› (by rfl)) (by exact cP<|bj [n] [] [(1,aJ,.n 8),(1,xi<|.n 8,aJ)] rfl F)) rfl (jB _ _)⟩
 ·have g:bo (oQ 5) Po (Wu j o v c.p c.w al) H=.ok (a0 []) H:=bw (ac rfl<|ac (dZ (j6 (a7 rfl rfl<|nM.trans<|by rw[B])<|ja<|Cc rfl rfl rfl<|decide_eq_false λh=>F<|NU h.2) rfl) aq) (by simp);have C:1<=o.length:=kG.mpr L
  have R:200000<(o.length:Int)*c.w:=by
   have J:(1:Int)*c.w<=(o.length:Int)*c.w:=jo (by exact dI.mpr<|by assumption)<|by exact dr<|bj [] [c.w] [(1,xi<|.n 8,cz),(1,xi cz,ef)] rfl<|iX.mp F
   exact lK (JX U F)<|fP (aT (agO _).symm) J
  exact⟨_,_,g,eQ (c:=ao) (tw (a7 rfl rfl<|dP<|decide_eq_false T)<|ja<|j6 (a7 rfl rfl<|jg<|decide_eq_true<|kr (by decide)<|JX U F)<|ja<|a7 rfl rfl<|nM.trans<|by rw[B]) (bT (dZ (a7 rfl rfl<|dP<|decide_eq_false T) rfl) bH) bH,.mk _ _ _ _ lp (EW (Pn fm (kz ‹_› (by rfl)) (by exact dr<|bj [] [c.w] [(1,xi<|.n 8,cz),(1,xi cz,ef)] rfl<|iX.mp F) R) rfl<|qp TQ) rfl (jB _ _)⟩
noncomputable def PZ (j:Nat) (o:List UInt8) (v c q cd:PV) (f:Int) (g:Bool) (n r a b:PV) (t:Option PV):bN:=[ab<|.dR j,ab<|.bytes o,ab v,ab c,ab<|.int f,ab q,ab cd,ab<|.bool g,ab n,ab r,ab a,ab b,t,al,al,al,al,al,al,al,al]
def xE (n:Int) (r:Int):PV:=if wt r then a0 (AC n r.toNat) else j0 mU
def xG (n:Int) (r:Int):PV:=if wt r then Gq n else j0 mU
theorem VI (A:cZ H=ao) (n:Ix) (F:bo (oQ 5) xy V H=.ok n.p H):bo (oQ 5) (.tup [wK,.fc (.az 1052 [xy]) (cS [73,110,116,54,52]) Ek,.az 1045 [xy]]) V H=.ok (Gq n.w) H:=by
 have z:=xR<|bV (ac F aq) rfl<|uM A n
 refine bw (ac rfl<|ac ?_ (ac (bV (ac F aq) rfl<|eA A n) aq))<|by simp
 unfold Ix.room at z
 cases h:decide (-9223372036854775808<=n.w/\n.w<9223372036854775808) with
 |true=>exact eY (ag z<|by rw[h]) rfl
 |false=>exact dZ (ag z<|by rw[h]) rfl
theorem ZL {f:Int} (A:cZ H=ao) (B:n∈Av) (d:r∈xz):fR (oQ 5) dF [ail] (PZ j o v c q cd f g n.p (oV r) (j0 mU) (j0 mU) al) H=.ok (.next,PZ j o v c q cd f g n.p (oV r) (xE n.w r.2) (xG n.w r.2) al) H:=by
 have U:=bV (j:=5) (V:=PZ j o v c q cd f g n.p (oV r) (j0 mU) (j0 mU) al) (D:=[.loc 9]) (ac rfl aq) rfl<|EY A r d
 have t:wt r.2=ao->∃m:Nat,r.2=m/\(m=2\/m=16\/m=36):=λh=>by
  simp only[xz,aL,aY,or_false] at d;rcases d with rfl|rfl|rfl|rfl|rfl|rfl
  ·exact⟨2,rfl,.inl rfl⟩
  ·exact⟨16,rfl,.inr<|.inl rfl⟩
  ·exact⟨36,rfl,.inr<|.inr rfl⟩
  ·exact absurd h<|by decide
  ·exact absurd h<|by decide
  ·exact absurd h<|by decide
 unfold xE xG
 cases R:wt r.2 with
 |false=>exact eQ (gs rfl U rfl R) bH bH
 |true=>refine aH (t R) λm e t=>?_;have Y:=zv A n B m t;rw[<-e] at Y;rw[show m=r.2.toNat by exact cf (cP<|bj [m,r.snd.toNat] [r.snd] [(1,aJ,cz),(1,cz,bf),(1,xi bf,aJ)] rfl (aT<|ae e)<|aT<|ae<|bA<|dr<|bj [m] [r.snd] [(1,aJ,cz),(1,xi cz,ef)] rfl<|aT<|ae e)<|cP<|bj [m,r.snd.toNat] [r.snd] [(1,cz,aJ),(1,bf,cz),(1,xi aJ,bf)] rfl (aT e)<|aT<|bA<|dr<|bj [m] [r.snd] [(1,aJ,cz),(1,xi cz,ef)] rfl<|aT<|ae e] at Y;exact eQ (gs rfl U rfl R) (bT (bV (ac (bV (ac rfl aq) rfl<|eA A n)<|ac U aq) rfl Y)<|bT (VI A n rfl) bH) bH
theorem aaf (A:cZ H=ao) (B:n∈Av) (d:r∈xz) (F:bo (oQ 5) xy V H=.ok n.p H) (e:bo (oQ 5) B5 V H=.ok (oV r) H):
 bo (oQ 5) (.az 1100 [.az 1045 [xy],.bv xB [cI 2,.bv CL [cI 36,.az 1045 [B5]]]]) V H=.ok (a0<|AC n.w<|xf r.2) H:=by
 have U:=bV (ac e aq) rfl<|EY A r d
 have j:xB [.int 2,.int<|if r.2<36 then r.2 else 36] H=.ok (.int<|xf r.2) H/\(xf r.2=2\/xf r.2=16\/xf r.2=36):=by simp only[xz,aL,aY,or_false] at d;rcases d with rfl|rfl|rfl|rfl|rfl|rfl<;>exact⟨rfl,by decide⟩
 exact bV (ac (bV (ac F aq) rfl<|eA A n)<|ac (dJ (ac rfl<|ac (dJ (ac rfl<|ac U aq) rfl) aq) j.1) aq) rfl<|zv A n B _ j.2
theorem Yw {a b c:Int} (h:bo B l V H=.ok (.int a) H) (J:bo B r V H=.ok (.int b) H) (W:bo B s V H=.ok (.int c) H) (e:decide (a<b/\b<c)=y):jW B (.cmp l [.Lt,.Lt] [r,s]) V (bo B (.cmp l [.Lt,.Lt] [r,s]) V) H=.ok y H:=by
 subst e;by_cases E:a<b
 ·exact Ce h J (dP<|decide_eq_true E) W<|dP<|by simp[E]
 ·rw[decide_eq_false λq=>E q.1];exact Cd h J<|dP<|decide_eq_false E
theorem ade (A:cZ H=ao) (c:Ix) (e:bo (oQ 5) pM V H=.ok c.p H):bo (oQ 5) isE V H=.ok (.bool<|kK c.w) H:=by
 have U:=bV (ac e aq) rfl<|eA A c
 exact Rm (Rn<|Cc rfl U rfl rfl) λ_=>pi<|Rn<|Yw rfl U rfl rfl
theorem Da {c:Bool} (I:p9 8 a=ao) (R:p9 8 b=ao):p9 8 (if c then a else b)=true:=by cases c<;>assumption
theorem MS (n:Int):p9 8 (Gq n)=true:=by unfold Gq;cases decide (-9223372036854775808<=n/\n<9223372036854775808)<;>rfl
theorem Cv {m:Nat} {l:List u} (v:rg H j) (A:cZ H=ao) (t:aa l=m) (N:0<m/\m<=100) (J:bo (oQ 5) e V H=.ok (.lst<|l.map f) H) (T:bo (oQ 5) cy V H=.ok (.dR j) H):∃(y:u) (H':Hp),bo (oQ 5) (.sub e<|.az 1000 [.loc 0,.const<|.int m]) V H=.ok (f y) H'/\y∈l/\gf H j H':=by
 refine cL (Bv (y:=.const<|.int m) v A (by exact⟨cP<|bj [m] [] [(1,xi ef,aJ),(1,xi aJ,xi ef)] rfl<|cl N.1,cP<|bj [m] [] [(1,aJ,.n 100),(1,xi<|.n 1000,aJ)] rfl<|cl N.2⟩) T rfl rfl) λr H' i d g=>?_;have F:r<aa l:=by exact cP<|bj [m,aa l,r] [] [(1,aJ,bf),(1,xi ct,aJ),(1,xi bf,xi ct)] rfl (cl<|an<|ae t)<|cl d
 exact⟨l[r],H',bx J i (yA (by rw[bY,aO F];rfl)<|by exact(ae (aB ..))▸cP (bj [aa l,m] [] [(1,aJ,bf),(1,bf,.n 100),(1,xi<|.n 1000,aJ)] rfl (cl<|an t)<|cl N.2)),hK F,g⟩
theorem HE (v:rg H j) (A:cZ H=ao) (N:aa o<=18) (T:DG (aa o) x):∃D H',iN 1107 [.dR j,.bytes o,x.p] H=.ok (.lst D) H'/\jT D/\aa D=5/\gf H j H':=by
 rw[ab1 rfl];refine cL (Cv (V:=[ab<|.dR j,ab<|.bytes o,ab x.p,al,al,al,al,al,al,al,al,al,al,al,al,al,al,al,al,al,al]) v A rfl (by decide) (aeu A) rfl) λc E e1 P I=>?_;have k1:=I.ok A
 refine cL (TE (H:=E) (j:=j) (v:=x.p) (c:=c) (kz ‹_› (by rfl)) (by
  simp only[aev,aL,aY,or_false] at P
  rcases P with rfl|rfl|rfl|rfl|rfl|rfl<;>decide)) λd q i C c0=>?_
 refine cL (Cv (V:=Wu j o x.p c.p c.w<|ab q) (I.at_ v) k1 (l:=KI) (m:=9) rfl (by decide) (Z4 k1) rfl) λcd G F M O=>?_;have e:=I.trans O;have z:=e.ok A;refine cL (Cv (V:=[ab<|.dR j,ab<|.bytes o,ab x.p,ab c.p,ab<|.int c.w,ab q,ab cd.p,ab<|.bool<|kK cd.w,al,al,al,al,al,al,al,al,al,al,al,al,al]) (e.at_ v) z (l:=Av) (m:=5) rfl (by decide) (acI z) rfl) λn Y k B X=>?_;have f:=e.trans X;have u:=f.ok A;refine cL (Cv (V:=[ab<|.dR j,ab<|.bytes o,ab x.p,ab c.p,ab<|.int c.w,ab q,ab cd.p,ab<|.bool<|kK cd.w,ab n.p,al,al,al,al,al,al,al,al,al,al,al,al]) (f.at_ v) u (l:=xz) (m:=6) rfl (by decide) (abM u) rfl) λr H4 s hr d4=>?_;have S:=f.trans d4;have J:=S.ok A;have c1:gJ (.tup [cV "char_of",.tup [cd.p],if kK cd.w then xe cd.w else j0 mU]):=.mk _ _ _ _ Ph (RF cd M) (Da rfl rfl) (by simp[fi,f9,gU]);have W:i8 (oV r)=true:=by unfold oV;split<;>rfl
 have c2:gJ (.tup [cV "text_of_number",.tup [n.p,oV r],xE n.w r.2]):=.mk _ _ _ _ Aq (Rb n B r hr) (Da rfl rfl) (by simp[fi,f9,gU,W]);have c3:gJ (.tup [cV "text_number",.tup [a0<|AC n.w<|xf r.2,oV r],xG n.w r.2]):=.mk _ _ _ _ Hs (RW n B r hr) (Da (MS _) rfl) (by simp[fi,f9,a0,lu,lw,iV,lx,cV,W]);have L:gJ (.tup [cV "text_joined",.tup [a0 o,x.p,Lq],a0<|o++o4 x++[195,169]]):=.mk _ _ _ _ Hu (Ms N T<|kz ‹_› (by rfl)) rfl (by simp[fi,f9,a0,lu,lw,iV,lx,cV,gU,Lq]);have Q:=XR c0<|.cons c1<|.cons c2<|.cons c3<|.cons L .nil
 have g:=(E4 N T).2;have g0:∀t,bo (oQ 5) nc0 (PZ j o x.p c.p q cd.p c.w (kK cd.w) n.p (oV r) (xE n.w r.2) (xG n.w r.2) t) H4=.ok (.tup [cV "text_repeated",.tup [a0 o,c.p],q]) H4:=λt=>bw (ac rfl<|ac (bw (ac (bw (ac rfl<|ac rfl aq)<|by simp)<|ac rfl aq)<|by simp)<|ac rfl aq)<|by simp
 have Z:∀t,bo (oQ 5) nc1 (PZ j o x.p c.p q cd.p c.w (kK cd.w) n.p (oV r) (xE n.w r.2) (xG n.w r.2) t) H4=.ok (.tup [cV "char_of",.tup [cd.p],if kK cd.w then xe cd.w else j0 mU]) H4:=λt=>by
  refine bw (ac rfl<|ac (bw (ac rfl aq)<|by simp)<|ac ?_ aq)<|by simp
  have ht:∀{b:Bool},kK cd.w=b->jW (oQ 5) SU (PZ j o x.p c.p q cd.p c.w (kK cd.w) n.p (oV r) (xE n.w r.2) (xG n.w r.2) t) (bo (oQ 5) SU<|PZ j o x.p c.p q cd.p c.w (kK cd.w) n.p (oV r) (xE n.w r.2) (xG n.w r.2) t) H4=.ok b H4:=λ{b} R=>by rw[<-R];rfl
  split
  ·rename_i h;exact eY (ht h)<|bw (ac rfl<|ac (bV (ac rfl aq) (by kernel_rfl)<|eA J cd) aq)<|by simp
  ·rename_i h;exact dZ (ht<|by simpa using h) rfl
 have g2:∀t,bo (oQ 5) nc2 (PZ j o x.p c.p q cd.p c.w (kK cd.w) n.p (oV r) (xE n.w r.2) (xG n.w r.2) t) H4=.ok (.tup [cV "text_of_number",.tup [n.p,oV r],xE n.w r.2]) H4:=λt=>bw (ac rfl<|ac (bw (ac rfl<|ac rfl aq)<|by simp)<|ac rfl aq)<|by simp
 have g3:∀t,bo (oQ 5) nc3 (PZ j o x.p c.p q cd.p c.w (kK cd.w) n.p (oV r) (xE n.w r.2) (xG n.w r.2) t) H4=.ok (.tup [cV "text_number",.tup [a0<|AC n.w<|xf r.2,oV r],xG n.w r.2]) H4:=λt=>bw (ac rfl<|ac (bw (ac (aaf J B hr rfl rfl)<|ac rfl aq)<|by simp)<|ac rfl aq)<|by simp
 have U:bo (oQ 5) nc4 (PZ j o x.p c.p q cd.p c.w (kK cd.w) n.p (oV r) (xE n.w r.2) (xG n.w r.2)<|ab<|.bytes<|o4 x) H4=.ok (.tup [cV "text_joined",.tup [a0 o,x.p,Lq],a0<|o++o4 x++[195,169]]) H4:=
  bw (ac rfl<|ac (bw (ac (bw (ac rfl<|ac rfl aq)<|by simp)<|ac rfl<|ac (bw (ac rfl<|ac rfl aq)<|by simp) aq)<|by simp)<|ac (bw (ac rfl<|ac (bn (bn rfl rfl<|te<|by exact cP<|bj [o.length,(o4 x).length] [] [(1,aJ,.n 18),(1,bf,.n 40),(1,xi<|.n 1000,.a aJ bf)] rfl (cl N)<|cl g) rfl<|te<|by simp;exact cP<|bj [o.length,(o4 x).length] [] [(1,aJ,.n 18),(1,bf,.n 40),(1,xi<|.n 998,.a aJ bf)] rfl (cl N)<|cl g) aq)<|by simp) aq) (by simp)
 refine⟨_,H4,?_,Q,rfl,S⟩;refine mR (aK (V:=PZ j o x.p c.p q cd.p c.w (kK cd.w) n.p (oV r) (xE n.w r.2) (xG n.w r.2)<|ab<|.bytes<|o4 x) ?_) S A Q.gS;refine bT e1<|bT (bV (ac rfl aq) (by kernel_rfl)<|eA k1 c)<|bT i<|(ve C).trans ?_
 refine bT F<|bT (ade z cd rfl)<|bT k<|bT s<|iT (y:=[j0 mU,j0 mU]) (ac rfl<|ac rfl aq) ⟨rfl,by simp⟩<|(ve<|ZL J B hr).trans ?_
 exact bT (Td N T)<|bG<|iA (ac (g0 _)<|ac (Z _)<|ac (g2 _)<|ac (g3 _)<|ac U aq)<|by simp
def inE:CE:=.list ao [.tup [cS [116,101,120,116,95,97,116],.tup [.tup [ki,cB [97]],dE],.tup [Yk,.tup [.tup [ki,cB [97]],dE]]],.tup [xs9,.tup [.tup [ki,cB []],dE],.tup [ki,cB []]],.tup [Yl,.tup [.tup [ki,cB [195,169]],.tup [ki,cB [169]]],.tup [Yj]],.tup [cS [116,101,120,116,95,97,116],.tup [.tup [ki,cB [97]],.tup [cS [99,104,97,114],cI 97]],.tup [xs8]]]
def itE:CE:=.bv jK [.bv xB [cI 1,.bv CL [cI 2,.bv eN [cy]]]]
def tuB:List CS:=[.assign 5<|.az 993 [cy,kX],.mG [6,7] [.az 1005 [pv,cI 6],.az 1005 [pv,cI 2]],.mG [8,9] [.az 1038 [pv,pM],.az 1038 [pv,pM]],.assign 3<|.bin ao .Add (.bin ah .Add (.bin ah .Add i6<|.az 1064 [pM,xy])<|.az 1064 [pM,B5])<|.az 1088 [pM,SU,xy],.assign 3<|.bin ao .Add (.bin ah .Add i6<|.az 1093 [pM])<|.az 1107 [pv,pM,B5],.expr<|.gb iS i6 [.tup [cS [116,101,120,116,95,115,117,98],.tup [.tup [ki,pM],xy,B5],.az 1071 [pM,xy,B5]]]]
def laS:CS:=.ret<|.cmp (.comp ck i6 [al,al,al,al,al,ab 1] [1,2,3] ah [.cmp (.az 1114 [.sub pv ck,dE]) [.NotEq] [i6]]) [.Eq] [.list ah []]
section
variable {H:Hp}
theorem Xp {a b:List PV} (z:aa a+aa b<=1000):CG ao .Add (.lst a) (.lst b) H=.ok (.dR<|aa H) (H++[a++b]):=by
 unfold CG;rw[if_neg (by decide),if_pos ⟨rfl,rfl⟩];refine kW rfl<|kW rfl ?_
 rw[if_pos<|kz ‹_› (by rfl)];rfl
def Za (l:List PV) (k:Nat) (p o s u v w:Option PV):bN:=[ab<|.lst l,ab<|.dct cG d5,ab om,ab<|.dR k,p,o,s,u,v,w,al,al,al,al,al,al,al,al,al,al,al,al,al]
inductive R7 (l:List PV) (n:Nat):bN->Hp->Prop
 |mk (k:Nat) (cs:List PV) (x4 x5 x6 x7 x8 x9:Option PV) (H:Hp) (e:H[k]?=ab cs) (a:jT cs) (z:aa cs=4+28*n) (o:cZ H=ao):R7 l n (Za l k x4 x5 x6 x7 x8 x9) H
theorem Yt {G:List Tk} (P:zY G) {m:Nat} (C:aa G<=m) (t:m<=6):dA G/\aa (av G)<=18:=by have:=HK G;exact⟨⟨P,by exact cP<|bj [aa G,m,aa<|av G] [] [(3,aJ,bf),(3,bf,.n 6),(1,ct,.m 3 aJ),(1,xi<|.n 100,ct)] rfl (cl C) (cl t)<|cl this⟩,by exact cP<|bj [aa G,m,aa<|av G] [] [(3,aJ,bf),(3,bf,.n 6),(1,ct,.m 3 aJ),(1,xi<|.n 18,ct)] rfl (cl C) (cl t)<|cl this⟩
theorem Me {u:Type} {l:List u} {i:Nat} {x:u} (h:l[i]?=ab x):i<aa l:=(aA.mp h).1
theorem JJ {j:List Int} (hn:aa j<=63) {m:Nat} (hm:m<=2) {t:Nat} {V:bN} (h:R7 (j.map .int) m V H):∃d g H',f0 V [4] ao (.int t)=ab d/\fR iN dF tuB d H=.ok (.next,g) H'/\R7 (j.map .int) (m+1) g H':=by
 obtain⟨k,cs,x4,x5,x6,x7,x8,x9,_,e,ha,N,L⟩:=h;have z:=Me e;refine cL (Yp (H:=H) j hn t) λa b v1 ha0 hb0=>?_;have k1:cZ (H++[ti a b])=true:=nJ L rfl;have M:rg (H++[ti a b]) H.length:=⟨a,b,by(refine ag (cj<|bS _) ?_;refine(ae (kn ..))▸?_);rfl,ha0,hb0⟩;have Z:(H++[ti a b])[k]?=ab cs:=by refine ag (dh z) ?_;exact e
 refine AD (Bb M k1 6<|cg _ _) λG H2 r c1 l1 I=>AD (Bb (I.at_ M) (I.ok k1) 2<|cg _ _) λps H3 o2 c2 l2 O=>?_;have d12:=I.trans O;refine bC (Yt c1 l1<|bS _) λu U=>?_;have W:=HK ps;refine cL (Kn (d12.at_ M) (d12.ok k1) (o:=av G)<|kz ‹_› (by rfl)) λx H4 s ix X=>?_;have d13:=d12.trans X;refine cL (Kn (d13.at_ M) (d13.ok k1) (o:=av G)<|kz ‹_› (by rfl)) λy H5 F iy d4=>?_;have S:=d13.trans d4;have R:=S.ok k1;have g5:H5[k]?=ab cs:=(S.get<|eR z).trans Z;refine gG (A8 u R x) λA l i f=>?_;refine gG (A8 u R y) λB q2 a2 q=>?_;refine gG (HD (p:=av ps) u (by exact cP<|bj [ps.length,(av ps).length] [] [(3,aJ,.n 2),(1,bf,.m 3 aJ),(1,xi<|.n 100,bf)] rfl (cl l2)<|cl W) R x) λC q3 a3 Q=>?_;have afn:=((ha.app i).app a2).app a3;have k6:cZ (H5++[cs++A++B++C])=true:=nJ R afn.gS;have J:H.length<H5.length:=by(refine(ae S.len)▸?_;refine(ae aI)▸?_);simp
 have va6:rg (H5++[cs++A++B++C]) H.length:=by obtain⟨a',b',e',p1,P⟩:=S.at_ M;exact⟨a',b',by refine ag (dh J) ?_;exact e',p1,P⟩
 refine gG (LP u k6) λD w a4 T=>?_;refine AD (HE (o:=av G) (x:=y) va6 k6 U iy) λE H7 q5 a5 z5 c=>?_;have g6:(H5++[cs++A++B++C])[H5.length]?=ab (cs++A++B++C):=by(refine ag (cj<|bS _) ?_;refine(ae (kn ..))▸?_);rfl
 have g7:H7[H5.length]?=ab (cs++A++B++C):=(c.get<|oY J).trans g6;have k7:=c.ok k6;have aF:=(afn.app a4).app a5;have k8:cZ (H7++[cs++A++B++C++D++E])=true:=nJ k7 aF.gS;refine aH (TG u k8 x y) λdu Y a6=>?_;have aG:=aF.app<|.cons a6 .nil
 have k9:cZ (H7++[cs++A++B++C++D++E++[.tup [cV "text_sub",.tup [a0<|av G,x.p,y.p],du]]])=true:=nJ k7 aG.gS
 have zt:(cs++A++B++C++D++E++[Wi [cV "text_sub",.tup [a0<|av G,x.p,y.p],du]]).length=4+28*(m+1):=by simp only[aI,bL,d7];exact cf (cP<|bj [cs.length,m,A.length,B.length,C.length,D.length,E.length] [] [(1,aJ,.a (.n 4)<|.m 28 bf),(1,ct,.n 5),(1,ig,.n 5),(1,.v 4,.n 6),(1,.v 5,.n 6),(1,.v 6,.n 5),(1,xi<|.a (.n 4)<|.m 28<|xi bf,.a (.a (.a (.a (.a (.a aJ ct) ig)<|.v 4)<|.v 5)<|.v 6)<|xi ef)] rfl (cl<|an N) (cl<|an f) (cl<|an q) (cl<|an Q) (cl<|an T)<|cl<|an z5)<|cP<|bj [m,cs.length,A.length,B.length,C.length,D.length,E.length] [] [(1,.a (.n 4)<|.m 28 aJ,bf),(1,.n 5,ct),(1,.n 5,ig),(1,.n 6,.v 4),(1,.n 6,.v 5),(1,.n 5,.v 6),(1,xi<|.a (.a (.a (.a (.a (.a bf ct) ig)<|.v 4)<|.v 5)<|.v 6)<|xi ef,.a (.n 4)<|.m 28<|xi aJ)] rfl (cl<|an<|ae N) (cl<|an<|ae f) (cl<|an<|ae q) (cl<|an<|ae Q) (cl<|an<|ae T)<|cl<|an<|ae z5
 refine⟨_,Za (j.map .int) H7.length (ab<|.int t) (ab<|.dR H.length) (ab<|.bytes<|av G) (ab<|.bytes<|av ps) (ab x.p)<|ab y.p,_,rfl,?_,.mk H7.length _ _ _ _ _ _ _ (H7++[cs++A++B++C++D++E++[.tup [cV "text_sub",.tup [a0<|av G,x.p,y.p],du]]]) (by(refine ag (cj<|bS _) ?_;refine(ae (kn ..))▸?_);rfl) aG zt k9⟩;refine bT (gk (ac rfl<|ac rfl aq) v1) ?_;refine iT (y:=[.bytes<|av G,.bytes<|av ps]) (ac (gk (ac rfl<|ac rfl aq) r)<|ac (gk (ac rfl<|ac rfl aq) o2) aq) ⟨rfl,by simp⟩ ?_;refine iT (y:=[x.p,y.p]) (ac (gk (ac rfl<|ac rfl aq) s)<|ac (gk (ac rfl<|ac rfl aq) F) aq) ⟨rfl,by simp⟩ ?_;refine bT (bn (bn (bn rfl (gk (ac rfl<|ac rfl aq) l)<|yg g5<|by exact cP<|bj [m,cs.length,A.length] [] [(28,aJ,.n 2),(1,bf,.a (.n 4)<|.m 28 aJ),(1,ct,.n 5),(1,xi<|.n 1000,.a bf ct)] rfl (cl hm) (cl<|an N)<|cl<|an f) (gk (ac rfl<|ac rfl aq) q2)<|BP<|by simp only[aI];exact cP<|bj [m,cs.length,A.length,B.length] [] [(28,aJ,.n 2),(1,bf,.a (.n 4)<|.m 28 aJ),(1,ct,.n 5),(1,ig,.n 5),(1,xi<|.n 1000,.a (.a bf ct) ig)] rfl (cl hm) (cl<|an N) (cl<|an f)<|cl<|an q) (gk (ac rfl<|ac rfl<|ac rfl aq) q3)<|Xp<|by simp only[aI];exact cP<|bj [m,cs.length,A.length,B.length,C.length] [] [(28,aJ,.n 2),(1,bf,.a (.n 4)<|.m 28 aJ),(1,ct,.n 5),(1,ig,.n 5),(1,.v 4,.n 6),(1,xi<|.n 1000,.a (.a (.a bf ct) ig)<|.v 4)] rfl (cl hm) (cl<|an N) (cl<|an f) (cl<|an q)<|cl<|an Q) ?_;refine bT (bn (bn rfl (gk (ac rfl aq) w)<|yg g6<|by simp only[aI];exact cP<|bj [m,cs.length,A.length,B.length,C.length,D.length] [] [(28,aJ,.n 2),(1,bf,.a (.n 4)<|.m 28 aJ),(1,ct,.n 5),(1,ig,.n 5),(1,.v 4,.n 6),(1,.v 5,.n 6),(1,xi<|.n 1000,.a (.a (.a (.a bf ct) ig)<|.v 4)<|.v 5)] rfl (cl hm) (cl<|an N) (cl<|an f) (cl<|an q) (cl<|an Q)<|cl<|an T) (gk (ac rfl<|ac rfl<|ac rfl aq) q5)<|Xp<|by simp only[aI];exact cP<|bj [m,cs.length,A.length,B.length,C.length,D.length,E.length] [] [(28,aJ,.n 2),(1,bf,.a (.n 4)<|.m 28 aJ),(1,ct,.n 5),(1,ig,.n 5),(1,.v 4,.n 6),(1,.v 5,.n 6),(1,.v 6,.n 5),(1,xi<|.n 1000,.a (.a (.a (.a (.a bf ct) ig)<|.v 4)<|.v 5)<|.v 6)] rfl (cl hm) (cl<|an N) (cl<|an f) (cl<|an q) (cl<|an Q) (cl<|an T)<|cl<|an z5) ?_;exact hX (jO rfl (bw (ac rfl<|ac (bw (ac (bw (ac rfl<|ac rfl aq)<|by simp)<|ac rfl<|ac rfl aq)<|by simp)<|ac (gk (ac rfl<|ac rfl<|ac rfl aq) Y) aq)<|by simp)<|by simp only[aI];exact cP<|bj [m,cs.length,A.length,B.length,C.length,D.length,E.length] [] [(28,aJ,.n 2),(1,bf,.a (.n 4)<|.m 28 aJ),(1,ct,.n 5),(1,ig,.n 5),(1,.v 4,.n 6),(1,.v 5,.n 6),(1,.v 6,.n 5),(1,xi<|.n 16777216,.a (.a (.a (.a (.a bf ct) ig)<|.v 4)<|.v 5)<|.v 6)] rfl (cl hm) (cl<|an N) (cl<|an f) (cl<|an q) (cl<|an Q) (cl<|an T)<|cl<|an z5) bH
end
def w4:List PV:=[.tup [cV "text_at",.tup [a0 [97],om],.tup [cV "BoundsError",.tup [a0 [97],om]]],.tup [cV "text_repeated",.tup [a0 [],om],a0 []],.tup [cV "text_find",.tup [a0 [195,169],a0 [169]],uR],.tup [cV "text_at",.tup [a0 [97],.tup [cV "char",.int 97]],.tup [cV "TypeError"]]]
theorem UC:jT w4:=
 .cons (.mk _ _ _ 742 yP (by intro a b c;kernel_rfl) rfl rfl) (.cons (.mk _ _ _ 801 lp (by intro a b c;kernel_rfl) rfl rfl)<|.cons (.mk _ _ _ 825 rP (by intro a b c;kernel_rfl) rfl rfl)<|.cons (.mk _ _ _ 742 yP (by intro a b c;kernel_rfl) rfl rfl) .nil)
theorem Y6:lZ RC T7=[.assign 3 inE,.for [4] ao itE tuB]:=rfl
theorem Um:lZ RC Kj=[laS]:=rfl
theorem Qj:aa zV=23:=rfl
theorem QJ (r:ej O d) (h:Hd d D q) (U:bo iN pv V []=.ok (.dct cG d5) []) (J:bo iN ck V []=.ok (.str O) []) (W:bo iN dE V []=.ok (.tup D) []):bo iN (.az 1114 [.sub pv ck,dE]) V []=.ok q []:=by
 refine Dl r.get λa b c e=>gk (ac (bx U J e)<|ac W aq) ?_
 have G:iN 1114=CF 1114:=by
  have:=pS (v:=CF) (Q:=dF) (a:=1114) (l:=rr) (r:=[]) rfl
  rwa [fh] at this
 refine(ae G)▸?_;show(if(1114:Nat)=1114 then pE _ else b6 1114 _) []=_;refine(ae<|if_pos rfl)▸?_;exact h a b c
theorem T6 (f:p9 8 d=ao):lF .NotEq d d []=.ok ah []:=by
 have F:=(Kt 8 d f).1;refine fg (a:=ao) ?_ rfl;unfold zx;have Z:nu [] d=none:=by cases d<;>first|rfl|exact kh f
 refine(ae Z)▸?_;dsimp only;rw[F]
theorem Ml (j:List Int) (B:aa j<=63):Se (j.map .int):=by
 have hi:fR iN dF [.assign 3 inE] (fL (fw (aa zV) [.lst<|j.map .int]) [1,2] [.dct cG d5,om]) []=.ok (.next,Za (j.map .int) 0 al al al al al al) [w4]:=by unfold fw;refine(ae Qj)▸?_;kernel_rfl
 have t0:R7 (j.map .int) 0 (Za (j.map .int) 0 al al al al al al) [w4]:=.mk 0 w4 _ _ _ _ _ _ _ rfl UC rfl rfl;have J:=Bi (H:=[w4]) (l:=j.map .int)<|by exact(ae (aB ..))▸(kz ‹_› (by rfl))
 rw[aB] at J
 have d:∃b:Int,(b=1\/b=2)/\bo iN (.bv xB [cI 1,.bv CL [cI 2,.bv eN [cy]]]) (Za (j.map .int) 0 al al al al al al) [w4]=.ok (.int b) [w4]:=
  ⟨if(if((aa j):Int)<2 then((aa j):Int) else 2)>1 then(if((aa j):Int)<2 then((aa j):Int) else 2) else 1,by split;exact .inl<|if_neg<|cX.mpr<|NU ‹_›;exact .inr rfl,dJ (ac rfl<|ac (dJ (ac rfl<|ac (dJ (ac rfl aq) J) aq) rfl) aq) rfl⟩
 refine aH d λb R d=>?_
 obtain⟨m,X,i,C,z⟩:∃(m:Nat) (X:bN) (i:Hp),fR iN dF [.for [4] ao itE tuB] (Za (j.map .int) 0 al al al al al al) [w4]=.ok (.next,X) i/\(R7 (j.map .int) m X i/\m<=2):=by
  refine wi (JJ (t:=0) B (by decide) t0) λF y E I Z t1=>?_;rcases R with rfl|rfl
  ·exact⟨1,_,_,qW (pZ d (by decide) (l:=[.int 0]) rfl) (iw I Z rfl) bH,t1,by decide⟩
  ·refine wi (JJ (t:=1) B (by decide) t1) λM A G Q S t2=>?_;exact⟨2,_,_,qW (pZ d (by decide) (l:=[.int 0,.int 1]) rfl) (iw I Z<|iw Q S rfl) bH,t2,by decide⟩
 refine bC z λz hm=>?_;obtain⟨k,D,p,o,s,u,v,w,_,e,T,N,L⟩:=z
 have W:∃r,sj D=al::ab (.dct cG d5)::al::ab (.lst D)::r:=⟨aW 19 al,by
  unfold sj
  refine(ae Qj)▸?_;rfl⟩
 refine bd W λr W=>?_;refine .mk (Za (j.map .int) k p o s u v w) i k D (sj D) [] ?_ rfl rfl e T.gS ?_
 ·refine(ae Y6)▸?_;exact(ve hi).trans C
 ·(refine(ae Um)▸?_;refine(ae W)▸?_)
  have Y:bo iN (aju ck i6 [al,al,al,al,al,ab 1] [1,2,3] ah [N2 (XQ 1114 [CE.sub pv ck,dE]) [yp] [i6]]) (al::ab (.dct cG d5)::al::ab (.lst D)::r) []=.ok (.lst<|(D.filter λ_=>ah).map id) []:=
   sd (l:=D) (g:=id) (f:=id) (P:=λ_=>ah) (nb rfl) (by simp) (by exact cP<|bj [m,D.length] [] [(28,aJ,.n 2),(1,bf,.a (.n 4)<|.m 28 aJ),(1,xi<|.n 1000,bf)] rfl (cl hm)<|cl<|an N) λc hc=>by obtain⟨O,V,q,U,d,hd,x,_⟩:=T c hc;exact⟨_,rfl,a7 (QJ d hd rfl rfl rfl) rfl<|T6 x,λh=>by cases h⟩
  rw[ju.mpr λ_ _ h=>by cases h] at Y;exact bG<|oq Y (iA aq<|by simp)<|show zx (.lst []) (.lst []) []=.ok ao [] by unfold zx;simp[nu]
theorem claim:cR.Holds:=zk Ml
end
end Mine.Internal
end
theorem PySem.Challenge.cw_sf0044_01_holds : PySem.Challenge.rw_sf0044_01.Holds :=
 Mine.Internal.claim
