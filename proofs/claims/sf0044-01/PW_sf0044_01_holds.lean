import PyProof.Rows.All
import Open.FastLooks
import KE.KLam
import KE.KDictOf
import KE.KSortTup
import OpenK.XOpen
import OpenK.ZGo
import OpenK.AllK
import Lean
import PySem.Challenge.RW_sf0044_01
set_option Elab.async false
set_option linter.all false
set_option bootstrap.genMatcherCode false
set_option genSizeOf false
set_option genInjectivity false
set_option backward.match.sparseCases false
set_option maxRecDepth 100000
noncomputable section
namespace Mine.Internal
open And renaming intro->dn
open Array renaming any_eq_false'->Ls,extract_size->Ol,foldl->abK,forIn_toList->Ok,getD_eq_getD_getElem?->o7,getElem?_eq_getElem->Co,getElem?_eq_some_iff->fK,getElem?_setIfInBounds->Ap,getElem_mem->OL,isEmpty_iff->OK,length_toList->uL,mem_iff_getElem->Hg,mem_toList_iff->J2,mk->WD,replicate->jD,toArray_toList->J1,toList->o6
open Bool renaming and_assoc->X6,and_eq_true->bu,and_eq_true_iff->fG,and_false->ic,and_self->abd,bne_false->pK,bne_true->vR,eq_false_iff->SZ,eq_iff_iff->iM,false->ai,false_and->X5,false_eq_true->bP,false_ne_true->bq,false_or->abc,noConfusion->ku,not_eq_eq_eq_not->J0,not_eq_true'->j5,not_true->vQ,or_eq_false_iff->nV,or_eq_true->gL,or_false->abb,or_true->He,rec->tZ,true->aq,true_and->nL
open Classical renaming byContradiction->j7
open Eq renaming symm->af,trans->ah
open Except renaming bind->aa8
open ForInStep renaming yield->fg
open Function renaming comp->SW
open Int renaming add_assoc->ro,add_comm->yc,add_le_add->Ei,add_mul->ahc,add_nonneg->aa6,add_sub_cancel->cr,add_zero->jC,ediv_one->agg,fdiv->rO,fmod->ij,le_antisymm->cE,le_of_eq->aU,le_of_lt->sZ,le_of_lt_add_one->Of,le_refl->f4,le_sub_one_of_lt->Oe,le_trans->fW,lt_irrefl->abF,lt_of_le_of_lt->eJ,lt_of_lt_of_le->lZ,lt_toNat->agf,lt_trans->kH,max_eq_right->WA,min_eq_right->Wz,mul_add->uK,mul_le_mul_of_nonneg_right->ju,mul_nonneg->aa5,mul_zero->age,natCast_add->A9,natCast_nonneg->bC,natCast_succ->Wy,natCast_zero->Wx,ne_of_gt->agd,neg_add->AA,neg_eq_neg_one_mul->hH,not_le->i6,not_lt->cX,ofNat->jP,ofNat_inj->lu,ofNat_le->dI,ofNat_lt->cK,one_mul->ahb,sub_eq_add_neg->wX,sub_neg->aha,sub_nonneg->aa4,sub_nonpos_of_le->Od,sub_zero->JW,toNat_le->JV,toNat_lt->agc,toNat_natCast->et,toNat_of_nonneg->bB,toNat_of_nonpos->OH,toNat_sub->abE,zero_add->sY,zero_mul->agb
open List renaming all_cons->nK,all_eq_true->cn,all_map->abB,any_append->Ww,any_cons->vP,any_eq_false->mf,any_eq_true->rG,any_map->rW,any_nil->abA,append_assoc->fc,append_nil->fq,append_of_mem->OG,append_toArray->Oc,cons_append->Tf,dropLast_eq_take->JU,drop_eq_nil_of_le->Hc,drop_length->nq,drop_zero->X2,eq_nil_of_length_eq_zero->Am,ext_getElem?->SU,filter->aga,filterMap->tW,filterMap_append->nj,filterMap_cons->eZ,filterMap_cons_none->qD,filterMap_cons_some->qC,filterMap_map->OF,filter_append->OE,filter_cons_of_neg->gH,filter_cons_of_pos->jj,filter_eq_nil_iff->jA,filter_eq_self->Ob,filter_filter->OD,filter_map->Az,find?_cons->Wv,find?_toArray->OC,findIdx?_eq_none_iff->Eh,findIdx?_eq_some_iff_getElem->l4,flatMap->xJ,flatMap_append->uP,flatMap_cons->SS,flatMap_singleton->Hb,flatten_cons->SR,foldl->ag9,foldl_cons->ot,foldl_toArray->vU,forIn_cons->cC,forIn_nil->X1,getD_eq_getElem?_getD->eB,getElem?_append_left->dh,getElem?_append_right->ck,getElem?_eq_getElem->aP,getElem?_eq_none->JT,getElem?_eq_none_iff->Eg,getElem?_eq_some_iff->aB,getElem?_inj->xI,getElem?_map->bZ,getElem?_replicate->G0,getElem?_set->xH,getElem?_set_ne->dQ,getElem?_set_self->cJ,getElem?_toArray->gc,getElem?_zip_eq_some->qc,getElem_cons_drop->Ha,getElem_mem->hZ,getElem_of_mem->o4,getLast?_eq_getElem?->Ef,getLast?_map->xG,idxOf_cons->Wu,isEmpty_iff->kt,length->aa,length_append->aJ,length_cons->bN,length_drop->hY,length_eq_one_iff->G9,length_eq_zero_iff->cy,length_filter_le->gb,length_map->aC,length_nil->d8,length_pos_iff->kR,length_replicate->tz,length_reverse->kQ,length_set->d7,length_take->rF,length_zip->sX,lookup->g9,lookup_cons->bt,lookup_nil->Ay,map->rE,mapM_cons->Cg,map_append->b4,map_congr_left->o0,map_cons->bv,map_fst_zip->rD,map_map->gV,map_nil->rV,map_reverse->Te,map_snd_zip->rC,map_take->aa1,mem_append->eG,mem_append_left->kk,mem_cons->aM,mem_cons_of_mem->bc,mem_cons_self->bd,mem_filter->Wt,mem_map->b3,mem_of_getElem?->br,mem_range->pJ,mem_singleton->aV,mem_singleton_self->ji,mem_toArray->Td,nil_append->gK,nodup_append->fO,nodup_cons->ls,nodup_nil->X0,not_mem_nil->aZ,pairwise_append->Lq,pairwise_cons->OB,range->dg,range'->Lp,range'_succ->rB,range_succ->lr,range_succ_eq_map->G8,rec->kj,replicate->aX,reverse_cons->qw,set_set->abz,singleton_append->JS,size_toArray->aS,take->ajK,take_add_one->mc,take_append_drop->fj,take_left'->lq,take_length->fF,take_nil->Ex,take_of_length_le->fN,take_succ_cons->Oa,toArray->ag,zip->XZ,zipIdx_cons->yB,zip_cons_cons->pI
open List.Pairwise renaming nil->Ch
open List.cons renaming inj->An
open Nat renaming add_assoc->d9,add_comm->gs,add_le_add_left->dH,add_le_add_right->uJ,add_mul->ag8,add_right_comm->SP,add_sub_cancel->SN,add_sub_cancel_left->gJ,add_zero->af9,beq->nU,ble->nS,div_one->ag7,eq_of_beq_eq_true->Lo,le_add_left->ch,le_add_right->co,le_antisymm->cg,le_of_eq->ao,le_of_lt->eV,le_of_lt_succ->iW,le_of_succ_le->yb,le_refl->bT,le_succ->ej,le_total->ya,le_trans->aN,lt_add_of_pos_right->jt,lt_irrefl->GZ,lt_of_le_of_lt->bY,lt_of_le_of_ne->p0,lt_of_lt_of_le->lY,lt_of_succ_lt_succ->sW,lt_or_eq_of_le->wV,lt_or_ge->mN,lt_succ_of_lt->iV,lt_succ_self->kG,lt_trans->JR,min_eq_left->eN,min_eq_right->rN,min_le_right->Ws,mul_comm->af8,mul_le_mul->Ee,mul_le_mul_left->OA,ne_of_gt->pg,ne_of_lt->eU,not_le->wU,not_lt->cW,not_lt_zero->iR,one_mul->ag6,rec->x3,sub_add_cancel->bQ,sub_eq_zero_of_le->Ln,sub_le->sV,sub_lt_sub_left->pa,sub_self->kE,sub_zero->JQ,succ->aa0,succ_inj->JP,succ_le_succ->Al,succ_ne_self->rM,succ_pos->mK,zero_add->fV,zero_le->hX
open Nat.succ renaming inj->nR
open Ne renaming symm->js
open Option renaming bind->G7,bind_eq_some_iff->Ed,bind_some->xF,filter_eq_some_iff->pH,getD->G6,isNone_iff_eq_none->A7,isSome_iff_exists->kP,join_eq_some_iff->Ec,map_eq_some_iff->ba,map_some->yA,mem_toList->N7,none->am,none->fS,some->ac,toList_some->Lm
open Option.some renaming inj->al,injEq->ajJ
open PUnit renaming unit->lp
open Prod renaming fst->Ll
open Prod.mk renaming injEq->A6
open Pure renaming pure->jh
open PyProof renaming noPylong_small->Eb
open PyProof.Rows renaming IntsAre->abD,exec_Assign->Wl,ge_int->ag5,getItem_tuple->ag4,gt_int->ag3,le_int->ag2,len_tuple->ag1,listUpdate_at->yx,lt_int->ag0,mul_int->agZ,seqObj->nz,slot_tuple_getitem->aaS,subscriptTail->im
open PyProof.Rows.IsTup renaming typeIs->aa2
open PySem renaming Addr->bn,Arguments->jE,Around->iN,Builtin->mi,CmpOp->WB,Comprehension->Oj,DictEntry->cF,Env->mh,Expr->bL,Flow->Ej,FuncData->wY,Heap->eK,IsEnum->aa3,Keyword->abC,NameKind->f8,Obj->uO,Operator->tG,OsState->gU,Params->cG,Pos->oq,Scope->rU,Sem->jN,Shared->bj,Slot->Wr,Stmt->rL,Str->Wq,Str->an,StrKeys->uI,Tok->GY,World->dG,argsOk->lW,arm_assign_Name->agW,arm_assign_Tuple->af4,arm_eval_Attribute->aaZ,arm_eval_Call->N4,arm_eval_Call_Name'->dN,arm_eval_Name->yz,arm_eval_Tuple->ajG,arm_eval_UnaryOp->af3,assignAll->Oy,assignInOrder->N3,backTo->D9,binaryOp->Wp,bindArgs->rn,bindName->JN,builtinLookup_eq_fast->iQ,builtinType->wS,builtinType_eq_fast->lV,cLine->yy,callGetattribute->af1,callMarked->aaX,callWith->iL,call_gives->jr,call_meets->Aj,cellsFrom->xD,clipAt->uH,codeAny->nJ,codeAny_call_builtin->wR,codeAny_call_function->Tb,compEnvC->A4,compPost->Wn,compareOp->i7,constantsAlone->nH,entryFor->A3,entryFor_of_tree->ln,eval->iC,evalArgs->Wm,evalEach->tE,evalEachOpt->Ev,evalPairs_cons->ajF,eval_Subscript->JM,excClassObj->Eu,exec->N2,exec_Expr->Ak,exec_Return_some->af0,execs->kr,findBy->wQ,foldedForSure->o9,getAttr->abw,getMethod->xC,getMethod_builtin->rT,holding->dK,intItems->Wj,intKind_is->aaV,isInstance->JL,isSubtype_type->nG,isTrue->pZ,keeperOf->nE,letOwnedTupleGo->agV,letTemporaryGo->JK,list_getitem_lookup->XX,loadName->rm,mainGlobals->Er,markedEach->aaU,merged->aaT,merged_append_of_fresh->SL,methodCall->uF,methodCallForm->nB,methodCallPos->o8,model->Ox,newFunctionEnv->JJ,newList->abv,noteFrame->Ow,nsFind->lf,pastItsLine_dict->D8,plainObj_wpAny_Assign_Attribute->n7,pushCells->xB,pushCells_keeps->GX,pyHashByItsType->agU,pyIter->JI,rawInt->pY,recursionLimit->nA,refuseLoop_ref->ajC,release->SK,seqIndex?->Ov,seqItems?->D7,setFlight->xA,signature?_of->ki,sizeLine->jb,sizeLine_eq->bh,sliceBounds->Wi,slicePick->afZ,sliceRange->Ai,specialOf->afY,spliced->gG,standAt->f7,starEach->rl,storeName->afX,strKind->XY,subDict->SJ,swappedStores->N1,swapsWith->Ou,sysModules->oY,treeTable->oX,truthy->wO,typeIs_int->JH,typeIs_str->JG,typeLookup_type->l9,typeOf->sU,wpAny->aD,wpAny_Assign_Name->rS,wpAny_For->afU,wpAny_Return_some->gS,wpAny_Tuple->mX,wpAny_askSetting->afT,wpAny_binaryOp_repeat->Ta,wpAny_bind->ak,wpAny_call->oW,wpAny_callSpecial?_slot->Ot,wpAny_call_entry->D6,wpAny_dictEntries->A2,wpAny_dictEpoch->agT,wpAny_dropValue->GW,wpAny_eqBool_str->D5,wpAny_field->lb,wpAny_holding->a9,wpAny_isSubtype_exc->XW,wpAny_ite_true->JF,wpAny_load->uE,wpAny_loadName_cell->xY,wpAny_loadName_free->XV,wpAny_loadName_local->wN,wpAny_loadPart->JE,wpAny_loadPart_at->ja,wpAny_lookBehind->D4,wpAny_mkBytes->sT,wpAny_mkInt->Eo,wpAny_mkStr->Wg,wpAny_mkText->SI,wpAny_mono->a0,wpAny_newList->yw,wpAny_newObj_type->rR,wpAny_newTuple->ajA,wpAny_of_eq->la,wpAny_point->mW,wpAny_pure->av,wpAny_pyIter_list->abr,wpAny_pyIter_tuple->Ah,wpAny_rule->mH,wpAny_seqItems->JD,wpAny_setField->rk,wpAny_specialOf->uM,wpAny_standAt->cf,wpAny_truthy_bool->i9,wpAny_typeOf->SH,wpAt_bind->Tc,wpAt_of_wpAny->Lk
open PySem.Around renaming frames_deeper->tA,in1_units->xM
open PySem.Builtin.Bytes renaming Piece->abI,bound?->o5,buffer?->uQ,countArg->WC,find?->abH,find?->ago,fitsIndex->agn,fitsIndex->rX,joinItems->Tg,joined->agm,joined->rP,rfind?->aba,rfind?->agl,searchArgs->hJ,takeBufferQuiet?->G1,toLower->X4,tooLong->X3,tooLong->agk,utf8At->aa9,utf8At->fZ,window->eh,window->wZ
open PySem.Builtin.List renaming listUpdate->ahf
open PySem.Builtin.ObjectAttr renaming storeInDict->Ep
open PySem.Builtin.Range renaming rangeSize->xL,small->AB
open PySem.Builtin.SmallTypes renaming nextOf->jv
open PySem.Builtin.Str renaming tooLong->ajP
open PySem.Builtin._codecs renaming Faults->SX,TextCodec->Oz,encodeNarrow->uG,utf8Decoder->Wh
open PySem.Calls renaming evalArgs_plain->JZ,loadGlobal_builtin->El,loadGlobal_global->Ey,wpAny_keep->yd
open PySem.Challenge renaming pw_sf0044_01->bS,rw_sf0044_01->cT
open PySem.CmpOp renaming LtE->ahe,NotEq->yD
open PySem.Code renaming builtin->xK,quiet_builtin->OJ
open PySem.DictEntry renaming refKey->JY
open PySem.EntryCells renaming newEntry->Ek
open PySem.Env renaming kindOf->SY
open PySem.Expr renaming Constant->aa7,Name->yC
open PySem.Expr.Call renaming elim->Oi
open PySem.Expr.Constant renaming elim->Bd
open PySem.Expr.Dict renaming elim->Oh
open PySem.Expr.DictComp renaming elim->agi
open PySem.Expr.ListComp renaming elim->agh
open PySem.Expr.Name renaming elim->Og
open PySem.Expr.SetComp renaming elim->ahd
open PySem.Expr.Subscript renaming elim->Ao
open PySem.Expr.Tuple renaming elim->JX
open PySem.F renaming excBase_Exception->pf,plainAttrs_dict->Ce,slot_dict_update->A5,store_Exception->Cd
open PySem.Flow renaming next->l0
open PySem.Heap renaming ExtBut->tX,SameBut->fQ,get?_none_of_le->iS,get?_push_at->SV,get?_push_of_some->aR,get?_push_size->b6,get?_update_ne->gQ,get?_update_other->fP,get?_update_self->ek,lt_size->dS,size_push->jk
open PySem.Heap.DictOf renaming new->ajM
open PySem.Heap.SameBut renaming update->ds
open PySem.NameKind renaming cell->SQ,free->iD
open PySem.Obj renaming cls_mapFields->x0,data_mapDictKeys->N9,data_mapFields->ig,isFreed_of_fields->j4,mapFields->nQ,mapSeq->fU,putName->N8
open PySem.Operator renaming Add->nP,Pow->qB,Sub->uN
open PySem.PyData renaming canLay0->Ax,canLayAll0->N6,depth->Ew,depthAll->SM,int->mY,keyHash->gq,layable0->nO,weight->Cf,weightAll->xE
open PySem.Reads renaming str->agY
open PySem.ReadsAll renaming cons->Aw
open PySem.SeqAt.EqAt renaming same->ajN
open PySem.SeqAt.RcAt renaming tuples->af7
open PySem.Stmt.ClassDef renaming elim->af6
open PySem.Stmt.FunctionDef renaming elim->wT
open PySem.Stmt.Return renaming elim->ajI
open PySem.Str renaming ofString->bb,ofString->fw
open PySem.Value renaming bool->ni,builtin->Ea,bytes->JO,isInt->tF,isStrOf->fJ,isStrOf_shape->Lj,none->gf,ref->ge,str->agX,type->nh
open PySem.Value.bytes renaming inj->ajH
open PySem.W renaming Looks->wW,SharedT->aby,boot_drawn->aaY,boot_heap->qA,boot_o_1->Wo,boot_toks->af2,dictOf->aaW,eq_bytes->N5,findIn->oZ,kas_sort->wP,look_both->qz,looks_clsIn->Et,looks_findIn->nC,looks_mroIn->Es,topRun->aaR,typeIs_bytes->dM
open PySem.W.BMul renaming args_mul->abf,entry_mul->X7,int_declines->S0,noFill->agp,repeats->abJ,slot_mul->abe
open PySem.W.FB renaming owner_bytes->jw,slot_bytes_decode->OI,slot_bytes_getitem->tY
open PySem.W.Fast renaming sEq->Lr,sEq_iff->abG,te14364793385576792824->pc,tw13343964577679436407->Bc,tw17691160309236699985->Bb,tw17960256430627541270->Ba,tw2368527892694137696->Cn,tw2436336058641802641->Cm,tw5923862056798008813->Ck,tw8326940854005059898->Cj,tw9807087744658564304->Ci
open PySem.W.KBy renaming buffer_eq->vV,tooLong_not->A8
open PySem.W.Looks renaming of_pure->np
open PySem.Walks renaming list->af5
open PySem.Within renaming cons->xZ,nil->abx
open PySem.pyHashByItsType renaming reduced->vT
open PySem.swappedStores renaming match_5->afW,match_8->afV
open Std.Legacy.Range renaming forIn_eq_forIn_range'->fM,size->kB
section
open PySem PySem.W PySem.Calls PyProof.Rows
section
variable {G p q r s t m n o:Prop}
theorem bD (h:p/\q) (k:p->q->G):G:=k h.1 h.2
theorem i8 (h:p/\q/\r) (k:p->q->r->G):G:=k h.1 h.2.1 h.2.2
theorem vD (h:p/\q/\r/\s) (k:p->q->r->s->G):G:=k h.1 h.2.1 h.2.2.1 h.2.2.2
theorem DE (h:p/\q/\r/\s/\t) (k:p->q->r->s->t->G):G:=k h.1 h.2.1 h.2.2.1 h.2.2.2.1 h.2.2.2.2
theorem aeC (h:p/\q/\r/\s/\t/\m/\n/\o) (k:p->q->r->s->t->m->n->o->G):G:=k h.1 h.2.1 h.2.2.1 h.2.2.2.1 h.2.2.2.2.1 h.2.2.2.2.2.1 h.2.2.2.2.2.2.1 h.2.2.2.2.2.2.2
end
section
variable {G:Prop} {p q r:α->Prop}
theorem be (h:∃x,p x) (k:∀x,p x->G):G:=h.elim λx h=>k x h
theorem aI (h:∃x,p x/\q x) (k:∀x,p x->q x->G):G:=h.elim λx h=>bD h<|k x
theorem gN (h:∃x,p x/\q x/\r x) (k:∀x,p x->q x->r x->G):G:=h.elim λx h=>i8 h<|k x
end
section
variable {G:Prop} {p q r s t m n o:α->β->Prop}
theorem lm (h:∃x y,p x y) (k:∀x y,p x y->G):G:=h.elim λx h=>be h<|k x
theorem iI (h:∃x y,p x y/\q x y) (k:∀x y,p x y->q x y->G):G:=h.elim λx h=>aI h<|k x
theorem cN (h:∃x y,p x y/\q x y/\r x y) (k:∀x y,p x y->q x y->r x y->G):G:=h.elim λx h=>gN h<|k x
theorem AV (h:∃x y,p x y/\q x y/\r x y/\s x y) (k:∀x y,p x y->q x y->r x y->s x y->G):G:=h.elim λx h=>h.elim λy h=>vD h<|k x y
theorem aai (h:∃x y,p x y/\q x y/\r x y/\s x y/\t x y) (k:∀x y,p x y->q x y->r x y->s x y->t x y->G):G:=h.elim λx h=>h.elim λy h=>DE h<|k x y
theorem aeB (h:∃x y,p x y/\q x y/\r x y/\s x y/\t x y/\m x y) (k:∀x y,p x y->q x y->r x y->s x y->t x y->m x y->G):G:=h.elim λx h=>h.elim λy h=>k x y h.1 h.2.1 h.2.2.1 h.2.2.2.1 h.2.2.2.2.1 h.2.2.2.2.2
theorem aah (h:∃x y,p x y/\q x y/\r x y/\s x y/\t x y/\m x y/\n x y/\o x y) (k:∀x y,p x y->q x y->r x y->s x y->t x y->m x y->n x y->o x y->G):G:=h.elim λx h=>h.elim λy h=>aeC h<|k x y
end
section
variable {G:Prop} {p q r s t m:α->β->γ->Prop}
theorem DD (h:∃x y z,p x y z) (k:∀x y z,p x y z->G):G:=h.elim λx h=>lm h<|k x
theorem sF (h:∃x y z,p x y z/\q x y z) (k:∀x y z,p x y z->q x y z->G):G:=h.elim λx h=>iI h<|k x
theorem wB (h:∃x y z,p x y z/\q x y z/\r x y z) (k:∀x y z,p x y z->q x y z->r x y z->G):G:=h.elim λx h=>cN h<|k x
theorem I7 (h:∃x y z,p x y z/\q x y z/\r x y z/\s x y z) (k:∀x y z,p x y z->q x y z->r x y z->s x y z->G):G:=h.elim λx h=>AV h<|k x
theorem aeA (h:∃x y z,p x y z/\q x y z/\r x y z/\s x y z/\t x y z) (k:∀x y z,p x y z->q x y z->r x y z->s x y z->t x y z->G):G:=h.elim λx h=>aai h<|k x
theorem I6 (h:∃x y z,p x y z/\q x y z/\r x y z/\s x y z/\t x y z/\m x y z) (k:∀x y z,p x y z->q x y z->r x y z->s x y z->t x y z->m x y z->G):G:=h.elim λx h=>aeB h<|k x
end
section
variable {G:Prop} {p q r s t:α->β->γ->δ->Prop}
theorem Vw (h:∃x y z u,p x y z u/\q x y z u) (k:∀x y z u,p x y z u->q x y z u->G):G:=h.elim λx h=>sF h<|k x
theorem RK (h:∃x y z u,p x y z u/\q x y z u/\r x y z u) (k:∀x y z u,p x y z u->q x y z u->r x y z u->G):G:=h.elim λx h=>wB h<|k x
theorem aez (h:∃x y z u,p x y z u/\q x y z u/\r x y z u/\s x y z u) (k:∀x y z u,p x y z u->q x y z u->r x y z u->s x y z u->G):G:=h.elim λx h=>I7 h<|k x
theorem aey (h:∃x y z u,p x y z u/\q x y z u/\r x y z u/\s x y z u/\t x y z u) (k:∀x y z u,p x y z u->q x y z u->r x y z u->s x y z u->t x y z u->G):G:=h.elim λx h=>aeA h<|k x
end
section
variable {G:Prop} {p q r s t m n:α->β->γ->δ->ε->Prop}
theorem aex (h:∃x y z u v,p x y z u v) (k:∀x y z u v,p x y z u v->G):G:=h.elim λx h=>h.elim λy h=>DD h<|k x y
theorem RJ (h:∃x y z u v,p x y z u v/\q x y z u v) (k:∀x y z u v,p x y z u v->q x y z u v->G):G:=h.elim λx h=>Vw h<|k x
theorem aew (h:∃x y z u v,p x y z u v/\q x y z u v/\r x y z u v) (k:∀x y z u v,p x y z u v->q x y z u v->r x y z u v->G):G:=h.elim λx h=>RK h<|k x
theorem aeu (h:∃x y z u v,p x y z u v/\q x y z u v/\r x y z u v/\s x y z u v/\t x y z u v/\m x y z u v/\n x y z u v) (k:∀x y z u v,p x y z u v->q x y z u v->r x y z u v->s x y z u v->t x y z u v->m x y z u v->n x y z u v->G):G:=h.elim λx h=>h.elim λy h=>h.elim λz h=>h.elim λu h=>h.elim λv h=>k x y z u v h.1 h.2.1 h.2.2.1 h.2.2.2.1 h.2.2.2.2.1 h.2.2.2.2.2.1 h.2.2.2.2.2.2
end
section
variable {G:Prop} {p q r s t:α->β->γ->δ->ε->ζ->Prop}
theorem aet (h:∃x y z u v w,p x y z u v w) (k:∀x y z u v w,p x y z u v w->G):G:=h.elim λx h=>aex h<|k x
theorem aes (h:∃x y z u v w,p x y z u v w/\q x y z u v w/\r x y z u v w/\s x y z u v w/\t x y z u v w) (k:∀x y z u v w,p x y z u v w->q x y z u v w->r x y z u v w->s x y z u v w->t x y z u v w->G):G:=h.elim λx h=>h.elim λy h=>aey h<|k x y
end
structure aO where
 P:cG
 f:bn->Option uO
 fr:bn->Prop:=λ_=>False
instance:CoeFun aO (λ_=>bn->Option uO):=⟨aO.f⟩
set_option genCtorIdx false
inductive PV where
 |none
 |bool (b:Bool)
 |int (i:Int)
 |str (s:List Nat)
 |bytes (b:List UInt8)
 |tup (l:List PV)
 |lst (l:List PV)
 |dR (i:Nat)
 |ref (a:bn)
 |ty (n:String)
 |blt (id:String)
 |Ki (a b:Int)
 |dct (ks:List (List Nat)) (vs:List PV)
 |xT (ks:List Int) (vs:List PV)
 |uo
 |AM
noncomputable def PV.ctorIdx (p:PV):Nat:=p.casesOn 0 (λ_=>1) (λ_=>2) (λ_=>3) (λ_=>4) (λ_=>5) (λ_=>6) (λ_=>7) (λ_=>8) (λ_=>9) (λ_=>10) (λ_ _=>11) (λ_ _=>12) (λ_ _=>13) 14 15
abbrev Hp:=List<|List PV
inductive kg (α:Type) where
 |ok (a:α) (H:Hp)
 |exc (p:PV) (H:Hp)
 |stuck
set_option genCtorIdx true
noncomputable def kg.ctorIdx (x:kg Z):Nat:=x.casesOn (λ_ _=>0) (λ_ _=>1) 2
theorem Ku (e:.ok a h=kg.ok b k):a=b/\h=k:=by cases e;exact⟨rfl,rfl⟩
theorem xd:kg.ok a H≠.stuck:=nofun
theorem aiL:(.exc p H:kg Z)≠.stuck:=nofun
theorem nu {G:Prop} (h:let P:=G;P):G:=h
theorem xS (h:let c:=Q;aD M A t c E s):aD M A t Q E s:=h
theorem MD (h:let f:=E;aD M A t Q f s):aD M A t Q E s:=h
theorem adb (h:let F:=s;aD M A t Q E F):aD M A t Q E s:=h
theorem f6 (T:∀(Q:Z->bj->Prop) (E:Value->bj->Prop),Q v F->aD M A x Q E s) (k:aD M A (f v) Q E F):aD M A (x>>=f) Q E s:=ak<|T _ _ k
theorem V1 (T:x=pure v) (k:aD M A (f v) Q E s):aD M A (x>>=f) Q E s:=ak<|la T k
theorem pe (k:aD M A (f v) Q E s):aD M A (pure v>>=f) Q E s:=ak<|av k
theorem kW (e:t=m) (h:aD M A m Q E s):aD M A t Q E s:=e▸h
def IM (Z:Type):=Hp->kg Z
namespace IM
noncomputable def pure (a:α):IM α:=λH=>.ok a H
noncomputable def bind (m:IM Z) (f:Z->IM β):IM β:=λH=>match m H with
 |.ok a i=>f a i
 |.exc p i=>.exc p i
 |.stuck=>.stuck
end IM
noncomputable def aQ:IM α:=λ_=>.stuck
noncomputable def aeo (p:PV):IM α:=λH=>.exc p H
theorem IM.b2 (m) (f:Z->IM u) (H):IM.bind m f H=match m H with|.ok a i=>f a i|.exc p i=>.exc p i|.stuck=>.stuck:=rfl
def S8 (o:uO):Prop:=o.cls=.type "list"/\o.dict=fS/\o.slots=#[]
def b5 (o:uO):Prop:=o.cls=.type "frame"/\∃u n,o.data=.dict u n
inductive vM (K:aO) (C:uO->Prop) (P:List Value->Prop) (v:Value):Prop
 |mk (a:bn) (o:uO) (n:Nat) (vs:List Value) (e:v=.ref a) (k:K a=ac o) (c:C o) (d:o.data=.seq (ag vs) n) (r:P vs)
inductive aaP (K:aO) (m:Nat) (C:Array cF->Prop) (P:List Value->Prop) (v:Value):Prop
 |mk (a:bn) (o:uO) (n:Nat) (es:Array cF) (e:v=.ref a) (k:K a=ac o) (x:o.ExactDict) (ne:a≠1) (d:o.data=.dict es n) (le:m=es.size) (hk:C es) (r:P (es.toList.map (·.val)))
abbrev A1 (o:uO):Prop:=o.cls=.type "tuple"
inductive ajv (K:aO) (v:Value):Prop
 |mk (a:bn) (o:uO) (d:bn) (od:uO) (es:Array cF) (n:Nat) (e:v=.ref a) (k:K a=ac o) (c:o.cls=.ref 369) (dd:o.dict=ac d) (da:o.data=.plain) (kd:K d=ac od) (di:od.data=.dict es n) (sk:uI es) (f:lf es "heap"=ac v)
mutual
noncomputable def VR (K:aO) (O:List bn):PV->Value->Prop
 |.none,v=>v=.none
 |.bool b,v=>v=.bool b
 |.int i,v=>∃t,v=.int i t
 |.str s,v=>∃t,v=.str ⟨ag s⟩ t
 |.bytes b,v=>∃t,v=.bytes (ag b) t
 |.tup l,v=>vM K A1 (bV K O l) v
 |.lst l,v=>vM K S8 (bV K O l) v
 |.dR i,v=>∃a,O[i]?=ac a/\v=.ref a
 |.ref a,v=>v=.ref a
 |.ty n,v=>v=.type n
 |.blt id,v=>v=.builtin id
 |.Ki x y,v=>∃a o t1 t2 t3,v=.ref a/\K a=ac o/\o={cls:=.type "range",dict:=fS,data:=.fields #[.int x t1,.int y t2,.int 1 t3],slots:=#[]}
 |.dct j l,v=>aaP K (aa j) (λu=>∀(i:Nat) (k:List Nat) (e:cF),j[i]?=ac k->u.toList[i]?=ac e->e.hash=gq K.P ⟨ag k⟩/\∃t,e.key=.str ⟨ag k⟩ t) (bV K O l) v
 |.xT j l,v=>aaP K (aa j) (λu=>∀(i:Nat) (k:Int) (e:cF),j[i]?=ac k->u.toList[i]?=ac e->e.hash=hashInt k/\∃t,e.key=.int k t) (bV K O l) v
 |.uo,v=>ajv K v
 |.AM,_=>True
noncomputable def bV (K:aO) (O:List bn):List PV->List Value->Prop
 |[],U=>U=[]
 |p::l,U=>∃v r,U=v::r/\VR K O p v/\bV K O l r
end
inductive afJ (K:aO) (μ:List bn) (env:mh) (h:eK):Prop
 |mk (k:env.scope.kind≠.module) (L:bn) (o:uO) (f:env.frame=ac L) (kL:K L=am) (m:L∉μ) (e:h.get? L=ac o) (fo:b5 o) (fr:K.fr L)
structure vL (K:aO) (μ:List bn) (fs:List mh) (h:eK):Prop where
 all:∀env∈fs,afJ K μ env h
inductive ajt (K:aO) (μ:List bn) (a:bn) (l:List PV) (h:eK):Prop
 |mk (k:K a=am) (o:uO) (n:Nat) (vs:List Value) (e:h.get? a=ac o) (c:S8 o) (d:o.data=.seq (ag vs) n) (r:bV K μ l vs)
structure NW (K:aO) (μ:List bn) (H:Hp) (h:eK):Prop where
 len:aa μ=aa H
 nodup:μ.Nodup
 at_:∀(i:Nat) (a:bn) (l:List PV),μ[i]?=ac a->H[i]?=ac l->ajt K μ a l h
structure Inv (KF:aO) (K:aO) (μ:List bn) (H:Hp) (fs:List mh) (h:eK):Prop where
 par:K.P=KF.P
 stat:∀a o,KF a=ac o->K a=ac o
 sub:∀a o,K a=ac o->h.get? a=ac o
 kf:∀a o,K a=ac o->¬b5 o
 kM:NW K μ H h
 stk:vL K μ fs h
structure Step (W:List bn) (K:aO) (μ:List bn) (h:eK) (K':aO) (qa:List bn) (h':eK):Prop where
 par:K'.P=K.P
 kle:∀a o,K a=ac o->K' a=ac o
 new:∀a o,K' a=ac o->K a=ac o\/h.get? a=am
 pre:∃ν,qa=μ++ν/\∀a∈ν,h.get? a=am
 there:∀a o,h.get? a=ac o->∃o',h'.get? a=ac o'
 keep:∀a o,h.get? a=ac o->a∉μ->a∉W->∃sl,h'.get? a=ac {o with slots:=sl}/\(sl=o.slots\/(b5 o/\K.fr a))
 frs:∀a,K'.fr a->K.fr a\/h.get? a=am
theorem Step.refl (W K O h):Step W K O h K O h:=
 ⟨rfl,λ_ _ e=>e,λ_ _ e=>.inl e,⟨[],by simp,by simp⟩,λ_ o e=>⟨o,e⟩,λ_ o e _ _=>⟨o.slots,e,.inl rfl⟩,λ_ q=>.inl q⟩
theorem Step.none {K k:aO} (x:Step W K O h k J T) (e:T.get? a=am):h.get? a=none:=by
 cases q:h.get? a with
 |none=>rfl
 |some o=>refine be (x.there a o q) λB R=>?_;rw[e] at R;cases R
theorem Step.trans {K k g:aO} (x:Step W K O h k dU T) (y:Step W k dU T g E h₂):Step W K O h g E h₂:=by
 refine aI x.pre λQ m c=>aI y.pre λd i b=>⟨ah y.par x.par,λa o e=>y.kle a o<|x.kle a o e,λa o e=>?_,⟨Q++d,by(refine ah i ?_;refine m▸?_;rw[fc]),λa ha=>?_⟩,λa o e=>?_,λa o e z Z=>?_,λa q=>?_⟩
 ·rcases y.new a o e with e|l
  ·exact x.new a o e
  ·exact .inr<|x.none l
 ·rcases eG.mp ha with ha|ha
  ·exact c a ha
  ·exact x.none<|b a ha
 ·exact be (x.there a o e) λB R=>y.there a B R
 ·refine aI (x.keep a o e z Z) λp R hs=>?_
  have U:a∉dU:=by
   refine m▸?_;intro q;rcases eG.mp q with q|q
   ·exact z q
   ·have:=c a q;rw[e] at this;cases this
  refine aI (y.keep a _ R U Z) λs f P=>⟨s,f,?_⟩;rcases hs with hs|hs
  ·subst hs;refine P.imp id λq=>⟨q.1,?_⟩;rcases x.frs a q.2 with r|r
   ·exact r
   ·rw[e] at r;cases r
  ·exact .inr hs
 ·rcases y.frs a q with q|q
  ·exact x.frs a q
  ·exact .inr<|x.none q
theorem Step.mono {K k:aO} (x:Step W K O h k J h₁) (Z:∀a∈W,a∈b):Step b K O h k J h₁:=
 ⟨x.par,x.kle,x.new,x.pre,x.there,λa o e z F=>x.keep a o e z λq=>F<|Z a q,x.frs⟩
theorem Step.same {K k:aO} (x:Step W K O h k J T) (e:h.get? a=ac o) (z:a∉O) (Z:a∉W) (Y:¬b5 o):T.get? a=ac o:=by
 refine aI (x.keep a o e z Z) λp R hs=>?_;rcases hs with rfl|hs
 ·exact R
 ·exact absurd hs.1 Y
mutual
theorem VR.mono {K K':aO} (y:K'.P=K.P) (g:∀a o,K a=ac o->K' a=ac o):∀p v,VR K O p v->VR K' (O++Q) p v
 |.none,_,h|.bool _,_,h|.int _,_,h|.str _,_,h|.bytes _,_,h|.ref _,_,h|.ty _,_,h|.blt _,_,h|.AM,_,h=>h
 |.uo,v,h=>by obtain⟨a,o,d,z,u,n,e,k,c,dd,m,Y,di,J,f⟩:=h;exact⟨a,o,d,z,u,n,e,g _ _ k,c,dd,m,g _ _ Y,di,J,f⟩
 |.tup l,v,h|.lst l,v,h=>by obtain⟨a,o,n,U,e,k,c,d,r⟩:=h;exact⟨a,o,n,U,e,g _ _ k,c,d,bV.mono y g l U r⟩
 |.dR i,v,h=>by refine aI h λa e q=>?_;exact⟨a,by refine ah (dh (aB.mp e).1) ?_;exact e,q⟩
 |.Ki _ _,v,h=>by refine aew h λa o t1 t2 t3 e k r=>?_;exact⟨a,o,t1,t2,t3,e,g _ _ k,r⟩
 |.dct j l,v,h=>by obtain⟨a,o,n,u,e,k,c,d,q,E,G,r⟩:=h;exact⟨a,o,n,u,e,g _ _ k,c,d,q,E,λi k e a b=>by exact y▸G i k e a b,bV.mono y g l _ r⟩
 |.xT j l,v,h=>by obtain⟨a,o,n,u,e,k,c,d,q,E,G,r⟩:=h;exact⟨a,o,n,u,e,g _ _ k,c,d,q,E,G,bV.mono y g l _ r⟩
theorem bV.mono {K K':aO} (y:K'.P=K.P) (g:∀a o,K a=ac o->K' a=ac o):∀l U,bV K O l U->bV K' (O++Q) l U
 |[],_,h=>h
 |p::l,U,h=>by refine cN h λv r e a b=>?_;exact⟨v,r,e,VR.mono y g p v a,bV.mono y g l r b⟩
end
theorem VR.step {K j:aO} (s:Step W K μ h j l f) (x:VR K μ p v):VR j l p v:=by refine aI s.pre λQ S _=>?_;subst S;exact x.mono s.par s.kle
theorem bV.step {K j:aO} (s:Step W K μ h j l f) (x:bV K μ p v):bV j l p v:=by refine aI s.pre λQ S _=>?_;subst S;exact x.mono s.par s.kle
theorem bV.length {K:aO}:∀{l U},bV K O l U->aa U=aa l
 |[],_,h=>congrArg aa h
 |p::l,U,h=>by refine cN h λv r S _ b=>?_;subst S;simp[bV.length b]
theorem bV.get {K:aO}:∀{l U} {i:Nat} {p},bV K O l U->l[i]?=ac p->∃v,U[i]?=ac v/\VR K O p v
 |[],_,_,_,_,e=>by simp at e
 |q::l,U,i,p,h,e=>by
  refine cN h λv r S a b=>?_;subst S
  induction i with
  |zero=>simp at e;subst e;exact⟨v,rfl,a⟩
  |succ i=>simp at e;exact aI (bV.get b e) λG R x=>⟨G,by simpa using R,x⟩
theorem bV.append {K:aO}:∀{l G U E},bV K O l U->bV K O G E->bV K O (l++G) (U++E)
 |[],_,_,_,h,f=>by subst h;exact f
 |p::l,G,U,E,h,f=>by refine cN h λv r S a b=>?_;subst S;exact⟨v,r++E,rfl,a,b.append f⟩
theorem bV.nil {K:aO}:bV K O [] []:=show _=_ from rfl
theorem bV.cons {K:aO} (a:VR K O p v) (b:bV K O l U):bV K O (p::l) (v::U):=⟨v,U,rfl,a,b⟩
end
open IM renaming bind->ax,b2->f0,pure->ay
open kg renaming ok->dt
open PV renaming bytes->qx,int->dq,lst->am6,tup->WE
open Step renaming refl->iT
open VR renaming mono->Om,step->fD
open bV renaming cons->b8,length->vX,mono->rH,nil->eA,step->vW
section
set_option genCtorIdx false
inductive LX where
 |v (i:Nat)
 |w (i:Nat)
 |n (k:Nat)
 |a (x y:LX)
 |s (x y:LX)
 |m (k:Nat) (x:LX)
 |r (x:LX) (k:Nat)
 |g (x:LX)
set_option genCtorIdx true
noncomputable abbrev aK:LX:=.v 0
noncomputable abbrev bg:LX:=.v 1
noncomputable abbrev cu:LX:=.v 2
noncomputable abbrev io:LX:=.v 3
noncomputable abbrev cA:LX:=.w 0
noncomputable abbrev ei:LX:=.n 0
noncomputable abbrev ik:LX:=.n 1
noncomputable abbrev xi (x:LX):LX:=.a x ik
def LX.Z (c:List Nat) (d:List Int) (x:LX):Int:=LX.rec (λi=>(c.getD i 0:Nat)) (λi=>d.getD i 0) (λk=>(k:Nat)) (λ_ _ x y=>x+y) (λ_ _ x y=>x-y) (λk _ x=>k*x) (λ_ k x=>x*k) (λ_ x=>-x) x
def Ac (x:List Int):List Int->List Int:=kj (λy=>y) (λa _ o y=>kj (a::o []) (λb y _=>(a+b)::o y) y) x
def tq (x:List Int):List Int->Int:=kj (λ_=>0) (λa _ o y=>a*y.headD 0+o y.tail) x
def LX.P (x:LX):Int×List Int×List Int:=LX.rec (λi=>(0,aX i 0++[1],[])) (λi=>(0,[],aX i 0++[1])) (λk=>(k,[],[]))
 (λ_ _ x y=>(x.1+y.1,Ac x.2.1 y.2.1,Ac x.2.2 y.2.2)) (λ_ _ x y=>(x.1-y.1,Ac x.2.1 (y.2.1.map (-1*·)),Ac x.2.2 (y.2.2.map (-1*·)))) (λk _ x=>(k*x.1,x.2.1.map (k*·),x.2.2.map (k*·))) (λ_ k x=>(k*x.1,x.2.1.map (k*·),x.2.2.map (k*·))) (λ_ x=>(-1*x.1,x.2.1.map (-1*·),x.2.2.map (-1*·))) x
theorem VB (x):tq x []=0:=by
 induction x with
 |nil=>rfl
 |cons a x o=>show a*0+tq x []=0;rw[o,age];rfl
theorem sw (a b c d:Int):(a+b)+(c+d)=(a+c)+(b+d):=by rw[ro,ro,Int.add_left_comm b]
theorem ys (x):∀y c,tq (Ac x y) c=tq x c+tq y c:=by
 induction x with
 |nil=>intro y c;exact af<|sY _
 |cons a x o=>
  intro y c
  cases y with
  |nil=>show a*c.headD 0+tq (Ac x []) c.tail=(a*c.headD 0+tq x c.tail)+0;rw[o];show _+(_+0)=_;rw[jC,jC]
  |cons b y=>show(a+b)*c.headD 0+tq (Ac x y) c.tail=(a*c.headD 0+tq x c.tail)+(b*c.headD 0+tq y c.tail);rw[o,ahc];exact sw ..
theorem pE (k x):∀c,tq (x.map (k*·)) c=k*tq x c:=by
 induction x with
 |nil=>intro c;exact af<|age k
 |cons a x o=>intro c;show k*a*c.headD 0+tq (x.map (k*·)) c.tail=k*(a*c.headD 0+tq x c.tail);rw[o,uK,Int.mul_assoc]
theorem Gp (i):∀c,tq (aX i 0++[1]) c=c.getD i 0:=by
 induction i with
 |zero=>intro c;show 1*c.headD 0+0=_;rcases c<;>simp
 |succ i o=>intro c;show 0*c.headD 0+tq (aX i 0++[1]) c.tail=_;rw[o];rcases c<;>simp
theorem ajr (c d) (x:LX):x.P.1+tq x.P.2.1 (c.map jP)+tq x.P.2.2 d=x.Z c d:=by
 induction x with
 |v i=>show 0+tq (aX i 0++[1]) (c.map jP)+0=((c.getD i 0:Nat):Int);rw[Gp];simp[eB];cases c[i]?<;>rfl
 |w i=>show 0+0+tq (aX i 0++[1]) d=d.getD i 0;rw[Gp];exact sY _
 |n k=>exact ah (jC _)<|jC _
 |a x y T j=>show(x.P.1+y.P.1)+tq (Ac x.P.2.1 y.P.2.1) _+tq (Ac x.P.2.2 y.P.2.2) d=x.Z c d+y.Z c d;rw[ys,ys,<-T,<-j];exact ah (congrArg (· +_) (sw ..)) (sw ..)
 |s x y T j=>show(x.P.1-y.P.1)+tq (Ac x.P.2.1 (y.P.2.1.map (-1*·))) _+tq (Ac x.P.2.2 (y.P.2.2.map (-1*·))) d=x.Z c d-y.Z c d;rw[ys,ys,pE,pE,<-T,<-j,<-hH,<-hH,wX,wX,AA,AA];exact ah (congrArg (· +_) (sw ..)) (sw ..)
 |m k x T=>show(k:Int)*x.P.1+tq (x.P.2.1.map ((k:Int)*·)) _+tq (x.P.2.2.map ((k:Int)*·)) d=(k:Int)*x.Z c d;rw[pE,pE,<-T,uK,uK]
 |r x k T=>show(k:Int)*x.P.1+tq (x.P.2.1.map ((k:Int)*·)) _+tq (x.P.2.2.map ((k:Int)*·)) d=x.Z c d*(k:Int);rw[pE,pE,<-T,Int.mul_comm _ (k:Int),uK,uK]
 |g x T=>show -1*x.P.1+tq (x.P.2.1.map (-1*·)) _+tq (x.P.2.2.map (-1*·)) d=-(x.Z c d);rw[pE,pE,<-T,<-hH,<-hH,<-hH,AA,AA]
def LO (l:List (Nat×LX×LX)):LX:=kj (.n 0) (λf _ r=>.a (.m f.1<|.s f.2.2 f.2.1) r) l
def chk (l:List (Nat×LX×LX)):Bool:=decide ((LO l).P.1<0)&&((LO l).P.2.1.all λk=>decide<|k<=0)&&(LO l).P.2.2.all λk=>decide<|k=0
def Hy (c:List Nat) (d:List Int) (l:List (Nat×LX×LX)):Prop:=kj False (λf _ P=>f.2.1.Z c d<=f.2.2.Z c d->P) l
theorem aak (x) (h:(x.all λk=>decide<|k<=0)=aq):∀c:List Nat,tq x (c.map jP)<=0:=by
 induction x with
 |nil=>intro c;exact f4 _
 |cons a x o=>
  intro c;rw[nK,bu] at h
  cases c with
  |nil=>rw[show(([]:List Nat).map jP)=[] from rfl,VB];exact f4 _
  |cons n c=>show a*(n:Int)+tq x (c.map jP)<=0;refine fW (Ei (ju (of_decide_eq_true h.1)<|bC n)<|o h.2 c) ?_;rw[agb];exact f4 _
theorem RR (x) (h:(x.all λk=>decide<|k=0)=aq):∀c,tq x c=0:=by
 induction x with
 |nil=>intro c;rfl
 |cons a x o=>intro c;rw[nK,bu] at h;show a*c.headD 0+tq x c.tail=0;rw[o h.2,of_decide_eq_true h.1,agb];rfl
theorem bk (c d l) (h:chk l=aq):Hy c d l:=by
 unfold chk at h;rw[bu,bu] at h
 have m:(LO l).Z c d<0:=by rw[<-ajr c d (LO l),RR _ h.2 d,jC];refine eJ (Int.add_le_add_left (aak _ h.1.2 c) _) ?_;rw[jC];exact of_decide_eq_true h.1.1
 have all:∀(l:List (Nat×LX×LX)) (t:Int),t+(LO l).Z c d<0->0<=t->Hy c d l:=by
  intro l
  induction l with
  |nil=>intro t J R;exact absurd R<|i6.mpr<|jC t▸J
  |cons f l o=>
   intro t J R Y;refine o (t+f.1*(f.2.2.Z c d-f.2.1.Z c d)) ?_ ?_
   ·rw[ro];exact J
   ·exact aa6 R<|aa5 (bC f.1)<|Int.sub_nonneg_of_le Y
 exact all l 0 (by rw[sY];exact m)<|f4 _
theorem cl {a b:Nat} (h:a<=b):(a:Int)<=b:=dI.mpr h
theorem cQ {a b:Nat} (h:(b:Int)+1<=a->False):a<=b:=dI.mp<|cX.mp h
theorem dr {a b:Int} (h:b+1<=a->False):a<=b:=cX.mp h
end
section
open PySem PySem.W PySem.Calls PyProof.Rows
abbrev xz:=aO->List bn->eK->Prop
noncomputable abbrev MM (w:dG):Model:=Ox bS w
noncomputable abbrev uU:Addr:=71
structure kA (n:Nat) (A:iN) (fs:List mh):Prop where
 hd:A.handled=am
 dp:A.depth+n<nA
 un:A.units+10*n+20<yy
 fr:A.frames=ac fs
 gd:A.guards=ac []
theorem kA.mono (x:kA n A fs) (h:k<=n):kA k A fs:=
 ⟨x.hd,bY (dH h _) x.dp,bY (uJ (dH (OA 10 h) _) 20) x.un,x.fr,x.gd⟩
theorem kA.u20 (x:kA n A M):A.units+20<cLine:=bY (uJ (co _ _) 20) x.un
theorem kA.ule (x:kA n A M) (h:k<=20):A.units+k<cLine:=bY (dH h _) x.u20
theorem kA.d0 (x:kA n A M):A.depth<recursionLimit:=bY (co _ _) x.dp
def aW (s F:bj):Prop:=F.os=s.os/\F.gens=s.gens
theorem aW.refl (s):aW s s:=⟨rfl,rfl⟩
theorem aW.trans (x:aW a b) (y:aW b c):aW a c:=⟨ah y.1 x.1,ah y.2 x.2⟩
inductive ajp (g:eK) (K:aO) (μ:List bn) (a:bn) (vs:Array Value) (h:eK):Prop
 |no (e:vs[1]?=ac gf)
 |at(T:bn) (oT:uO) (ts:Array Value) (e:vs[1]?=ac (ge T)) (gT:g.get? T=am) (ne:T≠a) (kT:K T=am) (mT:T∉μ) (o:h.get? T=ac oT) (d:oT.data=.fields ts) (n:ts[3]?=ac gf)
inductive kh (g:eK) (K:aO) (μ:List bn) (p:PV) (e:Value) (h:eK):Prop
 |mk (a:bn) (oe:uO) (d:bn) (vs:Array Value) (od:uO) (es:Array cF) (n:Nat) (v:Value) (ea:e=.ref a) (ga:g.get? a=am) (ho:h.get? a=ac oe) (c:oe.cls=.ref uU) (di:oe.dict=ac d) (da:oe.data=.fields vs)
  (ka:K a=am) (ma:a∉μ) (kd:K d=ac od) (dd:od.data=.dict es n) (sk:uI es) (f:lf es "value"=ac v) (r:VR K μ p v) (tb:ajp g K μ a vs h)
theorem kh.back {K k j:aO} (x:kh h j l p e h') (st:Step W K O g k J h):kh g j l p e h':=by
 obtain⟨a,P,d,U,z,u,n,v,m,i,Y,R,C,y,X,s,r,b,t,A,B,D⟩:=x;refine⟨a,P,d,U,z,u,n,v,m,st.none i,Y,R,C,y,X,s,r,b,t,A,B,?_⟩;rcases D with q|⟨T,V,G,c,E,Q,w,S,Z,f,o⟩
 ·exact .no q
 ·exact .at T V G c (st.none E) Q w S Z f o
section
variable (w:dG) (KF:aO)
inductive zd {α β:Type} (W:List bn) (fs:List mh) (K:aO) (μ:List bn) (s:bj) (R:α->β->xz) (o:kg α) (r:β) (s':bj):Prop
 |mk (a:α) (H':Hp) (K':aO) (qa:List bn) (e:o=.ok a H') (st:Step W K μ s.heap K' qa s'.heap) (iv:Inv KF K' qa H' fs s'.heap) (hr:R a r K' qa s'.heap) (so:aW s s')
inductive yq {α:Type} (W:List bn) (fs:List mh) (K:aO) (μ:List bn) (s:bj) (o:kg α) (x:Value) (s':bj):Prop
 |mk (p:PV) (H':Hp) (K':aO) (qa:List bn) (e:o=.exc p H') (st:Step W K μ s.heap K' qa s'.heap) (iv:Inv KF K' qa H' fs s'.heap) (hx:kh s.heap K' qa p x s'.heap) (so:aW s s')
def Sat (W:List bn) (A:iN) (M:List mh) (K:aO) (O:List bn) (s:bj) (R:Z->u->xz) (o:kg Z) (t:jN u):Prop:=
 o≠.stuck->aD (MM w) A t (zd KF W M K O s R o) (yq KF W M K O s o) s
def aj (W:List bn) (n:Nat) (C:xz) (m:IM Z) (R:Z->u->xz) (t:jN u):Prop:=
 ∀A s K O H M,kA n A M->Inv KF K O H M s.heap->C K O s.heap->Sat w KF W A M K O s R (m H) t
end
def fI (W:List bn) (C:xz):Prop:=∀K O h j l f,C K O h->Step W K O h j l f->C j l f
theorem fI.and (x:fI W C) (y:fI W D):fI W (λK O h=>C K O h/\D K O h):=
 λ_ _ _ _ _ _ c s=>⟨x _ _ _ _ _ _ c.1 s,y _ _ _ _ _ _ c.2 s⟩
theorem fI.true:fI W (λ_ _ _=>True):=λ_ _ _ _ _ _ _ _=>trivial
def fi (p:PV) (v:Value):xz:=λK O _=>VR K O p v
def kq (p:List PV) (v:List Value):xz:=λK O _=>bV K O p v
theorem cb (p v):fI W (fi p v):=λ_ _ _ _ _ _ c s=>fD s c
section
theorem Sat.step {K k:aO}
 (x:Sat w X W A M k J s₁ R o t) (st:Step W K μ s.heap k J s₁.heap) (S:aW s s₁) (L:o≠.stuck):
 aD (MM w) A t (zd X W M K μ s R o) (yq X W M K μ s o) s₁:=
 a0 (x L) (λ_ _ b=>zd.casesOn b λa i j l e Z N r P=>⟨a,i,j,l,e,st.trans Z,N,r,S.trans P⟩)
  λ_ _ c=>yq.casesOn c λp i j l e Z N r P=>⟨p,i,j,l,e,st.trans Z,N,kh.back r st,S.trans P⟩
theorem aj.bind'
 (T:aj w X W n C b v f) (t:∀a r,aj w X W n (v a r) (m a) z<|F r):aj w X W n C (ax b m) z (f>>=F):=by
 intro A s K O H M I N c L;have e:=f0 b m H;have J:b H≠.stuck:=λq=>L<|by(refine ah e ?_;rw[q])
 refine ak<|a0 (T A s K O H M I N c J) (λr u ⟨a,H',j,l,q,st,P,d,S⟩=>?_) λx u g=>yq.casesOn g λp H' j l q st P d S=>?_
 ·have R:ax b m H=m a H':=by(refine ah e ?_;rw[q])
  rw[R] at L|-
  exact(t a r A u j l H' M I P d).step st S L
 ·exact⟨p,H',j,l,by(refine ah e ?_;rw[q]),st,P,d,S⟩
open aj renaming bind'->ct
theorem aj.bind
 (T:aj w X W n C b v f) (Z:fI W C) (t:∀a r,aj w X W n (λK O h=>C K O h/\v a r K O h) (m a) z<|F r):
 aj w X W n C (ax b m) z (f>>=F):=by
 refine ct (λA s K O H M I N c L=>?_) t;exact a0 (T A s K O H M I N c L) (λr u ⟨a,i,j,l,q,st,P,d,S⟩=>⟨a,i,j,l,q,st,P,⟨Z _ _ _ _ _ _ c st,d⟩,S⟩) λ_ _ y=>y
theorem aj.weak (x:aj w X W n D m R t) (h:∀K O g,C K O g->D K O g):aj w X W n C m R t:=
 λA s K O H M I N c=>x A s K O H M I N<|h _ _ _ c
theorem aj.post (x:aj w X W n C m R t) (h:∀a r K O g,R a r K O g->I a r K O g):aj w X W n C m I t:=
 λA s K O H M Z N c L=>a0 (x A s K O H M Z N c L) (λ_ _ ⟨a,i,j,l,q,st,P,d,S⟩=>⟨a,i,j,l,q,st,P,h _ _ _ _ _ d,S⟩) λ_ _ y=>y
theorem aj.more (x:aj w X W k C m R t) (h:k<=n):aj w X W n C m R t:=
 λA s K O H M I N c=>x A s K O H M (I.mono h) N c
theorem aj.widen (x:aj w X b n C m R t) (h:∀a∈b,a∈W):aj w X W n C m R t:=
 λA s K O H M I N c L=>a0 (x A s K O H M I N c L) (λ_ _ e=>zd.casesOn e λa i j l q st P d S=>⟨a,i,j,l,q,st.mono h,P,d,S⟩)
  λ_ _ f=>yq.casesOn f λp i j l q st P d S=>⟨p,i,j,l,q,st.mono h,P,d,S⟩
theorem aj.keep (x:aj w X W n C m R t) (Z:fI W C):aj w X W n C m (λa r K O h=>C K O h/\R a r K O h) t:=
 λA s K O H M I N c L=>a0 (x A s K O H M I N c L) (λ_ _ ⟨a,i,j,l,q,st,P,d,S⟩=>⟨a,i,j,l,q,st,P,⟨Z _ _ _ _ _ _ c st,d⟩,S⟩) λ_ _ y=>y
theorem aj.pure (h:∀K O g,C K O g->R a b K O g):aj w X W n C (ay a) R (jh b):=
 λ_ s K O H _ _ N c _=>av ⟨a,H,K,O,rfl,iT ..,N,h _ _ _ c,.refl s⟩
theorem aj.stuck:aj w X W n C aQ R t:=λ_ _ _ _ _ _ _ _ _ h=>absurd rfl h
theorem aj.eqT (x:aj w X W n C m R t) (e:t'=t):aj w X W n C m R t':=e▸x
theorem aj.zL (x:aj w X W n C m R t) (e:D=m):aj w X W n C D R t:=e▸x
theorem aj.holding (x:aj w X W n C m R t):aj w X W n C m R (holding U t):=
 λA s K O H M I N c L=>a9<|x A s K O H M I N c L
theorem aj.quiet (r:z) (Z:∀A Q E s,Q r s->aD (MM w) A q Q E s) (x:aj w X W n C m R (t r)):
 aj w X W n C m R (q>>=t):=
 λA s K O H M I N c L=>ak<|Z _ _ _ _ (x A s K O H M I N c L)
theorem aj.stand (x:aj w X W n C m R (t ())):aj w X W n C m R (f7 G>>=t):=
 aj.quiet () (λ_ _ _ _ h=>cf h) x
theorem aj.operate (x:aj w X W n C m R t):aj w X W n C m R (operate U t):=
 λA s K O H M I N c L d p a=>by exact(af (Sem.wp_operate ..))▸x A s K O H M I N c L d p a
theorem aj.map {f:Z->z} {g:u->b} (x:aj w X W n C m R t) (h:∀a r K O k,R a r K O k->I (f a) (g r) K O k):
 aj w X W n C (ax m λa=>ay<|f a) I (t>>=λr=>jh<|g r):=
 ct x λ_ _=>aj.pure λ_ _ _ c=>h _ _ _ _ _ c
end
noncomputable def gk (K:aO) (a:bn) (o:uO):aO:=⟨K.P,λb=>if b=a then ac o else K b,K.fr⟩
theorem fv (K a o):gk K a o a=ac o:=if_pos rfl
theorem db {K:aO} (h:b≠a):gk K a o b=K b:=if_neg h
section
variable {KF K:aO}
theorem bX (h:eK):h.get? h.objs.size=none:=iS<|bT _
theorem Inv.Qv (N:Inv KF K O H M h) (m:a∈O):∃o,h.get? a=ac o/\K a=none:=by refine be (o4 m) λi S=>be S λD V=>?_;subst V;have T:=N.kM.len▸D;obtain⟨k,o,_,_,e,_⟩:=N.kM.at_ i _ _ (aP D) (aP T);exact⟨o,e,k⟩
theorem Inv.zs (N:Inv KF K μ H M h) (e:K a=ac o):a∉μ:=λm=>by refine aI (N.Qv m) λ_ _ k=>?_;rw[k] at e;cases e
theorem NW.By {i:Nat} (x:NW K O H h) (m:O[i]?=ac a) (e:h.get? a=ac o):¬b5 o:=by have D:=x.len▸(aB.mp m).1;obtain⟨_,B,n,U,R,c,_⟩:=x.at_ i a _ m (aP D);rw[e] at R;obtain rfl:=al R;intro f;have c:=c.1;rw[f.1] at c;exact absurd c<|by decide
def de (h f:eK):Prop:=∀a o,h.get? a=ac o->∃p,f.get? a=ac {o with slots:=p}/\(p=o.slots\/(b5 o/\False))
theorem de.push (h o):de h (h.push o):=λ_ B e=>⟨B.slots,aR o e,.inl rfl⟩
theorem de.same (x:de h f) (e:h.get? a=ac o) (Y:¬b5 o):f.get? a=ac o:=by
 refine aI (x a o e) λp R hs=>?_;rcases hs with rfl|hs
 ·exact R
 ·exact hs.2.elim
theorem de.step (x:de h h'):Step W K μ h K μ h':=
 ⟨rfl,λ_ _ e=>e,λ_ _ e=>.inl e,⟨[],by simp,by simp⟩,λa o e=>let⟨_,R,_⟩:=x a o e;⟨_,R⟩,λa o e _ _=>let⟨p,R,q⟩:=x a o e;⟨p,R,q.imp id λz=>z.2.elim⟩,λ_ q=>.inl q⟩
theorem b5.slots:b5 {o with slots:=p}↔b5 o:=Iff.rfl
theorem vL.keep (st:vL K O M h) (x:de h h'):vL K O M h':=⟨λZ J=>by
 obtain⟨k,L,o,f,v,m,e,fo,fr⟩:=st.all Z J
 exact aI (x L o e) λp R _=>⟨k,L,_,f,v,m,R,fo,fr⟩⟩
theorem NW.keep (m:NW K O H h) (x:de h h'):NW K O H h':=⟨m.len,m.nodup,λi a l D C=>by
 obtain⟨k,o,n,U,e,c,d,r⟩:=m.at_ i a l D C
 exact⟨k,o,n,U,x.same e<|m.By D e,c,d,r⟩⟩
theorem Inv.keep (N:Inv KF K O H M h) (x:de h h'):Inv KF K O H M h':=
 ⟨N.par,N.stat,λa o e=>x.same (N.sub a o e)<|N.kf a o e,N.kf,N.kM.keep x,N.stk.keep x⟩
theorem Inv.freeze (N:Inv KF K O H M h) {a:bn} (e:h.get? a=ac o) (F:K a=am) (z:a∉O) (Y:¬b5 o):Inv KF (gk K a o) O H M h:=by
 have E:∀b x,K b=ac x->gk K a o b=ac x:=λb x k=>by
  rw[db]
  ·exact k
  ·rintro rfl;rw[F] at k;cases k
 refine⟨N.par,λb x k=>E _ _ (N.stat b x k),λb x k=>?_,λb x k=>?_,⟨N.kM.len,N.kM.nodup,λi b l D C=>?_⟩,⟨λZ J=>?_⟩⟩
 ·by_cases q:b=a
  ·subst q;rw[fv] at k;obtain rfl:=al k;exact e
  ·rw[db q] at k;exact N.sub b x k
 ·by_cases q:b=a
  ·subst q;rw[fv] at k;obtain rfl:=al k;exact Y
  ·rw[db q] at k;exact N.kf b x k
 ·obtain⟨k,B,n,U,R,c,d,r⟩:=N.kM.at_ i b l D C;have q:b≠a:=by rintro rfl;exact z<|br D
  exact⟨by exact ah (db q)<|k,B,n,U,R,c,d,by have:=rH (K:=K) (K':=gk K a o) (Q:=[]) rfl E l U r;simpa using this⟩
 ·obtain⟨k,L,B,f,v,m,R,fo,fr⟩:=N.stk.all Z J
  have q:L≠a:=by rintro rfl;rw[e] at R;obtain rfl:=al R;exact Y fo
  exact⟨k,L,B,f,by exact ah (db q)<|v,m,R,fo,fr⟩
theorem r6 {W:List bn} (x:de h h') (F:K a=am) (c:h.get? a=am):Step W K O h (gk K a o) O h':=
 ⟨rfl,(λb x k=>by
  rw[db]
  ·exact k
  ·rintro rfl;rw[F] at k;cases k),(λb x k=>by
  by_cases q:b=a
  ·subst q;exact .inr c
  ·rw[db q] at k;exact .inl k),⟨[],by simp,by simp⟩,λa o e=>let⟨_,R,_⟩:=x a o e;⟨_,R⟩,λa o e _ _=>let⟨p,R,q⟩:=x a o e;⟨p,R,q.imp id λz=>z.2.elim⟩,λ_ q=>.inl q⟩
theorem Inv.cO (N:Inv KF K O H M h) (c:h.get? a=am):K a=none:=by
 cases q:K a with
 |none=>rfl
 |some o=>have:=N.sub _ _ q;rw[c] at this;cases this
theorem Inv.dY (N:Inv KF K μ H M h) (c:h.get? a=am):a∉μ:=λm=>by refine aI (N.Qv m) λo e _=>?_;rw[c] at e;cases e
theorem Inv.Fm (N:Inv KF K O H M h) {o:uO} (g:o.isFreed=ai) (Y:¬b5 o):
 Inv KF (gk K h.objs.size o) O H M (h.push o)/\∀W,Step W K O h (gk K h.objs.size o) O (h.push o):=
 ⟨(N.keep<|de.push h o).freeze (b6 h g) (N.cO<|bX h) (N.dY<|bX h) Y,
  λ_=>r6 (de.push h o) (N.cO<|bX h)<|bX h⟩
theorem Inv.afH (N:Inv KF K O H M h) (e:h.get? a=ac o) (F:K a=am) (z:a∉O)
 (P:S8 o) (g:o.data=.seq (ag vs) n) (r:bV K O l vs):Inv KF K (O++[a]) (H++[l]) M h:=by
 have A:∀l vs,bV K O l vs->bV K (O++[a]) l vs:=λl vs r=>rH rfl (λ_ _ e=>e) l vs r;refine⟨N.par,N.stat,N.sub,N.kf,⟨by simp[N.kM.len],?_,λi b G D C=>?_⟩,⟨λZ J=>?_⟩⟩
 ·rw[fO];exact⟨N.kM.nodup,by simp,λx T y j q=>by simp at j;subst j;subst q;exact z T⟩
 ·by_cases q:i<aa O
  ·rw[dh q] at D;rw[dh<|N.kM.len▸q] at C;obtain⟨k,B,w,E,R,c,d,t⟩:=N.kM.at_ i b G D C;exact⟨k,B,w,E,R,c,d,A _ _ t⟩
  ·have S:=N.kM.len▸q;rw[ck<|cW.mp q] at D;rw[ck<|cW.mp S,<-N.kM.len] at C
   have Y:i-aa O=0:=by have:=(aB.mp D).1;simpa using this
   rw[Y] at D C;simp at D C;subst D;subst C;exact⟨F,o,n,vs,e,P,g,A _ _ r⟩
 ·obtain⟨k,L,B,f,v,m,R,fo,fr⟩:=N.stk.all Z J;refine⟨k,L,B,f,v,λq=>?_,R,fo,fr⟩;rcases eG.mp q with q|q
  ·exact m q
  ·simp at q;subst q;rw[e] at R;obtain rfl:=al R;have P:=P.1;rw[fo.1] at P;exact absurd P<|by decide
end
section
open Classical in
theorem de.refl (h):de h h:=λ_ o e=>⟨o.slots,e,.inl rfl⟩
theorem de.of_keeps (k:∀a o,h.get? a=ac o->h'.get? a=ac o):de h h':=λa o e=>⟨o.slots,k a o e,.inl rfl⟩
def KIn (X K:aO):Prop:=∀a o,X a=ac o->K a=ac o
theorem aj.val
 (h:∀(A:iN) (s:bj) (K:aO) (O:List bn) (Q:u->bj->Prop) (E:Value->bj->Prop),A.handled=am->A.units+20<yy->A.depth<nA->KIn X K->C K O s.heap->
  (∀a o,K a=ac o->s.heap.get? a=ac o)->
  (∀r f tk,de s.heap f->R a r K O f->Q r {s with heap:=f,toks:=tk})->aD (MM w) A t Q E s):aj w X W n C (ay a) R t:=
 λA s K O H M I N c _=>h A s K O _ _ I.hd I.u20 I.d0 N.stat c N.sub λr f tk Z d=>⟨a,H,K,O,rfl,Z.step,N.keep Z,d,rfl,rfl⟩
open PySem.SeqAt
theorem aE {P:Prop} (h:am=ac a):P:=nomatch h
theorem Cv {a b:List Z} (h:ag a=ag b):a=b:=congrArg o6 h
theorem map_some (h:o.map f=ac b):∃a,o=ac a/\f a=b:=ba.mp h
theorem bind_some (h:o.bind f=ac b):∃a,o=ac a/\f a=ac b:=Ed.mp h
noncomputable def Fs (p:PV):Option Unit:=p.casesOn (ac ()) (λ_=>am) (λ_=>am) (λ_=>am) (λ_=>am) (λ_=>am) (λ_=>am) (λ_=>am) (λ_=>am) (λ_=>am) (λ_=>am) (λ_ _=>am) (λ_ _=>am) (λ_ _=>am) am am
noncomputable def Uc (p:PV):Option (Int):=p.casesOn am (λ_=>am) (λi=>ac i) (λ_=>am) (λ_=>am) (λ_=>am) (λ_=>am) (λ_=>am) (λ_=>am) (λ_=>am) (λ_=>am) (λ_ _=>am) (λ_ _=>am) (λ_ _=>am) am am
noncomputable def P2 (p:PV):Option (Bool):=p.casesOn am (λi=>ac i) (λ_=>am) (λ_=>am) (λ_=>am) (λ_=>am) (λ_=>am) (λ_=>am) (λ_=>am) (λ_=>am) (λ_=>am) (λ_ _=>am) (λ_ _=>am) (λ_ _=>am) am am
noncomputable def lE (p:PV):Option (List UInt8):=p.casesOn am (λ_=>am) (λ_=>am) (λ_=>am) (λi=>ac i) (λ_=>am) (λ_=>am) (λ_=>am) (λ_=>am) (λ_=>am) (λ_=>am) (λ_ _=>am) (λ_ _=>am) (λ_ _=>am) am am
noncomputable def AL (p:PV):Option (List Nat):=p.casesOn am (λ_=>am) (λ_=>am) (λi=>ac i) (λ_=>am) (λ_=>am) (λ_=>am) (λ_=>am) (λ_=>am) (λ_=>am) (λ_=>am) (λ_ _=>am) (λ_ _=>am) (λ_ _=>am) am am
noncomputable def AK (p:PV):Option (List PV):=p.casesOn am (λ_=>am) (λ_=>am) (λ_=>am) (λ_=>am) (λi=>ac i) (λ_=>am) (λ_=>am) (λ_=>am) (λ_=>am) (λ_=>am) (λ_ _=>am) (λ_ _=>am) (λ_ _=>am) am am
noncomputable def P1 (p:PV):Option (bn):=p.casesOn am (λ_=>am) (λ_=>am) (λ_=>am) (λ_=>am) (λ_=>am) (λ_=>am) (λ_=>am) (λi=>ac i) (λ_=>am) (λ_=>am) (λ_ _=>am) (λ_ _=>am) (λ_ _=>am) am am
noncomputable def ach (p:PV):Option (String):=p.casesOn am (λ_=>am) (λ_=>am) (λ_=>am) (λ_=>am) (λ_=>am) (λ_=>am) (λ_=>am) (λ_=>am) (λ_=>am) (λi=>ac i) (λ_ _=>am) (λ_ _=>am) (λ_ _=>am) am am
noncomputable def pTy (p:PV):Option (String):=p.casesOn am (λ_=>am) (λ_=>am) (λ_=>am) (λ_=>am) (λ_=>am) (λ_=>am) (λ_=>am) (λ_=>am) (λi=>ac i) (λ_=>am) (λ_ _=>am) (λ_ _=>am) (λ_ _=>am) am am
theorem vw {V:Type} {v:V} {f:V->Option Z} {c:Z->V} (g:∀v,v=(f v).elim v c) (h:f v=ac i):v=c i:=(g v).trans<|h▸rfl
theorem vwE {V:Type} {v:V} {f:V->Option Z} {C:Z->V->Prop} (g:∀v,(f v).elim True λi=>C i v) (h:f v=ac i):C i v:=by have:=g v;rw[h] at this;exact this
theorem u3 {i:bn} (h:P1 p=ac i):p=.ref i:=vw (λp=>by rcases p<;>rfl) h
theorem Ud {i:String} (h:ach p=ac i):p=.blt i:=vw (λp=>by rcases p<;>rfl) h
theorem P0 {i:String} (h:pTy p=ac i):p=.ty i:=vw (λp=>by rcases p<;>rfl) h
theorem Fq {i:Unit} (h:Fs p=ac i):p=.none:=vw (c:=λ_=>.none) (λp=>by rcases p<;>rfl) h
theorem CR {i:Int} (h:Uc p=ac i):p=.int i:=vw (λp=>by rcases p<;>rfl) h
theorem Ft {i:Bool} (h:P2 p=ac i):p=.bool i:=vw (λp=>by rcases p<;>rfl) h
theorem qh {i:List UInt8} (h:lE p=ac i):p=.bytes i:=vw (λp=>by rcases p<;>rfl) h
theorem pr {i:List Nat} (h:AL p=ac i):p=.str i:=vw (λp=>by rcases p<;>rfl) h
theorem pq {i:List PV} (h:AK p=ac i):p=.tup i:=vw (λp=>by rcases p<;>rfl) h
noncomputable def y7 (f:PV->PV->Option Bool):List PV->List PV->Option Bool
 |[],[]=>ac aq
 |[],_::_=>ac ai
 |_::_,[]=>ac ai
 |a::l,b::r=>(f a b).bind λx=>(y7 f l r).map λy=>x&&y
noncomputable def Kn (g:List PV->List PV->Option Bool) (a b:PV):Option Bool:=match a with
 |.none=>(Fs b).map λ_=>aq
 |.bool x=>(P2 b).map λy=>x==y
 |.int x=>(Uc b).map λy=>x==y
 |.str x=>(AL b).map λy=>x==y
 |.bytes x=>(lE b).map λy=>x==y
 |.tup x=>(AK b).bind<|g x
 |_=>am
noncomputable def m6 (d:Nat):PV->PV->Option Bool:=x3 (Kn λ_ _=>am) (λ_ f=>Kn<|y7 f) d
inductive NX (K:aO) (μ:List bn) (g:List PV->List PV->Option Bool):Value->Value->Bool->Prop
 |none:NX K μ g .none .none aq
 |bool (a b:Bool):NX K μ g (.bool a) (.bool b) (a==b)
 |int (a:Int) (t:GY) (b:Int) (u:GY):NX K μ g (.int a t) (.int b u) (a==b)
 |str (a:List Nat) (t:GY) (b:List Nat) (u:GY):NX K μ g (.str ⟨ag a⟩ t) (.str ⟨ag b⟩ u) (a==b)
 |bytes (a:List UInt8) (t:GY) (b:List UInt8) (u:GY):NX K μ g (.bytes (ag a) t) (.bytes (ag b) u) (a==b)
 |tup (a b:List PV) (v u:Value) (r:Bool) (e:g a b=ac r) (x:vM K A1 (bV K μ a) v) (y:vM K A1 (bV K μ b) u):NX K μ g v u r
theorem qg {K:aO} (e:Kn g a b=ac r) (x:VR K O a v) (y:VR K O b u):NX K O g v u r:=by
 cases a with
 |none=>refine aI (map_some e) λ_ h S=>?_;subst S;obtain rfl:=Fq h;subst x;subst y;exact .none
 |bool a=>refine aI (map_some e) λ_ h S=>?_;subst S;obtain rfl:=Ft h;subst x;subst y;exact .bool _ _
 |int a=>refine aI (map_some e) λ_ h S=>?_;subst S;obtain rfl:=CR h;refine be x λ_ S=>?_;subst S;refine be y λ_ S=>?_;subst S;exact .int _ _ _ _
 |str a=>refine aI (map_some e) λ_ h S=>?_;subst S;obtain rfl:=pr h;refine be x λ_ S=>?_;subst S;refine be y λ_ S=>?_;subst S;exact .str _ _ _ _
 |bytes a=>refine aI (map_some e) λ_ h S=>?_;subst S;obtain rfl:=qh h;refine be x λ_ S=>?_;subst S;refine be y λ_ S=>?_;subst S;exact .bytes _ _ _ _
 |tup a=>refine aI (bind_some e) λ_ h e=>?_;obtain rfl:=pq h;exact .tup _ _ _ _ _ e x y
 |_=>exact aE e
theorem vM.same {K:aO} (x:vM K C P v) (y:vM K D Q v):∃vs,P vs/\Q vs:=by
 refine nu ?_;intro c;obtain⟨a,o,n,vs,e,k,_,d,p⟩:=x;obtain⟨b,B,m,Y,R,H,_,N,q⟩:=y;cases ah e.symm R;obtain rfl:=al<|ah k.symm H
 obtain rfl:=Cv (Data.seq.inj<|ah d.symm N).1;exact⟨vs,p,q⟩
theorem y6 {K:aO} (o:∀(a b:PV) (v:Value) (r:Bool),VR K O a v->VR K O b v->f a b=ac r->r=aq):
 ∀v a b r,bV K O a v->bV K O b v->y7 f a b=ac r->r=true:=by
 intro v
 induction v with
 |nil=>
  intro a b r x y e
  cases a with
  |nil=>cases b with
   |nil=>exact af<|al e
   |cons=>refine iI y λ_ _ y _=>?_;cases y
  |cons=>refine iI x λ_ _ x _=>?_;cases x
 |cons v U q=>
  intro a b r x y e
  cases a with
  |nil=>cases x
  |cons a l=>cases b with
   |nil=>cases y
   |cons b G=>
    refine cN x λ_ _ m d k=>?_;refine cN y λ_ _ i g h=>?_;cases m;cases i;refine aI (bind_some e) λc J e=>?_;refine aI (map_some e) λD R S=>?_;subst S
    (refine(af<|o a b v c d g J)▸ah (q l G D k h R) ?_);rfl
theorem NX.self {K:aO} (h:NX K O g v u r) (S:∀(v:List Value) (a b:List PV) (r:Bool),bV K O a v->bV K O b v->g a b=ac r->r=aq) (e:v=u):r=true:=by
 induction h with
 |none=>rfl
 |bool a b=>cases e;exact beq_self_eq_true a
 |int a t b u=>cases e;exact beq_self_eq_true a
 |str a t b u=>obtain rfl:=Cv<|Str.mk.inj (Value.str.inj e).1;exact beq_self_eq_true a
 |bytes a t b u=>obtain rfl:=Cv (ajH e).1;exact beq_self_eq_true a
 |tup a b _ _ _ h x y=>subst e;exact aI (x.same y) λU p q=>S U a b _ p q h
theorem Mh {K:aO} (d):∀a b v r,VR K O a v->VR K O b v->m6 d a b=ac r->r=true:=by
 induction d with
 |zero=>exactλa b v r x y e=>(qg e x y).self (λ_ _ _ _ _ _ e=>aE e) rfl
 |succ d o=>exactλa b v r x y e=>(qg e x y).self (y6 o) rfl
theorem zM (a) (t:GY) (b) (u:GY):EqAt A s (.bytes a t) (.bytes b u) (a.toList==b.toList):=λZ w E Q h=>by
 unfold eqBool;refine a9<|wpAny_ite_split (λx=>?_) λ_=>?_
 ·have e:a=b:=by have:=eq_of_beq x;injection this
  subst e;exact ak<|mH<|av<|by simpa using h
 ·exact ak<|N5<|i9 h
theorem bV.all {K:aO}:∀{l U j},bV K O l U->(h:j<aa U)->∃p,l[j]?=ac p/\VR K O p U[j]:=by
 intro l
 induction l with
 |nil=>intro U j h F;subst h;exact absurd F<|iR _
 |cons p l o=>
  intro U j h F;refine cN h λv r S a b=>?_;subst S
  cases j with
  |zero=>exact⟨p,rfl,a⟩
  |succ j=>exact o b<|sW F
structure ajz (f:PV->PV->Option Bool) (a b:List PV) (r:Bool) (e:Nat->Bool):Prop where
 all:((dg<|min (aa a)<|aa b).all e&&(aa a)==aa b)=r
 at_:∀j p q,a[j]?=ac p->b[j]?=ac q->f p q=ac (e j)
theorem Fk:∀a b r,y7 f a b=ac r->∃e,ajz f a b r e:=by
 intro a
 induction a with
 |nil=>
  intro b r h;refine⟨λ_=>aq,?_,nofun⟩
  cases b with
  |nil=>obtain rfl:=al h;rfl
  |cons b l=>obtain rfl:=al h;(refine d8▸(af (Nat.zero_min ..))▸?_);rfl
 |cons a l o=>
  intro b r h
  cases b with
  |nil=>exact⟨λ_=>aq,by obtain rfl:=al h;(refine d8▸(af (Nat.min_zero ..))▸?_);rfl,λ_ _ _ _=>nofun⟩
  |cons b G=>
   refine aI (bind_some h) λc J h=>?_;refine aI (map_some h) λD R S=>?_;subst S;refine be (o G D R) λe S=>?_;obtain⟨Z,F⟩:=S;refine⟨λj=>x3 c (λj _=>e j) j,?_,λj=>?_⟩
   ·(refine bN▸(af bN)▸(Nat.add_min_add_right ..)▸?_;refine G8▸nK▸?_;refine(af abB)▸(Z)▸?_;refine ah (X6 ..) ?_;refine(show(aa l+1==aa G+1)=(aa l==aa G) by simp)▸?_);rfl
   ·cases j with
    |zero=>intro p q W L;obtain rfl:=al W;obtain rfl:=al L;exact J
    |succ j=>exact F j
inductive aaI (A:iN) (s:bj) (v u:Value) (r:Bool):Prop
 |mk (i j:bn) (vs ws:Array Value) (f:Nat->Bool) (e:v=.ref i) (e':u=.ref j) (h:s.heap.IsTuple i vs) (h':s.heap.IsTuple j ws) (hr:((dg (min vs.size ws.size)).all f&&vs.size==ws.size)=r)
  (hp:∀m (h1:m<vs.size) (h2:m<ws.size),EqAt A.in1 s vs[m] ws[m]<|f m)
theorem Fl {K:aO}
 (e:y7 g a b=ac r) (x:vM K A1 (bV K O a) v) (y:vM K A1 (bV K O b) u) (G:∀x o,K x=ac o->s.heap.get? x=ac o)
 (Z:∀(a b:PV) (l h:Value) (r:Bool),g a b=ac r->VR K O a l->VR K O b h->EqAt A.in1 s l h r):aaI A s v u r:=by
 obtain⟨i,o,n,U,rfl,k,c,I,z⟩:=x;obtain⟨j,B,w,V,rfl,H,D,t,d⟩:=y;refine be (Fk _ _ _ e) λf S=>?_;obtain⟨Y,C⟩:=S;refine⟨i,j,ag U,ag V,f,rfl,rfl,⟨o,G _ _ k,c,n,I⟩,⟨B,G _ _ H,D,w,t⟩,?_,λm J R=>?_⟩
 ·(refine aS▸(af aS)▸z.length▸d.length▸?_);exact Y
 ·exact aI (z.all J) λp W X=>aI (d.all R) λq L E=>Z p q _ _ (f m) (C m p q W L) X E
theorem NX.aeq {K:aO} (h:NX K O g v u r) (S:∀(v:List Value) (a b:List PV) (r:Bool),bV K O a v->bV K O b v->g a b=ac r->r=aq)
 (T:A.units<yy) (U:∀a b v u r,g a b=ac r->vM K A1 (bV K O a) v->vM K A1 (bV K O b) u->aaI A s v u r):EqAt A s v u r:=by
 have d:=h.self S
 induction h with
 |none=>exact ajN _
 |bool a b=>exact EqAt.bool_bool _ _
 |int a t b u=>exact EqAt.int_int _ _ _ _
 |str a t b u=>have h:=EqAt.str_str (A:=A) (s:=s) ⟨ag a⟩ t ⟨ag b⟩ u;rwa [<-str_beq] at h
 |bytes a t b u=>exact zM (ag a) t (ag b) u
 |tup a b _ _ _ h x y=>
  obtain⟨i,j,Z,Y,f,rfl,rfl,J,R,rfl,W⟩:=U a b _ _ _ h x y;by_cases l:i=j
  ·(refine(d<|congrArg _ l)▸l▸?_);exact ajN _
  ·exact EqAt.of_refs l<|af7 J R T W
theorem Km {K:aO} (d):∀a b l h r A s,m6 d a b=ac r->VR K O a l->VR K O b h->(∀x o,K x=ac o->s.heap.get? x=ac o)->A.units+d<yy->EqAt A s l h r:=by
 induction d with
 |zero=>exactλa b l h r A s e x y G T=>(qg e x y).aeq (λ_ _ _ _ _ _ e=>aE e) T λ_ _ _ _ _ e=>aE e
 |succ d Z=>exactλa b l h r A s e x y G T=>(qg e x y).aeq (y6<|Mh d) (bY (co _ _) T) λ_ _ _ _ _ e x y=>Fl e x y G λa b l h r e x y=>Z a b l h r A.in1 s e x y G<|by refine(xM ..)▸?_;(refine(d9 ..)▸(gs 1 ..)▸?_);exact T
end
end
open de renaming push->Ar
open aW renaming trans->jy
open aj renaming bind->cw,bind'->ct,zL->am5,holding->jO,map->G2,operate->Ez,pure->gg,quiet->Aq,stand->bA,stuck->bf,val->bE,weak->lw
section
open PySem PySem.W PySem.Calls PyProof.Rows PySem.SeqAt
section
open Classical
noncomputable def nM (H:Hp) (p:PV):Option (List PV):=by
 cases p
 case lst l=>exact ac l
 case dR i=>exact H[i]?
 all_goals exact am
theorem s7 {X K:aO} (N:Inv X K O H M h) (x:VR K O p r) (e:nM H p=ac l):
 ∃a vs,r=.ref a/\h.IsList a (ag vs)/\bV K O l vs:=by
 cases p with
 |lst G=>obtain rfl:=al e;obtain⟨a,o,n,vs,rfl,k,c,d,r⟩:=x;exact⟨a,vs,rfl,⟨o,N.sub _ _ k,c.1,n,d⟩,r⟩
 |dR i=>refine aI x λa I S=>?_;subst S;obtain⟨_,o,n,vs,R,c,d,r⟩:=N.kM.at_ i a _ I e;exact⟨a,vs,rfl,⟨o,R,c.1,n,d⟩,r⟩
 |_=>exact aE e
noncomputable def iE (a:Int):Bool:=decide (-2^63<a)&&decide (a<2^63)
def bG (o:Option z) (k:z->IM α):IM α:=o.elim aQ k
def cj (p:PV) (k:Int->IM α):IM α:=by
 cases p
 case int i=>exact k i
 all_goals exact aQ
def onBytes (p:PV) (k:List UInt8->IM α):IM α:=by
 cases p
 case bytes i=>exact k i
 all_goals exact aQ
def onStr (p:PV) (k:List Nat->IM α):IM α:=by
 cases p
 case str i=>exact k i
 all_goals exact aQ
def C2 (p:PV) (k:Bool->IM α):IM α:=by
 cases p
 case bool i=>exact k i
 all_goals exact aQ
def aay (I:tG) (a b:PV):IM PV:=by
 cases I
 case Add=>
  cases a
  case int x=>exact cj b λy=>ay<|.int<|x+y
  case bytes x=>exact onBytes b λy=>if aa x+aa y<=16777216 then ay (.bytes<|x++y) else aQ
  case str x=>exact onStr b λy=>if aa x+aa y<=16777216 then ay (.str<|x++y) else aQ
  all_goals exact aQ
 case Sub=>exact cj a λx=>cj b λy=>ay<|.int<|x-y
 case Mult=>exact cj a λx=>cj b λy=>if iE x||iE y then ay (.int<|x*y) else aQ
 case Mod=>exact cj a λx=>cj b λy=>if y=0 then aQ else ay (.int<|ij x y)
 case FloorDiv=>exact cj a λx=>cj b λy=>if y=0\/1073741824<=y.natAbs then aQ else ay (.int<|rO x y)
 case Pow=>exact cj a λx=>cj b λy=>if 0<=y/\y<=1000000/\iE x then ay (.int<|x^y.toNat) else aQ
 all_goals exact aQ
section
theorem L7 (h:(iE a||iE b)=aq):IntMulOk a b:=by
 simp only[iE,gL,bu,decide_eq_true_eq] at h;rcases h with h|h
 ·exact IntMulOk.of_left<|intBits_le_64 (kH (by decide) h.1)<|kH h.2<|by decide
 ·exact IntMulOk.of_right<|intBits_le_64 (kH (by decide) h.1)<|kH h.2<|by decide
theorem L8 (h:iE a=aq):-2^63<a/\a<2^63:=by simpa[iE] using h
theorem HM (h:iE a=aq):a.natAbs<2^64:=by
 refine bD (L8 h) λJ R=>JR (cK.mp<|?_) (by decide:2^63<2^64);rcases Int.natAbs_eq a with e|e
 ·exact eJ (aU e.symm) R
 ·exact Int.lt_of_neg_lt_neg<|lZ J<|aU e
theorem fC {K:aO}:VR K O (.int i) (.int i t):=⟨t,rfl⟩
theorem j0 {K:aO}:VR K O (.bytes b) (.bytes (ag b) t):=⟨t,rfl⟩
theorem DW {K:aO}:VR K O (.str b) (.str ⟨ag b⟩ t):=⟨t,rfl⟩
theorem tx {K:aO}:VR K O (.bool b) (.bool b):=rfl
theorem rh {K:aO}:VR K O .none .none:=rfl
theorem TG (a b:List Nat):(⟨ag a⟩:an)++⟨ag b⟩=⟨ag<|a++b⟩:=by apply PySem.Str.ext';refine ah (PySem.Str.cps_append ..) ?_;simp
section
variable [Decidable c]
theorem aj.bG (h:∀x,o=ac x->aj w X W n C (k x) R t):aj w X W n C (Internal.bG o k) R t:=by
 induction o with
 |none=>exact bf
 |some x=>exact h x rfl
theorem aj.cj (h:∀i,p=.int i->aj w X W n C (k i) R t):aj w X W n C (cj p k) R t:=by rcases p<;>first|exact h _ rfl|exact bf
theorem aj.onBytes (h:∀i,p=.bytes i->aj w X W n C (k i) R t):aj w X W n C (onBytes p k) R t:=by rcases p<;>first|exact h _ rfl|exact bf
theorem aj.onStr (h:∀i,p=.str i->aj w X W n C (k i) R t):aj w X W n C (onStr p k) R t:=by rcases p<;>first|exact h _ rfl|exact bf
theorem aj.C2 (h:∀i,p=.bool i->aj w X W n C (k i) R t):aj w X W n C (C2 p k) R t:=by rcases p<;>first|exact h _ rfl|exact bf
theorem aj.sr (h:c->aj w X W n C m R t):aj w X W n C (if c then m else aQ) R t:=by
 by_cases q:c
 ·exact(if_pos q)▸h q
 ·exact(if_neg q)▸bf
theorem aj.Zo (h:¬c->aj w X W n C m R t):aj w X W n C (if c then aQ else m) R t:=by
 by_cases q:c
 ·exact(if_pos q)▸bf
 ·exact(if_neg q)▸h q
end
open aj renaming sr->cU,cj->dm
def JC (w:dG) (t:jN Value) (p:PV):Prop:=∀A s Q E,(∀v k,(∀(K:aO) (O:List bn),VR K O p v)->Q v {s with toks:=k})->aD (MM w) A t Q E s
theorem JC.sound (h:∀K O g,C K O g->JC w t p):aj w X W n C (ay p) fi t:=
 bE λA s K O Q E _ _ _ _ c _ k=>h _ _ _ c A s Q E λv _ Z=>k v _ _ (.refl _) (Z K O)
open JC renaming sound->S7
theorem aj.ii {I:Value->Value->jN Value} (h:∀t u,JC w (I (.int i t)<|.int j u) p):aj w X W n (λK O _=>VR K O (.int i) r/\VR K O (.int j) q) (ay p) fi (I r q):=
 S7 λK O _ c=>by refine bD c λS Z=>be S λt V=>?_;subst V;refine be Z λu H=>?_;subst H;exact h t u
open aj renaming ii->xN
theorem z9 (I:tG) (a b:PV) (r q:Value):aj w X W n (λK O _=>VR K O a r/\VR K O b q) (aay I a b) fi (Wp I r q):=by
 rcases I<;>first|exact bf|skip
 ·rcases a<;>first|exact bf|skip
  ·refine dm λj e=>?_;subst e;exact xN λt u A s Q E h=>add_int<|h _ _ λ_ _=>fC
  ·refine aj.onStr λj e=>cU λd=>?_;subst e;refine S7 λK O _ c=>?_;refine bD c λS Z=>be S λt V=>?_;subst V;refine be Z λu H=>?_;subst H
   exactλA s Q E h=>add_str (λm k=>by exact(TG ..)▸h _ _ λ_ _=>DW)<|by refine bh▸?_;simpa[PySem.Str.length] using d
  ·refine aj.onBytes λj e=>cU λd=>?_;subst e;refine S7 λK O _ c=>?_;refine bD c λS Z=>be S λt V=>?_;subst V;refine be Z λu H=>?_;subst H
   exactλA s Q E h=>KBy.add_bytes (by simpa using d) λm k=>by exact(Oc ..)▸h _ _ λ_ _=>j0
 ·refine dm λi e=>dm λj R=>?_;subst e R;exact xN λt u A s Q E h=>sub_int<|h _ _ λ_ _=>fC
 ·refine dm λi e=>dm λj R=>cU λd=>?_;subst e R;exact xN λt u A s Q E h=>agZ (h _ _ λ_ _=>fC)<|L7 d
 ·refine dm λi e=>dm λj R=>aj.Zo λd=>?_;subst e R;exact xN λt u A s Q E h=>mod_int' d<|h _ _ λ_ _=>fC
 ·refine dm λi e=>dm λj R=>cU λd=>?_;subst e R;exact xN λt u A s Q E h=>pow_int_small d.1 d.2.1 (HM d.2.2)<|h _ _ λ_ _=>fC
 ·refine dm λi e=>dm λj R=>aj.Zo λd=>?_;subst e R;exact xN λt u A s Q E h=>floordiv_int (λq=>d<|.inl q) (h _ _ λ_ _=>fC)<|.inl<|Eb<|Nat.lt_of_not_le λq=>d<|.inr q
def Zp (p:PV):IM PV:=cj p λa=>ay<|.int (-a)
theorem Ik (a:PV) (r:Value):aj w X W n (λK O _=>VR K O a r) (Zp a) fi (unaryOp .USub r):=by
 refine dm λi e=>?_;subst e;refine S7 λK O _ c=>?_;refine be c λt S=>?_;subst S
 exactλA s Q E h=>neg_int<|h _ _ λ_ _=>fC
def gW (p:PV):IM Bool:=by
 cases p
 case bool b=>exact ay b
 case none=>exact ay ai
 all_goals exact aQ
def Lg (a b:Z):xz:=λ_ _ _=>a=b
theorem qK (a r):aj w X W n (λK O _=>VR K O a r) (gW a) (Lg (Z:=Bool)) (wO r):=by
 rcases a<;>first|exact bf|skip
 ·refine bE λA s K O Q E _ _ _ _ c _ h=>?_;obtain rfl:r=.none:=c;exact av<|h _ _ s.toks (.refl _) rfl
 ·refine bE λA s K O Q E _ _ _ _ c _ h=>?_;obtain rfl:r=.bool _:=c;exact i9<|h _ _ s.toks (.refl _) rfl
end
end
section
open Classical
theorem NX.rc {K:aO} (h:NX K O g v u r)
 (T:A.units<yy) (U:∀a b v u r,g a b=ac r->vM K A1 (bV K O a) v->vM K A1 (bV K O b) u->aaI A s v u r):RcAt A s v u r/\RcNeAt A s v u (!r):=by
 induction h with
 |none=>exact⟨RcAt.none_none,RcNeAt.none_none⟩
 |bool a b=>exact⟨RcAt.bool_bool _ _,RcNeAt.bool_bool _ _⟩
 |int a t b u=>exact⟨RcAt.int_int _ _ _ _,RcNeAt.int_int _ _ _ _⟩
 |str a t b u=>rw[show(a==b)=((⟨ag a⟩:an)==⟨ag b⟩) from str_beq ⟨ag a⟩ ⟨ag b⟩];exact⟨RcAt.str_str _ _ _ _,RcNeAt.str_str _ _ _ _⟩
 |bytes a t b u=>exact⟨λZ w E Q h=>N5 h,λZ w E Q h=>PySem.W.ne_bytes h⟩
 |tup a b _ _ _ h x y=>obtain⟨i,j,V,Y,f,rfl,rfl,J,R,rfl,X⟩:=U a b _ _ _ h x y;exact⟨af7 J R T X,RcNeAt.tuples J R T X⟩
theorem Kl {K:aO} (e:m6 8 a b=ac r) (x:VR K O a l) (y:VR K O b h)
 (G:∀x o,K x=ac o->s.heap.get? x=ac o) (T:A.units+8<yy):RcAt A s l h r/\RcNeAt A s l h (!r):=
 (qg e x y).rc (bY (co _ _) T) λ_ _ _ _ _ e x y=>Fl e x y G λa b l h r e x y=>Km 7 a b l h r A.in1 s e x y G (by rw[xM];rw[d9,gs 1];exact T)
def zL (a b:PV):IM Bool:=λH=>match nM H a,nM H b with
 |some l,ac G=>if aa l≠aa G then .ok ai H else if l=[] then .ok aq H else .stuck
 |_,_=>match m6 8 a b with
  |some r=>.ok r H
  |none=>.stuck
theorem aj.ahm {R:Z->u->xz}
 (h:∀(A:iN) (s:bj) (K:aO) (O:List bn) (H:Hp) (M:List mh) (Q:u->bj->Prop) (E:Value->bj->Prop),kA n A M->Inv X K O H M s.heap->C K O s.heap->m H≠.stuck->
  ∃a,m H=.ok a H/\((∀r f tk,de s.heap f->R a r K O f->Q r {s with heap:=f,toks:=tk})->aD (MM w) A t Q E s)):aj w X W n C m R t:=
 λA s K O H M I N c L=>by exact aI (h A s K O H M (zd X W M K O s R<|m H) (yq X W M K O s<|m H) I N c L) λa e k=>k λr f tk Y d=>⟨a,H,K,O,e,Y.step,N.keep Y,d,rfl,rfl⟩
theorem Gi (a b r q) (m:Bool):aj w X W n (λK O _=>VR K O a r/\VR K O b q) (zL a b) (λx v _ _ _=>v=ni (x !=m)) (i7 (if m then .NotEq else .Eq) r q):=by
 refine aj.ahm λA s K O H M Q E I N c L=>?_
 have y:∀x,(RcAt A s r q x/\RcNeAt A s r q (!x))->(∀r u tk,de s.heap u->r=ni (x !=m)->Q r {s with heap:=u,toks:=tk})->aD (MM w) A (i7 (if m then .NotEq else .Eq) r q) Q E s:=λx T k=>by
  cases m
  ·exact T.1 _ w _ _ (k _ _ s.toks (.refl _) (by simp))
  ·exact T.2 _ w _ _ (k _ _ s.toks (.refl _) (by rcases x<;>rfl))
 unfold zL at L|-
 cases J:nM H a with
 |none=>
  simp only[J] at L|-
  cases e:m6 8 a b with
  |none=>simp[e] at L
  |some x=>exact⟨x,rfl,y x<|Kl e c.1 c.2 N.sub<|I.ule<|by decide⟩
 |some l=>
  cases R:nM H b with
  |none=>
   simp only[J,R] at L|-
   cases e:m6 8 a b with
   |none=>simp[e] at L
   |some x=>exact⟨x,rfl,y x<|Kl e c.1 c.2 N.sub<|I.ule<|by decide⟩
  |some G=>
   simp only[J,R] at L|-
   refine cN (s7 N c.1 J) λi U S C z=>?_;subst S;refine cN (s7 N c.2 R) λj Y S B d=>?_;subst S;have D:=z.length;have P:=d.length;by_cases F:aa l≠aa G
   ·rw[if_pos F];have f:=bne_iff_ne.mpr λq=>F<|ah D.symm<|ah q P
    exact⟨ai,rfl,y ai ⟨RcAt.lists_lengths C B f (I.ule (k:=0)<|by decide),RcNeAt.lists_lengths C B f<|I.ule (k:=0)<|by decide⟩⟩
   ·rw[if_neg F] at L|-
    by_cases V:l=[]
    ·rw[if_pos V];subst V;have t:=cy.mp<|by simpa using D
     have Z:=cy.mp<|ah P (Decidable.not_not.mp F).symm
     subst t;subst Z;have t1:=RcAt.lists (e:=λ_=>aq) C B rfl (I.ule (k:=0)<|by decide) λj J=>absurd J<|iR _
     have t2:=RcNeAt.lists (e:=λ_=>aq) C B rfl (I.ule (k:=0)<|by decide) λj J=>absurd J<|iR _
     exact⟨aq,rfl,y aq ⟨by simpa using t1,by simpa using t2⟩⟩
    ·rw[if_neg V] at L;exact absurd rfl L
end
end
open aj renaming sr->cU,onBytes->hK,cj->dm,bG->eR,onStr->t8
section
open PySem PySem.W PySem.Calls PyProof.Rows
section
variable {KF K:aO}
theorem Inv.H9 (N:Inv KF K O H M h) (g:K a=am) (z:a∉O) (d:fQ a h h')
 (Y:∀o,h.get? a=ac o->b5 o->∃B,h'.get? a=ac B/\b5 B):Inv KF K O H M h':=
 ⟨N.par,N.stat,λb o e=>by
    refine ah (d.2 b<|by rintro rfl;rw[g] at e;exact aE e) ?_;exact N.sub b o e,N.kf,
  ⟨N.kM.len,N.kM.nodup,λi b l D C=>by
   obtain⟨k,o,n,U,e,s,u,j⟩:=N.kM.at_ i b l D C
   exact⟨k,o,n,U,by refine ah (d.2 b<|by rintro rfl;exact z<|br D) ?_;exact e,s,u,j⟩⟩,
  ⟨λZ J=>by
   refine nu ?_;intro p;obtain⟨k,L,o,f,v,m,e,fo,fr⟩:=N.stk.all Z J;by_cases q:L=a
   ·subst q;exact aI (Y o e fo) λB R c=>⟨k,L,B,f,v,m,R,c,fr⟩
   ·exact⟨k,L,o,f,v,m,by exact ah (d.2 L q)<|e,fo,fr⟩⟩⟩
theorem jz (d:fQ a h h') (Z:a∈W) (U:∃B,h'.get? a=ac B):Step W K O h K O h':=
 ⟨rfl,λ_ _ e=>e,λ_ _ e=>.inl e,⟨[],by simp,by simp⟩,λb o e=>by
     by_cases q:b=a
     ·subst q;exact U
     ·exact⟨o,by exact ah (d.2 b q)<|e⟩,
  λb o e _ F=>⟨o.slots,by exact ah (d.2 b λq=>F<|q▸Z)<|e,.inl rfl⟩,λ_ q=>.inl q⟩
theorem Step.hide (x:Step W K O h k dU T) (y:Step W' k dU T g E h₂) (Z:∀a∈W',a∈W\/h.get? a=fS):
 Step W K O h g E h₂:=by
 refine aI x.pre λQ m c=>aI y.pre λd i b=>⟨ah y.par x.par,λa o e=>y.kle a o<|x.kle a o e,λa o e=>?_,⟨Q++d,by(refine ah i ?_;refine m▸?_;rw[fc]),λa ha=>?_⟩,λa o e=>?_,λa o e z F=>?_,λa q=>?_⟩
 ·rcases y.new a o e with e|l
  ·exact x.new a o e
  ·exact .inr<|x.none l
 ·rcases eG.mp ha with ha|ha
  ·exact c a ha
  ·exact x.none<|b a ha
 ·exact be (x.there a o e) λB R=>y.there a B R
 ·refine aI (x.keep a o e z F) λp R hs=>?_
  have U:a∉dU:=by
   refine m▸?_;intro q;rcases eG.mp q with q|q
   ·exact z q
   ·have:=c a q;rw[e] at this;cases this
  have n:a∉W':=λq=>by
   rcases Z a q with q|q
   ·exact F q
   ·rw[e] at q;cases q
  refine aI (y.keep a _ R U n) λs f P=>⟨s,f,?_⟩;rcases hs with hs|hs
  ·subst hs;refine P.imp id λq=>⟨q.1,?_⟩;rcases x.frs a q.2 with r|r
   ·exact r
   ·rw[e] at r;cases r
  ·exact .inr hs
 ·rcases y.frs a q with q|q
  ·exact x.frs a q
  ·exact .inr<|x.none q
end
def vO (a:bn) (h f:eK):Prop:=∃o B,h.get? a=ac o/\f.get? a=ac B/\B.cls=o.cls
theorem Ko (g:o.data=.dict u Q):(N8 n h k v o).cls=o.cls/\(N8 n h k v o).isFreed=false:=by
 cases o with|mk c d I p=>?_
 subst g;refine Obj.putName_eq▸?_;unfold Obj.putNameByArray;dsimp only;cases u.findIdx? (λe:cF=>e.key.isStr n)<;>exact⟨rfl,rfl⟩
theorem Bw {P:Unit->bj->Prop} (Y:s.heap.Ns a m)
 (R:Sem.wp M d (nsSet a name v) (λu _ F=>vO a s.heap F.heap->P u F) E p s):Sem.wp M d (nsSet a name v) (λu _ F=>P u F) E p s:=by
 refine I7 Y λo Z Q L g G _=>?_;have i:Z.any (·.refKey)=false:=Ls.mpr λe J=>lm (G e J) λn t h=>by unfold JY;exact h▸bq
 simp only[nsSet,strHash,Sem.wp_bind',Sem.wp_cmd_ask,Sem.wp_pure',Sem.wp_cmd_mkText] at R|-
 rw[Sem.wp_loadPart_of M d _ p {s with toks:=s.toks+1} _ L] at R|-
 simp only[g,aRefKeyMayBeTheName_eq,aRefKeyMayBeTheNameByArray,i,ic,bP,if_false,Sem.wp_cmd_updatePart] at R|-
 exact⟨R.1,R.2 ⟨o,_,L,ek _ L (Ko g).2,(Ko g).1⟩⟩
theorem Cq (Z:s.heap.Ns a m)
 (h:∀f,f.Ns a (λx=>if x=name then ac v else m x)->fQ a s.heap f->vO a s.heap f->Q () {s with heap:=f,toks:=s.toks+1}):
 aD M A (nsSet a name v) Q E s:=λd p _=>Bw Z<|Sem.wp_nsSet M d (λe _ F=>E e F) p s Z name v (λu _ F=>vO a s.heap F.heap->Q u F) h
structure vN (env:mh):Prop where
 kind:env.scope.kind=.function
 glob:env.globals=3
 bi:env.builtins=0
 apart:env.cells.Pairwise λx y=>x.2≠y.2
 has:∀x,env.kindOf x=ac .cell\/env.kindOf x=ac .free->∃c,env.cells.lookup x=ac c
abbrev bO:=List<|Option PV
inductive Af (env:mh) (K:aO) (μ:List bn) (h:eK) (c:bn):Prop
 |mk (k:K c=am) (m:c∉μ) (ne:c≠env.locals) (v:Option Value) (hc:h.IsCell c v)
theorem Af.k0 {K:aO} (x:Af Z K O h c):K c=none:=by cases x;assumption
theorem Af.ne {K:aO} (x:Af Z K O h c):c≠Z.locals:=by cases x;assumption
inductive afN (env:mh) (K:aO) (μ:List bn) (m:Wq->Option Value) (x:Wq) (p:PV):Prop
 |mk (k:env.kindOf x=ac .local) (v:Value) (e:m x=ac v) (r:VR K μ p v)
inductive aaN (env:mh) (K:aO) (μ:List bn) (h:eK) (x:Wq) (p:PV):Prop
 |mk (k:env.kindOf x=ac .cell\/env.kindOf x=ac .free) (c:bn) (v:Value) (e:env.cells.lookup x=ac c) (hc:h.IsCell c (ac v)) (r:VR K μ p v)
inductive aT (env:mh) (names:List Wq) (σ:bO) (K:aO) (μ:List bn) (h:eK):Prop
 |mk (m:Wq->Option Value) (hn:h.Ns env.locals m) (hk:K env.locals=am) (hm:env.locals∉μ) (hcs:∀x c,(x,c)∈env.cells->Af env K μ h c)
  (hv:∀(i:Nat) (x:Wq) (p:PV),names[i]?=ac x->σ[i]?=ac (ac p)->
   afN env K μ m x p\/aaN env K μ h x p)
theorem Step.ns {K j:aO} (st:Step W K O h j l f) (x:h.Ns a m) (z:a∉O) (Z:a∉W):f.Ns a m:=by refine sF x λo u Q e r=>?_;exact aI (st.keep a o e z Z) λp R _=>⟨_,u,Q,R,r⟩
theorem Step.cell {K j:aO} (st:Step W K O h j l f) (x:h.IsCell c v) (z:c∉O) (Z:c∉W):f.IsCell c v:=by refine aI x λo e r=>?_;exact aI (st.keep c o e z Z) λp R _=>⟨_,R,r⟩
theorem Step.lH {K j:aO} (st:Step W K O h j l f) (k:K a=fS) (e:h.get? a=ac o):j a=fS:=by
 cases q:j a with
 |none=>rfl
 |some B=>
  rcases st.new a B q with q|q
  ·rw[k] at q;exact aE q
  ·rw[e] at q;cases q
theorem Step.lG {K j:aO} (st:Step W K O h j qa f) (m:a∉O) (e:h.get? a=ac o):a∉qa:=by
 refine aI st.pre λQ S c=>?_;subst S;intro q;rcases eG.mp q with q|q
 ·exact m q
 ·have:=c a q;rw[e] at this;cases this
theorem aT.stable (C:Z.locals∉W) (P:∀x c,(x,c)∈Z.cells->c∉W):fI W (aT Z U V):=by
 intro K O h j l f ⟨m,F,G,z,n,t⟩ st;refine sF (id F) λo _ _ e _=>⟨m,st.ns F z C,st.lH G e,st.lG z e,λx c q=>?_,λi x p T Y=>?_⟩
 ·obtain⟨k,D,L,v,r⟩:=n x c q;exact aI (id r) λB R _=>⟨st.lH k R,st.lG D R,L,v,st.cell r D<|P x c q⟩
 ·rcases t i x p T Y with ⟨a,v,b,c⟩|⟨a,c,v,b,d,e⟩
  ·exact .inl ⟨a,v,b,fD st c⟩
  ·obtain⟨_,D,_⟩:=n x c (mem_of_lookup b);exact .inr ⟨a,c,v,b,st.cell d D<|P x c<|mem_of_lookup b,fD st e⟩
theorem aT.bF:fI [] (aT Z U V):=aT.stable (by simp)<|by simp
def IA (V:bO) (i:Nat):IM PV:=bG (V[i]?).join ay
theorem MC (k:vN Z) (T:U[i]?=ac x) (g:(x==("__classdict__":Wq))=ai):
 aj w X W n (aT Z U V) (IA V i) fi (rm Z x):=by
 refine eR λp Y=>bE λA s K O Q E _ _ _ _ c _ h=>?_;refine nu ?_;intro f;obtain⟨m,F,_,_,_,t⟩:=c;rcases t i x p T (Ec.mp Y) with ⟨a,v,b,c⟩|⟨a|a,c,v,b,d,e⟩
 ·exact wN k.kind a F b<|h _ _ s.toks (.refl _) c
 ·exact xY k.kind a b d<|h _ _ s.toks (.refl _) e
 ·exact XV k.kind a b d (h _ _ s.toks (.refl _) e) g
noncomputable def aY (Z:mh):List Addr:=Z.locals::Z.cells.map (·.2)
theorem lg {K:aO} (k:vN Z) (T:U[i]?=ac x) (hnd:U.Nodup) (D:i<aa V)
 (G:Z.kindOf x=ac .local\/(Z.kindOf x=ac .cell/\∀a∈aY Z,a∈W)) (hW1:Z.locals∈W) (N:Inv KF K O H M s.heap) (P:aT Z U V K O s.heap/\VR K O p v):
 aD (MM w) A (afX Z x v) (λ_ F=>Step W K O s.heap K O F.heap/\Inv KF K O H M F.heap/\aT Z U (V.set i<|ac p) K O F.heap/\aW s F) E s:=by
 refine xS ?_;intro akM;refine bD P λS hpv=>?_;obtain⟨m,hn,hk0,I,n,t⟩:=S;rcases G with G|⟨G,g⟩
 ·have hp:(Z.scope.kind==.class||(Z.scope.kind==.module&&Z.locals !=Z.globals))=false:=by refine k.kind▸?_;rfl
  refine kW (storeName_local G hp ..)<|Cq hn λf hn' hs Th=>cN Th λo o' e R hcl=>?_
  have At:=N.H9 hk0 I hs λo1 e1 f1=>by rw[e] at e1;obtain rfl:=al e1;refine wB (id hn') λo2 es Q e2 d2 _=>?_;rw[R] at e2;obtain rfl:=al e2;exact⟨o',R,ah hcl f1.1,es,Q,d2⟩
  refine⟨jz hs hW1 ⟨o',R⟩,At,⟨_,hn',hk0,I,λy c q=>?_,λj y q hy L=>?_⟩,rfl,rfl⟩
  ·obtain⟨a,b,ne,u,P⟩:=n y c q;exact⟨a,b,ne,u,P.sameBut hs ne⟩
  ·by_cases l:i=j
   ·subst l;rw[T] at hy;obtain rfl:=al hy;rw[cJ D] at L;cases L;exact .inl ⟨G,v,by simp,hpv⟩
   ·rw[dQ l] at L
    have X:y≠x:=λq=>l (by
     subst q;have J:=(aB.mp T)
     exact(xI J.1 hnd).mp<|by(refine ah T ?_;rw[hy]))
    rcases t j y q hy L with ⟨a,u,b,c⟩|⟨a,c,u,b,d,e⟩
    ·exact .inl ⟨a,u,by simp[X,b],c⟩
    ·exact .inr ⟨a,c,u,b,d.sameBut hs (n y c<|mem_of_lookup b).ne,e⟩
 ·refine be (k.has x<|.inl G) λc P=>?_;obtain⟨a,b,ne,u,r⟩:=n x c<|mem_of_lookup P
  refine aI (id r) λoc ec dc=>wpAny_storeName_cell k.kind G P r λf z hs=>aI (id z) λoc' ec' _=>?_
  have At:=N.H9 a b hs λo1 e1 f1=>by rw[ec] at e1;obtain rfl:=al e1;refine nu ?_;intro amP;refine bD f1 λ_ S=>lm S λes Q d=>?_;rw[dc] at d;cases d
  refine⟨jz hs (g _ ?_) ⟨oc',ec'⟩,At,⟨m,hn.sameBut hs<|js ne,hk0,I,λy d q=>?_,λj y q hy L=>?_⟩,rfl,rfl⟩
  ·have:=mem_of_lookup P;simp only[aY,aM,b3];exact .inr ⟨_,this,rfl⟩
  ·refine nu ?_;intro amO;obtain⟨B,Y,C,u',ZQ⟩:=n y d q;by_cases h:d=c
   ·subst h;exact⟨B,Y,C,_,z⟩
   ·exact⟨B,Y,C,_,ZQ.sameBut hs h⟩
  ·by_cases l:i=j
   ·subst l;rw[T] at hy;obtain rfl:=al hy;rw[cJ D] at L;cases L;exact .inr ⟨.inl G,c,v,P,z,hpv⟩
   ·rw[dQ l] at L
    have X:y≠x:=λq=>l (by
     subst q;have J:=(aB.mp T)
     exact(xI J.1 hnd).mp<|by(refine ah T ?_;rw[hy]))
    rcases t j y q hy L with ⟨a,u,b,c⟩|⟨a,c',u,b,d,e⟩
    ·exact .inl ⟨a,u,b,c⟩
    ·exact .inr ⟨a,c',u,b,d.sameBut hs λq=>X<|name_of_addr k.apart (mem_of_lookup b)<|q▸mem_of_lookup P,e⟩
theorem EZ (k:vN Z) (T:U[i]?=ac x) (r:U.Nodup) (D:i<aa V)
 (G:Z.kindOf x=ac .local\/(Z.kindOf x=ac .cell/\∀a∈aY Z,a∈W)) (b:Z.locals∈W):
 aj w X W n (λK O h=>aT Z U V K O h/\VR K O p v) (ay ()) (λ_ _=>aT Z U<|V.set i<|ac p) (afX Z x v):=
 λ_ _ K O H _ _ N c _=>a0 (lg k T r D G b N c) (λ_ _ d=>vD d λst P fr S=>⟨(),H,K,O,rfl,st,P,fr,S⟩) λ_ _ (x:False)=>x.elim
end
open aT renaming bF->dw
section
open PySem PySem.W PySem.Calls PyProof.Rows PySem.SeqAt
section
open Classical
def P4 (I:WB) (a b:PV):IM Bool:=by
 cases I
 case Lt=>exact cj a λx=>cj b λy=>ay<|decide<|x<y
 case LtE=>exact cj a λx=>cj b λy=>ay<|decide<|x<=y
 case Gt=>exact cj a λx=>cj b λy=>ay<|decide<|y<x
 case GtE=>exact cj a λx=>cj b λy=>ay<|decide<|y<=x
 all_goals exact aQ
noncomputable def Dg (p:PV):Option Bool:=by
 cases p
 case none=>exact ac aq
 case AM=>exact am
 case ref=>exact am
 case uo=>exact am
 all_goals exact ac ai
noncomputable def IK (H:Hp) (p:PV):Option (List PV):=by
 cases p
 case tup l=>exact ac l
 case lst l=>exact ac l
 case dR i=>exact H[i]?
 all_goals exact am
def Bt (l:List PV) (k:PV->IM α):IM α:=match l with
 |[p]=>k p
 |_=>aQ
def WQ (l:List PV) (k:PV->PV->IM α):IM α:=match l with
 |[p,q]=>k p q
 |_=>aQ
def on3 (l:List PV) (k:PV->PV->PV->IM α):IM α:=match l with
 |[p,q,r]=>k p q r
 |_=>aQ
def gX (p:PV) (k:List PV->IM α):IM α:=λH=>bG (nM H p) k H
def kJ (p:PV) (k:List PV->IM α):IM α:=λH=>bG (IK H p) k H
noncomputable def acg (p:PV):Option (List Int):=p.casesOn am (λ_=>am) (λ_=>am) (λ_=>am) (λ_=>am) (λ_=>am) (λ_=>am) (λ_=>am) (λ_=>am) (λ_=>am) (λ_=>am) (λ_ _=>am) (λ_ _=>am) (λi _=>ac i) am am
def Xj (m:Bool) (p r:PV):IM Bool:=(acg r).elim (kJ r λl=>if l.all (λq=>(m6 8 q p).isSome) then ay (l.any (λq=>m6 8 q p==ac aq)!=m) else aQ) λj=>cj p λi=>ay<|j.contains i !=m
def rA:Bool->Value->xz:=λx v _ _ _=>v=ni x
theorem CU {f:Int->Int->Bool} (h:∀(A:iN) (E:Value->bj->Prop) (s:bj) (x y:Int) (t u:GY) (Q:Value->bj->Prop),Q (.bool<|f x y) s->aD (MM w) A (i7 I (.int x t)<|.int y u) Q E s):
 aj w X W n (λK O _=>VR K O a r/\VR K O b q) (cj a λx=>cj b λy=>ay<|f x y) rA (i7 I r q):=by
 refine dm λx e=>dm λy R=>?_;subst e R;refine bE λA s K O Q E _ _ _ _ c _ k=>?_;refine bD c λS Z=>be S λt V=>?_;subst V;refine be Z λu H=>?_;subst H;exact h _ _ _ _ _ _ _ _ (k _ _ s.toks (.refl _) rfl)
theorem qP (I:WB) (a b r q):aj w X W n (λK O _=>VR K O a r/\VR K O b q) (P4 I a b) rA (i7 I r q):=by
 rcases I<;>first|exact bf|skip
 ·exact CU λ_ _ _ _ _ _ _ _ h=>ag0 h
 ·exact CU λ_ _ _ _ _ _ _ _ h=>ag2 h
 ·exact CU λ_ _ _ _ _ _ _ _ h=>ag3 h
 ·exact CU λ_ _ _ _ _ _ _ _ h=>ag5 h
theorem AT {K:aO} (x:VR K O p v) (e:Dg p=ac b):(v==gf)=b:=by
 cases p with
 |none=>(refine((al e))▸(af<|show v=_ from x)▸?_);rfl
 |bool c=>(refine((al e))▸x▸?_);rfl
 |int c=>refine be x λt q=>?_;(refine((al e))▸q▸?_);rfl
 |str c=>refine be x λt q=>?_;(refine((al e))▸q▸?_);rfl
 |bytes c=>refine be x λt q=>?_;(refine((al e))▸q▸?_);rfl
 |dR c=>refine aI x λa _ q=>?_;(refine((al e))▸q▸?_);rfl
 |blt c=>(refine((al e))▸x▸?_);rfl
 |ty c=>(refine((al e))▸x▸?_);rfl
 |ref c=>exact aE e
 |AM=>exact aE e
 |uo=>exact aE e
 |Ki a b=>refine RJ x λ_ _ _ _ _ q _=>?_;(refine((al e))▸q▸?_);rfl
 |tup c=>obtain⟨_,_,_,_,q,_⟩:=x;(refine((al e))▸q▸?_);rfl
 |lst c=>obtain⟨_,_,_,_,q,_⟩:=x;(refine((al e))▸q▸?_);rfl
 |dct c d=>obtain⟨_,_,_,_,q,_⟩:=x;(refine((al e))▸q▸?_);rfl
 |xT c d=>obtain⟨_,_,_,_,q,_⟩:=x;(refine((al e))▸q▸?_);rfl
def isM (m:Bool) (p:PV):IM Bool:=match Dg p with
 |some b=>ay<|b !=m
 |none=>aQ
theorem MV (m:Bool) (a r):aj w X W n (λK O _=>VR K O a r) (isM m a) rA (i7 (if m then .IsNot else .Is) r .none):=by
 unfold isM
 cases e:Dg a with
 |none=>exact bf
 |some b=>
  refine bE λA s K O Q E _ _ _ _ c _ h=>?_;have:=AT c e;cases m
  ·exact is_none<|h _ _ s.toks (.refl _) (by refine this▸?_;simp[rA])
  ·exact isNot_none<|h _ _ s.toks (.refl _) (by refine(af this)▸?_;rcases b<;>exact rfl)
theorem Hn {X K:aO} (N:Inv X K O H M h) (x:VR K O p r) (e:IK H p=ac l):
 ∃a vs,r=.ref a/\(h.IsList a (ag vs)\/h.IsTuple a (ag vs))/\bV K O l vs:=by
 have b:nM H p=ac l->∃a vs,r=.ref a/\(h.IsList a (ag vs)\/h.IsTuple a (ag vs))/\bV K O l vs:=λe=>by exact cN (s7 N x e) λa vs J R y=>⟨a,vs,J,.inl R,y⟩
 rcases p<;>first|exact b e|skip
 cases e;obtain⟨a,o,n,vs,rfl,k,c,d,r⟩:=x;exact⟨a,vs,rfl,.inr ⟨o,N.sub _ _ k,c,n,d⟩,r⟩
def XO (l:List PV) (v:Value):xz:=λK O h=>∃a B,v=.ref a/\h.IsList a (ag B)/\bV K O l B
theorem aj.gX {D:xz} (h:∀l,aj w X W n (λK O g=>D K O g/\XO l v K O g) (k l) R t):aj w X W n (λK O g=>D K O g/\VR K O p v) (gX p k) R t:=by
 intro A s K O H M I N c L;unfold Internal.gX at L|-
 cases e:nM H p with
 |none=>rw[e] at L;exact absurd rfl L
 |some l=>rw[e] at L;exact h l A s K O H M I N ⟨c.1,s7 N c.2 e⟩ L
def DZ (l:List PV) (v:Value):xz:=λK O h=>∃a B,v=.ref a/\(h.IsList a (ag B)\/h.IsTuple a (ag B))/\bV K O l B
theorem aj.kJ {D:xz} (h:∀l,aj w X W n (λK O g=>D K O g/\DZ l v K O g) (k l) R t):aj w X W n (λK O g=>D K O g/\VR K O p v) (kJ p k) R t:=by
 intro A s K O H M I N c L;unfold Internal.kJ at L|-
 cases e:IK H p with
 |none=>rw[e] at L;exact absurd rfl L
 |some l=>rw[e] at L;exact h l A s K O H M I N ⟨c.1,Hn N c.2 e⟩ L
theorem aj.C1 {k:List PV->IM Z} (h:∀l,aj w X W n (XO l v) (k l) R t):aj w X W n (λK O _=>VR K O p v) (Internal.gX p k) R t:=
 lw (aj.gX λl=>lw (h l) λ_ _ _ c=>c.2) λ_ _ _ c=>⟨trivial,c⟩
theorem aj.P7 {k:List PV->IM Z} (h:∀l,aj w X W n (DZ l v) (k l) R t):aj w X W n (λK O _=>VR K O p v) (Internal.kJ p k) R t:=
 lw (aj.kJ λl=>lw (h l) λ_ _ _ c=>c.2) λ_ _ _ c=>⟨trivial,c⟩
theorem bV.mem {K:aO}:∀{U v},bV K O l U->v∈U->∃p∈l,VR K O p v:=by
 induction l with
 |nil=>intro U v h m;subst h;cases m
 |cons p l o=>
  intro U v h m;refine cN h λu r S a b=>?_;subst S;rcases aM.mp m with rfl|m
  ·exact⟨p,bd,a⟩
  ·exact aI (o b m) λq L x=>⟨q,bc _ L,x⟩
theorem bV.mem' {K:aO}:∀{U p},bV K O l U->p∈l->∃v∈U,VR K O p v:=by
 induction l with
 |nil=>intro U p h m;cases m
 |cons q l o=>
  intro U p h m;refine cN h λu r S a b=>?_;subst S;rcases aM.mp m with rfl|m
  ·exact⟨u,bd,a⟩
  ·exact aI (o b m) λv t x=>⟨v,bc _ t,x⟩
theorem QY {K:aO} (t:VR K O p v) (z:bV K O l U)
 (G:∀x o,K x=ac o->s.heap.get? x=ac o) (T:A.units+9<yy) (I:(l.all λq=>(m6 8 q p).isSome)=aq):
 ∃e,(∀y,y∈U->EqAt A s y v (e y))/\U.any e=l.any λq=>m6 8 q p==ac true:=by
 have R:∀y,y∈U->∀q∈l,VR K O q y->∃b,m6 8 q p=ac b/\EqAt A s y v b:=λy j q L x=>by have:=cn.mp I q L;exact be (kP.mp this) λb B=>⟨b,B,Km 8 q p _ _ b A s B x t G (by exact eV<|by assumption)⟩
 refine⟨λy=>decide (∃q∈l,VR K O q y/\m6 8 q p=ac aq),λy j=>?_,?_⟩
 ·by_cases h:∃q∈l,VR K O q y/\m6 8 q p=ac aq
  ·simp only[h,decide_true];refine gN h λq L x e=>?_;refine aI (R y j q L x) λb B r=>?_;rw[e] at B;obtain rfl:=al B;exact r
  ·simp only[h,decide_false];refine aI (z.mem j) λq L x=>aI (R y j q L x) λb B r=>?_
   induction b with
   |true=>exact absurd ⟨q,L,x,B⟩ h
   |false=>exact r
 ·rw[iM];simp only[rG,decide_eq_true_eq,beq_iff_eq];constructor
  ·rintro ⟨y,_,q,L,_,e⟩;exact⟨q,L,e⟩
  ·rintro ⟨q,L,e⟩;exact aI (z.mem' L) λy j x=>⟨y,j,q,L,x,e⟩
end
open aj renaming gX->AC,C1->ajQ
section
open Classical
theorem DQ (u:Array cF) (P:cF->Bool):(u.find? P).isSome=u.toList.any P:=by obtain⟨l⟩:=u;simp only[OC];rw[iM];simp
theorem Q0 {K:aO} {h:eK} (x:VR K O (.xT j U) v) (G:∀a o,K a=ac o->h.get? a=ac o):
 ∃a u,v=.ref a/\(a==oY)=ai/\h.MapOf (intKind Z w) a (λk=>wQ tF u k)/\aa j=u.size/\(∀(i:Nat) (k:Int) (e:cF),j[i]?=ac k->u.toList[i]?=ac e->∃t,e.key=.int k t)/\
  bV K O U (u.toList.map (·.val)):=by
 obtain⟨a,o,n,u,rfl,k,L,I,d,C,f,r⟩:=x;refine⟨a,u,rfl,by simpa[oY] using I,⟨o,u,n,G _ _ k,L,d,λe Y=>?_,λ_=>rfl⟩,C,λi k e a b=>(f i k e a b).2,r⟩;refine be (Hg.mp Y) λi S=>be S λD V=>?_;subst V;have T:=C.symm▸D;refine bD (f i j[i] u[i] (aP T)<|by simp[D]) λJ S=>?_;refine be S λt R=>?_;exact⟨j[i],by exact R▸aaV _ _ _ _,J⟩
theorem MY {ks:List Int} (C:aa ks=u.size) (f:∀(i:Nat) (k:Int) (e:cF),ks[i]?=ac k->u.toList[i]?=ac e->∃t,e.key=.int k t) (i):
 (wQ tF u i).isSome=ks.contains i:=by
 unfold wQ
 (refine ah Option.isSome_map<|ah (DQ ..) ?_;rw[iM])
 simp only[rG,List.contains_iff_mem];constructor
 ·rintro ⟨e,J,q⟩;refine be (o4 J) λj S=>be S λF V=>?_;subst V;have g:j<aa ks:=by simpa[C] using F
  refine be (f j ks[j] _ (aP g) (aP F)) λt U=>?_;rw[U] at q;simp[tF] at q;exact(q)▸hZ g
 ·intro m;refine be (o4 m) λj S=>be S λF V=>?_;subst V;have g:j<aa u.toList:=by simpa[C] using F
  refine be (f j ks[j] _ (aP F) (aP g)) λt U=>?_;exact⟨_,hZ g,by refine U▸?_;simp[tF]⟩
theorem UY (m:Bool) (a b:PV) (r q):aj w X W n (λK O _=>VR K O a r/\VR K O b q) (kJ b λl=>if l.all (λq=>(m6 8 q a).isSome) then ay (l.any (λq=>m6 8 q a==ac aq)!=m) else aQ) rA (i7 (if m then .NotIn else .In) r q):=by
 refine aj.kJ λl=>cU λI=>bE λA s K O Q E _ T _ _ c G k=>?_;refine nu ?_;intro h;refine bD c λt S=>cN S λd U V g z=>?_;subst V;refine aI (QY (A:=A.in1) t z G (by(refine(xM ..)▸?_;refine(d9 ..)▸?_);exact bY (dH (by decide) _) T) I) λf Y i=>?_;have F:=k (.bool<|U.any f !=m) s.heap s.toks (.refl _)<|by refine i▸?_;rfl
 have e:∀y,y∈(ag U)->EqAt A.in1 s y r (f y):=λy j=>Y y<|Td.mp j
 have J:(ag U).any f=U.any f:=by simp
 rw[<-J] at F;cases m
 ·rw[pK] at F;exact g.elim (λg=>in_listAt f g e F) λg=>in_tupleAt f g e F
 ·rw[vR] at F;exact g.elim (λg=>notIn_listAt f g e F) λg=>notIn_tupleAt f g e F
theorem BK (m:Bool) (a b:PV) (r q):aj w X W n (λK O _=>VR K O a r/\VR K O b q) (Xj m a b) rA (i7 (if m then .NotIn else .In) r q):=by
 rcases b<;>first|exact UY _ _ _ _ _|skip
 rename_i j U;refine dm λi e=>?_;subst e;refine bE λA s K O Q E _ _ _ _ c G k=>?_;refine bD c ?_;clear c;intro S c;refine be S λt V=>?_;subst V;refine aeB (Q0 (w:=w) (Z:=bS) c G) λd u S g z C f _=>?_;subst S;have F:=k (.bool<|(wQ tF u i).isSome !=m) s.heap (s.toks+1) (.refl _)<|by refine(MY C f i)▸?_;rfl
 cases m
 ·rw[pK] at F;exact wpAny_in_of (aaV _ _ i t) g z F
 ·rw[vR] at F;exact wpAny_notIn_of (aaV _ _ i t) g z F
noncomputable def zy (k:Int) (len:Nat):Option Nat:=if k<0 then(if -(len:Int)<=k then ac (k+len).toNat else am) else if k<len then ac k.toNat else am
theorem F1 (h:zy k len=ac j):Ov k len=ac j/\j<len:=by
 unfold zy at h;unfold Ov;by_cases G:k<0
 ·rw[if_pos G] at h|-
  by_cases s:-(len:Int)<=k
  ·rw[if_pos s] at h;have e:=al h;have M:0<=k+(len:Int):=by have:=Int.add_le_add_right s (len:Int);rwa [Int.add_left_neg] at this
   have c:k+(len:Int)<len:=by have:=Int.add_lt_add_right G (len:Int);rwa [sY] at this
   refine(if_pos<|fG.mpr ⟨decide_eq_true M,decide_eq_true c⟩)▸?_;exact⟨congrArg ac e,e▸(agc M).mpr c⟩
  ·rw[if_neg s] at h;exact aE h
 ·rw[if_neg G] at h|-
  by_cases s:k<len
  ·rw[if_pos s] at h;have e:=al h;refine(if_pos<|fG.mpr ⟨decide_eq_true<|cX.mp G,decide_eq_true s⟩)▸?_;exact⟨congrArg ac e,e▸(agc<|cX.mp G).mpr s⟩
  ·rw[if_neg s] at h;exact aE h
noncomputable def vy (k:Int):Bool:=decide (-2^63<=k)&&decide (k<2^63)
theorem vx (h:vy k=aq):-2^63<=k/\k<2^63:=by simpa[vy] using h
noncomputable def kZ (l:List PV) (k:Int):Option PV:=if vy k then(zy k<|aa l).bind (l[·]?) else am
def uW (a b:PV):IM PV:=by
 cases b
 case int k=>
  cases a
  case bytes b=>exact if 0<=k/\k<aa b/\aa b<=1099511627776 then ay (.int (b.getD k.toNat 0).toNat) else aQ
  case str s=>exact if vy k then bG ((zy k<|aa s).bind (s[·]?)) λc=>ay (.str [c]) else aQ
  case tup l=>exact bG (kZ l k) λq=>ay q
  case lst l=>exact bG (kZ l k) λq=>ay q
  case dR i=>exact kJ (.dR i) λl=>bG (kZ l k) λq=>ay q
  all_goals exact aQ
 case str s=>
  cases a
  case dct j U=>exact bG ((j.findIdx? (· ==s)).bind (U[·]?)) λp=>ay p
  all_goals exact aQ
 all_goals exact aQ
theorem Nh [BEq Z] (s:Z) (q:cF->Bool) (l:List cF):∀(j:List Z),aa j=aa l->(∀(i:Nat) (k:Z) (e:cF),j[i]?=ac k->l[i]?=ac e->q e=(k==s))->
 l.find? q=(j.findIdx? (· ==s)).bind (l[·]?):=by
 induction l with
 |nil=>intro j h _;refine(cy.mp h)▸?_;rfl
 |cons e l o=>
  intro j h L;cases j with|nil=>cases h|cons k j=>?_
  (refine ah Wv ?_;refine List.findIdx?_cons▸?_;refine(af<|L 0 k e rfl rfl)▸?_)
  cases B:k==s with
  |true=>rfl
  |false=>show List.find? q l=_;refine ah (o j (nR h) λi H R a b=>L (i+1) H R a b) ?_;cases j.findIdx? (· ==s)<;>rfl
theorem oy {T id:String} (u:s.TypeIs o T)
 (C:typeLookup (.type T) "__getitem__"=pure (ac<|.builtin id)) (S:aD (MM w) A (getItem o i) Q E s):aD (MM w) A (im B m o i) Q E s:=by
 have:∃W,subscripted m ai o i=operate W (getItem o i):=by
  cases m with
  |Slice _ _ st _=>rcases st<;>exact⟨_,rfl⟩
  |_=>exact⟨_,rfl⟩
 refine be this λW d=>?_;exact tail_any u C S d
theorem VE {K:aO} {O:List bn} {j:List (List Nat)} {h:eK} {Z:Program} (y:K.P=w.params) (x:VR K O (.dct j U) v) (G:∀a o,K a=ac o->h.get? a=ac o):
 ∃a u,v=.ref a/\(a==oY)=ai/\h.MapOf (strKind Z w) a (λk=>wQ fJ u k)/\(∀s:List Nat,wQ fJ u ⟨ag s⟩=((j.findIdx? (· ==s)).bind (u.toList[·]?)).map (·.val))/\
  bV K O U (u.toList.map (·.val)):=by
 obtain⟨a,o,n,u,rfl,k,L,I,d,C,f,r⟩:=x;refine⟨a,u,rfl,by simpa[oY] using I,⟨o,u,n,G _ _ k,L,d,λe Y=>?_,λ_=>rfl⟩,λs=>?_,r⟩
 ·refine be (Hg.mp Y) λi S=>be S λD V=>?_;subst V;have T:=C.symm▸D;refine bD (f i j[i] u[i] (aP T)<|by simp[D]) λJ S=>?_;refine be S λt R=>?_;rw[y] at J;exact⟨⟨j[i].toArray⟩,by exact R▸strKind_is _ _ _ _,J⟩
 ·unfold wQ
  have:=Nh s (λe=>fJ ⟨ag s⟩ e.key) u.toList j (by simpa using C) λi k e a b=>by
   refine bD (f i k e a b) λ_ S=>be S λt R=>?_;refine R▸?_;simp only[fJ];rw[iM];simp only[beq_iff_eq];constructor
   ·intro q;injection q with q;have:=congrArg o6 q;simpa using this
   ·intro q;rw[q]
  refine(this)▸?_;obtain⟨l⟩:=u;simp
theorem Pg (g:s.heap.IsList d B) (Y:vy k=aq) (D:zy k B.size=ac j) (X:B[j]?=ac v) (h:Q v s):aD (MM w) A (im Z m (.ref d)<|.int k t) Q E s:=by
 refine oy g.typeIs XX ?_;have Y:=vx Y;unfold zy at D;by_cases F:k<0
 ·rw[if_pos F] at D;by_cases c:-(B.size:Int)<=k
  ·rw[if_pos c] at D;exact wpAny_getItem_list_neg g F (by assumption) Y.1 (by exact(al D)▸X) h
  ·rw[if_neg c] at D;exact aE D
 ·rw[if_neg F] at D;by_cases c:k<B.size
  ·rw[if_pos c] at D;exact wpAny_getItem_list g (cX.mp F) Y.2 (by exact(al D)▸X) h
  ·rw[if_neg c] at D;exact aE D
theorem LS (B m l k r q):aj w X W n (λK O g=>VR K O (.int k) q/\DZ l r K O g) (bG (kZ l k) λq=>ay q) fi (im B m r q):=by
 refine eR λx S=>bE λA s K O Q E _ _ _ _ c _ i=>?_;refine bD c λR Z=>be R λt V=>?_;subst V;refine cN Z λd U H hd z=>?_;subst H;have Y:=j7 λq=>by unfold kZ at S;rw[if_neg q] at S;exact aE S
 unfold kZ at S;rw[if_pos Y] at S;refine aI (bind_some S) λj D S=>aI (z.get S) λv P T=>?_;have f:(ag U).size=aa l:=by(refine ah aS ?_;rw[z.length])
 have h:(ag U)[j]?=ac v:=by refine ah gc ?_;exact P
 have F:=i v s.heap s.toks (.refl _) T;rw[<-f] at D;rcases hd with hd|hd
 ·exact Pg hd Y D h F
 ·exact oy (aa2 hd) aaS.lookup<|ag4 hd (vx Y).1 (vx Y).2 (F1 D).1 h F
theorem TF (B m:bL) (a:PV) (k:Int) (r q):aj w X W n (λK O _=>VR K O a r/\VR K O (.int k) q) (kJ a λl=>bG (kZ l k) λq=>ay q) fi (im B m r q):=
 lw (aj.kJ λl=>LS B m l k r q) λ_ _ _ c=>c.symm
theorem Pd (B m:bL) (b:List Nat) (k:Int) (r q):aj w X W n (λK O _=>VR K O (.str b) r/\VR K O (.int k) q) (if vy k then bG ((zy k<|aa b).bind (b[·]?)) λc=>ay (.str [c]) else aQ) fi (im B m r q):=by
 refine cU λY=>eR λx T=>bE λA s K O Q E _ _ _ _ c _ i=>?_;refine bD c λS Z=>be S λu V=>?_;subst V;refine be Z λt H=>?_;subst H;refine aI (bind_some T) λj D T=>?_;have a:=vx Y;refine oy (JG _ _ _) F.slot_str_getitem.lookup<|P.getItem_str ?_ ?_ (i _ _ _ (.refl _) DW)
 ·(refine(af<|decide_eq_false<|cX.mpr a.1)▸ah (decide_eq_false<|i6.mpr a.2) ?_);rfl
 ·show(Ov k (ag b).size).bind _=_
  (refine aS▸(F1 D).1▸ah (xF ..)<|ah gc ?_);exact T
theorem Pj (B m:bL) (b:List UInt8) (k:Int) (r q):aj w X W n (λK O _=>VR K O (.bytes b) r/\VR K O (.int k) q) (if 0<=k/\k<aa b/\aa b<=1099511627776 then ay (.int (b.getD k.toNat 0).toNat) else aQ) fi (im B m r q):=by refine cU λP=>bE λA s K O Q E _ _ _ _ c _ i=>?_;refine bD c λS Z=>be S λu V=>?_;subst V;refine be Z λt H=>?_;subst H;exact oy (dM _ _ _) tY.lookup<|PySem.W.getItem_bytes P.2.2 P.1 P.2.1<|i _ _ _ (.refl _) fC
theorem Pi (y:KF.P=w.params) (B m:bL) (X:List (List Nat)) (U:List PV) (J:List Nat) (r q):aj w KF W n (λK O _=>VR K O (.dct X U) r/\VR K O (.str J) q) (bG ((X.findIdx? (· ==J)).bind (U[·]?)) λp=>ay p) fi (im B m r q):=by
 refine eR λp D=>λA s K O H M I N c L=>?_;refine nu ?_;intro a;refine bD c λc1 S=>be S λt V=>?_;subst V;refine aai (VE (Z:=bS) (ah N.par y) c1 N.sub) λd u S g z Y R=>?_;subst S;refine aI (bind_some D) λj F D=>aI (R.get D) λv Q T=>?_
 have e:wQ fJ u ⟨ag J⟩=ac v:=by rw[Y,F,xF];simpa using Q
 exact oy z.typeIs slot_dict_getitem.lookup<|wpAny_getItem_of (strKind_is _ _ _ _) z e ⟨p,H,K,O,rfl,iT ..,N,T,.refl s⟩
theorem HB (y:KF.P=w.params) (B m:bL) (a b:PV) (r q):aj w KF W n (λK O _=>VR K O a r/\VR K O b q) (uW a b) fi (im B m r q):=by
 cases b
 case int k=>
  cases a
  case bytes b=>exact Pj _ _ _ _ _ _
  case str b=>exact Pd _ _ _ _ _ _
  all_goals exact TF _ _ _ _ _ _
 case str J=>
  cases a
  case dct j U=>exact Pi y _ _ _ _ _ _ _
  all_goals exact bf
 all_goals exact bf
end
section
open Classical
noncomputable def ac7 (l:List PV):IM PV:=λH=>.ok (.dR<|aa H)<|H++[l]
noncomputable def qS (U:List Value):Obj:={cls:=.type "list",data:=.seq (ag U)}
noncomputable def O2 (U:List Value):Obj:={cls:=.type "tuple",data:=.seq (ag U)}
theorem ID (U):¬b5 (qS U):=λx=>absurd x.1<|by simp[qS]
theorem LG (U):¬b5 (O2 U):=λx=>absurd x.1<|by simp[O2]
section
def lL (F:Bool) (l:List PV):IM PV:=if F then ac7 l else ay (.lst l)
theorem Mv {K:aO} (N:Inv X K O H M s.heap) (z:bV K O l U)
 (Z:∀(Q:Value->bj->Prop) (E:Value->bj->Prop),Q (.ref s.heap.objs.size) {s with heap:=s.heap.push (qS U)}->aD (MM w) A t Q E s):
 Sat w X W A M K O s fi (lL F l H) t:=λ_=>by
 induction F with
 |false=>refine bD (N.Fm rfl<|ID U) λP st=>Z _ _ ⟨.lst l,H,_,O,rfl,st W,P,?_,rfl,rfl⟩;exact⟨_,_,0,U,rfl,fv _ _ _,⟨rfl,rfl,rfl⟩,rfl,vW (st W) z⟩
 |true=>
  have b:=N.keep<|Ar s.heap<|qS U
  have c:=b.afH (b6 _ rfl) (N.cO<|bX _) (N.dY<|bX _) ⟨rfl,rfl,rfl⟩ rfl z;refine Z _ _ ⟨.dR<|aa H,H++[l],K,O++[s.heap.objs.size],rfl,⟨rfl,λ_ _ e=>e,λ_ _ e=>.inl e,⟨_,rfl,λa I=>?_⟩,λa o e=>⟨o,aR _ e⟩,λa o e _ _=>⟨o.slots,aR _ e,.inl rfl⟩,λ_ q=>.inl q⟩,c,?_,rfl,rfl⟩
  ·simp at I;subst I;exact bX _
  ·exact⟨_,by(refine(N.kM.len)▸ah (ck<|bT _) ?_;refine(kE ..)▸?_);rfl,rfl⟩
theorem aj.lL (h:∀K O (s:bj),C K O s.heap->(∀a o,K a=ac o->s.heap.get? a=ac o)->∃U,bV K O l U/\∀(A:iN) (Q:Value->bj->Prop) (E:Value->bj->Prop),Q (.ref s.heap.objs.size) {s with heap:=s.heap.push (qS U)}->aD (MM w) A t Q E s):
 aj w X W n C (Internal.lL F l) fi t:=λA s K O H M I N c=>by
 exact aI (h K O s c N.sub) λU z Z=>Mv N z λQ E=>Z A Q E
open aj renaming lL->ahg
theorem AP (F l U):aj w X W n (kq l U) (if aa l<=16777216 then lL F l else aQ) fi (abv U):=
 cU λf=>ahg λK O s c _=>⟨U,c,λA Q E h=>yw h<|by(refine bh▸(vX c)▸?_);exact f⟩
theorem sf (l U):aj w X W n (kq l U) (if aa l<=16777216 then ay (.tup l) else aQ) fi (newTuple U):=
 cU λf=>λA s K O H M I N c _=>by exact bD (N.Fm rfl<|LG U) λP st=>ajA ⟨.tup l,H,_,O,rfl,st W,P,⟨_,_,0,U,rfl,fv _ _ _,rfl,rfl,vW (st W) c⟩,rfl,rfl⟩<|by(refine bh▸(vX c)▸?_);exact f
def ajl (F:Bool) (p q:PV):IM PV:=gX p λl=>gX q λG=>if aa l+aa G<=16777216 then lL F (l++G) else aQ
def ahW (p q:PV):IM PV:=by
 cases p
 case bytes b=>exact cj q λn=>if b≠[]/\-1048576<=n/\n<=1048576/\aa b*n.toNat<=16777216/\aa b<=16777216 then ay (.bytes (aX n.toNat b).flatten) else aQ
 case int a=>exact cj q λb=>aay .Mult (.int a)<|.int b
 all_goals exact aQ
noncomputable def isL (p:PV):Bool:=by
 cases p
 case lst _=>exact aq
 case dR _=>exact aq
 all_goals exact ai
def C0 (F:Bool) (I:tG) (p q:PV):IM PV:=
 if I=.Mult then ahW p q else if I=.Add/\isL p=aq then ajl F p q else aay I p q
theorem LJ {n:Int} (h:n.toNat=1):n=1:=by
 induction n with
 |ofNat k=>exact congrArg jP h
 |negSucc k=>cases h
theorem GH {n:Int} (B:b≠[]) (V:-1048576<=n) (U:n<=1048576) (O:aa b*n.toNat<=16777216) (d:aa b<=16777216)
 (h:∀m k,Q (.bytes (ag<|(aX n.toNat b).flatten) m) {s with toks:=k}):
 aD (MM w) A (Wp .Mult (.bytes (ag b) t)<|.int n u) Q E s:=by
 have W:b.toArray.size=aa b:=by exact rfl
 by_cases J:n=1
 ·subst J
  refine Ta rfl (λZ=>dM Z _ t) (λZ=>JH Z 1 u) agp F.fills_int_mul F.slot_int_rmul abJ F.slot_int_index.lookup
   (jr F.slot_int_rmul (JH s 1 u) F.entry_int_rmul (F.args_int_rmul_2 _ _) (S0 1 u _ t)
    ⟨rfl,jr abe (dM s _ t) X7 (abf _ _) (BMul.gives_mul1<|by exact W▸d) ?_⟩)
  have f:=h t s.toks;have e:(aX (1:Int).toNat b).flatten=b:=by simp
  rw[e] at f;exact f
 ·have S:=kR.mpr B;have Y:agn n=true:=fG.mpr ⟨decide_eq_true (fW (by decide) V),decide_eq_true<|eJ U<|by decide⟩;have a:¬b.toArray.size*n.toNat>=2^63:=by exact W▸wU.mpr (bY O<|by decide)
  have X:=beq_false_of_ne λe=>J<|LJ<|Nat.eq_of_mul_eq_mul_left S<|ah e (Nat.mul_one _).symm
  have C:agk (b.toArray.size*n.toNat)=false:=by exact W▸A8 O
  refine Ta rfl (λZ=>dM Z _ t) (λZ=>JH Z n u) agp F.fills_int_mul F.slot_int_rmul abJ F.slot_int_index.lookup
   (jr F.slot_int_rmul (JH s n u) F.entry_int_rmul (F.args_int_rmul_2 _ _) (S0 n u _ t)
    ⟨rfl,jr abe (dM s _ t) X7 (abf _ _) (BMul.gives_mul Y a X C) ?_⟩)
  refine(BMul.repeated_list B ..)▸?_;refine⟨?_,h _ _⟩;refine bh▸?_;have R:((aX n.toNat b).flatten.toArray).size=n.toNat*aa b:=by simp
  (refine R▸(af8 ..)▸?_);exact O
theorem A0 (C:s.heap.IsList l (ag U)) (B:s.heap.IsList b (ag Y))
 (h:Q (.ref s.heap.objs.size) {s with heap:=s.heap.push (qS<|U++Y)}) (f:aa U+aa Y<=jb):
 aD (MM w) A (Wp .Add (.ref l)<|.ref b) Q E s:=by
 refine nu ?_;intro k;refine gN (id C) λS L P V=>?_;obtain⟨cls,dd,data,p⟩:=S;refine be V λn g=>?_;refine gN (id B) λS a v V=>?_;obtain⟨j,d,data2,i⟩:=S;refine be V λc I=>?_;simp only at P g v I;subst P g v I;have e:ag U++ag Y=ag (U++Y):=by simp
 refine concat_meets ⟨_,L,rfl⟩ ⟨_,a,rfl⟩ noFill_list_add seq_list_add PySem.F.slot_list_add PySem.F.entry_list_add (PySem.F.args_list_add_2 _ _) (list_addW l b (ag U) (ag Y) n c dd d p i<|by simpa using f) ⟨L,a,?_⟩;refine e▸?_;exact h
theorem Mp (F) (I:tG) (a b:PV) (r q):aj w X W n (λK O _=>VR K O a r/\VR K O b q) (C0 F I a b) fi (Wp I r q):=by
 unfold C0;by_cases J:I=.Mult
 ·refine(if_pos J)▸?_;subst J;rcases a<;>first|exact bf|skip
  ·refine dm λj e=>?_;subst e;exact z9 _ _ _ _ _
  ·refine dm λj e=>cU λd=>?_;subst e;refine bE λA s K O Q E _ _ _ _ c _ h=>?_;refine bD c λS Z=>be S λt V=>?_;subst V;refine be Z λu H=>?_;subst H;exact GH d.1 d.2.1 d.2.2.1 d.2.2.2.1 d.2.2.2.2 λm k=>h _ _ _ (.refl _) j0
 ·refine(if_neg J)▸?_;by_cases R:I=.Add/\isL a=aq
  ·refine(if_pos R)▸?_;refine bD R λR _=>?_;subst R;refine lw (AC λl=>lw (AC λG=>cU λf=>ahg λK O s c _=>?_) λ_ _ _ c=>c.symm) λ_ _ _ c=>c.symm;refine nu ?_;intro g;refine bD c λS Z=>cN S λi U V C z=>?_;subst V;refine cN Z λj Y H B T=>?_;subst H;exact⟨U++Y,z.append T,λA Q E h=>A0 C B h<|by(refine bh▸z.length▸T.length▸?_);exact f⟩
  ·refine(if_neg R)▸?_;exact z9 _ _ _ _ _
noncomputable def y9 (p:PV):Option (Option Int):=by
 cases p
 case none=>exact ac am
 case int i=>exact ac<|ac i
 all_goals exact am
theorem lh {K:aO} {lo:Option Int} (x:VR K O p v) (e:y9 p=ac lo):IsPart v lo:=by
 rcases p<;>first|exact aE e|skip
 ·(refine((al e))▸x▸?_);exact .none
 ·refine be x λt S=>?_;subst S;exact((al e))▸.int _ _
def Wc (x:PV×PV×PV) (v:Value):xz:=λK O _=>∃a o l u st,v=.ref a/\K a=ac o/\o.cls=.type "slice"/\o.data=.fields #[l,u,st]/\VR K O x.1 l/\VR K O x.2.1 u/\VR K O x.2.2 st
theorem zl (x l u st):aj w X W n (λK O _=>VR K O x.1 l/\VR K O x.2.1 u/\VR K O x.2.2 st) (ay x) Wc (newFields "slice" [l,u,st]):=by intro A s K O H M I N c _;exact bD (N.Fm rfl λx=>absurd x.1<|by simp) λP g=>rR ⟨x,H,_,O,rfl,g W,P,⟨_,_,l,u,st,rfl,fv _ _ _,rfl,rfl,fD (g W) c.1,fD (g W) c.2.1,fD (g W) c.2.2⟩,rfl,rfl⟩
noncomputable def rr (l:List α) (lo D st:Option Int):List α:=(Ai (Wi lo D st<|aa l).1 (Wi lo D st<|aa l).2.1 (Wi lo D st<|aa l).2.2).filterMap (l[·]?)
noncomputable def Jb (b:List UInt8) (lo D:Option Int):List UInt8:=(b.drop<|lo.elim 0<|uH<|aa b).take<|D.elim (aa b) (uH<|aa b)-lo.elim 0 (uH<|aa b)
def mq (F:Bool) (o lo D st:PV):IM PV:=bG (y9 lo) λl=>bG (y9 D) λu=>bG (y9 st) λk=>match o with
 |.bytes b=>if aa b<=16777216/\k=am then ay (.bytes<|Jb b l u) else aQ
 |o=>gX o λxs=>if aa xs<=16777216/\k≠ac 0 then lL F (rr xs l u k) else aQ
theorem bV.pick {K:aO} (r:bV K O l U) (a:List Nat):bV K O (a.filterMap (l[·]?)) (a.filterMap (U[·]?)):=by
 induction a with
 |nil=>exact eA
 |cons j a o=>
  cases F:l[j]? with
  |some p=>
   refine aI (r.get F) λv t x=>?_
   (refine(qC F)▸(qC t)▸?_)
   exact b8 x o
  |none=>
   have t:U[j]?=none:=by
    rw[Eg] at F|-
    exact r.length▸F
   (refine(af<|qD F)▸(af<|qD t)▸?_)
   exact o
theorem TL (F:Bool) (B m a lo D st) (r q:Value) (J:y9 lo=ac v) (R:y9 D=ac T) (y:y9 st=ac st'):
 aj w X W n (λK O h=>VR K O a r/\Wc (lo,D,st) q K O h) (gX a λxs=>if aa xs<=16777216/\st'≠ac 0 then lL F (rr xs v T st') else aQ) fi (im B m r q):=by
 refine lw (AC λxs=>cU λf=>ahg λK O s c G=>?_) λ_ _ _ c=>c.symm;refine bD c λS Z=>aeu S λp o l u k V j P g c1 c2 d=>?_;subst V;refine cN Z λi U H C z=>?_;subst H;have x:s.heap.IsSliceOf p l u k:=⟨o,G _ _ j,P,g⟩;have e:(afZ (ag U) v T st').toList=rr U v T st':=by simp[afZ,rr]
 have b:({cls:=.type "list",data:=.seq (afZ (ag U) v T st')}:uO)=qS (rr U v T st'):=by refine(e)▸?_;rfl
 refine⟨rr U v T st',?_,λA Q E h=>oy C.typeIs XX<|wpAny_getItem_list_slice C x (lh c1 J) (lh c2 R) (lh d y) f.2 (by refine b▸?_;exact h)<|by(refine bh▸aS▸z.length▸?_);exact f.1⟩;unfold rr;refine(z.length)▸?_;exact z.pick _
theorem CG (F:Bool) (B m a lo D st) (r q:Value):
 aj w X W n (λK O h=>VR K O a r/\Wc (lo,D,st) q K O h) (mq F a lo D st) fi (im B m r q):=by
 refine eR λv J=>eR λT R=>eR λe y=>?_;rcases a<;>first|exact TL _ _ _ _ _ _ _ _ _ J R y|skip
 rename_i b;refine cU λf=>?_;refine bD f ?_;clear f;intro f S;subst S;refine bE λA s K O Q E _ _ _ _ c G i=>?_;refine nu ?_;intro z;refine bD c λS Z=>be S λt V=>?_;subst V;refine aeu Z λp o l u k H j P g c1 c2 d=>?_;subst H;have x:s.heap.IsSliceOf p l u k:=⟨o,G _ _ j,P,g⟩;cases lh d y
 refine oy (dM _ _ _) tY.lookup (getItem_meets (dM _ _ _) rfl tY FB.entry_bytes_getitem (FB.args_bytes_getitem_2 _ _) (KBc.meets_slice2 (ag b) t _ (lh c1 J) (lh c2 R))
  ⟨x,aN (KBc.size_picked_le _ _ _) (by exact bh▸f),λY k=>?_⟩)
 refine(KBc.picked_eq ..)▸?_;exact i _ _ _ (.refl _) j0
end
end
section
open Classical
noncomputable def Pz:List (IM Z)->IM (List Z)
 |[]=>ay []
 |m::d=>ax m λa=>ax (Pz d) λk=>ay<|a::k
theorem pP (l:fI W C):∀(d) (G:List (jN Value)),aa d=aa G->(∀(i:Nat) (m) (t),d[i]?=ac m->G[i]?=ac t->aj w X W n C m fi t)->
 aj w X W n C (Pz d) kq (gG<|G.map λt=>(ai,t))
 |[],[],_,_=>gg λ_ _ _ _=>eA
 |[],_::_,h,_=>by simp at h
 |_::_,[],h,_=>by simp at h
 |m::d,t::G,h,z=>by
  have U:=z 0 m t rfl rfl;have o:=pP l d G (by simpa using h) λi D Z a b=>z (i+1) D Z (by simpa using a)<|by simpa using b
  (refine bv▸?_;rw[gG])
  show aj w X W n C (ax m λa=>ax (Pz d) λk=>ay<|a::k) _ _;refine cw U l λa r=>?_;simp only[bP,if_false];exact Aq [r] (λA Q E s h=>av h)<|cw ((o.weak λ_ _ _ c=>c.1).holding) (l.and<|cb a r) λk Y=>gg λK O g c=>b8 c.1.2 c.2
theorem sy {G:List (jN Value)} (h:aj w X W n C m kq (gG<|G.map λt=>(ai,t))):
 aj w X W n C m (λz a=>λK O _=>a.kw=[]/\bV K O z a.pos) (Wm f aq (G.map λt=>(ai,t)) []):=by
 intro A s K O H M I N c L;have J:=h A s K O H M I N c L
 induction G with
 |nil=>
  unfold Wm;show aD (MM w) A (gG []>>=_) _ _ s;refine ak<|a0 J (λU F ⟨a,i,j,l,q,st,P,d,S⟩=>?_) λ_ _ y=>y
  exact pe<|a9<|pe<|pe<|av ⟨a,i,j,l,q,st,P,⟨rfl,d⟩,S⟩
 |cons t G=>exact JZ<|a0 J (λU u ⟨a,i,j,l,q,st,P,d,S⟩=>⟨a,i,j,l,q,st,P,⟨rfl,d⟩,S⟩) λ_ _ y=>y
def Jx (X:aO) (f:Value):Prop:=(∃id,f=.builtin id)\/(∃T,f=.type T)\/∃a o fd,f=.ref a/\X a=ac o/\o.data=.func fd
theorem sK {G:List (jN Value)} (l:fI W C) (Y:Jx X f)
 (h:aj w X W n C m kq (gG<|G.map λt=>(ai,t)))
 (P:∀z U,aj w X W n (λK O g=>C K O g/\bV K O z U) (F z) R<|call f (first++U) []):
 aj w X W n C (ax m F) R (iL pos f first (G.map λt=>(ai,t)) []):=by
 unfold iL;refine cw ((sy h).holding) l λz a=>bA ?_;have D:((G.map λt=>(ai,t)).any (·.1))=false:=by simp
 have e:(((G.map λt=>(ai,t)).any (·.1))||(([]:List (Option an×jN Value)).any (·.1.isNone)))=false:=by refine(af D)▸?_;rfl
 intro A s K O H M I N i L;refine i8 i λc j Z=>?_;have y:=P z a.pos A s K O H M I N ⟨c,Z⟩ L
 have tail:∀{t:jN Value},aD (MM w) A t (zd X W M K O s R<|F z H) (yq X W M K O s<|F z H) s->
  aD (MM w) A (t>>=λr=>dK [r] point>>=λ_=>jh r) (zd X W M K O s R<|F z H) (yq X W M K O s<|F z H) s:=
  λQ=>ak<|a0 Q (λr V d=>ak<|a9<|mW<|av d) λ_ _ x=>x
 refine j▸?_;refine(af e)▸?_;rcases Y with ⟨id,rfl⟩|⟨T,rfl⟩|⟨b,o,fd,rfl,B,S⟩
 ·refine ak (av ?_);exact tail y
 ·refine ak (av ?_);exact tail y
 ·refine ak ?_;unfold nE;refine f6 (λ_ _ h=>uE (N.sub _ _ (N.stat _ _ B)) h)<|S▸?_
  refine av ?_;dsimp only;split
  ·exact tail y
  ·exact tail<|by unfold aaX;exact yd y
end
section
open Classical
abbrev BF:=List PV->IM PV
noncomputable def NU (f:PV->Option Z):List PV->Option (List Z)
 |[]=>ac []
 |p::l=>(f p).bind λa=>(NU f l).map (a::·)
theorem yt (Y:∀p a,f p=ac a->p=g a):∀{l r},NU f l=ac r->l=r.map g:=by
 intro l
 induction l with
 |nil=>intro r h;refine((al h))▸?_;rfl
 |cons p l o=>
  intro r h;refine aI (Ed.mp h) λa J h=>?_;refine aI (ba.mp h) λt R S=>?_;subst S
  (refine(Y p a J)▸(o R)▸?_);rfl
abbrev xk:List PV->Option (List Int):=NU Uc
abbrev DO:List PV->Option (List Bool):=NU P2
noncomputable def strOf (s:an):PV:=.str s.cps.toList
theorem FZ {K:aO}:∀{j U},bV K O (j.map .int) U->abD U j
 |[],_,h=>by subst h;exact .nil
 |n::j,U,h=>by refine cN h λv r S V b=>?_;subst S;refine be V λt Z=>?_;subst Z;exact .cons n t<|FZ b
theorem wt {K:aO} (h:bV K O l U) (e:xk l=ac ns):abD U ns:=by rw[yt (λ_ _=>CR) e] at h;exact FZ h
theorem IP (h:abD U ns):∃xs:Array (Int×GY),ag U=Wj xs/\xs.toList.map (·.1)=ns:=by
 induction h with
 |nil=>exact⟨#[],by simp[Wj],rfl⟩
 |cons n t _ o=>refine aI o λxs e R=>?_;refine⟨ag<|(n,t)::xs.toList,?_,by simp[R]⟩;have:=congrArg o6 e;simp only[Wj,Array.toList_map] at this;rename_i U ns _;simp only[Wj];apply Array.toList_inj.mp;simp[this]
noncomputable def r7 (j:List Int):Bool:=j.all (λn=>decide (0<=n)&&decide (n<1099511627776))&&decide (aa j<=1048576)
def eP (l:List PV):IM PV:=Bt l λp=>match p with
 |.bytes b=>if aa b<=1099511627776 then ay (.int<|aa b) else aQ
 |.str s=>if aa s<=1099511627776 then ay (.int<|aa s) else aQ
 |p=>kJ p λl=>if aa l<=1099511627776 then ay (.int<|aa l) else aQ
def xR (l:List PV):IM PV:=WQ l λp q=>cj p λa=>cj q λb=>ay<|.int<|if b>a then b else a
def C5 (l:List PV):IM PV:=WQ l λp q=>cj p λa=>cj q λb=>ay<|.int<|if b<a then b else a
def V8 (l:List PV):IM PV:=Bt l λp=>cj p λa=>ay<|.int<|if a<0 then -a else a
def LQ (l:List PV):IM PV:=Bt l λp=>gX p λl=>bG (xk l) λj=>if r7 j=aq then ay (.int j.sum) else aQ
def aaH (l:List PV):IM PV:=Bt l λp=>gX p λl=>bG (DO l) λI=>ay<|.bool<|I.all id
def VL (l:List PV):IM PV:=Bt l λp=>cj p λa=>if 0<=a/\a<=0x10FFFF then ay (.str [a.toNat]) else aQ
def QV (l:List PV):IM PV:=WQ l λp q=>bG (AK p) λ_=>bG (pTy q) λn=>if n="str" then ay (.bool ai) else aQ
def uz (l:List PV):IM PV:=Bt l λp=>gX p λl=>bG (xk l) λj=>if aa j<=16777216/\∀n∈j,0<=n/\n<256 then ay (.bytes (byteArr j).toList) else aQ
def UV (l:List PV):IM PV:=Bt l λp=>C2 p λb=>ay<|.int<|if b then 1 else 0
def LV (l:List PV):IM PV:=Bt l λp=>by
 cases p
 case bool b=>exact ay<|strOf<|if b then "True" else "False"
 case int a=>exact if a.natAbs.log2<1920 then ay (strOf<|toString a) else aQ
 case str s=>exact ay<|.str s
 all_goals exact aQ
def O0 (l:List PV):IM PV:=Bt l λp=>by
 cases p
 case tup l=>exact ay<|.tup l
 all_goals exact aQ
def QE (l:List PV):IM PV:=Bt l λp=>by
 cases p
 case tup l=>exact if aa l<=16777216 then ay (.lst l) else aQ
 case lst l=>exact if aa l<=16777216 then ay (.lst l) else aQ
 all_goals exact aQ
def jT (l:List PV):IM PV:=match l with
 |[p]=>cj p λb=>ay<|.Ki 0 b
 |[p,q]=>cj p λa=>cj q λb=>ay<|.Ki a b
 |_=>aQ
theorem qv {K:aO}:VR K O (strOf s) (.str s t):=by exact⟨t,by cases s;exact rfl⟩
section
variable {n:Nat}
theorem Wa {K:aO} (h:bV K O [p] U):∃v,U=[v]/\VR K O p v:=by refine cN h λv r S a b=>?_;subst S;exact⟨v,congrArg _ b,a⟩
theorem V9 {K:aO} (h:bV K O [p,q] U):∃v u,U=[v,u]/\VR K O p v/\VR K O q u:=by refine cN h ?_;clear h;intro v r S a h;subst S;exact aI (Wa h) λu e b=>⟨v,u,congrArg _ e,a,b⟩
theorem ajn {K:aO} (h:bV K O [p,q,r] U):∃v u x,U=[v,u,x]/\VR K O p v/\VR K O q u/\VR K O r x:=by refine cN h ?_;clear h;intro v r S a h;subst S;exact cN (V9 h) λu x e b c=>⟨v,u,x,congrArg _ e,a,b,c⟩
theorem aj.c1 {k:PV->IM PV} (h:∀p v,aj w X W n (fi p v) (k p) fi<|call f [v]):aj w X W n (kq D U) (Bt D k) fi (call f U):=by
 intro A s K O H M I N c L
 cases D with
 |nil=>exact absurd rfl L
 |cons p r=>cases r with
  |cons _ _=>exact absurd rfl L
  |nil=>refine aI (Wa c) λv S t=>?_;subst S;exact h p v A s K O H M I N t L
theorem aj.c2 {k:PV->PV->IM PV} (h:∀p q v u,aj w X W n (λK O _=>VR K O p v/\VR K O q u) (k p q) fi<|call f [v,u]):aj w X W n (kq D U) (WQ D k) fi (call f U):=by
 intro A s K O H M I N c L
 cases D with
 |nil=>exact absurd rfl L
 |cons p r=>cases r with
  |nil=>exact absurd rfl L
  |cons q r=>cases r with
   |cons _ _=>exact absurd rfl L
   |nil=>refine iI (V9 c) λv u S t=>?_;subst S;exact h p q v u A s K O H M I N t L
open aj renaming c1->nW,c2->Yb
theorem Kg (h:n<=1099511627776):(n:Int)<2^63:=eJ (dI.mpr h)<|by decide
theorem MG (l v):aj w X W n (DZ l v) (if aa l<=1099511627776 then ay (.int<|aa l) else aQ) fi (call (.builtin "len") [v]):=
 cU λf=>bE λA s K O Q E _ _ _ _ c _ k=>by
  refine cN c λa B S hd z=>?_;subst S;have N:(ag B).size=aa l:=by(refine ah aS ?_;rw[z.length])
  have F:=k (.int ((ag B).size:Int)<|s.toks+1) s.heap (s.toks+1+1) (.refl _)<|N▸fC
  have f:=Kg<|N▸f
  rcases hd with hd|hd
  ·exact Calls.call_len_list hd f F
  ·exact ag1 hd f F
theorem IE (D U):aj w X W n (kq D U) (eP D) fi (call (.builtin "len") U):=by
 refine nW λp v=>?_;rcases p<;>first|exact aj.P7 λl=>MG l v|skip
 ·refine cU λf=>bE λA s K O Q E _ _ _ _ c _ k=>?_;refine be c λt S=>?_;subst S;exact P.len_str (i6.mpr<|Kg f)<|k _ _ _ (.refl _) fC
 ·refine cU λf=>bE λA s K O Q E _ _ _ _ c _ k=>?_;refine be c λt S=>?_;subst S;exact PySem.W.len_bytes f<|k _ _ _ (.refl _) fC
theorem Hw {Z:List Int} (h:∀n∈Z,0<=n/\n<1099511627776) (j):0<=(Z.take j).sum/\(Z.take j).sum<=j*1099511627776:=by
 induction Z generalizing j with
 |nil=>exact(af Ex)▸⟨f4 _,aa5 (bC _)<|by decide⟩
 |cons a l o=>
  induction j with
  |zero=>exact⟨f4 _,f4 _⟩
  |succ j=>
   have J:=h a bd;have R:=o (λn F=>h n<|bc _ F) j
   (refine Oa▸?_;rewrite[List.sum_cons];refine(af (Wy ..))▸(ahc ..)▸(ahb ..)▸(yc (_*_) ..)▸?_)
   exact⟨aa6 J.1 R.1,Ei (sZ J.2) R.2⟩
theorem AF {ns:List Int} (h:r7 ns=aq):∀j,j<aa ns->InLong (ns.getD j 0)/\InLong ((ns.take<|j+1).sum):=by
 simp only[r7,bu,cn,decide_eq_true_eq] at h;intro j F;have z:ns.getD j 0∈ns:=by(refine eB▸?_;refine(aP F)▸?_);exact hZ F
 have J:=h.1 _ z;have R:=Hw h.1<|j+1
 exact⟨⟨fW (by decide) J.1,kH J.2<|by decide⟩,fW (by decide) R.1,eJ R.2<|eJ (ju (dI.mpr<|aN F h.2)<|by decide)<|by decide⟩
theorem xb (xs j):preSum (numAt xs) j=((xs.toList.map (·.1)).take j).sum:=by
 induction j with
 |zero=>simp[preSum]
 |succ j o=>
  (rewrite[preSum];refine o▸?_)
  by_cases h:j<xs.size
  ·have e:(xs.toList.map (·.1)).take (j+1)=(xs.toList.map (·.1)).take j++[xs[j].1]:=by
    refine ah mc ?_;simp[h]
   refine e▸?_;simp[numAt,h]
  ·have e:(xs.toList.map (·.1)).take (j+1)=(xs.toList.map (·.1)).take j:=by
    (refine ah (fN<|by simp;exact cQ<|bk [xs.size,j] [] [(1,aK,bg),(1,xi<|xi bg,aK)] rfl<|cl<|cW.mp h) ?_;rw[fN<|by simp;exact cQ<|bk [xs.size,j] [] [(1,aK,bg),(1,xi bg,aK)] rfl<|cl<|cW.mp h])
   refine e▸?_;simp[numAt,h]
theorem Iv (D U):aj w X W n (kq D U) (xR D) fi (call (.builtin "max") U):=by refine Yb λp q v u=>dm λa e=>dm λb R=>?_;subst e R;refine bE λA s K O Q E r _ _ _ c _ h=>?_;refine bD c λS Z=>be S λt V=>?_;subst V;refine be Z λm H=>?_;subst H;exact max_two_ints r λf tk G=>h _ _ _ (.of_keeps G) (by split<;>exact fC)
theorem Ip (D U):aj w X W n (kq D U) (C5 D) fi (call (.builtin "min") U):=by refine Yb λp q v u=>dm λa e=>dm λb R=>?_;subst e R;refine bE λA s K O Q E r _ _ _ c _ h=>?_;refine bD c λS Z=>be S λt V=>?_;subst V;refine be Z λm H=>?_;subst H;exact min_two_ints r λf tk G=>h _ _ _ (.of_keeps G) (by split<;>exact fC)
theorem Jw (D U):aj w X W n (kq D U) (V8 D) fi (call (.builtin "abs") U):=by refine nW λp v=>dm λa e=>?_;subst e;refine bE λA s K O Q E _ _ _ _ c _ h=>?_;refine be c λt S=>?_;subst S;exact call_abs_int λu tk=>h _ _ _ (.refl _) fC
theorem Jg (D U):aj w X W n (kq D U) (VL D) fi (call (.builtin "chr") U):=by
 refine nW λp v=>dm λa e=>cU λd=>?_;subst e;refine bE λA s K O Q E _ _ _ _ c _ h=>?_;refine be c λt S=>?_;subst S;refine P.chr_of_int ?_ (h _ _ _ (.refl _) DW)
 (refine(af<|decide_eq_false<|cX.mpr d.1)▸ah (decide_eq_false<|cX.mpr d.2) ?_);rfl
theorem HA (D:List PV) (U:List Value):aj w X W n (kq D U) (LQ D) fi (call (.builtin "sum") U):=by
 refine nW λp v=>ajQ λl=>eR λns i=>cU λd=>bE λA s K O Q E r _ _ _ c _ k=>?_;refine cN c λa B S C z=>?_;subst S;refine aI (IP<|wt z i) λxs L e=>?_;rw[L] at C;have J:xs.size=aa ns:=by refine(e)▸?_;simp
 refine sum_intList r C (λj F=>?_) λf tk m G=>?_
 ·have:=AF d j (by exact(J)▸F)
  (refine(xb ..)▸e▸?_)
  refine⟨?_,this.2⟩
  have Z:numAt xs j=ns.getD j 0:=by(refine(e)▸eB▸?_);simp[numAt,F]
  exact Z▸this.1
 ·refine k _ _ _ (.of_keeps G) ?_
  (refine(af (xb ..))▸(af e)▸(af<|fN<|ao J.symm)▸?_);exact fC
theorem DN (D:List PV) (U:List Value):aj w X W n (kq D U) (uz D) fi (call (.type "bytes") U):=by refine nW λp v=>ajQ λl=>eR λj i=>cU λd=>bE λA s K O Q E r _ _ _ c _ k=>?_;refine cN c λa B S C z=>?_;subst S;have Z:=wt z i;exact call_bytes_ints C Z d.2 (by(refine bh▸Z.length▸?_);exact d.1) r λf t tk G=>k _ _ _ (.of_keeps G) ⟨t,by exact rfl⟩
theorem B5 {K:aO}:∀{I:List Bool} {U},bV K O (I.map .bool) U->U=I.map ni
 |[],_,h=>h
 |n::j,U,h=>by
  refine cN h λv r S a b=>?_;subst S
  (refine(B5 b)▸a▸?_);rfl
theorem Me (I:List Bool):(dg<|aa I).all (λi=>I.getD i aq)=I.all id:=by
 rw[iM];simp only[cn,pJ,id_eq];constructor
 ·intro h b B;refine be (o4 B) λj S=>be S λF V=>?_;subst V;have:=h j F;rw[eB,aP F] at this;simpa using this
 ·intro h j F
  (refine ah eB ?_;refine(aP F)▸?_)
  exact h _ (hZ F)
theorem Jv (D:List PV) (U:List Value):aj w X W n (kq D U) (aaH D) fi (call (.builtin "all") U):=by
 refine nW λp v=>ajQ λl=>eR λbs Y=>bE λA s K O Q E r _ _ _ c _ k=>?_;refine cN c λa Z S C z=>?_;subst S;rw[yt (λ_ _=>Ft) Y] at z;have T:=B5 z;have t:=let⟨_,L,_⟩:=C;dS L;refine call_all_walk<|abr C ?_
 refine⟨_,[s.heap.objs.size,a],[s.heap.objs.size],_,_,_,λi=>bs.getD i aq,rfl,af5 (A:=A.in1) r s.heap.objs.size a (eU t)<|ag Z,⟨⟨_,b6 _ rfl,rfl,rfl⟩,C.push _⟩,λi v s Q E y V=>?_,λf tk G=>?_⟩
 ·simp only[T,gc,bZ,ba] at y;refine aI y λb B S=>?_;subst S;simp only[eB,B,Option.getD_some] at V;exact i9 V
 ·refine k _ _ _ (.of_keeps λb o B=>G b o (by simp;exact eU<|dS B)<|aR _ B) ?_;have:(ag Z).size=aa bs:=by simp[T]
  (refine this▸(Me ..)▸?_);exact tx
theorem KD (u:T="list"\/T="tuple") (Y:∀K O v,VR K O p v->∃(a:bn) (o:uO) (n:Nat) (B:List Value),v=.ref a/\K a=ac o/\o.cls=.type T/\o.data=.seq (ag B) n/\bV K O l B) (d:aa l<=16777216):
 aj w X W n (fi p v) (ay<|.lst l) fi (call (.type "list") [v]):=by
 intro A s K O H M I N c _;refine aey (Y _ _ _ c) λa o n B S C Z g z=>?_;subst S;refine call_list_seq a u (N.sub _ _ C) Z g (λh' D b e=>?_)<|by(refine bh▸?_;refine aS▸?_;refine z.length▸?_);exact d
 have r:de s.heap h':=.of_keeps b;have F:=N.cO<|bX s.heap
 have P:=(N.keep r).freeze e F (N.dY<|bX s.heap) λx=>absurd x.1<|by simp
 refine⟨_,H,_,O,rfl,r6 r F<|bX _,P,?_,rfl,rfl⟩;exact⟨_,_,D,B,rfl,fv _ _ _,⟨rfl,rfl,rfl⟩,rfl,vW (W:=W) (r6 r F<|bX _) z⟩
theorem FG {X K:aO} (N:Inv X K O H M s.heap):zd X W M K O s fi (.ok (.Ki x y) H) (.ref s.heap.objs.size) {s with heap:=s.heap.push {cls:=.type "range",data:=.fields #[.int x t1,.int y t2,.int 1 t3]},toks:=tk}:=by exact bD (N.Fm rfl λx=>absurd x.1<|by simp) λP st=>⟨_,H,_,O,rfl,st W,P,⟨_,_,_,_,_,rfl,fv _ _ _,rfl⟩,rfl,rfl⟩
theorem CN (D:List PV) (U:List Value):aj w X W n (kq D U) (jT D) fi (call (.type "range") U):=by
 cases D with
 |nil=>exact bf
 |cons p r=>cases r with
  |nil=>refine dm λb e=>?_;subst e;intro A s K O H M I N c _;refine aI (Wa c) λv S V=>?_;subst S;refine be V λt Z=>?_;subst Z;exact PySem.call_range_1<|FG N
  |cons q r=>cases r with
   |cons _ _=>exact bf
   |nil=>refine dm λa e=>dm λb R=>?_;subst e R;intro A s K O H M I N c _;refine cN (V9 c) λv u S V Y=>?_;subst S;refine be V λt Z=>?_;subst Z;refine be Y λm G=>?_;subst G;exact PySem.call_range_2<|FG N
theorem Df (D U):aj w X W n (kq D U) (QV D) fi (call (.builtin "isinstance") U):=by
 refine Yb λp q v u=>?_;rcases p<;>first|exact bf|skip
 rcases q<;>first|exact bf|skip
 refine cU λF=>?_;subst F;refine bE λA s K O Q E _ _ _ _ c G h=>?_;refine bD c λS R=>?_;obtain⟨a,o,n,B,rfl,C,P,_⟩:=S;cases R;exact IsiPair.tuple_str (G _ _ C) P<|h _ _ _ (.refl _) tx
theorem HF (D:List PV) (U:List Value):aj w X W n (kq D U) (LV D) fi (call (.type "str") U):=by
 refine nW λp v=>?_;rcases p<;>first|exact bf|skip
 ·refine bE λA s K O Q E _ _ _ _ c G h=>?_;cases c;exact P.str_of_bool<|h _ _ _ (.refl _) qv
 ·refine cU λd=>bE λA s K O Q E _ _ _ _ c G h=>?_;refine be c λt S=>?_;subst S;exact P.str_of_int d<|h _ _ _ (.refl _) qv
 ·refine bE λA s K O Q E _ _ _ _ c G h=>?_;refine be c λt S=>?_;subst S;exact P.str_of_str<|h _ _ s.toks (.refl _) ⟨t,rfl⟩
theorem IQ (D U):aj w X W n (kq D U) (UV D) fi (call (.type "int") U):=by refine nW λp v=>aj.C2 λb e=>?_;subst e;refine bE λA s K O Q E _ _ _ _ c G h=>?_;subst c;exact call_int_bool<|h _ _ _ (.refl _) fC
theorem Ct (D U):aj w X W n (kq D U) (O0 D) fi (call (.type "tuple") U):=by
 refine nW λp v=>?_;rcases p<;>first|exact bf|skip
 refine bE λA s K O Q E _ _ _ _ c G h=>?_;obtain⟨a,o,n,B,rfl,C,P,g,r⟩:=c;exact call_tuple_same ⟨o,G _ _ C,P,n,g⟩<|h _ _ s.toks (.refl _) ⟨a,o,n,B,rfl,C,P,g,r⟩
theorem FL (D U):aj w X W n (kq D U) (QE D) fi (call (.type "list") U):=by
 refine nW λp v=>?_;rcases p<;>first|exact bf|skip
 ·exact cU λd=>KD (.inr rfl) (λK O v ⟨a,o,n,B,q,C,P,g,z⟩=>⟨a,o,n,B,q,C,P,g,z⟩) d
 ·exact cU λd=>KD (.inl rfl) (λK O v ⟨a,o,n,B,q,C,P,g,z⟩=>⟨a,o,n,B,q,C,P.1,g,z⟩) d
end
end
section
open Builtin
namespace MB
theorem wc:Wr "bytes" "find" "bytes.find":=
 .of (owner:="bytes") (n:="find") (by(refine ah (l9 ..)<|iQ▸?_);kernel_rfl) (by decide+kernel) (by decide+kernel) (by decide+kernel)
  (by first|exact .inl (by decide+kernel)|exact .inr<|by decide+kernel) (by refine ah (nG ..) ?_;kernel_rfl)
theorem LD:sU (.builtin "bytes.find")=pure (.type "method_descriptor"):=by show wS _=_;refine lV▸?_;kernel_rfl
theorem zN:A3 table "bytes.find"=ac mi.«bytes.find»:=ln rfl
theorem Ju (a b):lW "bytes.find" ⟨[a,b],[]⟩:=by unfold lW;refine(ki (n:=['d','n','i','f']) (by kernel_rfl) jw)▸?_;kernel_rfl
theorem Jt (a b c):lW "bytes.find" ⟨[a,b,c],[]⟩:=by unfold lW;refine(ki (n:=['d','n','i','f']) (by kernel_rfl) jw)▸?_;kernel_rfl
theorem ug:Wr "bytes" "rfind" "bytes.rfind":=
 .of (owner:="bytes") (n:="rfind") (by(refine ah (l9 ..)<|iQ▸?_);kernel_rfl) (by decide+kernel) (by decide+kernel) (by decide+kernel)
  (by first|exact .inl (by decide+kernel)|exact .inr<|by decide+kernel) (by refine ah (nG ..) ?_;kernel_rfl)
theorem Hr:sU (.builtin "bytes.rfind")=pure (.type "method_descriptor"):=by show wS _=_;refine lV▸?_;kernel_rfl
theorem xt:A3 table "bytes.rfind"=ac mi.«bytes.rfind»:=ln rfl
theorem GQ (a b):lW "bytes.rfind" ⟨[a,b],[]⟩:=by unfold lW;refine(ki (n:=['d','n','i','f','r']) (by kernel_rfl) jw)▸?_;kernel_rfl
theorem GP (a b c d):lW "bytes.rfind" ⟨[a,b,c,d],[]⟩:=by unfold lW;refine(ki (n:=['d','n','i','f','r']) (by kernel_rfl) jw)▸?_;kernel_rfl
theorem wG:o5 (ac<|.int i v)=pure (ac i):=by
 unfold o5;have e:afY (.int i v) "__index__"=typeLookup (.type "int") "__index__":=rfl;dsimp only
 (refine e▸F.slot_int_index.lookup▸?_)
 rfl
theorem afy:o5 am=pure none:=rfl
noncomputable def w2 (b p:Array UInt8) (st g:Option Int):Option (Nat×Nat):=if(wZ b.size st g).2-(wZ b.size st g).1<p.size then am else ac ((wZ b.size st g).1.toNat,(wZ b.size st g).2.toNat)
theorem Kh (name):hJ .bytes name ⟨[.bytes b t,.bytes p u],[]⟩=pure (b,p,w2 b p am am):=by unfold hJ;show(uQ _ (.bytes p u)>>=λr=>_)=_;refine vV▸?_;rfl
theorem TO (name):hJ .bytes name ⟨[.bytes b t,.bytes p u,.int i v],[]⟩=pure (b,p,w2 b p (ac i) am):=by unfold hJ;show(o5 (ac<|.int i v)>>=λr=>_)=_;refine wG▸?_;show(uQ _ (.bytes p u)>>=λr=>_)=_;refine vV▸?_;rfl
theorem TN (name):hJ .bytes name ⟨[.bytes b t,.bytes p u,.int i v,.int j x],[]⟩=pure (b,p,w2 b p (ac i)<|ac j):=by unfold hJ;show(o5 (ac<|.int i v)>>=λr=>_)=_;refine wG▸?_;show(o5 (ac<|.int j x)>>=λr=>_)=_;refine(af wG)▸?_;show(uQ _ (.bytes p u)>>=λr=>_)=_;refine vV▸?_;rfl
noncomputable def found (right:Bool) (b p:Array UInt8) (st g:Option Int):Int:=
 match (w2 b p st g).bind λ(lo,D)=>if right then aba b p lo D else abH b p lo D with
 |some i=>i
 |none=>-1
theorem vt (name right) (D:Args) (st g) (h:hJ .bytes name D=pure (b,p,w2 b p st g)):
 Gives (Bytes.searchM .bytes name right ai D) (.int<|found right b p st g):=by
 refine .of_wp λM A E s Q L=>?_;show aD M A (hJ .bytes name D>>=λr=>_) _ E s;refine V1 h ?_;unfold found at L;dsimp only;generalize ((w2 b p st g).bind λ(lo,Z)=>if right then aba b p lo Z else abH b p lo Z)=o at L
 induction o with
 |some k=>exact ak<|Eo<|av ⟨_,rfl,L⟩
 |none=>
  refine ak<|mH ?_
  exact ak<|Eo<|av ⟨_,rfl,L⟩
end MB
end
open MB renaming found->kU
section
open Builtin
namespace MB
theorem Bo:Wr "bytes" "join" "bytes.join":=
 .of (owner:="bytes") (n:="join") (by(refine ah (l9 ..)<|iQ▸?_);kernel_rfl) (by decide+kernel) (by decide+kernel) (by decide+kernel)
  (by first|exact .inl (by decide+kernel)|exact .inr<|by decide+kernel) (by refine ah (nG ..) ?_;kernel_rfl)
theorem LC:sU (.builtin "bytes.join")=pure (.type "method_descriptor"):=by show wS _=_;refine lV▸?_;kernel_rfl
theorem I3:A3 table "bytes.join"=ac mi.«bytes.join»:=ln rfl
theorem NR (a b):lW "bytes.join" ⟨[a,b],[]⟩:=by unfold lW;refine(ki (n:=['n','i','o','j']) (by kernel_rfl) jw)▸?_;kernel_rfl
theorem yU:Wr "bytes" "rjust" "bytes.rjust":=
 .of (owner:="bytes") (n:="rjust") (by(refine ah (l9 ..)<|iQ▸?_);kernel_rfl) (by decide+kernel) (by decide+kernel) (by decide+kernel)
  (by first|exact .inl (by decide+kernel)|exact .inr<|by decide+kernel) (by refine ah (nG ..) ?_;kernel_rfl)
theorem Hq:sU (.builtin "bytes.rjust")=pure (.type "method_descriptor"):=by show wS _=_;refine lV▸?_;kernel_rfl
theorem Gm:A3 table "bytes.rjust"=ac mi.«bytes.rjust»:=ln rfl
theorem Jr (a b c):lW "bytes.rjust" ⟨[a,b,c],[]⟩:=by unfold lW;refine(ki (n:=['t','s','u','j','r']) (by kernel_rfl) jw)▸?_;kernel_rfl
theorem yV:Wr "bytes" "lower" "bytes.lower":=
 .of (owner:="bytes") (n:="lower") (by(refine ah (l9 ..)<|iQ▸?_);kernel_rfl) (by decide+kernel) (by decide+kernel) (by decide+kernel)
  (by first|exact .inl (by decide+kernel)|exact .inr<|by decide+kernel) (by refine ah (nG ..) ?_;kernel_rfl)
theorem Hs:sU (.builtin "bytes.lower")=pure (.type "method_descriptor"):=by show wS _=_;refine lV▸?_;kernel_rfl
theorem Gn:A3 table "bytes.lower"=ac mi.«bytes.lower»:=ln rfl
theorem Js (a):lW "bytes.lower" ⟨[a],[]⟩:=by unfold lW;refine(ki (n:=['r','e','w','o','l']) (by kernel_rfl) jw)▸?_;kernel_rfl
theorem F9:Gives («bytes.lower» ⟨[.bytes b t],[]⟩) (.bytes<|ag<|b.toList.map X4):=by
 refine .of_wp λM A E s Q L=>?_;unfold «bytes.lower» Bytes.mappedM;refine ak<|la rfl ?_
 refine ak<|la rfl ?_
 exact ak<|sT (av ⟨_,rfl,L.2⟩) L.1
theorem Ny (Y:rX i=aq) {id:String}:WC id (.int i v)=pure i:=by show(if(!rX i)=aq then _ else pure i)=_;refine(af Y)▸?_;rfl
theorem F8 {c:UInt8} (Y:rX i=aq) (D:i<=16777216):
 Gives («bytes.rjust» ⟨[.bytes b t,.int i v,.bytes #[c] u],[]⟩) (if i<=b.size then .val (.bytes b t) else .bytes (jD (i.toNat-b.size) c++b)):=by
 refine .of_wp λM A E s Q L=>?_;show aD M A (WC _ (.int i v)>>=λr=>_) _ E s;refine ak<|la (Ny Y) ?_
 show aD M A (Bytes.payload (.bytes b t)>>=λr=>_) _ E s;refine ak<|la rfl ?_
 show aD M A (if i<=b.size then _ else _) _ E s;by_cases h:i<=b.size
 ·rw[if_pos h] at L|-
  refine ak<|mH ?_
  refine ak<|ak<|SH (dM s b t) ?_
  exact av<|av ⟨_,rfl,L⟩
 ·rw[if_neg h] at L|-
  have U:=A8<|JV.mpr D
  show aD M A (if X3 i.toNat=aq then _ else _) _ E s
  (refine U▸kW (if_neg bq) ?_)
  have e:jD (i.toNat-b.size) c++b++jD (i.toNat-b.size-(i.toNat-b.size)) c=jD (i.toNat-b.size) c++b:=by simp
  show aD M A (mkBytes (jD (i.toNat-b.size) c++b++jD (i.toNat-b.size-(i.toNat-b.size)) c)>>=λr=>_) _ E s;refine(af e)▸?_;exact ak<|sT (av ⟨_,rfl,L.2⟩) L.1
theorem TD {id:String}:G1 id (.bytes b t) 0=pure (ac (b,am)):=by
 unfold G1 Bytes.takeBuffer?
 (refine(KBy.special_eq KBy.look_buffer)▸KBy.own_buffer▸?_)
 show((uQ id (.bytes b t)>>=λr=>_).attempt>>=λr=>_)=_;refine vV▸?_;rfl
noncomputable def sM (xs:List (List UInt8×GY)):List Value:=xs.map λx=>.bytes (ag x.1) x.2
theorem NM (xs i) (h:i<aa xs):(ag<|sM xs).getD i .none=.bytes xs[i].1.toArray xs[i].2:=by
 have f:i<aa (sM xs):=by simp[sM,h]
 simp[sM,h]
theorem Sp (xs:List (List UInt8×GY)) (j):(((xs.take j).map λx=>(JO (ag x.1) x.2,(am:Option Value))).any (·.1.onHeap))=false:=by rw[mf];intro x T;refine aI (b3.mp T) λy _ S=>?_;subst S;exact bq
theorem xf (h:Q () s):∀xs a,aD M A (letGo xs a) Q E s
 |[],_=>av h
 |_::r,a=>by rw[letGo];exact ak<|a9<|mW<|xf h r a
theorem ru (h:Q () s) (f):∀(l:List Value),aD M A (Bytes.joinLetGo (l.map λx=>(x,am)) f) Q E s
 |[]=>av h
 |_::l=>ak<|xf (ru h f l) _ _
noncomputable def Op (xs:List (List UInt8×GY)) (i:Nat):(Array (Array UInt8)×List (Value×Option Value)):=⟨ag<|(xs.take i).map λx=>ag x.1,(xs.take i).map λx=>(.bytes (ag x.1) x.2,am)⟩
theorem QN (xs i) (h:i<aa xs):Op xs (i+1)=((Op xs i).1.push xs[i].1.toArray,(Op xs i).2++[(.bytes xs[i].1.toArray xs[i].2,am)]):=by
 have e:xs.take (i+1)=xs.take i++[xs[i]]:=by(refine ah mc<|(aP h)▸?_);rfl
 unfold Op;refine e▸?_;simp only[b4,bv,rV,List.push_toArray]
theorem Uw (xs f)
 (Y:∀i,i<aa xs->∀(Q:ForInStep ((Array (Array UInt8)×List (Value×Option Value)))->bj->Prop) (E:Value->bj->Prop),Q (.yield<|Op xs<|i+1) s->aD M A (f i<|Op xs i) Q E s)
 (V:Q (Op xs<|aa xs) s) (n) (F:n=aa xs):aD M A (forIn [:n] (#[],[]) f) Q E s:=by
 subst F;refine kW (fM ..) ?_
 have R:∀k i,i+k=aa xs->aD M A (forIn (Lp i k) (Op xs i) f) Q E s:=by
  intro k
  induction k with
  |zero=>exactλi h=>av<|by exact(show i=aa xs from h)▸V
  |succ k o=>
   intro i h
   (refine rB▸kW (cC ..) ?_)
   exact ak<|Y i (h▸jt (mK k)) _ _ (o (i+1)<|ah (Nat.succ_add_eq_add_succ i k) h)
 have e:kB [:aa xs]=aa xs:=by simp[kB]
 refine(af e)▸?_;exact R (aa xs) 0<|fV _
theorem ite_no [Decidable c] {a b:jN Z} (h:¬c) (k:aD M A b Q E s):aD M A (if c then a else b) Q E s:=by exact kW (if_neg h)<|k
theorem Lv {v:Array Value} {f:Value->jN Z} (J:∀x,v=#[x]->aD M A (f x) Q E s) (k:v.size≠1->aD M A g Q E s):
 aD M A (match v with|#[x]=>f x|_=>g) Q E s:=by
 obtain⟨l⟩:=v
 cases l with
 |nil=>exact k nofun
 |cons a l=>cases l with
  |nil=>exact J a rfl
  |cons b l=>exact k nofun
theorem Iu (j:List UInt8) (t:GY) (a) (xs:List (List UInt8×GY)):Meets («bytes.join» ⟨[.bytes (ag j) t,.ref a],[]⟩)
 (λ_ R s=>s.heap.IsList a (ag<|sM xs)/\(rP (ag j)<|xs.map λx=>ag x.1).size<=16777216/\
  (xs.map λx=>ag x.1).toArray.foldl (· +·.size) (aa j*(aa xs-1))<=16777216/\
  ∀m k,R (.ok<|.ret<|.bytes (rP (ag j)<|xs.map λx=>ag x.1) m) {s with toks:=k}):=by
 refine .of_wp λZ w A R s b=>?_;refine vD b λC f r h=>?_;have u:=C.typeIs;refine gN (id C) λo V P S=>be S λn g=>?_;unfold «bytes.join» Bytes.joinM;refine V1 rfl ?_
 have l:∀(Q:Option (Array Value)->bj->Prop) (E:Value->bj->Prop),Q (ac<|ag<|sM xs) s->aD (Ox Z w) A.in1 (D7<|.ref a) Q E s:=λQ E L=>by
  unfold D7;refine ak<|uE V ?_
  refine g▸?_;exact av L
 have X:∀(Q:Value->bj->Prop) (E:Value->bj->Prop),Q (.ref a) s->aD (Ox Z w) A.in1 (Tg<|.ref a) Q E s:=λQ E L=>by unfold Tg;exact ak<|SH u<|JF rfl<|av L
 have p:(sM xs).toArray.size=aa xs:=by exact ah aS<|aC ..
 refine f6 X<|f6 l<|JF rfl ?_
 refine Lv (λy q=>?_) λq=>?_
 ·have T:=G9.mp (ah p.symm<|congrArg Array.size q);refine be T λx Y=>?_;have v:y=.bytes (ag x.1) x.2:=by rw[Y] at q;exact(An<|congrArg o6 q).1.symm
  have e:rP (ag j) (xs.map λx=>ag x.1)=ag x.1:=by rw[Y];simp[rP]
  refine f6 (λ_ _ h=>SH (by rw[v];exact dM s _ _) h)<|JF rfl<|f6 (λ_ _ h=>mH h)<|av ⟨_,rfl,?_⟩
  rw[v,<-e];exact h x.2 s.toks
 ·skip
  refine ak<|Uw xs _ (λi D Q E L=>?_) ?_ _ p
  ·refine f6 l<|ite_no (λF=>absurd ((Sp xs i).symm.trans F) bq) (ak<|a9 ?_)
   (refine(NM _ _ D)▸kW TD ?_)
   refine av<|f6 l ?_
   refine ite_no (λF=>absurd F<|by rw[bne_self_eq_false];exact bq)<|av ?_
   refine((QN _ _ D))▸?_;exact L
  ·refine V1 rfl<|(show(Op xs<|aa xs).1=(ag<|xs.map λx=>ag x.1) by unfold Op;rw[fF])▸?_
   have W:X3 (abK (λc d=>c+d.size) (j.toArray.size*((xs.map λx=>ag x.1).toArray.size-1))<|ag<|xs.map λx=>ag x.1)=false:=by refine A8 ?_;rw[show j.toArray.size*((xs.map λx=>ag x.1).toArray.size-1)=aa j*(aa xs-1) by rw[aS,aS,aC]];exact r
   refine ite_no (λF=>absurd (ah W.symm F) bq)<|ak<|sT (ak<|a9<|mW ?_)<|by rw[bh];exact f
   rw[show(Op xs<|aa xs).2=(sM xs).map λx=>(x,am) by unfold Op sM;rw[fF,gV];rfl];exact ak<|ru (av ⟨_,rfl,h _ _⟩) _ _
end MB
end
section
open Builtin Builtin._codecs
namespace MB
theorem Du (b) (a:Array Nat) (h:∀x∈a,b x=ai):a.findIdx? b=none:=by rw[Array.findIdx?_eq_none_iff];exact h
theorem Z4 (g) (a b:V) (z:m=n+1) (U:g 0 a=pure (.yield b)) (J:g 1 b=pure (.done b)):forIn [0:m] a g=(pure b:jN V):=by
 subst z;refine ah (fM ..) ?_;simp only[kB,JQ,SN,ag7]
 (refine rB▸ah (cC ..)<|U▸?_)
 induction n with
 |zero=>rfl
 |succ n=>
  show forIn (Lp (0+1)<|n+1) b g=_
  (refine rB▸ah (cC ..)<|J▸?_);rfl
theorem Z5 (g) (a:V) (z:m=0):forIn [0:m] a g=(pure a:jN V):=by subst z;refine ah (fM ..) ?_;rfl
set_option backward.match.sparseCases true in
noncomputable def W4 (cps:Array Nat) (b:Nat->Bool) (g:Array UInt8->Nat->Array UInt8) (U:jN PUnit) (E:Nat->(Nat×Array UInt8×V)->jN (ForInStep<|Nat×Array UInt8×V)) (_:Nat) (r:Nat×Array UInt8×V):
 jN (ForInStep<|Nat×Array UInt8×V):=
 let J:PUnit->jN (ForInStep<|Nat×Array UInt8×V):=λ_=>match cps[r.1]? with
  |some x=>if(!b x)=aq then pure (.yield (r.1+(((cps.extract r.1 cps.size).findIdx? b).getD (cps.extract r.1 cps.size).size),
   ((cps.extract r.1 cps.size).extract 0<|((cps.extract r.1 cps.size).findIdx? b).getD (cps.extract r.1 cps.size).size).foldl g r.2.1,r.2.2)) else E x r
  |_=>pure<|.done r
 if r.2.1.size>jb then U>>=J else J ()
theorem Qu (cps b g U E) (st:V)
 (h:∀x∈cps,b x=ai) (N:(cps.foldl g #[]).size<=jb):∃i,forIn [0:cps.size] (0,#[],st) (W4 cps b g U E)=pure (i,cps.foldl g #[],st):=by
 rcases Nat.eq_zero_or_pos cps.size with hn|hn
 ·obtain rfl:=Array.eq_empty_of_size_eq_zero hn;exact⟨0,Z5 _ _ rfl⟩
 ·have T:=Co hn;refine⟨0+cps.size,Z4 _ _ _ (Nat.succ_pred_eq_of_pos hn).symm ?_ ?_⟩
  ·unfold W4;dsimp only;refine ah (if_neg<|cW.mpr<|hX _)<|T▸?_
   refine ah (if_pos<|by refine(h _ (OL _))▸?_;rfl) ?_;rw[Ol,Du b cps h,Option.getD_none,Ol]
  ·refine ah (if_neg<|cW.mpr N) ?_;dsimp only
   (refine(fV ..)▸?_;rw[Array.getElem?_eq_none<|bT _])
theorem afA {r:jN u} (e:m=D) (i:D>>=k=r):m>>=k=r:=by exact e▸i
theorem Mu (id) (c:Oz) (a f) (s:an) (h:∀x∈s.cps,c.bad x=ai)
 (N:(s.cps.foldl (λS y=>S++ag (c.bytesOf y)) #[]).size<=jb):
 uG id c a f s=pure (s.cps.foldl (λS y=>S++ag (c.bytesOf y)) #[]):=by
 unfold uG;exact afA (Qu s.cps c.bad (λS y=>S++ag (c.bytesOf y)) _ _ ({}:SX) h N).choose_spec<|pure_bind _ _
theorem zG (f):∀(l:List Nat) (S:List UInt8),l.foldl (λS y=>S++ag (f y)) (ag S)=ag (S++l.flatMap f)
 |[],S=>by simp
 |x::l,S=>by
  (refine ah ot<|(af (Oc ..))▸ah (zG f l ..) ?_)
  simp
theorem xe (id) (c:Oz) (a) (f:Value) (s:List Nat) (h:∀x∈s,c.bad x=ai)
 (N:aa (s.flatMap c.bytesOf)<=16777216):uG id c a f ⟨ag s⟩=pure (ag<|s.flatMap c.bytesOf):=by
 have e:(abK (λS y=>S++ag (c.bytesOf y)) #[]<|ag s)=ag (s.flatMap c.bytesOf):=by refine ah (vU ..) ?_;have:=zG c.bytesOf s [];simpa using this
 refine ah (Mu id c a f ⟨ag s⟩ (by simpa using h)<|by rw[e,bh];simpa using N) ?_;exact congrArg pure e
noncomputable def tr (a:List Nat):Option TextCodec:=if a=[117,116,102,45,56] then ac utf8Codec else if a=[97,115,99,105,105] then ac asciiCodec else am
noncomputable def replaceW:List Nat:=[114,101,112,108,97,99,101]
theorem Vu (s a:List Nat) (t u:GY) (c:Oz) (P:tr a=ac c) (h:∀x∈s,c.bad x=ai) (N:aa (s.flatMap c.bytesOf)<=16777216):
 Gives («str.encode» ⟨[.str ⟨ag s⟩ t,.str ⟨ag a⟩ u],[]⟩) (.bytes<|ag<|s.flatMap c.bytesOf):=by
 have b:«str.encode» ⟨[.str ⟨ag s⟩ t,.str ⟨ag a⟩ u],[]⟩=(do ret (<-(do mkBytes (<-uG "str.encode" c am (.str ⟨ag s⟩ t) ⟨ag s⟩)))):=by
  unfold tr at P;split at P
  ·rename_i e;subst e;obtain rfl:=al P;first|rfl|kernel_rfl
  ·split at P
   ·rename_i e;subst e;obtain rfl:=al P;first|rfl|kernel_rfl
   ·exact aE P
 rw[b,xe _ c _ _ s h N];exact .of_wp λM A E s Q L=>ak<|ak<|av<|sT (av ⟨_,rfl,L.2⟩) L.1
theorem Vt (s a:List Nat) (t u v:GY) (c:Oz) (P:tr a=ac c) (h:∀x∈s,c.bad x=ai) (N:aa (s.flatMap c.bytesOf)<=16777216):
 Gives («str.encode» ⟨[.str ⟨ag s⟩ t,.str ⟨ag a⟩ u,.str ⟨ag replaceW⟩ v],[]⟩) (.bytes<|ag<|s.flatMap c.bytesOf):=by
 have b:«str.encode» ⟨[.str ⟨ag s⟩ t,.str ⟨ag a⟩ u,.str ⟨ag replaceW⟩ v],[]⟩=(do ret (<-(do mkBytes (<-uG "str.encode" c (ac ⟨ag replaceW⟩) (.str ⟨ag s⟩ t) ⟨ag s⟩)))):=by
  unfold tr at P;split at P
  ·rename_i e;subst e;obtain rfl:=al P;first|rfl|kernel_rfl
  ·split at P
   ·rename_i e;subst e;obtain rfl:=al P;first|rfl|kernel_rfl
   ·exact aE P
 rw[b,xe _ c _ _ s h N];exact .of_wp λM A E s Q L=>ak<|ak<|av<|sT (av ⟨_,rfl,L.2⟩) L.1
end MB
end
section
open Builtin Builtin._codecs
namespace MB
noncomputable def u8W:List Nat:=[117,116,102,45,56]
noncomputable def R1 (x:abI×Nat):Option (Nat×Nat):=by
 cases x.1
 case char c=>exact ac (c,x.2)
 all_goals exact am
theorem NG (h:R1 x=ac y):x=(.char y.1,y.2):=by
 cases x with|mk a n=>?_
 induction a with
 |char c=>exact congrArg (λy:Nat×Nat=>((.char y.1,y.2):abI×Nat))<|al h
 |bad=>exact aE h
noncomputable def DH (b:Array UInt8) (f:Nat->List Nat->Option (List Nat×Nat)) (p:Nat) (z:List Nat):Option (List Nat×Nat):=
 if b.size<=p then ac (z,p) else(R1<|aa9 b p).bind λx=>f x.2<|z++[x.1]
noncomputable def sG (b:Array UInt8) (n:Nat):Nat->List Nat->Option (List Nat×Nat):=x3 (λp z=>ac (z,p)) (λ_ f=>DH b f) n
theorem RT (b) (g:Nat->(Nat×Array Nat×SX)->jN (ForInStep<|Nat×Array Nat×SX)) (st:SX)
 (j:∀(i p:Nat) (z:List Nat),b.size<=p->aa z<=jb->g i (p,ag z,st)=pure (.done (p,ag z,st)))
 (C:∀(i p:Nat) (z:List Nat) (c a:Nat),¬b.size<=p->aa z<=jb->aa9 b p=(.char c,a)->g i (p,ag z,st)=pure (.yield (a,ag<|z++[c],st)))
 (f):∀i p z r,sG b f p z=ac r->aa z+f<=jb->forIn (Lp i f) (p,ag z,st) g=pure (r.2,ag r.1,st):=by
 induction f with
 |zero=>exactλi p z r h _=>congrArg (λr:List Nat×Nat=>(pure (r.2,ag r.1,st):jN (Nat×Array Nat×SX)))<|al h
 |succ f o=>
  intro i p z r h N
  (refine rB▸ah (cC ..) ?_)
  have d:=aN (co _ _) N;by_cases W:b.size<=p
  ·refine(j _ _ _ W d)▸?_;exact congrArg (λr:List Nat×Nat=>(pure (r.2,ag r.1,st):jN (Nat×Array Nat×SX)))<|al<|(if_pos W).symm.trans h
  ·refine aI (bind_some<|(if_neg W).symm.trans h) λx T R=>(C _ _ _ _ _ W d (NG T))▸?_;exact o (i+1) x.2 (z++[x.1]) r R<|by refine aJ▸?_;show aa z+1+f<=_;(refine(d9 ..)▸(gs 1 f)▸?_);exact N
theorem run_eq (id:String) (b r) (h:sG b b.size 0 []=ac r) (N:b.size<=jb):
 runDecoder id Wh am aq b 0 []=pure (ag r.1,r.2):=by
 unfold runDecoder;dsimp only;rw[fM];simp only[kB,JQ,SN,ag7];have U:(#[]:Array Nat)=ag ([]:List Nat):=rfl;refine U▸?_;refine ah (congrArg (· >>=_)<|RT b _ _ (λi p z W L=>?_) (λi p z c nx W L T=>?_) b.size 0 0 [] r h (by simpa using N)) ?_
 ·have C:¬(z.toArray.size>jb):=by simpa using L
  simp only[if_neg C,if_pos W,ge_iff_le]
 ·have C:¬(z.toArray.size>jb):=by simpa using L
  have Y:Wh.find aq b p=.char c nx:=by unfold Wh;dsimp only;rw[T]
  simp only[if_neg C,if_neg W,ge_iff_le,Y];simp[Found.char]
 ·rfl
theorem Nx:«bytes.decode» ⟨[.bytes (ag<|c::D) t,.str ⟨ag u8W⟩ u],[]⟩=(mkStr (bb "utf-8")>>=λ_=>mkStr (bb "utf-8")>>=λe=>mkStr (bb "bytes.decode")>>=λd=>
 call (.builtin "_codecs.decode.text") [.bytes (ag<|c::D) t,e,.none,d]>>=λv=>ret v):=by kernel_rfl
theorem NS (a b):lW "bytes.decode" ⟨[a,b],[]⟩:=by unfold lW;refine(ki (n:=['e','d','o','c','e','d']) (by kernel_rfl) jw)▸?_;kernel_rfl
theorem Mx (g:∀id,_codecs.runDecoder id _codecs.utf8Decoder am aq (ag<|c::D) 0 []=pure (x.cps,n)):
 Meets («bytes.decode» ⟨[.bytes (ag<|c::D) t,.str ⟨ag u8W⟩ u],[]⟩) (λ_ R s=>x.length<=jb/\∀m k,R (.ok<|.ret<|.str x m) {s with toks:=k}):=by
 refine .of_wp λZ w A R s b=>?_;refine bD b λf h=>?_;refine kW Nx<|ak<|Wg ?_ (by decide)
 refine ak<|Wg ?_ (by decide)
 refine ak<|Wg ?_ (by decide)
 exact ak<|call_function_meets KBd.kind_text KBd.plain_text KBd.entry_text (KBd.args_text _ _ _ _) (KBd.meets_text g) ⟨f,av ⟨_,rfl,h _ _⟩⟩
end MB
end
section
open Builtin
section
variable {KF K:aO}
theorem Inv.Px (N:Inv KF K O H M h) (D:O[i]?=ac a) (d:fQ a h h')
 (e:h'.get? a=ac o) (P:S8 o) (g:o.data=.seq (ag U) n) (r:bV K O l U):Inv KF K O (H.set i l) M h':=by
 have I:=br D;refine aI (N.Qv I) λ_ _ c=>⟨N.par,N.stat,λb x k=>?_,N.kf,⟨by simp[N.kM.len],N.kM.nodup,λj b G F C=>?_⟩,⟨λZ Y=>?_⟩⟩
 ·refine ah (d.2 b<|by rintro rfl;rw[c] at k;exact aE k) ?_;exact N.sub b x k
 ·by_cases q:i=j
  ·subst q;rw[D] at F;obtain rfl:=al F;have t:=N.kM.len▸(aB.mp D).1;rw[cJ t] at C;obtain rfl:=al C;exact⟨c,o,n,U,e,P,g,r⟩
  ·rw[dQ q] at C
   have X:b≠a:=by rintro rfl;have J:=aB.mp D;exact q<|(xI J.1 N.kM.nodup).mp<|by(refine ah D ?_;rw[F])
   obtain⟨k,B,w,E,R,s,u,W⟩:=N.kM.at_ j b G F C;exact⟨k,B,w,E,by exact ah (d.2 b X)<|R,s,u,W⟩
 ·obtain⟨k,L,B,f,v,m,R,fo,fr⟩:=N.stk.all Z Y;exact⟨k,L,B,f,v,m,by refine ah (d.2 L<|by rintro rfl;exact m I) ?_;exact R,fo,fr⟩
theorem CD (I:a∈O) (d:fQ a h h') (U:∃B,h'.get? a=ac B):Step W K O h K O h':=
 ⟨rfl,λ_ _ e=>e,λ_ _ e=>.inl e,⟨[],by simp,by simp⟩,λb o e=>by
     by_cases q:b=a
     ·subst q;exact U
     ·exact⟨o,by exact ah (d.2 b q)<|e⟩,
  λb o e z _=>⟨o.slots,by exact ah (d.2 b λq=>z<|q▸I)<|e,.inl rfl⟩,λ_ q=>.inl q⟩
theorem Kr (P:S8 o) (g:o.data=.seq U n):o={cls:=.type "list",dict:=am,data:=.seq U n,slots:=#[]}:=by obtain⟨c,d,I,p⟩:=o;refine i8 P λJ R y=>?_;simp only at J R y g;subst J R y g;rfl
end
abbrev MN:=(PV->Option String)×(PV->List PV->IM PV)
noncomputable def xc (p:PV):Option (Nat):=p.casesOn am (λ_=>am) (λ_=>am) (λ_=>am) (λ_=>am) (λ_=>am) (λ_=>am) (λi=>ac i) (λ_=>am) (λ_=>am) (λ_=>am) (λ_ _=>am) (λ_ _=>am) (λ_ _=>am) am am
theorem za (h:xc p=ac i):p=.dR i:=vw (λp=>by rcases p<;>rfl) h
noncomputable abbrev C6 (O:MN):PV->Option String:=O.1
abbrev z6:List PV->Option (List<|List UInt8):=NU lE
abbrev EY:List PV->Option (List<|List Nat):=NU AL
theorem B3 {K:aO}:∀{I U},bV K O (I.map .bytes) U->∃xs:List (List UInt8×GY),U=MB.sM xs/\xs.map (·.1)=I
 |[],_,h=>⟨[],h,rfl⟩
 |b::I,U,h=>by refine cN h ?_;clear h;intro v r S V h;subst S;refine be V λt Z=>?_;subst Z;refine aI (B3 h) λxs S V=>?_;subst S;subst V;exact⟨(b,t)::xs,rfl,rfl⟩
theorem Jm {K:aO} (h:bV K O l U) (e:z6 l=ac bs):∃xs:List (List UInt8×GY),U=MB.sM xs/\xs.map (·.1)=bs:=by rw[yt (λ_ _=>qh) e] at h;exact B3 h
theorem EX {K:aO}:∀{I:List (List Nat)} {U},bV K O (I.map .str) U->∃xs:List (an×GY),U=strValues xs/\xs.map (·.1)=I.map λb=>⟨ag b⟩
 |[],_,h=>⟨[],h,rfl⟩
 |b::I,U,h=>by refine cN h ?_;clear h;intro v r S V h;subst S;refine be V λt Z=>?_;subst Z;refine aI (EX h) λxs S q=>?_;subst S;exact⟨(⟨ag b⟩,t)::xs,rfl,congrArg _ q⟩
theorem LU {K:aO} {l:List PV} (h:bV K O l U) (e:EY l=ac I):∃xs:List (an×GY),U=strValues xs/\xs.map (·.1)=I.map λb=>⟨ag b⟩:=by rw[yt (λ_ _=>pr) e] at h;exact EX h
def Xw (p:PV) (l:List PV):IM PV:=onBytes p λb=>if aa l=1 then Bt l λq=>onBytes q λp=>ay (.int<|kU ai (ag b) (ag p) am am)
 else WQ l λq r=>onBytes q λp=>cj r λi=>ay<|.int<|kU ai (ag b) (ag p) (ac i) am
def PG (p:PV) (l:List PV):IM PV:=onBytes p λb=>if aa l=1 then Bt l λq=>onBytes q λp=>ay (.int<|kU aq (ag b) (ag p) am am)
 else on3 l λq r s=>onBytes q λp=>cj r λi=>cj s λj=>ay<|.int<|kU aq (ag b) (ag p) (ac i)<|ac j
noncomputable def oG (j:List UInt8) (I:List (List UInt8)):List UInt8:=(rP (ag j)<|I.map λb=>ag b).toList
noncomputable def s9 (I:List (List Nat)):List an:=I.map λb=>⟨ag b⟩
noncomputable def QO (j:List Nat) (I:List (List Nat)):List Nat:=(Txt.join ⟨ag j⟩<|s9 I).cps.toList
noncomputable def yM (j:Nat) (I:List (List UInt8)):Nat:=(I.map λb=>ag b).toArray.foldl (· +·.size)<|j*(aa I-1)
def zw (p:PV) (l:List PV):IM PV:=match p with
 |.bytes j=>Bt l λq=>gX q λl=>bG (z6 l) λI=>if aa (oG j I)<=16777216/\yM (aa j) I<=16777216 then ay (.bytes<|oG j I) else aQ
 |.str j=>Bt l λq=>gX q λl=>bG (EY l) λI=>if JoinOk ⟨ag j⟩ (s9 I)=aq then ay (.str<|QO j I) else aQ
 |_=>aQ
def PF (p:PV) (l:List PV):IM PV:=onBytes p λb=>WQ l λq r=>cj q λi=>onBytes r λD=>if aa D=1/\0<=i/\i<=16777216/\aa b<=16777216 then ay (.bytes<|aX (i.toNat-aa b) (D.getD 0 0)++b) else aQ
def QB (p:PV) (l:List PV):IM PV:=onBytes p λb=>if aa l=0/\aa b<=16777216 then ay (.bytes<|b.map X4) else aQ
def vG (p:PV) (l:List PV):IM PV:=onBytes p λb=>Bt l λq=>onStr q λe=>if e=MB.u8W/\aa b<=16777216/\b≠[] then bG (MB.sG (ag b) b.toArray.size 0 []) λr=>if aa r.1<=16777216 then ay (.str r.1) else aQ else aQ
def Dz (p:PV) (l:List PV):IM PV:=onStr p λs=>if aa l=1 then Bt l λq=>onStr q λa=>bG (MB.tr a) λc=>if(∀x∈s,c.bad x=ai)/\aa (s.flatMap c.bytesOf)<=16777216 then ay (.bytes<|s.flatMap c.bytesOf) else aQ
 else WQ l λq r=>onStr q λa=>onStr r λe=>if e=MB.replaceW then bG (MB.tr a) λc=>if(∀x∈s,c.bad x=ai)/\aa (s.flatMap c.bytesOf)<=16777216 then ay (.bytes<|s.flatMap c.bytesOf) else aQ else aQ
def sd (p:PV) (k:Nat->IM α):IM α:=by
 cases p
 case dR i=>exact k i
 all_goals exact aQ
def DU (p:PV) (l:List PV):IM PV:=sd p λi=>Bt l λq=>λH=>match H[i]? with
 |some l=>if aa l<=16777216 then .ok .none (H.set i<|l++[q]) else .stuck
 |none=>.stuck
def acd (p:PV) (l:List PV):IM PV:=sd p λi=>if aa l=0 thenλH=>(match (H[i]?).bind λl=>l.getLast?.map λx=>(l,x) with
 |some (l,x)=>if aa l<=16777216 then .ok x (H.set i l.dropLast) else .stuck
 |none=>.stuck) else aQ
def Dl (p:PV) (l:List PV):IM PV:=Bt l λq=>cj q λk=>gX p λl=>bG (xk l) λj=>if k∈j/\nO (.list<|j.map .int)=aq then ay (.int (j.idxOf k:Nat)) else aQ
noncomputable abbrev W7 (O:MN):PV->List PV->IM PV:=O.2
def MN.find:MN:=(λp=>(lE p).map λ_=>"bytes.find",Xw)
def MN.rfind:MN:=(λp=>(lE p).map λ_=>"bytes.rfind",PG)
def MN.join:MN:=(λp=>if(lE p).isSome then ac "bytes.join" else(AL p).map λ_=>"str.join",zw)
def MN.rjust:MN:=(λp=>(lE p).map λ_=>"bytes.rjust",PF)
def MN.lower:MN:=(λp=>(lE p).map λ_=>"bytes.lower",QB)
def MN.decode:MN:=(λp=>(lE p).map λ_=>"bytes.decode",vG)
def MN.encode:MN:=(λp=>(AL p).map λ_=>"str.encode",Dz)
def MN.append:MN:=(λp=>(xc p).map λ_=>"list.append",DU)
def MN.pop:MN:=(λp=>(xc p).map λ_=>"list.pop",acd)
def MN.index:MN:=(λp=>if isL p then ac "list.index" else am,Dl)
def Qx:List (an×MN):=[("find",MN.find),("rfind",MN.rfind),("join",MN.join),("rjust",MN.rjust),("lower",MN.lower),("decode",MN.decode),("encode",MN.encode),("append",MN.append),("pop",MN.pop),("index",MN.index)]
theorem um {Z u:Type} [BEq Z] [LawfulBEq Z] (P:Z->u->Prop) (l:List (Z×u)) (C:kj (motive:=λ_=>Prop) True (λq _ R=>P q.1 q.2/\R) l) {x:Z} {b:u} (h:l.lookup x=ac b):P x b:=by
 induction l with
 |nil=>exact aE h
 |cons q l o=>
  rw[bt] at h
  cases e:x==q.1 with
  |true=>rw[e] at h;obtain rfl:=eq_of_beq e;obtain rfl:=al h;exact C.1
  |false=>rw[e] at h;exact o C.2 h
end
section
open Builtin
section
theorem aj.m1 (h:∀q u,aj w X W n (λK O _=>VR K O p v/\VR K O q u) (k q) fi<|call f [v,u]):aj w X W n (λK O _=>VR K O p v/\bV K O D U) (Bt D k) fi (call f<|v::U):=by
 intro A s K O H M I N c L
 cases D with
 |nil=>exact absurd rfl L
 |cons q r=>cases r with
  |cons _ _=>exact absurd rfl L
  |nil=>refine aI (Wa c.2) λu S T=>?_;subst S;exact h q u A s K O H M I N ⟨c.1,T⟩ L
theorem aj.m2 (h:∀q r u x,aj w X W n (λK O _=>VR K O p v/\VR K O q u/\VR K O r x) (k q r) fi<|call f [v,u,x]):aj w X W n (λK O _=>VR K O p v/\bV K O D U) (WQ D k) fi (call f<|v::U):=by
 intro A s K O H M I N c L
 cases D with
 |nil=>exact absurd rfl L
 |cons q r=>cases r with
  |nil=>exact absurd rfl L
  |cons r l=>cases l with
   |cons _ _=>exact absurd rfl L
   |nil=>refine iI (V9 c.2) λu x S T=>?_;subst S;exact h q r u x A s K O H M I N ⟨c.1,T⟩ L
theorem aj.m3 (h:∀q r l u x y,aj w X W n (λK O _=>VR K O p v/\VR K O q u/\VR K O r x/\VR K O l y) (k q r l) fi<|call f [v,u,x,y]):aj w X W n (λK O _=>VR K O p v/\bV K O D U) (on3 D k) fi (call f<|v::U):=by
 intro A s K O H M I N c L
 cases D with
 |nil=>exact absurd rfl L
 |cons q r=>cases r with
  |nil=>exact absurd rfl L
  |cons r l=>cases l with
   |nil=>exact absurd rfl L
   |cons l m=>cases m with
    |cons _ _=>exact absurd rfl L
    |nil=>refine sF (ajn c.2) λu x y S T=>?_;subst S;exact h q r l u x y A s K O H M I N ⟨c.1,T⟩ L
open aj renaming m1->vY,m2->X8
theorem aj.ifc [Decidable c] (h:aj w X W n C m R t) (f:aj w X W n C D R t):aj w X W n C (if c then m else D) R t:=by
 by_cases q:c
 ·exact(if_pos q)▸h
 ·exact(if_neg q)▸f
open aj renaming ifc->abg
theorem IZ (p D v U):aj w X W n (λK O _=>VR K O p v/\bV K O D U) (Xw p D) fi (call (.builtin "bytes.find")<|v::U):=by
 refine hK λb e=>abg (vY λq u=>hK λc R=>?_)<|X8 λq r u x=>hK λc R=>dm λi Y=>?_
 ·subst e R;refine bE λA s K O Q E _ _ _ _ c _ h=>?_;refine bD c λS Z=>be S λt V=>?_;subst V;refine be Z λm H=>?_;subst H;exact jr MB.wc (dM _ _ _) MB.zN (MB.Ju _ _) (MB.vt "find" ai _ _ _ (MB.Kh _))<|h _ _ _ (.refl _) fC
 ·subst e R Y;refine bE λA s K O Q E _ _ _ _ c _ h=>?_;refine i8 c λS Z G=>be S λt V=>?_;subst V;refine be Z λm H=>?_;subst H;refine be G λt2 k=>?_;subst k;exact jr MB.wc (dM _ _ _) MB.zN (MB.Jt _ _ _) (MB.vt "find" ai _ _ _ (MB.TO _))<|h _ _ _ (.refl _) fC
theorem Fb (p D v U):aj w X W n (λK O _=>VR K O p v/\bV K O D U) (PG p D) fi (call (.builtin "bytes.rfind")<|v::U):=by
 refine hK λb e=>abg (vY λq u=>hK λc R=>?_)<|aj.m3 λq r l u x y=>hK λc R=>dm λi Y=>dm λj T=>?_
 ·subst e R;refine bE λA s K O Q E _ _ _ _ c _ h=>?_;refine bD c λS Z=>be S λt V=>?_;subst V;refine be Z λm H=>?_;subst H;exact jr MB.ug (dM _ _ _) MB.xt (MB.GQ _ _) (MB.vt "rfind" aq _ _ _ (MB.Kh _))<|h _ _ _ (.refl _) fC
 ·subst e R Y T;refine bE λA s K O Q E _ _ _ _ c _ h=>?_;refine vD c λS Z G M=>be S λt V=>?_;subst V;refine be Z λm H=>?_;subst H;refine be G λt2 k=>?_;subst k;refine be M λt3 N=>?_;subst N;exact jr MB.ug (dM _ _ _) MB.xt (MB.GP _ _ _ _) (MB.vt "rfind" aq _ _ _ (MB.TN _))<|h _ _ _ (.refl _) fC
theorem FK (p D v U):aj w X W n (λK O _=>VR K O p v/\bV K O D U) (QB p D) fi (call (.builtin "bytes.lower")<|v::U):=by refine hK λb e=>cU λd=>?_;subst e;obtain rfl:=cy.mp d.1;refine bE λA s K O Q E _ _ _ _ c _ h=>?_;refine bD c λS c2=>be S λt V=>?_;subst V;subst c2;exact jr MB.yV (dM _ _ _) MB.Gn (MB.Js _) MB.F9 ⟨by refine bh▸?_;simpa using d.2,by simpa using h _ _ _ (.refl _) j0⟩
theorem IY (U:0<=i) (h:i<=16777216):rX i=true:=fG.mpr ⟨decide_eq_true (fW (by decide) U),decide_eq_true<|eJ h<|by decide⟩
theorem Fa (p D v U):aj w X W n (λK O _=>VR K O p v/\bV K O D U) (PF p D) fi (call (.builtin "bytes.rjust")<|v::U):=by
 refine hK λb e=>X8 λq r u x=>dm λi R=>hK λM T=>cU λd=>?_;subst e R T;refine vD d λP N Y B=>?_;refine be (G9.mp P) λc S=>?_;subst S;refine bE λA s K O Q E _ _ _ _ j _ h=>?_;refine i8 j λS Z G=>be S λt V=>?_;subst V;refine be Z λm H=>?_;subst H;refine be G λt2 k=>?_;subst k;refine jr MB.yU (dM _ _ _) MB.Gm (MB.Jr _ _ _) (MB.F8 (IY N Y) Y) ?_;have a:=Y;by_cases Y:i<=(b.toArray.size:Int)
 ·refine(if_pos Y)▸?_;have e:=Ln<|JV.mpr Y
  exact h _ _ s.toks (.refl _) (by exact(af e)▸j0)
 ·refine(if_neg Y)▸?_;have e:(jD (i.toNat-b.toArray.size) c++ag b)=ag (aX (i.toNat-aa b) c++b):=by simp
  refine e▸?_;exact⟨by(refine bh▸(af aS)▸aJ▸tz▸?_;refine(af<|bQ<|show aa b<=i.toNat from eV<|agf.mpr<|i6.mp Y)▸?_);exact JV.mpr a,h _ _ _ (.refl _) j0⟩
theorem DG (p D v U):aj w X W n (λK O _=>VR K O p v/\bV K O D U) (vG p D) fi (call (.builtin "bytes.decode")<|v::U):=by
 refine hK λb e=>vY λq u=>t8 λa R=>cU λY=>eR λr d=>cU λN=>?_;refine i8 Y λS C B=>?_;subst S;subst e R
 cases b with
 |nil=>exact absurd rfl B
 |cons x b=>
  refine bE λA s K O Q E _ _ _ _ c _ h=>?_;refine bD c λS Z=>be S λt V=>?_;subst V;refine be Z λm H=>?_;subst H
  exact Aj OI (dM _ _ _) FB.entry_bytes_decode (MB.NS _ _) (MB.Mx λid=>MB.run_eq id _ r d (by exact bh▸C))
   ⟨by exact bh▸N,λm k=>h _ _ _ (.refl _) DW⟩
theorem Dy (p D v U):aj w X W n (λK O _=>VR K O p v/\bV K O D U) (Dz p D) fi (call (.builtin "str.encode")<|v::U):=by
 refine t8 λs e=>abg (vY λq u=>t8 λa R=>eR λc P=>cU λN=>?_)<|X8 λq r u x=>t8 λa R=>t8 λL i=>cU λJ=>eR λc P=>cU λN=>?_
 ·subst e R;refine bE λA st K O Q E _ _ _ _ j _ h=>?_;refine bD j λS Z=>be S λt V=>?_;subst V;refine be Z λm H=>?_;subst H;exact jr F.slot_str_encode (JG _ _ _) F.entry_str_encode (F.args_str_encode_2 _ _) (MB.Vu s a t m c P N.1 N.2) ⟨by exact bh▸N.2,h _ _ _ (.refl _) j0⟩
 ·subst e R i J;refine bE λA st K O Q E _ _ _ _ j _ h=>?_;refine i8 j λS Z G=>be S λt V=>?_;subst V;refine be Z λm H=>?_;subst H;refine be G λt2 k=>?_;subst k;exact jr F.slot_str_encode (JG _ _ _) F.entry_str_encode (F.args_str_encode_3 _ _ _) (MB.Vt s a t m t2 c P N.1 N.2) ⟨by exact bh▸N.2,h _ _ _ (.refl _) j0⟩
theorem aj.sd (h:∀i,p=.dR i->aj w X W n C (k i) R t):aj w X W n C (sd p k) R t:=by rcases p<;>first|exact h _ rfl|exact bf
inductive MuL (K:aO) (μ:List bn) (i:Nat) (l:List PV) (v:Value) (h:eK):Prop
 |mk (a:bn) (k:Nat) (us:List Value) (e:v=.ref a) (hi:μ[i]?=ac a) (hl:IsL h a (ag us) k) (rs:bV K μ l us)
theorem W5 {K:aO} (N:Inv X K O H M h) (c:VR K O (.dR i) v) (e:H[i]?=ac l):MuL K O i l v h:=by refine aI c λa D S=>?_;subst S;obtain⟨_,o,k,B,R,P,g,z⟩:=N.kM.at_ i a l D e;obtain rfl:=Kr P g;exact⟨a,k,B,rfl,D,R,z⟩
theorem DT (p D v U):aj w X W n (λK O _=>VR K O p v/\bV K O D U) (DU p D) fi (call (.builtin "list.append")<|v::U):=by
 refine aj.sd λi e=>vY λq u=>?_;subst e;intro A s K O H M I N c L;refine bD c λc1 J=>?_;dsimp only at L|-
 cases e:H[i]? with
 |none=>rw[e] at L;exact absurd rfl L
 |some l=>
  rw[e] at L;by_cases d:aa l<=16777216
  case neg=>exact absurd (if_neg d) L
  obtain⟨a,k,B,rfl,Z,C,z⟩:=W5 N c1 e;have f:B.toArray.size<=sizeLine:=by(refine bh▸aS▸z.length▸?_);exact d
  have S:=C.update λx=>x.push u;have b:B.toArray.push u=ag (B++[u]):=by simp
  have P:=N.Px Z (ds s.heap a<|fU λx=>x.push u) S ⟨rfl,rfl,rfl⟩ (by rw[<-b])<|z.append<|b8 J eA
  exact Aj F.slot_list_append ⟨_,C,rfl⟩ F.entry_list_append (F.args_list_append_2 _ _) (list_append a (ag B) k u f) ⟨C,.none,_,K,O,if_pos d,CD (br Z) (ds s.heap a _) ⟨_,S⟩,P,rh,rfl,rfl⟩
theorem bV.dropLast {K:aO} (h:bV K O l U):bV K O l.dropLast U.dropLast:=by
 have W:=h.pick<|dg<|aa l-1
 have R:∀{Z:Type} (l:List Z) (m:Nat),m<=aa l->(dg m).filterMap (l[·]?)=l.take m:=λl m=>by
  induction m with
  |zero=>intro _;rfl
  |succ m o=>intro z;(refine lr▸ah nj<|(o<|yb z)▸mc▸?_);simp[aP z]
 rw[R l _ (sV _ _),R U _ (by exact h.length▸sV _ _)] at W
 (refine JU▸(af JU)▸(af h.length)▸?_)
 exact W
theorem Mj (p D v U):aj w X W n (λK O _=>VR K O p v/\bV K O D U) (acd p D) fi (call (.builtin "list.pop")<|v::U):=by
 refine aj.sd λi e=>cU λT=>?_;subst e;obtain rfl:=cy.mp T;intro A s K O H M I N c L;refine bD c λc1 c2=>?_;subst c2;dsimp only at L|-
 cases e:(H[i]?).bind λl=>l.getLast?.map λx=>(l,x) with
 |none=>rw[e] at L;exact absurd rfl L
 |some o=>
  obtain⟨l,x⟩:=o;rw[e] at L;refine aI (bind_some e) λG g Z=>aI (ba.mp Z) λR Z Y=>?_;cases Y;by_cases d:aa l<=16777216
  case neg=>exact absurd (if_neg d) L
  obtain⟨a,k,B,rfl,V,C,z⟩:=W5 N c1 g;have J:=z.length;have f:B.toArray.size<=sizeLine:=by(refine bh▸aS▸J▸?_);exact d
  have Y:l[aa l-1]?=ac x:=by refine ah (af Ef) ?_;exact Z
  refine aI (z.get Y) λy j m=>?_;have h:(ag B)[B.toArray.size-1]?=ac y:=by(refine aS▸ah gc ?_;refine J▸?_);exact j
  have S:=C.update λxs=>xs.eraseIdxIfInBounds<|B.toArray.size-1
  have b:B.toArray.eraseIdxIfInBounds (B.toArray.size-1)=ag B.dropLast:=by refine ah (List.eraseIdxIfInBounds_toArray ..) ?_;simp only[aS,List.eraseIdx_length_sub_one]
  have P:=N.Px V (ds s.heap a<|fU λxs=>xs.eraseIdxIfInBounds<|B.toArray.size-1) S ⟨rfl,rfl,rfl⟩ (by rw[<-b]) z.dropLast;exact Aj F.slot_list_pop ⟨_,C,rfl⟩ F.entry_list_pop (F.args_list_pop_1 _) (MeetsSeq.list_pop_last a (ag B) k y h f) ⟨C,x,_,K,O,if_pos d,CD (br V) (ds s.heap a _) ⟨_,S⟩,P,m,rfl,rfl⟩
theorem F0 (p D v U):aj w X W n (λK O _=>VR K O p v/\bV K O D U) (Dl p D) fi (call (.builtin "list.index")<|v::U):=by refine vY λq u=>dm λk e=>lw (AC λl=>eR λj i=>cU λd=>?_) λ_ _ _ c=>c.symm;subst e;refine bE λA s K O Q E _ _ _ _ c _ h=>?_;refine bD c λS Z=>be S λt V=>?_;subst V;refine cN Z λa B H C z=>?_;subst H;exact index_list_ints C (wt z i) d.2 d.1<|h _ _ _ (.refl _) fC
end
end
open aj renaming m1->vY
section
open Builtin
theorem zv (p D v U):(∀j,p=.bytes j->aj w X W n (λK O _=>VR K O p v/\bV K O D U) (zw p D) fi (call (.builtin "bytes.join")<|v::U))/\
 ∀j,p=.str j->aj w X W n (λK O _=>VR K O p v/\bV K O D U) (zw p D) fi (call (.builtin "str.join")<|v::U):=by
 constructor
 ·rintro j rfl;refine vY λq u=>AC λl=>eR λI i=>cU λd=>bE λA s K O Q E _ _ _ _ c _ k=>?_;refine bD c λS Z=>be S λt V=>?_;subst V;refine cN Z λa B H C z=>?_;subst H;refine aI (Jm z i) λxs S V=>?_;subst S;subst V;refine bD d λg e=>?_;have em:(xs.map (·.1)).map (λb=>ag b)=xs.map λx=>ag x.1:=by refine ah gV ?_;rfl
  unfold oG at g;unfold yM at e;rw[em] at g e;rw[aC] at e;exact Aj MB.Bo (dM _ _ _) MB.I3 (MB.NR _ _) (MB.Iu j t a xs) ⟨C,by simpa using g,e,λm Y=>k _ _ _ (.refl _) ⟨m,by unfold oG;rw[em]⟩⟩
 ·rintro j rfl;refine vY λq u=>AC λl=>eR λI i=>cU λd=>bE λA s K O Q E _ _ _ _ c _ k=>?_;refine bD c λS Z=>be S λt V=>?_;subst V;refine cN Z λa B H C z=>?_;subst H;refine aI (LU z i) λxs S T=>?_;subst S;exact PySem.SC.join C T d λm Y=>k _ _ _ (.refl _) ⟨m,rfl⟩
theorem FI {K:aO} (N:Inv X K O H M h) (x:VR K O (.dR i) v):∃a o,v=.ref a/\h.get? a=ac o/\S8 o:=by refine aI x λa I S=>?_;subst S;have t:=N.kM.len▸(aB.mp I).1;obtain⟨_,o,_,_,b,P,_⟩:=N.kM.at_ _ a _ I (aP t);exact⟨a,o,rfl,b,P⟩
theorem Uv {K:aO} (N:Inv X K O H M h) (x:VR K O (.lst l) v):∃a o,v=.ref a/\h.get? a=ac o/\S8 o:=by obtain⟨a,o,_,_,rfl,k,P,_⟩:=x;exact⟨a,o,rfl,N.sub _ _ k,P⟩
theorem NV {s:bj} (L:s.heap.get? a=ac o) (P:S8 o):s.TypeIs (.ref a) "list":=⟨o,L,P.1⟩
theorem noL {s:bj} (L:s.heap.get? a=ac o) (P:S8 o):∀b,ge a=.ref b->∃o,s.heap.get? b=ac o/\o.dict=none:=λb e=>by cases e;exact⟨o,L,P.2.1⟩
def rj (w:dG) (X:aO) (m:an) (f:PV->Option String):Prop:=∀{A:iN} {s:bj} {K:aO} {O:List bn} {H:Hp} {M:List mh} {p:PV} {v:Value} {i:String} {D:jN Bool} {Q:Value×List Value->bj->Prop} {E:Value->bj->Prop},
 Inv X K O H M s.heap->f p=ac i->VR K O p v->Q (.builtin i,[v]) s->aD (MM w) A (xC v m D) Q E s
def Ca (w:dG) (X:aO) (W:List bn) (n:Nat) (O:MN):Prop:=∀(p:PV) (D:List PV) (v:Value) (U:List Value) (i:String),O.1 p=ac i->aj w X W n (λK Z _=>VR K Z p v/\bV K Z D U) (O.2 p D) fi (call (.builtin i)<|v::U)
theorem mB (d:Wr "bytes" m i) (U:sU (.builtin i)=pure (.type "method_descriptor")):rj w X m λp=>(lE p).map λ_=>i:=λN e x h=>by refine aI (ba.mp e) λb B S=>?_;subst S;rw[qh B] at x;refine be x λt S=>?_;subst S;exact rT (dM _ _ _) FB.plainAttrs_bytes d U (λ_ e=>nomatch e) h
theorem mS (d:Wr "str" m i) (U:sU (.builtin i)=pure (.type "method_descriptor")):rj w X m λp=>(AL p).map λ_=>i:=λN e x h=>by refine aI (ba.mp e) λb B S=>?_;subst S;rw[pr B] at x;refine be x λt S=>?_;subst S;exact rT (JG _ _ _) F.plainAttrs_str d U (λ_ e=>nomatch e) h
theorem mL (L:s.heap.get? a=ac o) (P:S8 o) (u:v=.ref a) (d:Wr "list" m i) (U:sU (.builtin i)=pure (.type "method_descriptor")) (h:Q (.builtin i,[v]) s):aD (MM w) A (xC v m D) Q E s:=by subst u;exact rT (NV L P) F.plainAttrs_list d U (noL L P) h
theorem mM (d:Wr "list" m i) (U:sU (.builtin i)=pure (.type "method_descriptor")):rj w X m λp=>(xc p).map λ_=>i:=λN e x h=>by refine aI (ba.mp e) λb B S=>?_;subst S;rw[za B] at x;exact cN (FI N x) λa o u L P=>mL L P u d U h
theorem mJ:rj w X "join" MN.join.1:=λ{A s K O H M p v i D Q E} N e x h=>by
 by_cases q:(lE p).isSome=aq
 ·refine(mB MB.Bo MB.LC:rj w X "join" λp=>(lE p).map λ_=>"bytes.join") N ?_ x h;exact be (kP.mp q) λb B=>ah (congrArg (Option.map λ_=>"bytes.join") B)<|(if_pos q).symm.trans e
 ·exact mS F.slot_str_join F.type_str_join N ((if_neg q).symm.trans e) x h
theorem mI:rj w X "index" MN.index.1:=λ{A s K O H M p v i D Q E} N e x h=>by
 have C:=j7 λq=>aE<|(if_neg q).symm.trans e
 obtain rfl:=al<|(if_pos C).symm.trans e
 rcases p<;>first|exact absurd C bq|skip
 ·exact cN (Uv N x) λa o u L P=>mL L P u F.slot_list_index F.type_list_index h
 ·exact cN (FI N x) λa o u L P=>mL L P u F.slot_list_index F.type_list_index h
theorem mF {o:PV->Option Z} (h:∀(p:PV) (D:List PV) (v:Value) (U:List Value),aj w X W n (λK O _=>VR K O p v/\bV K O D U) (f p D) fi<|call (.builtin i)<|v::U):Ca w X W n (λp=>(o p).map λ_=>i,f):=λp D v U j e=>by refine aI (ba.mp e) λ_ _ e=>?_;subst e;exact h p D v U
theorem Qy:Ca w X W n MN.join:=λp D v U i e=>by
 by_cases q:(lE p).isSome=aq
 ·obtain rfl:=al ((if_pos q).symm.trans e);exact be (kP.mp q) λb B=>(zv p D v U).1 b<|qh B
 ·refine aI (ba.mp<|(if_neg q).symm.trans e) λb B e=>?_;subst e;exact(zv p D v U).2 b<|pr B
theorem Qz:Ca w X W n MN.index:=λp D v U i e=>by
 have C:=j7 λq=>aE<|(if_neg q).symm.trans e
 obtain rfl:=al<|(if_pos C).symm.trans e
 exact F0 _ _ _ _
theorem ac8 (h:Qx.lookup x=ac m):rj w X x m.1/\Ca w X W n m:=
 um (λs m=>rj w X s m.1/\Ca w X W n m) Qx (dn ⟨mB MB.wc MB.LD,mF IZ⟩<|dn ⟨mB MB.ug MB.Hr,mF Fb⟩<|dn ⟨mJ,Qy⟩<|dn ⟨mB MB.yU MB.Hq,mF Fa⟩<|dn ⟨mB MB.yV MB.Hs,mF FK⟩<|dn ⟨mB OI FB.type_bytes_decode,mF DG⟩<|dn ⟨mS F.slot_str_encode F.type_str_encode,mF Dy⟩<|dn ⟨mM F.slot_list_append F.type_list_append,mF DT⟩<|dn ⟨mM F.slot_list_pop F.type_list_pop,mF Mj⟩<|dn ⟨mI,Qz⟩ trivial) h
end
def Bz (O:MN) (p:PV) (m:IM (List PV)):IM PV:=match C6 O p with
 |some _=>ax m<|W7 O p
 |none=>aQ
theorem wl (l:fI W C) (V:rj w X x Y.1) (b:Ca w X W n Y) (u:(E.endLine==pos.line)=aq) {G:List (jN Value)} (J:aa G<30)
 (h:aj w X W n C m kq (gG<|G.map λt=>(ai,t))) (p) (v):
 aj w X W n (λK O g=>C K O g/\VR K O p v) (Bz Y p m) fi (uF o x E pos Z v (aa G) (G.map λt=>(ai,t)) []):=by
 unfold Bz
 cases e:C6 Y p with
 |none=>exact bf
 |some id=>
  intro A s K O H M I N c L
  have f:nB (aa G) (G.map λt=>(ai,t)) ([]:List (Option an×jN Value))=true:=by unfold nB;simp[J]
  have S:o8 aq o Z E pos=pure pos:=by unfold o8;simp[u]
  unfold uF;refine f▸?_;refine ak<|a9<|V N e c.2 ?_
  refine V1 S ?_
  have R:=sK (first:=[v]) (pos:=pos) (l.and<|cb p v) (.inl ⟨id,rfl⟩)
   (h.weak λ_ _ _ c=>c.1) λz U=>(b p z v U id e).weak λ_ _ _ c=>⟨c.1.2,c.2⟩
  exact R A s K O H M I N c L
set_option genCtorIdx false
inductive CE where
 |bad
 |const (p:PV)
 |loc (i:Nat)
 |bin (mu:Bool) (op:tG) (l r:CE)
 |neg (x:CE)
 |not (x:CE)
 |bool (ake:Bool) (xs:List CE)
 |fm (t a b:CE)
 |cmp (l:CE) (ops:List WB) (rs:List CE)
 |tup (es:List CE)
 |list (mu:Bool) (es:List CE)
 |sub (o i:CE)
 |slice (mu:Bool) (o lo hi st:CE)
 |aA (a:bn) (args:List CE)
 |bw (f:BF) (args:List CE)
 |gj (nm:MN) (o:CE) (args:List CE)
 |heap (o:CE)
 |xV (ks vs:List PV) (x d:CE)
 |comp (elt:CE) (iter:CE) (caps:List (Option Nat)) (tgt:List Nat) (one:Bool) (akG:List CE)
 |enum (x:CE)
inductive gm where
 |next
 |brk
 |cont
 |ret (p:PV)
open gm renaming next->EA
set_option genCtorIdx true
noncomputable def gm.ctorIdx (x:gm):Nat:=x.casesOn 0 1 2 λ_=>3
abbrev on:=bn->List PV->IM PV
noncomputable def Ib:List UInt8->List PV:=λb=>b.map λc=>.int c.toNat
noncomputable def eu (a b:Int):List PV:=(dg (b-a).toNat).map λ(i:Nat)=>.int<|a+(i:Int)
noncomputable def ev (p:PV):IM (List PV):=λH=>by
 cases p
 case Ki a b=>exact if -4611686018427387904<=a/\a<4611686018427387904/\-4611686018427387904<=b/\b<4611686018427387904 then .ok (eu a b) H else .stuck
 case lst l=>exact .ok l H
 case tup l=>exact .ok l H
 case bytes b=>exact .ok (Ib b) H
 all_goals exact .stuck
noncomputable def fR (V:bO):List Nat->List PV->bO
 |i::f,p::z=>fR (V.set i<|ac p) f z
 |_,_=>V
noncomputable def one:List Z->Option Z
 |[e]=>ac e
 |_=>am
theorem uk {Z:Type} {l:List Z} {x:Z} (h:one l=ac x):l=[x]:=by
 cases l with|nil=>exact aE h|cons a l=>?_
 induction l with
 |nil=>rw[<-al h]
 |cons f l=>exact aE h
noncomputable def two:List Z->Option (Z×Z)
 |[e,f]=>ac (e,f)
 |_=>am
theorem Ht {Z:Type} {l:List Z} {x:Z×Z} (h:two l=ac x):l=[x.1,x.2]:=by
 cases l with|nil=>exact aE h|cons a l=>?_
 cases l with|nil=>exact aE h|cons b l=>?_
 induction l with
 |nil=>rw[<-al h]
 |cons f l=>exact aE h
def f9 (V:bO) (R:List Nat) (a:Bool) (p:PV):Option bO:=
 if a then(one R).map λi=>V.set i (ac p) else(AK p).bind λz=>if aa z=aa R then ac (fR V R z) else am
noncomputable def rK (V:bO) (k:List (Option Nat)):bO:=k.map λc=>c.bind λi=>(V[i]?).join
def lS (I:WB) (a b:PV):IM Bool:=match I with
 |.Eq=>zL a b
 |.NotEq=>ax (zL a b) λx=>ay<|!x
 |.In=>Xj ai a b
 |.NotIn=>Xj aq a b
 |.Is=>bG (Fs b) λ_=>isM ai a
 |.IsNot=>bG (Fs b) λ_=>isM aq a
 |.Lt=>P4 .Lt a b
 |.LtE=>P4 .LtE a b
 |.Gt=>P4 .Gt a b
 |.GtE=>P4 .GtE a b
noncomputable def g4 (m:IM α):IM α:=λH=>match m H with
 |.ok a i=>.ok a i
 |_=>.stuck
def Q7 (p:PV):IM PV:=by
 cases p
 case uo=>exact ay .uo
 all_goals exact aQ
noncomputable def bytesOf (p:PV):Option (List UInt8):=lE p
noncomputable def uf (p:PV):Option an:=(AL p).map λc=>⟨ag c⟩
noncomputable def KY {K:Type} [DecidableEq K] (l:List K) (U:List PV) (b:K) (d:PV):PV:=((l.zip U).lookup b).getD d
noncomputable def zr {K:Type} [DecidableEq K] (l:List K) (U:List PV):Bool:=decide<|l.Nodup/\l≠[]/\aa l<=15/\aa l=aa U
noncomputable def Ja (r H:List PV):Bool:=(r.mapM bytesOf).elim ((r.mapM uf).elim ai λl=>zr l H) λl=>zr l H
def nN (j U:List PV) (x d:PV):IM PV:=by
 cases x
 case bytes b=>exact bG (j.mapM bytesOf) λl=>ay<|KY l U b d
 case str b=>exact bG (j.mapM uf) λl=>ay<|KY l U ⟨ag b⟩ d
 all_goals exact aQ
noncomputable def Ub (p:PV):Option (List PV):=by
 cases p
 case tup l=>exact ac l
 case lst l=>exact ac l
 all_goals exact am
def Gl (l:List PV):IM PV:=bG (one l) λp=>bG (Ub p) λ_=>ay p
noncomputable def jV:Nat->List PV->List PV
 |_,[]=>[]
 |i,p::l=>.tup [.int (i:Int),p]::jV (i+1) l
theorem nZ:jV i []=[]:=rfl
theorem mV:jV i (p::l)=.tup [.int (i:Int),p]::jV (i+1) l:=rfl
noncomputable def vB (p:PV):List PV:=by
 cases p
 case lst l=>exact jV 0 l
 case tup l=>exact jV 0 l
 all_goals exact[]
noncomputable def iJ (f:PV->IM (Option PV)):List PV->List PV->IM (List PV)
 |[],S=>ay S
 |p::z,S=>ax (f p) λr=>match r with
  |some q=>iJ f z<|S++[q]
  |none=>iJ f z S
theorem qY {f:PV->IM (Option PV)}:iJ f [] acc=ay acc:=rfl
theorem Gw {f:PV->IM (Option PV)}:iJ f (p::z) acc=ax (f p) λr=>match r with
 |some q=>iJ f z<|acc++[q]
 |none=>iJ f z acc:=rfl
mutual
noncomputable def bp (B:on):CE->bO->IM PV
 |.bad,_=>aQ
 |.const p,_=>ay p
 |.loc i,V=>IA V i
 |.bin F I l r,V=>ax (bp B l V) λa=>ax (bp B r V) λb=>C0 F I a b
 |.neg x,V=>ax (bp B x V) Zp
 |.not x,V=>ax (bp B x V) λp=>ax (gW p) λb=>ay<|.bool<|!b
 |.bool e xs,V=>I1 B e xs V
 |.fm t a b,V=>ax (j6 B t V<|bp B t V) λc=>if c then bp B a V else bp B b V
 |.cmp l W z,V=>ax (bp B l V) λa=>ax (py B a W z V) λb=>ay<|.bool b
 |.tup u,V=>ax (ol B u V) λl=>if aa l<=16777216 then ay (.tup l) else aQ
 |.list F u,V=>ax (ol B u V) λl=>if aa l<=16777216 then lL F l else aQ
 |.sub o i,V=>ax (bp B o V) λa=>ax (bp B i V) λb=>uW a b
 |.slice F o lo Z st,V=>ax (bp B o V) λa=>ax (bp B lo V) λl=>ax (bp B Z V) λh=>ax (bp B st V) λs=>mq F a l h s
 |.aA a D,V=>ax (ol B D V) λl=>B a l
 |.bw f D,V=>ax (ol B D V) f
 |.gj O o D,V=>ax (bp B o V) λp=>Bz O p<|ol B D V
 |.heap o,V=>ax (bp B o V) Q7
 |.xV j U x d,V=>ax (bp B x V) λp=>ax (bp B d V) λq=>nN j U p q
 |.comp A iter k R one m,V=>ax (rJ B iter V<|bp B iter V) λl=>
  if aa l<=16777216 then ax (iJ (λp=>match f9 (rK V k) R one p with
   |none=>aQ
   |some Q=>g4<|ax (xq B m Q) λg=>if g then ax (bp B A Q) λq=>ay (ac q) else ay am) l []) λr=>ay (.lst r) else aQ
 |.enum _,_=>aQ
noncomputable def j6 (B:on):CE->bO->IM PV->IM Bool
 |.not x,V,_=>ax (j6 B x V<|bp B x V) λb=>ay<|!b
 |.bool e xs,V,_=>pA B e xs V
 |.fm t a b,V,_=>ax (j6 B t V<|bp B t V) λc=>if c then j6 B a V (bp B a V) else j6 B b V (bp B b V)
 |.cmp l W z,V,_=>ax (bp B l V) λa=>py B a W z V
 |.bad,_,E=>ax E gW
 |.const ..,_,E=>ax E gW
 |.loc ..,_,E=>ax E gW
 |.bin ..,_,E=>ax E gW
 |.neg ..,_,E=>ax E gW
 |.tup ..,_,E=>ax E gW
 |.list ..,_,E=>ax E gW
 |.sub ..,_,E=>ax E gW
 |.slice ..,_,E=>ax E gW
 |.aA ..,_,E=>ax E gW
 |.bw ..,_,E=>ax E gW
 |.gj ..,_,E=>ax E gW
 |.heap ..,_,E=>ax E gW
 |.xV ..,_,E=>ax E gW
 |.comp ..,_,E=>ax E gW
 |.enum ..,_,E=>ax E gW
noncomputable def I1 (B:on) (e:Bool):List CE->bO->IM PV
 |[],_=>aQ
 |[x],V=>bp B x V
 |x::y::r,V=>ax (bp B x V) λp=>ax (gW p) λb=>if b=e then I1 B e (y::r) V else ay p
noncomputable def pA (B:on) (e:Bool):List CE->bO->IM Bool
 |[],_=>ay e
 |x::r,V=>ax (j6 B x V<|bp B x V) λb=>if b=e then pA B e r V else ay (!e)
noncomputable def py (B:on):PV->List WB->List CE->bO->IM Bool
 |a,I::W,r::z,V=>match W with
  |[]=>(match z with
   |[]=>ax (bp B r V) λb=>lS I a b
   |_::_=>aQ)
  |_::_=>ax (bp B r V) λb=>ax (lS I a b) λc=>if c then py B b W z V else ay ai
 |_,_,_,_=>aQ
noncomputable def ol (B:on):List CE->bO->IM (List PV)
 |[],_=>ay []
 |e::r,V=>ax (bp B e V) λa=>ax (ol B r V) λk=>ay<|a::k
noncomputable def xq (B:on):List CE->bO->IM Bool
 |[],_=>ay aq
 |e::r,V=>ax (j6 B e V<|bp B e V) λb=>if b then xq B r V else ay ai
noncomputable def rJ (B:on):CE->bO->IM PV->IM (List PV)
 |.enum x,V,_=>ax (bp B x V) λa=>ax (Gl [a]) λp=>ay<|vB p
 |.bad,_,E=>ax E ev
 |.const ..,_,E=>ax E ev
 |.loc ..,_,E=>ax E ev
 |.bin ..,_,E=>ax E ev
 |.neg ..,_,E=>ax E ev
 |.not ..,_,E=>ax E ev
 |.bool ..,_,E=>ax E ev
 |.fm ..,_,E=>ax E ev
 |.cmp ..,_,E=>ax E ev
 |.tup ..,_,E=>ax E ev
 |.list ..,_,E=>ax E ev
 |.sub ..,_,E=>ax E ev
 |.slice ..,_,E=>ax E ev
 |.aA ..,_,E=>ax E ev
 |.bw ..,_,E=>ax E ev
 |.gj ..,_,E=>ax E ev
 |.heap ..,_,E=>ax E ev
 |.xV ..,_,E=>ax E ev
 |.comp ..,_,E=>ax E ev
end
def yJ (m:Nat) (p:PV):IM (List PV):=bG (Ub p) λl=>if aa l=m then ay l else aQ
set_option genCtorIdx false
inductive CS where
 |bad
 |assign (i:Nat) (e:CE)
 |mZ (is:List Nat) (es:List CE)
 |unpack (is:List Nat) (e:CE)
 |aug (i:Nat) (op:tG) (e:CE)
 |setItem (o i v:CE)
 |expr (e:CE)
 |fm (t:CE) (a b:List CS)
 |while (t:CE) (body:List CS)
 |for (tgt:List Nat) (one:Bool) (it:CE) (body:List CS)
 |ret (e:CE)
 |raise (a:bn) (args:List CE)
 |brk
 |cont
set_option genCtorIdx true
def uC (k:bO->IM (gm×bO)) (r:gm×bO):IM (gm×bO):=match r.1 with
 |.next=>k r.2
 |.cont=>k r.2
 |.brk=>ay (.next,r.2)
 |.ret p=>ay (.ret p,r.2)
noncomputable def hO (d:bO->IM Bool) (body:bO->IM (gm×bO)):Nat->bO->IM (gm×bO)
 |0,_=>aQ
 |f+1,V=>ax (d V) λb=>if b then ax (body V) (uC<|hO d body f) else ay (.next,V)
noncomputable def iu (fh:bO->PV->Option bO) (body:bO->IM (gm×bO)):List PV->bO->IM (gm×bO)
 |[],V=>ay (.next,V)
 |p::z,V=>bG (fh V p) λQ=>ax (body Q)<|uC<|iu fh body z
def yX (p i v:PV):IM Unit:=sd p λj=>cj i λk H=>match H[j]? with
 |some l=>if 0<=k/\k<aa l/\aa l<=16777216 then .ok () (H.set j<|l.set k.toNat v) else .stuck
 |none=>.stuck
def aaC (I:tG) (p q:PV):IM PV:=cj p λa=>cj q λb=>by
 cases I
 case Add=>exact ay<|.int<|a+b
 case Sub=>exact ay<|.int<|a-b
 case FloorDiv=>exact if b=0\/1073741824<=b.natAbs then aQ else ay (.int<|rO a b)
 all_goals exact aQ
noncomputable def Ld:Nat:=200
mutual
noncomputable def KT (B E:on):CS->bO->IM (gm×bO)
 |.bad,_=>aQ
 |.assign i e,V=>ax (bp B e V) λp=>ay (.next,V.set i<|ac p)
 |.mZ f u,V=>ax (ol B u V) λl=>if aa l=aa f/\aa l<=16777216 then ay (.next,fR V f l) else aQ
 |.unpack f e,V=>ax (bp B e V) λp=>ax (yJ (aa f) p) λl=>ay (.next,fR V f l)
 |.aug i I e,V=>ax (IA V i) λa=>ax (bp B e V) λb=>ax (aaC I a b) λp=>ay (.next,V.set i<|ac p)
 |.setItem o i v,V=>ax (bp B v V) λx=>ax (bp B o V) λp=>ax (bp B i V) λk=>ax (yX p k x) λ_=>ay (.next,V)
 |.expr e,V=>ax (bp B e V) λ_=>ay (.next,V)
 |.fm t a b,V=>ax (j6 B t V<|bp B t V) λc=>if c then fY B E a V else fY B E b V
 |.while t body,V=>g4<|hO (λQ=>j6 B t Q<|bp B t Q) (λQ=>fY B E body Q) Ld V
 |.for R one j body,V=>ax (rJ B j V<|bp B j V) λl=>g4<|iu (λQ p=>f9 Q R one p) (λQ=>fY B E body Q) l V
 |.ret e,V=>ax (bp B e V) λp=>ay (.ret p,V)
 |.raise a D,V=>ax (ol B D V) λl=>ax (E a l) λp=>aeo p
 |.brk,V=>ay (.brk,V)
 |.cont,V=>ay (.cont,V)
noncomputable def fY (B E:on):List CS->bO->IM (gm×bO)
 |[],V=>ay (.next,V)
 |s::r,V=>ax (KT B E s V) λx=>match x.1 with
  |.next=>fY B E r x.2
  |f=>ay (f,x.2)
end
def kX (B E:on) (a:Nat) (body:List CS) (D:List PV):IM PV:=
 ax (fY B E body<|D.map ac++aX (a-aa D) am) λr=>match r.1 with
   |.ret p=>ay p
   |_=>ay .none
noncomputable def gd (b:Bool) (o:Option α):Option α:=if b=aq then o else am
theorem cL {Z:Type} {o:Option Z} {a:Z} (h:gd b o=ac a):b=aq/\o=ac a:=by
 induction b with
 |true=>exact⟨rfl,h⟩
 |false=>exact aE h
theorem pt (h:o.or p=ac a):o=ac a\/p=ac a:=by
 induction o with
 |none=>exact .inr h
 |some b=>exact .inl h
theorem og {Z:Type} [Decidable c] {F:c->Option Z} {P:Prop} {a:Z} (h:(if q:c then F q else am)=ac a) (g:∀q,F q=ac a->P):P:=by
 by_cases q:c
 ·rw[dif_pos q] at h;exact g q h
 ·rw[dif_neg q] at h;exact aE h
noncomputable def xv (e:bL):Option (an×oq):=if h:e.ctorIdx=23 then Og e h λx p=>ac (x,p) else am
noncomputable def RL (e:bL):Option (List bL×Nat×oq):=if h:e.ctorIdx=25 then JX e h λl k p=>ac (l,k,p) else am
noncomputable def BR (e:bL):Option (bL×List bL×List abC×oq):=if h:e.ctorIdx=16 then Oi e h λf a k p=>ac (f,a,k,p) else am
noncomputable def I8 (e:bL):Option (Const×Nat×oq):=if h:e.ctorIdx=19 then Bd e h λl k p=>ac (l,k,p) else am
noncomputable def aeD (e:bL):Option (bL×bL×oq):=if h:e.ctorIdx=21 then Ao e h λl k p=>ac (l,k,p) else am
noncomputable def RN (e:bL):Option (List (Option bL)×List bL×oq):=if h:e.ctorIdx=6 then Oh e h λl k p=>ac (l,k,p) else am
theorem vE {x:an×oq} (h:xv e=ac x):e=.Name x.1 x.2:=
 og h λc=>Og e c (λ_ _ _ q=>congrArg (λx=>yC x.1 x.2)<|al q) c
theorem yr {x:List bL×Nat×oq} (h:RL e=ac x):e=.Tuple x.1 x.2.1 x.2.2:=
 og h λc=>JX e c (λ_ _ _ _ q=>congrArg (λx=>Expr.Tuple x.1 x.2.1 x.2.2)<|al q) c
theorem zQ {x:bL×List bL×List abC×oq} (h:BR e=ac x):e=.Call x.1 x.2.1 x.2.2.1 x.2.2.2:=
 og h λc=>Oi e c (λ_ _ _ _ _ q=>congrArg (λx=>Expr.Call x.1 x.2.1 x.2.2.1 x.2.2.2)<|al q) c
theorem BQ {x:Const×Nat×oq} (h:I8 e=ac x):e=.Constant x.1 x.2.1 x.2.2:=
 og h λc=>Bd e c (λ_ _ _ _ q=>congrArg (λx=>aa7 x.1 x.2.1 x.2.2)<|al q) c
theorem Vx {x:bL×bL×oq} (h:aeD e=ac x):e=.Subscript x.1 x.2.1 x.2.2:=
 og h λc=>Ao e c (λ_ _ _ _ q=>congrArg (λx=>Expr.Subscript x.1 x.2.1 x.2.2)<|al q) c
theorem RM {x:List (Option bL)×List bL×oq} (h:RN e=ac x):e=.Dict x.1 x.2.1 x.2.2:=
 og h λc=>Oh e c (λ_ _ _ _ q=>congrArg (λx=>Expr.Dict x.1 x.2.1 x.2.2)<|al q) c
structure Cx where
 names:List (an×f8)
 glob:an->Option PV
 muts:List an
noncomputable def Cx.idx (Y:Cx) (x:an):Option Nat:=Y.names.findIdx? λn=>n.1==x
noncomputable def Cx.loc (Y:Cx) (x:an):Option Nat:=gd (Y.names.lookup x==ac .local||Y.names.lookup x==ac .cell||Y.names.lookup x==ac .free)<|Y.idx x
noncomputable def Cx.gl (Y:Cx) (x:an):Option PV:=gd (Y.names.lookup x==ac .globalImplicit)<|Y.glob x
noncomputable def wD (c:Const):Option PV:=by
 cases c
 case none=>exact ac .none
 case bool b=>exact ac<|.bool b
 case int i=>exact ac<|.int i
 case str s=>exact ac<|.str s.cps.toList
 case bytes b=>exact ac<|.bytes b
 all_goals exact am
noncomputable def Av (o:Option CE):CE:=o.getD .bad
noncomputable def tN (x:an):Bool:=!(x==("__debug__":an))
noncomputable def Qt (Y:Cx) (x:an):Option CE:=gd (tN x&&!(x==("__classdict__":an)))<|((Y.loc x).map .loc).or<|(Y.gl x).map .const
def Zq (s:an):Option MN:=Qx.lookup s
def Sf:List (String×BF):=[("len",eP),("max",xR),("min",C5),("abs",V8),("sum",LQ),("all",aaH),("chr",VL),("isinstance",QV)]
def WH:List (String×BF):=[("bytes",uz),("int",UV),("str",LV),("tuple",O0),("list",QE),("range",jT)]
def V2 (p:PV):Option BF:=((ach p).bind λs=>Sf.lookup s).or<|(pTy p).bind λs=>WH.lookup s
noncomputable def isStarred (e:bL):Bool:=e.ctorIdx==22
noncomputable def sm (c:CE):Bool:=by
 cases c
 case enum=>exact aq
 all_goals exact ai
noncomputable def Dj (e:bL):Bool:=((BR e).bind λc=>gd (c.2.1.isEmpty&&c.2.2.1.isEmpty)<|xv c.1).isSome
noncomputable def k5 (Y:Cx) (U:List (an×f8)):List (Option Nat):=U.map λn=>gd (n.2==.free)<|Y.loc n.1
noncomputable def lC (U:List (an×f8)) (x:an):Option Nat:=gd (U.lookup x==ac .local||U.lookup x==ac .cell)<|U.findIdx? λn=>n.1==x
noncomputable def qL (U:List (an×f8)) (e:bL):Option Nat:=(xv e).bind λx=>lC U x.1
noncomputable def O9 (U:List (an×f8)) (e:bL):Option (List Nat×Bool):=((qL U e).map λi=>([i],aq)).or<|(RL e).bind λx=>(x.1.mapM<|qL U).map λf=>(f,ai)
def XH (Y:Cx) (f:an) (D:List CE):Option CE:=gd (tN f)<|(Y.gl f).bind λp=>((P1 p).map λa=>.aA a D).or<|(V2 p).map λb=>.bw b D
noncomputable def Dh (e:bL):Bool:=(xv e).isSome
noncomputable def oN (e:bL):Option PV:=(I8 e).bind λx=>wD x.1
noncomputable def oO (o:Option bL):Option PV:=o.bind oN
def dgO (j:List (Option bL)) (U:List bL) (D:List CE):Option CE:=(j.mapM oO).bind λr=>(U.mapM oN).bind λH=>(two D).bind λx=>gd (Ja r H)<|ac<|.xV r H x.1 x.2
def W6 (o:bL) (O:an) (a:Bool) (c:CE) (D:List CE):Option CE:=
 gd a (((Zq O).bind λm=>gd (!Dj o)<|ac<|.gj m c D).or<|gd (O==("get":an))<|(RN o).bind λd=>dgO d.1 d.2.1 D)
noncomputable def So (D:List bL) (C:List abC):Bool:=!D.any isStarred&&C.isEmpty&&decide (aa D<=29)
noncomputable def jl (Y:Cx) (scope:rU):Bool:=
 scope.kind==.function&&decide ((scope.names.map (·.1)).Nodup)&&scope.names.all λn=>n.2 !=.cell&&(n.2 !=.free||Y.names.lookup n.1==ac .cell)
noncomputable def K3 (Y:Cx) (scope:rU) (A:CE) (g:Option (bL×CE×List CE)):Option CE:=
 g.bind λx=>gd (jl Y scope)<|(O9 scope.names x.1).map λt=>.comp A x.2.1 (k5 Y scope.names) t.1 t.2 x.2.2
noncomputable def unO (I:UnaryOp) (c:CE):Option CE:=by
 cases I
 case USub=>exact ac<|.neg c
 case Not=>exact ac<|.not c
 all_goals exact am
noncomputable def Pk (F:Bool) (o:CE) (s:Option (CE×CE×CE)) (i:CE):CE:=match s with
 |some x=>.slice F o x.1 x.2.1 x.2.2
 |none=>.sub o i
def XG (Y:Cx) (f:bL) (v:CE) (D:List CE) (G:oq):Option CE:=by
 cases f
 case Name x _=>exact XH Y x D
 case Attribute o O E=>exact W6 o O (E.endLine==G.line) v D
 all_goals exact am
mutual
noncomputable def bR (Y:Cx):Bool->bL->CE
 |_,.Constant c _ _=>Av<|(wD c).map .const
 |_,.Name x _=>Av<|Qt Y x
 |mu,.BinOp l I r _=>.bin mu I (bR Y ai l)<|bR Y ai r
 |_,.UnaryOp I x _=>Av<|unO I<|bR Y ai x
 |_,.BoolOp I U _=>.bool (I==.And)<|pN Y U
 |_,.IfExp t a b _=>.fm (bR Y ai t) (bR Y ai a)<|bR Y ai b
 |_,.Compare l W z _=>.cmp (bR Y ai l) W<|pN Y z
 |_,.Tuple u _ _=>Av<|gd (!u.any isStarred)<|ac<|.tup<|pN Y u
 |mu,.List u _=>Av<|gd (!u.any isStarred)<|ac<|.list mu<|pN Y u
 |mu,.Subscript v i _=>Pk mu (bR Y ai v) (J9 Y i)<|bR Y ai i
 |_,.Call f D C G=>Av<|gd (So D C)<|XG Y f (O7 Y f) (pN Y D) G
 |_,.Attribute o O _=>Av<|gd (O==("heap":an)&&Dh o)<|ac<|.heap<|bR Y ai o
 |_,.ListComp A M scope _=>Av<|K3 Y scope (bR ⟨scope.names,Y.glob,[]⟩ ai A)<|toG Y ⟨scope.names,Y.glob,[]⟩ M
 |_,.NamedExpr ..=>.bad
 |_,.Lambda ..=>.bad
 |_,.Dict ..=>.bad
 |_,.Set ..=>.bad
 |_,.SetComp ..=>.bad
 |_,.DictComp ..=>.bad
 |_,.GeneratorExp ..=>.bad
 |_,.Await ..=>.bad
 |_,.Yield ..=>.bad
 |_,.YieldFrom ..=>.bad
 |_,.FormattedValue ..=>.bad
 |_,.JoinedStr ..=>.bad
 |_,.Starred ..=>.bad
 |_,.Slice ..=>.bad
noncomputable def O7 (Y:Cx):bL->CE
 |.Attribute o _ _=>bR Y ai o
 |.BoolOp ..=>.bad
 |.NamedExpr ..=>.bad
 |.BinOp ..=>.bad
 |.UnaryOp ..=>.bad
 |.Lambda ..=>.bad
 |.IfExp ..=>.bad
 |.Dict ..=>.bad
 |.Set ..=>.bad
 |.ListComp ..=>.bad
 |.SetComp ..=>.bad
 |.DictComp ..=>.bad
 |.GeneratorExp ..=>.bad
 |.Await ..=>.bad
 |.Yield ..=>.bad
 |.YieldFrom ..=>.bad
 |.Compare ..=>.bad
 |.Call ..=>.bad
 |.FormattedValue ..=>.bad
 |.JoinedStr ..=>.bad
 |.Constant ..=>.bad
 |.Subscript ..=>.bad
 |.Starred ..=>.bad
 |.Name ..=>.bad
 |.List ..=>.bad
 |.Tuple ..=>.bad
 |.Slice ..=>.bad
noncomputable def J9 (Y:Cx):bL->Option (CE×CE×CE)
 |.Slice lo D st _=>ac (G5 Y lo,G5 Y D,G5 Y st)
 |.BoolOp ..=>am
 |.NamedExpr ..=>am
 |.BinOp ..=>am
 |.UnaryOp ..=>am
 |.Lambda ..=>am
 |.IfExp ..=>am
 |.Dict ..=>am
 |.Set ..=>am
 |.ListComp ..=>am
 |.SetComp ..=>am
 |.DictComp ..=>am
 |.GeneratorExp ..=>am
 |.Await ..=>am
 |.Yield ..=>am
 |.YieldFrom ..=>am
 |.Compare ..=>am
 |.Call ..=>am
 |.FormattedValue ..=>am
 |.JoinedStr ..=>am
 |.Constant ..=>am
 |.Attribute ..=>am
 |.Subscript ..=>am
 |.Starred ..=>am
 |.Name ..=>am
 |.List ..=>am
 |.Tuple ..=>am
noncomputable def toG (Y b:Cx):List Oj->Option (bL×CE×List CE)
 |[⟨R,iter,v,a⟩]=>gd (a==0&&iter.ctorIdx !=7&&!sm (bR Y ai iter))<|ac (R,bR Y ai iter,pN b v)
 |_=>am
noncomputable def G5 (Y:Cx):Option bL->CE
 |none=>.const .none
 |some e=>bR Y ai e
noncomputable def pN (Y:Cx):List bL->List CE
 |[]=>[]
 |e::r=>bR Y ai e::pN Y r
end
noncomputable def KI (Y:Cx) (e:bL):Bool:=(xv e).any λx=>Y.muts.contains x.1
noncomputable def Hv (Y:Cx):List bL->List bL->List CE
 |t::G,e::u=>bR Y (KI Y t) e::Hv Y G u
 |_,_=>[]
def Vp (Y:Cx) (e:bL):Option Expr:=(BR e).bind λc=>(xv c.1).bind λx=>gd (tN x.1&&c.2.2.1.isEmpty&&(Y.gl x.1).bind pTy==ac "enumerate")<|(one c.2.1).bind λa=>gd (!isStarred a)<|ac a
def YP (Y:Cx) (G:List bL) (f:List Nat) (v:bL):Option CS:=if v.ctorIdx=25 then
    (RL v).bind λy=>gd (!y.1.any isStarred&&(aa y.1)==(aa G)&&!(y.1.all (nH 8)&&!y.1.all (o9 8))&&decide f.Nodup)<|ac<|.mZ f<|Hv Y G y.1
 else ac (.unpack f<|bR Y ai v)
def afG (Y:Cx) (G:List bL) (v:bL):Option CS:=(one G).bind λt=>((qL Y.names t).map λi=>.assign i<|bR Y (KI Y t) v).or
 (((RL t).bind λx=>(x.1.mapM<|qL Y.names).bind λf=>YP Y x.1 f v).or<|(aeD t).bind λx=>gd (x.2.1.ctorIdx !=26)<|ac<|.setItem (bR Y ai x.1) (bR Y ai x.2.1)<|bR Y ai v)
def ad9 (Y:Cx) (R j:bL) (body:List CS):Option CS:=(O9 Y.names R).bind λx=>if x.2=aq then gd (j.ctorIdx !=7&&!sm (bR Y ai j)) (ac<|.for x.1 aq (bR Y ai j) body)
 else(Vp Y j).map λa=>.for x.1 ai (.enum<|bR Y ai a) body
def PN (Y:Cx) (o:Option bL):Option CS:=o.bind λe=>(BR e).bind λc=>(xv c.1).bind λx=>gd (So c.2.1 c.2.2.1&&tN x.1)<|(Y.gl x.1).bind λp=>(P1 p).map λa=>.raise a<|pN Y c.2.1
noncomputable def K0 (o:Option CS):CS:=o.getD .bad
mutual
noncomputable def YQ (Y:Cx):rL->CS
 |.Return e _=>K0<|e.map λe=>.ret<|bR Y (Y.muts.contains "return") e
 |.Assign G v _=>K0<|afG Y G v
 |.AugAssign t I v _=>K0<|(qL Y.names t).map λi=>.aug i I<|bR Y ai v
 |.Expr e _=>K0<|gd (e.ctorIdx !=8)<|ac<|.expr<|bR Y ai e
 |.If t a b _=>.fm (bR Y ai t) (mm Y a)<|mm Y b
 |.While t b o _=>K0<|gd o.isEmpty<|ac<|.while (bR Y ai t) (mm Y b)
 |.For R j b o _=>K0<|gd o.isEmpty<|ad9 Y R j<|mm Y b
 |.Break _=>.brk
 |.Continue _=>.cont
 |.Raise e f _=>K0<|gd f.isNone<|PN Y e
 |.FunctionDef ..=>.bad
 |.AsyncFunctionDef ..=>.bad
 |.ClassDef ..=>.bad
 |.Delete ..=>.bad
 |.TypeAlias ..=>.bad
 |.AnnAssign ..=>.bad
 |.AsyncFor ..=>.bad
 |.With ..=>.bad
 |.AsyncWith ..=>.bad
 |.Match ..=>.bad
 |.Try ..=>.bad
 |.TryStar ..=>.bad
 |.Assert ..=>.bad
 |.Import ..=>.bad
 |.ImportFrom ..=>.bad
 |.Global ..=>.bad
 |.Nonlocal ..=>.bad
 |.Pass ..=>.bad
noncomputable def mm (Y:Cx):List rL->List CS
 |[]=>[]
 |s::r=>YQ Y s::mm Y r
end
noncomputable def cV (s:String):PV:=.str (bb s).cps.toList
noncomputable def vz:List UInt8:=[48,49,50,51,52,53,54,55,56,57,97,98,99,100,101,102,103,104,105,106,107,108,109,110,111,112,113,114,115,116,117,118,119,120,121,122]
noncomputable abbrev gR (s:String) (a:bn):an×PV:=(bb s,.ref a)
noncomputable abbrev gB (s:String):an×PV:=(bb s,.blt s)
noncomputable abbrev gT (s:String):an×PV:=(bb s,.ty s)
noncomputable def ad4:List (an×PV):=[
 gR "_wall" 21,
 (("NOTHING":an),.tup [cV "nothing"]),
 (("TRUE":an),.tup [cV "bool",.bool aq]),
 (("FALSE":an),.tup [cV "bool",.bool ai]),
 gR "int_value" 84,
 gR "bool_value" 91,
 gR "text_value" 98,
 gR "error_kind" 105,
 gR "error_value" 112,
 gR "thrown" 119,
 gR "thrown_text" 126,
 gR "named" 138,
 gR "union_of" 145,
 gR "parts_of_kind" 152,
 gR "shown_name" 159,
 gR "binder_text" 164,
 gR "bound_text" 171,
 gR "written_kind" 176,
 gR "kind_text" 183,
 gR "kind_key" 190,
 (("MOST_CODE":an),.int 1114111),
 (("FIRST_BAD":an),.int 55296),
 (("LAST_BAD":an),.int 57343),
 (("LIMITS":an),.tup [.int 128,.int 2048,.int 65536,.int 1114112]),
 gR "is_bad" 198,
 gR "size_of_code" 205,
 gR "encoded" 212,
 gR "lead_of" 219,
 gR "is_following" 226,
 gR "whole_at" 233,
 gR "decoded" 240,
 gR "is_start" 247,
 gR "next_index" 254,
 gR "prev_index" 261,
 gR "starts_of" 268,
 gR "codes_of" 273,
 gR "length" 280,
 gR "is_valid" 285,
 gR "joined_codes" 290,
 (("MOST_BITS_values":an),.int 4000),
 (("MOST_OPEN":an),.int 100),
 gR "array_kind" 380,
 gR "plain_text" 387,
 gR "escaped" 642,
 gR "escaped_values" 394,
 gR "told_octets" 399,
 gR "sizes_text" 404,
 gR "pieces_of" 411,
 gR "listed" 418,
 gR "value_text" 425,
 gR "printed_text" 432,
 (("MOST_ITEMS":an),.int 20000),
 gR "many_of" 439,
 gR "check_sizes" 444,
 gR "made" 451,
 (("MOST_OCTETS":an),.int 200000),
 (("MOST_BITS_strings":an),.int 4000),
 (("FIGURES":an),.bytes vz),
 (("BLANKS":an),.tup [.int 9,.int 10,.int 11,.int 12,.int 13,.int 32]),
 (("SHORT_ESCAPES":an),.xT [10,9,13,0,92,36,34] [.bytes [92,110],.bytes [92,116],.bytes [92,114],.bytes [92,48],.bytes [92,92],.bytes [92,36],.bytes [92,34]]),
 gR "check_index" 460,
 gR "check_start" 467,
 gR "bounded" 474,
 gR "code_at" 481,
 gR "next_at" 488,
 gR "prev_at" 495,
 gR "last_start" 502,
 gR "sub" 509,
 gR "joined" 515,
 gR "repeated" 522,
 gR "reversed_signs" 529,
 gR "is_whole" 536,
 gR "find_first" 543,
 gR "find_last" 550,
 gR "split" 555,
 gR "replaced" 562,
 gR "compare" 569,
 gR "starts_with" 576,
 gR "ends_with" 583,
 gR "stripped" 590,
 gR "raised" 597,
 gR "lowered" 604,
 gR "with_codes" 609,
 gR "check_base" 616,
 gR "number_text" 623,
 gR "number_in" 628,
 gR "hex_octets" 635,
 gR "escaped_strings" 642,
 gR "written" 649,
 gR "written_sign" 656,
 gR "indices_of" 661,
 (("UNTOLD":an),.int 65533),
 (("MOST_PRINTED":an),.int 20000),
 (("INT":an),.tup [cV "name",cV "Int64",.tup []]),
 (("STRING":an),.tup [cV "name",cV "String",.tup []]),
 (("CHAR":an),.tup [cV "name",cV "Char",.tup []]),
 (("BOOL":an),.tup [cV "name",cV "Bool",.tup []]),
 (("SYMBOL":an),.tup [cV "name",cV "Symbol",.tup []]),
 (("ANY":an),.tup [cV "name",cV "Any",.tup []]),
 (("BOTTOM":an),.tup [cV "bottom"]),
 gR "part_in" 679,
 gR "whole_in" 686,
 gR "index_in" 693,
 gR "sign_value" 700,
 gR "octets_of_piece" 707,
 gR "row_value" 714,
 gR "deed_length" 721,
 gR "deed_size" 728,
 gR "deed_octet" 735,
 gR "deed_at" 742,
 gR "deed_next" 749,
 gR "deed_prev" 756,
 gR "deed_last" 763,
 gR "deed_is_start" 770,
 gR "deed_is_valid" 777,
 gR "deed_indices" 782,
 gR "deed_sub" 789,
 gR "deed_joined" 794,
 gR "deed_repeated" 801,
 gR "deed_reversed" 808,
 gR "deed_split" 813,
 gR "deed_replaced" 818,
 gR "deed_find" 825,
 gR "deed_find_last" 832,
 gR "deed_compare" 839,
 gR "deed_starts" 846,
 gR "deed_ends" 853,
 gR "deed_strip" 860,
 gR "deed_upper" 867,
 gR "deed_lower" 874,
 gR "deed_number_text" 881,
 gR "deed_number_in" 888,
 gR "deed_code" 895,
 gR "deed_sign" 902,
 gR "deed_raised_sign" 909,
 gR "deed_lowered_sign" 916,
 gR "deed_written" 923,
 gR "deed_symbol" 930,
 gR "deed_symbol_text" 937,
 gR "always" 944,
 gR "pure" 951,
 gR "sign_rows" 958,
 gR "search_rows" 965,
 gR "array_rows" 972,
 gR "text_rows" 979,
 gR "string_rows" 986,
 gR "_law_vat" 993,
 gR "_law_dip" 1000,
 gR "_law_octets" 1005,
 gR "_law_pieces" 1012,
 gR "_law_begins" 1017,
 gR "_law_code" 1024,
 gR "_law_int" 1031,
 gR "_law_index" 1038,
 gR "_law_worth" 1045,
 gR "_law_has_room" 1052,
 gR "_law_beyond" 1059,
 gR "_law_index_calls" 1064,
 gR "_law_sub" 1071,
 gR "_law_places" 1076,
 gR "_law_cut" 1083,
 gR "_law_search_calls" 1088,
 gR "_law_whole_calls" 1093,
 gR "_law_figures" 1100,
 gR "_law_number_calls" 1107,
 gR "_law_heard" 1114,
 gR "law" 1119,
 gB "len",
 gB "max",
 gB "min",
 gB "abs",
 gB "sum",
 gB "all",
 gB "chr",
 gB "isinstance",
 gT "bytes",
 gT "int",
 gT "str",
 gT "tuple",
 gT "list",
 gT "range",
 gT "enumerate"]
noncomputable def yn (x:an):Option PV:=ad4.lookup x
noncomputable def ahu (s:rL):Option (jE×List rL×rU):=if h:s.ctorIdx=0 then wT s h λ_ D body _ _ _ scope _ _ _=>ac (D,body,scope) else am
noncomputable def fnO (o:Option rL):jE×List rL×Scope:=(o.bind ahu).getD (⟨[],[],am,[],[],am,[]⟩,[],default)
noncomputable def bH (k:Nat):jE×List rL×Scope:=fnO (bS.main.body)[k]?
noncomputable def aan (k:Nat) (h:List an):Cx:=⟨(bH k).2.2.names,yn,h⟩
def DK (k:Nat) (h:List an):List CS:=mm (aan k h) (bH k).2.1
def JB (X:aO) (x:an) (p:PV):Prop:=∃v,VR X [] p v/\∃o u n,X 3=ac o/\o.data=.dict u n/\uI u/\
 (lf u x=ac v\/(lf u x=am/\∃B r w,X 0=ac B/\B.data=.dict r w/\uI r/\lf r x=ac v))
structure dk (KF:aO) (cx:Cx) (env:mh):Prop where
 nd:(cx.names.map (·.1)).Nodup
 gi:∀x,cx.names.lookup x=ac .globalImplicit->env.kindOf x=ac .globalImplicit
 lc:∀x,cx.names.lookup x=ac .local->env.kindOf x=ac .local
 ce:∀x,cx.names.lookup x=ac .cell->env.kindOf x=ac .cell
 fe:vN env
 gl:∀x p,cx.glob x=ac p->JB KF x p
noncomputable abbrev Cx.ns (Y:Cx):List an:=Y.names.map (·.1)
theorem QZ {Y:Cx} (h:Y.idx x=ac i):Y.ns[i]?=ac x:=by unfold Cx.idx at h;rw[l4] at h;refine aI h λD J _=>?_;simp only[beq_iff_eq] at J;simp[Cx.ns,D,J]
theorem QC {Y:Cx} (h:Y.loc x=ac i):Y.ns[i]?=ac x:=by exact QZ (cL h).2
theorem KN {Y:Cx} (h:Y.gl x=ac p):Y.names.lookup x=ac .globalImplicit/\Y.glob x=ac p:=⟨eq_of_beq (cL h).1,(cL h).2⟩
theorem se (h:tN x=aq):(x==("__debug__":an))=false:=j5 _▸h
theorem ia (h:(a&&b)=aq):a=aq/\b=true:=(bu _ _).mp h
theorem u8 (h:(!a)=aq):a=false:=by cases a with|true=>cases h|false=>rfl
theorem zD (k:vN Z) (G:Z.kindOf x=ac .globalImplicit) (T:JB X x p):
 aj w X W n C (ay p) fi (rm Z x):=by
 intro A s K O H M I N c _;refine aI T λv t S=>I7 S λo u m y b f R=>?_
 have h:VR K O p v:=by have:=Om (Q:=O) N.par N.stat p v t;simpa using this
 have a:s.heap.Ns Z.globals (lf u):=by exact k.glob▸⟨o,u,m,N.sub _ _ (N.stat _ _ y),b,f,λ_=>rfl⟩
 have F:∀Q E,Q v s->aD (MM w) A (rm Z x) Q E s:=λQ E V=>by
  refine kW (loadName_read k.kind G) ?_;rcases R with Y|⟨Y,B,r,D,U,d,l,e⟩
  ·exact Ey a Y V
  ·exact El a Y (by exact k.bi▸⟨B,r,D,N.sub _ _ (N.stat _ _ U),d,l,λ_=>rfl⟩) e V
 exact F _ _ ⟨p,H,K,O,rfl,iT ..,N,h,rfl,rfl⟩
theorem aj.Av (h:∀c,o=ac c->aj w X W n C (bp B c V) R t):aj w X W n C (bp B (Internal.Av o) V) R t:=by
 induction o with
 |none=>exact bf
 |some c=>exact h c rfl
theorem Gs (h:wD c=ac p):aj w X W n C (ay p) fi (constValue Z c):=by
 refine bE λA s K O Q E _ _ _ _ _ _ r=>?_
 induction c with
 |none=>obtain rfl:=al h;exact av<|r _ _ s.toks (.refl _) rh
 |bool b=>obtain rfl:=al h;exact av<|r _ _ s.toks (.refl _) tx
 |int i=>obtain rfl:=al h;exact Eo<|r _ _ _ (.refl _) fC
 |str x=>obtain rfl:=al h;exactλd q a=>r (.str x s.toks) s.heap (s.toks+1) (.refl _) qv
 |bytes b=>obtain rfl:=al h;exactλd q a=>r (.bytes _ s.toks) s.heap (s.toks+1) (.refl _) j0
 |_=>exact aE h
theorem Io (T:dk X Y Z) (B):
 aj w X W n (aT Z Y.ns V) (bp B (Internal.Av<|Qt Y x) V) fi (iC (.Name x G) Z):=by
 refine aj.Av λc P=>bD (cL P) λg P=>bD (ia g) λg I=>?_
 have J:iC (.Name x G) Z=(f7 G>>=λ_=>rm Z x):=by(refine ah (yz ..)<|(se g)▸?_);rfl
 refine J▸?_;rcases pt P with h|h
 ·refine aI (map_some h) λi D S=>?_;subst S;exact bA<|MC T.fe (QC D)<|u8 I
 ·refine aI (map_some h) λp U S=>?_;subst S;exact bA<|zD T.fe (T.gi x (KN U).1)<|T.gl x p (KN U).2
open aj renaming Av->Em
noncomputable abbrev oB:Program:=bS
section
variable {KF K:aO}
theorem Inv.but (N:Inv KF K O H M h) (g:K a=am) (z:a∉O) (G:∀b o,b≠a->h.get? b=ac o->h'.get? b=ac o) (Y:∀o,h.get? a=ac o->¬b5 o):Inv KF K O H M h':=
 ⟨N.par,N.stat,λb o e=>G b o (by rintro rfl;rw[g] at e;exact aE e)<|N.sub b o e,N.kf,
  ⟨N.kM.len,N.kM.nodup,λi b l D C=>by
   obtain⟨k,o,n,U,e,s,u,j⟩:=N.kM.at_ i b l D C
   exact⟨k,o,n,U,G b o (by rintro rfl;exact z<|br D) e,s,u,j⟩⟩,
  ⟨λZ J=>by
   obtain⟨k,L,o,f,v,m,e,fo,fr⟩:=N.stk.all Z J
   exact⟨k,L,o,f,v,m,G L o (by rintro rfl;exact Y o e fo) e,fo,fr⟩⟩⟩
theorem E0 (Z:a∈W) (G:∀b o,b≠a->h.get? b=ac o->h'.get? b=ac o) (U:∃B,h'.get? a=ac B):Step W K O h K O h':=
 ⟨rfl,λ_ _ e=>e,λ_ _ e=>.inl e,⟨[],by simp,by simp⟩,λb o e=>by
     by_cases q:b=a
     ·subst q;exact U
     ·exact⟨o,G b o q e⟩,
  λb o e _ F=>⟨o.slots,G b o (λq=>F<|q▸Z) e,.inl rfl⟩,λ_ q=>.inl q⟩
end
noncomputable def zb:List String:=["enumerate","zip","dict_itemiterator","dict_reverseitemiterator","odict_iterator","itertools.zip_longest","itertools.pairwise"]
theorem vb (P:o.cls=.type O) (h:O≠"frame"):¬b5 o:=λf=>by rw[f.1] at P;injection P with P;exact h P.symm
structure sP (w:dG) (I:bn) (fp:List bn) (m:Nat) (P:Nat->Value->Prop) (J:Nat->eK->Prop):Prop where
 walks:∀A:iN,A.handled=am->Walks oB w A I fp [I] m P J
 own:∀i h,J i h->∃o nm,h.get? I=ac o/\o.cls=.type nm/\zb.contains nm=ai/\nm≠"frame"
def jK (I:bn) (d:List bn) (P:Nat->Value->Prop) (J:Nat->eK->Prop) (L:List PV) (i:Nat):xz:=λK O h=>J i h/\K I=am/\I∉O/\(∀a∈d,a=I\/∃o,K a=ac o/\h.get? a=ac o/\a∉O/\¬b5 o)/\∀(j:Nat) (v:Value) (p:PV),L[j]?=ac p->P j v->VR K O p v
theorem jK.stable (Z:sP w I d (aa L) P J) (Q:I∉W) (b:∀a∈d,a∉W):
 fI W (jK I d P J L i):=by
 intro K O h V l f g st;refine DE g λF G z Y t=>?_;refine AV (Z.own i h F) λoI T u cI _ x=>?_;have S:=vb cI x;have c:=st.same u z Q S
 have r:∀a∈d,∀o,h.get? a=ac o->f.get? a=ac o:=λa X o e=>by
  rcases Y a X with rfl|⟨B,k,R,m,n⟩
  ·rw[u] at e;obtain rfl:=al e;exact c
  ·rw[R] at e;obtain rfl:=al e;exact st.same R m (b a X) n
 refine⟨(Z.walks {handled:=am} rfl).frame i h f F r,st.lH G u,st.lG z u,λa X=>?_,λj v p e q=>fD st<|t j v p e q⟩;rcases Y a X with rfl|⟨B,k,R,m,n⟩
 ·exact .inl rfl
 ·exact .inr ⟨B,st.kle _ _ k,st.same R m (b a X) n,st.lG m R,n⟩
open jK renaming stable->vZ
theorem wn {K:aO}
 (Z:sP w I d (aa L) P J) (r:A.handled=am) (N:Inv X K O H M s.heap) (c:jK I d P J L i K O s.heap) (D:i<=aa L)
 (C:∀(p:PV) (v:Value) (f:eK) (tk:Nat),L[i]?=ac p->Inv X K O H M f->Step [I] K O s.heap K O f->jK I d P J L (i+1) K O f->VR K O p v->Q (ac v) {s with heap:=f,toks:=tk})
 (j:∀(f:eK) (tk:Nat),i=aa L->Inv X K O H M f->(∀b o,b≠I->s.heap.get? b=ac o->f.get? b=ac o)->Q am {s with heap:=f,toks:=tk}):
 aD (MM w) A (pyNext<|.ref I) Q E s:=by
 refine DE c λF G z Y U=>?_;refine AV (Z.own i _ F) λoI T u cI _ x=>?_;have S:=vb cI x;have W:=Z.walks A r;have q:∀o,s.heap.get? I=ac o->¬b5 o:=λo e=>by rw[u] at e;obtain rfl:=al e;exact S
 by_cases t:i<aa L
 ·refine W.item i s Q E t F λv f tk y g h=>?_;have l:∀b o,b≠I->s.heap.get? b=ac o->f.get? b=ac o:=λb o B e=>h b o (by simpa using B) e;refine iI (Z.own (i+1) _ g) λo' _ R _=>?_;have V:=aP t;refine C L[i] v f tk V (N.but G z l q) (E0 (by simp) l ⟨o',R⟩) ⟨g,G,z,λa ha=>?_,U⟩<|U i v _ V y
  rcases Y a ha with rfl|⟨o,k,e,m,n⟩
  ·exact .inl rfl
  ·exact .inr ⟨o,k,l a o (by rintro rfl;rw[G] at k;exact aE k) e,m,n⟩
 ·have e:=cg D (cW.mp t);subst e;refine W.done s Q E F λf tk h=>?_;have l:∀b o,b≠I->s.heap.get? b=ac o->f.get? b=ac o:=λb o B e=>h b o (by simpa using B) e;exact j f tk rfl (N.but G z l q) l
theorem P6 (b) (i:Nat) (p) (h:(Ib b)[i]?=ac p):∃c,b[i]?=ac c/\p=.int c.toNat:=by unfold Ib at h;rw[bZ,ba] at h;refine aI h λc P S=>?_;subst S;exact⟨c,P,rfl⟩
theorem HX (a b) (i:Nat) (p) (h:(eu a b)[i]?=ac p):p=.int (a+i):=by unfold eu at h;rw[bZ,ba] at h;refine aI h λc P S=>?_;subst S;refine be (aB.mp P) λ_ e=>?_;simp only[List.getElem_range] at e;rw[<-e]
theorem vo {K:aO} (N:Inv X K O H M h) (D:J 0 (h.push o)) (Y:∀a∈d,a=h.objs.size\/∃o,K a=ac o) (t:∀(j:Nat) (v:Value) (p:PV),L[j]?=ac p->P j v->VR K O p v):jK h.objs.size d P J L 0 K O (h.push o):=
 ⟨D,N.cO<|bX h,N.dY<|bX h,λa I=>(Y a I).imp_right λz=>z.elim λo k=>⟨o,k,aR _ (N.sub _ _ k),N.zs k,N.kf _ _ k⟩,t⟩
def Cb (w:dG) (K:aO) (O:List bn) (s:bj) (Q:Value->bj->Prop) (L:List PV):Prop:=∀(d:List bn) (P:Nat->Value->Prop) (J:Nat->eK->Prop) (o:uO),sP w s.heap.objs.size d (aa L) P J->jK s.heap.objs.size d P J L 0 K O (s.heap.push o)->o.isFreed=ai->Q (.ref s.heap.objs.size) {s with heap:=s.heap.push o}
theorem FX {K:aO} (k:K a=ac o):∀b∈[I,a],b=I\/∃o,K b=ac o:=λb B=>(aM.mp B).imp_right λh=>⟨o,ah (congrArg K.f<|aV.mp h) k⟩
theorem FY {C:bn->Prop}:∀b∈[I],b=I\/C b:=λ_ B=>.inl<|aV.mp B
theorem Py {K:aO} (Y:bV K O z U) (j:Nat) (v:Value) (p:PV) (W:z[j]?=ac p) (y:(ag U)[j]?=ac v):VR K O p v:=by refine aI (Y.get W) λu T Z=>?_;simp only[gc] at y;rw[T] at y;obtain rfl:=al y;exact Z
theorem Ly (X:a≠I) (C:aa U=n):sP w I [I,a] n (λi v=>(ag U)[i]?=ac v) λi h=>h.IsListIter I a i/\h.IsList a (ag U):=
 ⟨λA r=>by simpa[C] using af5 r I a X (ag U),λi h F=>gN F.1 λo L P _=>⟨o,_,L,P,by exact rfl,by decide⟩⟩
theorem OR (X:a≠I) (C:aa U=n):sP w I [I,a] n (λi v=>(ag U)[i]?=ac v) λi h=>h.IsTupleIter I a i/\h.IsTuple a (ag U):=
 ⟨λA r=>by simpa[C] using Walks.tuple r I a X (ag U),λi h F=>gN F.1 λo L P _=>⟨o,_,L,P,by exact rfl,by decide⟩⟩
theorem QT {K:aO} (N:Inv X K O H M s.heap) (x:VR K O (.lst l) v) (V:Cb w K O s Q l):aD (MM w) A (JI v) Q E s:=by obtain⟨a,o,n,U,rfl,k,c,d,z⟩:=x;have I:=N.sub _ _ k;have C:s.heap.IsList a (ag U):=⟨o,I,c.1,n,d⟩;exact abr C<|V _ _ _ _ (Ly (eU<|dS I) z.length) (vo N ⟨⟨_,b6 _ rfl,rfl,rfl⟩,C.push _⟩ (FX k)<|Py z) rfl
theorem QR {K:aO} (N:Inv X K O H M s.heap) (x:VR K O (.tup l) v) (V:Cb w K O s Q l):aD (MM w) A (JI v) Q E s:=by obtain⟨a,o,n,U,rfl,k,c,d,z⟩:=x;have I:=N.sub _ _ k;have C:s.heap.IsTuple a (ag U):=⟨o,I,c,n,d⟩;exact Ah C<|V _ _ _ _ (OR (eU<|dS I) z.length) (vo N ⟨⟨_,b6 _ rfl,rfl,rfl⟩,⟨o,aR _ I,c,n,d⟩⟩ (FX k)<|Py z) rfl
theorem II {K:aO} (N:Inv X K O H M s.heap) (x:VR K O (.bytes b) v) (V:Cb w K O s Q (Ib b)):aD (MM w) A (JI v) Q E s:=by
 refine be x λt S=>?_;subst S;refine KBw.pyIter_bytes<|V [s.heap.objs.size] (λi v=>∃c u,(ag b)[i]?=ac c/\v=.int (c.toNat:Int) u) (λi h=>KBw.IsBytesIter h s.heap.objs.size (ag b) t i) _ ⟨λA r=>?_,λi h F=>gN F λo L P _=>⟨o,_,L,P,by exact rfl,by decide⟩⟩ (vo N ⟨_,b6 _ rfl,rfl,rfl⟩ FY λj v p W y=>?_) rfl
 ·have J:aa (Ib b)=b.toArray.size:=by simp[Ib]
  exact(af J)▸KBw.walks r _ _ _
 ·refine aI (P6 b j p W) λc P S=>?_;subst S;refine iI y λD u z S=>?_;subst S;simp only[gc] at z;rw[P] at z;obtain rfl:=al z;exact fC
theorem PE (a b:Int):xL a b 1=((b-a).toNat:Int):=by
 refine ah (rangeSize_one ..) ?_;by_cases q:a<b
 ·exact ah (if_pos q)<|af<|bB<|aa4.mpr<|sZ q
 ·(refine ah (if_neg q)<|(af<|OH<|Od<|cX.mp q)▸?_);rfl
theorem QS {K:aO} (N:Inv X K O H M s.heap) (x:VR K O (.Ki a b) v) (c:AB a b 1=aq) (Z:Cb w K O s Q (eu a b)):aD (MM w) A (JI v) Q E s:=by
 refine aew x λr o t1 t2 t3 S k V=>?_;subst S;subst V;refine wpAny_pyIter_range (N.sub _ _ k) c<|Z [s.heap.objs.size] (λi v=>∃t,v=.int (a+i*1) t) (λi h=>IsRangeIter h s.heap.objs.size (a+(i:Nat)*1) ((((b-a).toNat:Nat):Int)-(i:Nat)) 1) _ ⟨λA Y=>?_,λi h F=>⟨_,_,F,rfl,by exact rfl,by decide⟩⟩ (vo N ?_ FY λj v p W y=>?_) rfl
 ·have J:aa (eu a b)=(b-a).toNat:=by simp[eu]
  exact(af J)▸Walks.range Y _ a 1 _
 ·have:(s.heap.push {cls:=.type "range_iterator",data:=.fields #[pY a,pY (xL a b 1),pY 1]}).get? s.heap.objs.size=ac _:=b6 _ rfl;show Heap.get? _ _=_
  (refine ah this<|(af<|PE a b)▸?_)
  simp
 ·have B:=HX a b j p W;refine be y λt S=>?_;subst S;refine(af B)▸?_;simp only[Int.mul_one];exact fC
theorem QU {C:PV->List PV->Prop} (e:ev p H=.ok L i) (J:∀l,C (.lst l) l) (R:∀l,C (.tup l) l) (y:∀b,C (.bytes b)<|Ib b) (X:∀a b,AB a b 1=aq->C (.Ki a b) (eu a b)):C p L:=by
 cases p
 case lst l=>exact(Ku e).1▸J l
 case tup l=>exact(Ku e).1▸R l
 case bytes b=>exact(Ku e).1▸y b
 case Ki a b=>
  have e:=e;by_cases d:(-4611686018427387904<=a/\a<4611686018427387904/\-4611686018427387904<=b/\b<4611686018427387904)
  ·exact(Ku<|(if_pos d).symm.trans e).1▸X a b (small_one d.1 d.2.1 d.2.2.1 d.2.2.2)
  ·exact absurd ((if_neg d).symm.trans e).symm xd
 all_goals exact absurd (af e) xd
theorem wo {A:iN} {K:aO} (N:Inv X K O H M s.heap) (x:VR K O p v) (e:ev p H=.ok L i) (V:Cb w K O s Q L):aD (MM w) A (JI v) Q E s:=
 QU (C:=λp L=>VR K O p v->Cb w K O s Q L->aD (MM w) A (JI v) Q E s) e (λ_=>QT N) (λ_=>QR N) (λ_=>II N) (λ_ _ h x=>QS N x h) x V
theorem Ma {V:bO} (h:i≠j):(V.set i a).set j b=(V.set j b).set i a:=by apply SU;intro k;simp only[xH,d7];by_cases J:j=k<;>by_cases R:i=k<;>simp_all
theorem yY (V):∀f z i p,i∉f->fR (V.set i<|ac p) f z=(fR V f z).set i (ac p)
 |[],_,i,p,_=>rfl
 |_::_,[],i,p,_=>rfl
 |j::f,q::z,i,p,h=>by simp only[aM,not_or] at h;show fR ((V.set i<|ac p).set j<|ac q) f z=_;exact(Ma h.1)▸yY _ f z i p h.2
theorem w9 (V):∀f z i p,aa f=aa z->fR V (f++[i]) (z++[p])=(fR V f z).set i (ac p)
 |[],[],i,p,_=>rfl
 |[],_::_,_,_,h=>by simp at h
 |_::_,[],_,_,h=>by simp at h
 |j::f,q::z,i,p,h=>by exact w9 _ f z i p (nR h)
theorem yZ (V):∀f z,f.Nodup->aa f=aa z->fR V f.reverse z.reverse=fR V f z
 |[],[],_,_=>rfl
 |[],_::_,_,h=>by simp at h
 |_::_,[],_,h=>by simp at h
 |i::f,p::z,F,h=>by
  simp only[bN,Nat.add_right_cancel_iff] at h;rw[ls] at F
  (refine qw▸(af qw)▸ah (w9 _ _ _ _ _ (by simpa using h)) ?_;refine(yZ V f z F.2 h)▸?_)
  exact af<|yY _ _ _ _ _ F.1
theorem mP (V):∀f z,aa (fR V f z)=aa V
 |[],_=>rfl
 |_::_,[]=>rfl
 |i::f,p::z=>ah (mP _ f z) d7
theorem aj.run {R:Z->u->xz} (x:aj w X W n C m R t) {K:aO}
 (I:kA n A M) (N:Inv X K O H M s.heap) (c:C K O s.heap) (e:m H=.ok a i)
 (h:∀r F j l,Step W K O s.heap j l F.heap->Inv X j l i M F.heap->R a r j l F.heap->aW s F->Q r F):aD (MM w) A t Q E s:=by
 have U:m H≠.stuck:=by refine e▸?_;intro q;cases q
 refine a0 (x A s K O H M I N c U) (λr F b=>zd.casesOn b λB f j l q st P d S=>?_) λy F g=>yq.casesOn g λp f j l q _ _ _ _=>by rw[e] at q;cases q
 rw[e] at q;cases q;exact h r F j l st P d S
theorem Ks (h:Ub p=ac l):p=.tup l\/p=.lst l:=by
 cases p with
 |tup _=>exact .inl<|congrArg _ (al h)
 |lst _=>exact .inr<|congrArg _ (al h)
 |_=>exact aE h
theorem EL (h:yJ m p H=.ok l i):aa l=m:=by
 unfold yJ at h
 cases e:Ub p with
 |none=>rw[e] at h;cases h
 |some k=>
  rw[e] at h;by_cases q:aa k=m
  ·cases ah h.symm (congrFun (if_pos q) H);exact q
  ·cases ah h.symm (congrFun (if_neg q) H)
theorem ph (m p v):aj w X W n (λK O _=>VR K O p v) (yJ m p) kq (unpackItems v m am):=by
 refine eR λl e=>?_;by_cases C:aa l=m
 ·refine(if_pos C)▸?_;refine bE λA s K O Q E r _ _ _ c G h=>?_;rcases Ks e with rfl|rfl
  ·obtain⟨a,o,k,U,rfl,Z,P,g,z⟩:=c
   (refine(C)▸(z.length)▸((aS))▸?_)
   exact wpAny_unpackItems_tuple r ⟨o,G _ _ Z,P,k,g⟩ λf T=>h _ _ s.toks (.of_keeps λb o e=>T b o (eU<|dS e) e) z
  ·obtain⟨a,o,k,U,rfl,Z,P,g,z⟩:=c
   (refine(C)▸(z.length)▸((aS))▸?_)
   exact kun_itemsOf r ⟨o,G _ _ Z,P.1,k,g⟩ λf T=>h _ _ s.toks (.of_keeps λb o e=>T b o (eU<|dS e) e) z
 ·exact(if_neg C)▸bf
def GS (Y:Cx) (Z:mh) (W:List bn) (V:bO) (x:an) (i:Nat):Prop:=Y.ns[i]?=ac x/\i<aa V/\(Z.kindOf x=ac .local\/(Z.kindOf x=ac .cell/\∀a∈aY Z,a∈W))
theorem uB (T:dk X Y Z) (U:GS Y Z W V x i) (g:Z.locals∈W):
 aj w X W n (λK O h=>aT Z Y.ns V K O h/\VR K O p v) (ay ()) (λ_ _=>aT Z Y.ns<|V.set i<|ac p) (JN Z x v):=
 λA s K O H M I N c L=>wpAny_bindName<|EZ T.fe U.1 T.nd U.2.1 U.2.2 g A s K O H M I N c L
theorem ry {Y:Cx} {Z:mh} (T:dk X Y Z) (y:Z.locals∈W) (D:b->an) (t:b->Value->jN Unit) (f:∀q v M A Q E s,aD M A (JN Z (D q) v) Q E s->aD M A (t q v) Q E s):
 ∀(l:List (b×Nat)) (z:List PV) (U) (V),aa l=aa z->(∀q∈l,GS Y Z W V (D q.1) q.2)->
 aj w X W n (λK O h=>aT Z Y.ns V K O h/\bV K O z U) (ay ()) (λ_ _=>aT Z Y.ns (fR V (l.map (·.2)) z)) (N3 (l.map λq=>t q.1) U):=by
 intro l
 induction l with
 |nil=>exactλz U V _ _=>by show aj w X W n _ _ _ (pure ());exact gg λK O g c=>by rcases z<;>exact c.1
 |cons q l o=>
  intro z U V C G
  induction z with
  |nil=>cases C
  |cons p z=>
  intro A s K O H B I N d L;refine bD d λc F=>?_;refine cN F λv r S i a=>?_;subst S;show aD (MM w) A (holding r (t q.1 v)>>=λ_=>N3 (l.map λq=>t q.1) r) _ _ s;refine ak<|a9<|f q.1 v _ _ _ _ _ ((uB T (G q bd) y).run I N ⟨c,i⟩ rfl λu P k J st R j e=>?_)
  exact(o z r (V.set q.2<|ac p) (nR C) (λx m=>⟨(G x<|bc _ m).1,by exact(af d7)▸(G x<|bc _ m).2.1,(G x<|bc _ m).2.2⟩) A P k J H B I R ⟨j,vW st a⟩).step st e L
theorem td (T:dk X Y Z) (b:∀x,Y.names.lookup x=ac .cell->∀a∈aY Z,a∈W) (C:aa V=aa Y.names) (h:lC Y.names x=ac i):GS Y Z W V x i:=by
 refine bD (cL h) λhk h=>⟨QZ h,C▸(l4.mp h).1,?_⟩;rcases(gL _ _).mp hk with hk|hk
 ·exact .inl<|T.lc x<|eq_of_beq hk
 ·exact .inr ⟨T.ce x<|eq_of_beq hk,b x<|eq_of_beq hk⟩
theorem s8 (h:qL U e=ac i):∃x:an×oq,e=.Name x.1 x.2/\lC U x.1=ac i:=by exact aI (bind_some h) λx T h=>⟨x,vE T,h⟩
theorem zo {Z u:Type} {f:Z->Option u} {a:Z} {l:List Z} {r:List u} (h:(a::l).mapM f=ac r):∃b r',f a=ac b/\l.mapM f=ac r'/\r=b::r':=by rw[Cg] at h;exact aI (bind_some h) λb B h=>aI (bind_some h) λr' d h=>⟨b,r',B,d,af<|al h⟩
inductive afM (names:List (an×f8)) (es:List bL) (is:List Nat):Prop
 |mk (l:List ((an×oq)×Nat)) (e:es=l.map λq=>.Name q.1.1 q.1.2) (e':is=l.map (·.2)) (h:∀q∈l,lC names q.1.1=ac q.2)
theorem ul:∀u is,u.mapM (qL U)=ac is->afM U u is:=by
 intro u
 induction u with
 |nil=>exactλis h=>⟨[],rfl,af<|al h,λ_ h=>absurd h aZ⟩
 |cons e u o=>intro is h;refine cN (zo h) λi a D d S=>?_;subst S;refine aI (s8 D) λx S Z=>?_;subst S;obtain⟨l,rfl,rfl,C⟩:=o a d;exact⟨(x,i)::l,rfl,rfl,λq m=>(aM.mp m).elim (λe=>e▸Z)<|C q⟩
theorem wK (f:b->an×oq) (Z) (l:List b):assignEach (l.map λq=>.Name (f q).1 (f q).2) Z=l.map λq=>(ai,assign (.Name (f q).1 (f q).2) Z):=by
 induction l with
 |nil=>rfl
 |cons q l o=>(refine bv▸bv▸?_;refine(o)▸?_);rfl
theorem aj.res {P:Z->Prop} (x:aj w X W n C m R t) (h:∀H a i,m H=.ok a i->P a):aj w X W n C m (λa r K O k=>R a r K O k/\P a) t:=by intro A s K O H M T N c L;refine a0 (x A s K O H M T N c L) (λv u b=>zd.casesOn b λp g U J Q V Y S l=>⟨p,g,U,J,Q,V,Y,⟨S,h _ _ _ Q⟩,l⟩) λy u q=>q
theorem qu (T:dk X Y Z) (U:GS Y Z W V x i) (g:Z.locals∈W):
 aj w X W n (λK O h=>aT Z Y.ns V K O h/\VR K O p v) (ay ()) (λ_ _=>aT Z Y.ns<|V.set i<|ac p) (assign (.Name x G) Z v):=by
 refine(agW ..)▸?_;exact bA<|uB T U g
theorem uR {v:Value} (T:dk X Y Z) (hl:aa V=aa Y.names) (G:u.mapM (qL Y.names)=ac f) (g:Z.locals∈W) (b:∀x,Y.names.lookup x=ac .cell->∀a∈aY Z,a∈W)
 (hf:fI W (fi p v)):
 aj w X W n (λK O h=>aT Z Y.ns V K O h/\VR K O p v) (ax (yJ (aa f) p) λl=>ay<|fR V f l) (λτ _=>aT Z Y.ns τ) (unpack v<|assignEach u Z):=by
 obtain⟨l,rfl,rfl,h⟩:=ul u f G;refine(wK (λq:(an×oq)×Nat=>q.1) ..)▸?_;unfold unpack;refine(show(l.map λq=>(ai,assign (.Name q.1.1 q.1.2) Z)).findIdx? (·.1)=am from Eh.mpr λx m=>by refine aI (b3.mp m) λq _ S=>?_;obtain rfl:=S;rfl)▸?_
 (refine(af (aC ..))▸(af (aC ..))▸?_)
 have y:=(((ph (w:=w) (X:=X) (W:=[]) (n:=n) (aa l) p v).weak (C:=λK O h=>aT Z Y.ns V K O h/\VR K O p v) λ_ _ _ c=>c.2).keep<|dw.and<|cb p v).widen (W:=W) λ_ m=>absurd m aZ;refine ct (jO<|y.res (P:=λz=>aa z=aa l) λH a i e=>EL e) λz B=>?_;intro A s K O H fs I N D L;refine bD D λo t=>bD o λd F=>bD d λc _=>?_;have R:=ry (w:=w) (X:=X) (W:=W) (n:=n) T g (λx:an×oq=>x.1) (λx=>assign (.Name x.1 x.2) Z) (λq v M A Q E s h=>by exact kW (agW ..)<|ak<|cf h) l z B V t.symm λq m=>td T b hl<|h q m
 refine(af gV)▸?_;exact R.run I N ⟨c,F⟩ (show(ay ():IM Unit) H=.ok () H from rfl) λr s₁ k J st U j so=>⟨_,H,k,J,rfl,st,U,j,so⟩
def bindM (V:bO) (f:List Nat) (one:Bool) (p:PV):IM bO:=bG (f9 V f one p) ay
inductive Os (names:List (an×f8)):bL->List Nat->Bool->Prop
 |one (x:an) (pos:oq) (i:Nat) (h:lC names x=ac i):Os names (.Name x pos) [i] aq
 |tup (es:List bL) (k:Nat) (pos:oq) (is:List Nat) (h:es.mapM (qL names)=ac is):Os names (.Tuple es k pos) is ai
theorem ES (h:O9 U e=ac x):Os U e x.1 x.2:=by
 rcases pt h with h|h
 ·refine aI (map_some h) λi D S=>?_;subst S;refine aI (s8 D) λy S d=>?_;subst S;exact .one _ _ _ d
 ·refine aI (bind_some h) λy j h=>?_;refine aI (map_some h) λf D S=>?_;subst S;refine(yr j)▸?_;exact .tup _ _ _ _ D
theorem pW {one:Bool} (T:dk X Y Z) (C:aa V=aa Y.names) (U:Os Y.names R f one)
 (g:Z.locals∈W) (b:∀x,Y.names.lookup x=ac .cell->∀a∈aY Z,a∈W):
 aj w X W n (λK O h=>aT Z Y.ns V K O h/\VR K O p v) (bindM V f one p) (λQ _=>aT Z Y.ns Q) (assign R Z v):=by
 induction U with
 |one x G i D=>exactλA s K O H M I N c L=>(qu T (td T b C D) g).run I N c rfl λr u B J st E j S=>⟨V.set i<|ac p,H,B,J,rfl,st,E,j,S⟩
 |tup y k G f D=>
  refine(af4 ..)▸?_;refine bA<|eR λQ F=>?_
  cases p with
  |tup z=>
   by_cases P:aa z=aa f
   ·obtain rfl:=al (ah F.symm<|if_pos P);exact(uR T C D g b<|cb _ _).zL<|af<|congrArg (λm=>ax m λl=>ay<|fR V f l)<|if_pos (t:=ay z) P
   ·cases ah F.symm (if_neg P)
  |_=>exact aE F
inductive Cc (K:aO) (μ:List bn):gm->Ej->Prop
 |next:Cc K μ .next .next
 |brk:Cc K μ .brk .brk
 |cont:Cc K μ .cont .cont
 |ret {p:PV} {v:Value} (h:VR K μ p v):Cc K μ (.ret p) (.ret v)
structure iB (env:mh) (cx:Cx) (r:gm×bO) (f:Ej) (K:aO) (μ:List bn) (h:eK):Prop where
 c:aT env cx.ns r.2 K μ h
 l:aa r.2=aa cx.names
 f:Cc K μ r.1 f
theorem n6 (h:ax m f H=.ok r Hf):∃a i,m H=.ok a i/\f a i=.ok r Hf:=by
 rw[f0] at h
 cases e:m H with
 |ok a i=>rw[e] at h;exact⟨a,i,rfl,h⟩
 |exc p i=>rw[e] at h;cases h
 |stuck=>rw[e] at h;cases h
theorem zh (h:g4 m H≠.stuck):∃r Hf,m H=.ok r Hf/\g4 m H=.ok r Hf:=by
 unfold g4 at h|-
 cases e:m H with
 |ok a i=>exact⟨a,i,rfl,rfl⟩
 |exc p i=>rw[e] at h;exact absurd rfl h
 |stuck=>rw[e] at h;exact absurd rfl h
theorem ada (L:c.quiet=aq) (I:Nat->bj->Prop) (n) (h:I n s)
 (e:∀n s,I n s->∀(Q:PySem.Fin->bj->Prop) (E:Value->bj->Prop),(∀m F,m<n->I m F->Q (.again c) F)->(∀f F,R (.ok f) F->Q (.done f) F)->aD (MM w) (A.under c) ((MM w).den c) Q E s):nJ (MM w) A c R s:=
 codeAny_loop L I (λn s i=>e n s i _ _ (λm F z D=>⟨rfl,m,z,D⟩) λf F h=>h) n h
theorem YJ (I:Nat->bj->Prop) (n) (h:I n s)
 (e:∀n s,I n s->∀(T:Bool->bj->Prop) (B:Ej->bj->Prop) (E:Value->bj->Prop),(∀s,aD (MM w) A (kr body Z) B E s->T aq s)->(∀s,aD (MM w) A (kr a Z) (λf F=>R (.ok f) F) E s->T ai s)->
  (∀m F,m<n->I m F->B .next F/\B .cont F)->(∀F,R (.ok .next) F->B .brk F)->(∀v F,R (.ok<|.ret v) F->B (.ret v) F)->aD (MM w) A (pZ d Z<|iC d Z) T E s):nJ (MM w) A (.whileLoop d body a Z) R s:=
 codeAny_whileLoop I (λn s i=>e n s i _ _ _ (λs h=>h) (λs h=>h) (λm F z D=>⟨⟨m,z,D⟩,m,z,D⟩) (λF h=>h) λv F h=>h) n h
theorem Z3 (I:Nat->bj->Prop) (n) (h:I n s)
 (e:∀n s,I n s->∀(N:Option Value->bj->Prop) (B:Ej->bj->Prop) (E:Value->bj->Prop),(∀s,aD (MM w) A (kr a Z) (λf F=>R (.ok f) F) E s->N am s)->
  (∀v s,aD (MM w) A (agV b c v) (λ_ s=>aD (MM w) A (assign b Z v) (λ_ s=>aD (MM w) A (kr body Z) B E s) E s) E s->N (ac v) s)->
  (∀m F,m<n->I m F->B .next F/\B .cont F)->(∀F,R (.ok .next) F->B .brk F)->(∀v F,R (.ok<|.ret v) F->B (.ret v) F)->aD (MM w) A (pyNext c) N E s):nJ (MM w) A (.forLoop b c body a Z) R s:=
 codeAny_forLoop_any I (λn s i=>e n s i _ _ _ (λs h=>h) (λv s h=>h) (λm F z D=>⟨⟨m,z,D⟩,m,z,D⟩) (λF h=>h) λv F h=>h) n h
theorem uq {K:aO} {G:Ej->Prop} (Y:Cc K O x.1 fl) (e:uC k x H=.ok r z) (F:k x.2 H=.ok r z->G .next/\G .cont)
 (B:dt (.next,x.2) H=.ok r z->G .brk) (d:∀p v,VR K O p v->dt (.ret p,x.2) H=.ok r z->G (.ret v)):G fl:=by
 cases x with|mk a V=>?_
 dsimp only at Y
 induction Y with
 |next=>exact(F e).1
 |cont=>exact(F e).2
 |brk=>exact B e
 |ret h=>exact d _ _ h e
inductive WhI (KF:aO) (W:List bn) (env:mh) (cx:Cx) (tM:bO->IM Bool) (bM:bO->IM (gm×bO)) (fs:List mh) (K:aO) (μ:List bn) (s:bj) (r:gm×bO) (Hf:Hp) (f:Nat) (s₁:bj):Prop
 |mk (σ:bO) (K₁:aO) (dU:List bn) (H:Hp) (st:Step W K μ s.heap K₁ dU s₁.heap) (so:aW s s₁) (iv:Inv KF K₁ dU H fs s₁.heap) (c:aT env cx.ns σ K₁ dU s₁.heap) (l:aa σ=aa cx.names) (e:hO tM bM f σ H=.ok r Hf)
theorem Hl
 (ht:∀V,aa V=aa Y.names->aj w X [] n (aT Z Y.ns V) (tM V) (Lg) (pZ d Z<|iC d Z))
 (hb:∀V,aa V=aa Y.names->aj w X W n (aT Z Y.ns V) (bM V) (iB Z Y) (kr body Z))
 (hl:aa V=aa Y.names) {s:bj} {K:aO} (I:kA n A M) (N:Inv X K μ H M s.heap) (c:aT Z Y.ns V K μ s.heap) (e:hO tM bM fuel V H=.ok r z)
 (hR:∀f F K' qa x i,dt x i=.ok r z->Step W K μ s.heap K' qa F.heap->Inv X K' qa i M F.heap->iB Z Y x f K' qa F.heap->aW s F->R (.ok f) F):
 nJ (MM w) A (.whileLoop d body [] Z) R s:=by
 refine YJ (WhI X W Z Y tM bM M K μ s r z) fuel ⟨V,K,μ,H,iT ..,.refl s,N,c,hl,e⟩ ?_;intro f u Q T B E hT hF hN hB hr;refine nu ?_;intro P62;cases Q with|mk O K₁ J H₁ dL eX h j S q=>?_
 cases f with
 |zero=>cases q
 |succ f=>
  refine iI (n6 q) λb P U e₂=>((ht O S).keep dw).run I h j U λrb C g Be D y Yh jH=>bD Yh λc₂ hrb=>?_;have CC:=dL.trans<|D.mono λ_ m=>absurd m aZ
  subst hrb
  cases b with
  |false=>exact hF _ (av<|hR _ _ g Be _ _ e₂ CC y ⟨c₂,S,.next⟩ (eX.trans jH))
  |true=>
   refine hT _<|iI (n6 e₂) λx k L e₃=>(hb O S).run I y c₂ L λfl s₃ kz t EV jx a o=>?_
   have yP:=CC.trans EV;have HL:=(eX.trans jH).trans o;exact uq (G:=λf=>B f s₃) a.f e₃ (λe=>hN f _ (kG f) ⟨x.2,kz,t,k,yP,HL,jx,a.c,a.l,e⟩) (λe=>hB _ (hR _ _ kz t _ _ e yP jx ⟨a.c,a.l,.next⟩ HL)) λp v hv e=>hr _ _ (hR _ _ kz t _ _ e yP jx ⟨a.c,a.l,.ret hv⟩ HL)
theorem EJ
 (U:∀V,aa V=aa Y.names->aj w X [] n (aT Z Y.ns V) (b V) (Lg) (pZ d Z<|iC d Z))
 (B:∀V,aa V=aa Y.names->aj w X W n (aT Z Y.ns V) (a V) (iB Z Y) (kr body Z))
 (g) (V) (C:aa V=aa Y.names):
 aj w X W n (aT Z Y.ns V) (g4<|hO b a g V) (iB Z Y) (N2 (.While d body [] G) Z):=by
 intro A s K O H M I N c L;refine iI (zh L) λr z e R=>R▸?_;exact wpAny_While<|Hl U B C I N c e λf F j l x i q st P fr S=>⟨_,_,j,l,af q,st,P,fr,S⟩
theorem Step.sN {K k:aO} (x:Step W K O g k J T) (S:g.get? I=fS) (G:∀b o,b≠I->T.get? b=ac o->h'.get? b=ac o):Step W K O g k J h':=
 ⟨x.par,x.kle,x.new,x.pre,λa o e=>by
  exact be (x.there a o e) λB R=>⟨B,G a B (by rintro rfl;rw[S] at e;exact aE e) R⟩,
   λa o e z Z=>by
    exact aI (x.keep a o e z Z) λp R d=>⟨p,G a _ (by rintro rfl;rw[S] at e;exact aE e) R,d⟩,x.frs⟩
theorem Ii {P:bn->Prop}:∀a∈([]:List bn),P a:=λ_ m=>absurd m aZ
theorem u4 {P:bn->Prop} (h:P b):∀a∈[b],P a:=λa m=>(aV.mp m)▸h
theorem AO (h:a≠b):a∉[b]:=λm=>h<|aV.mp m
theorem no0:a∉([]:List bn):=aZ
theorem aT.Sc {K:aO} {wr:List bn} (c:aT Z U V K O h) (G:∀b o,b∉wr->h.get? b=ac o->h'.get? b=ac o) (Q:∀a∈wr,a∉aY Z):aT Z U V K O h':=by
 obtain⟨m,F,A,I,n,t⟩:=c;have g:∀x c,(x,c)∈Z.cells->c∉wr:=λx c P q=>Q _ q (bc _ (b3.mpr ⟨_,P,rfl⟩));refine⟨m,?_,A,I,λx c P=>?_,λj x p a b=>?_⟩
 ·exact sF F λo u X e r=>⟨o,u,X,G _ _ (λq=>Q _ q bd) e,r⟩
 ·obtain⟨a,b,d,v,o,e,r⟩:=n x c P;exact⟨a,b,d,v,o,G _ _ (g x c P) e,r⟩
 ·rcases t j x p a b with q|⟨q,c,v,Y,⟨o,E,k⟩,w⟩
  ·exact .inl q
  ·exact .inr ⟨q,c,v,Y,⟨o,G _ _ (g x c<|mem_of_lookup Y) E,k⟩,w⟩
theorem aT.but {Z:mh} {K:aO} (c:aT Z U V K O h) (G:∀b o,b≠I->h.get? b=ac o->h'.get? b=ac o) (Q:I∉aY Z):aT Z U V K O h':=
 c.Sc (λb o B=>G b o λq=>B<|q▸ji I) (u4 Q)
theorem zR {L:List Z} (h:L[j]?=ac p):L.drop j=p::L.drop (j+1):=by refine be (aB.mp h) λF S=>?_;subst S;exact List.drop_eq_getElem_cons F
theorem aT.kI (h:∀a∈W,a∉aY Z):fI W (aT Z j V):=
 aT.stable (λm=>h _ m bd) λy D P q=>h _ q (bc _ (b3.mpr ⟨_,P,rfl⟩))
theorem hV (env):env.locals∈aY env:=bd
inductive ajw (KF:aO) (W:List bn) (env:mh) (cx:Cx) (I:bn) (fp:List bn) (P:Nat->Value->Prop) (J:Nat->eK->Prop) (L:List PV) (i:Nat) (bM:bO->IM (gm×bO)) (fs:List mh) (K:aO) (μ:List bn) (g:eK) (s:bj) (r:gm×bO) (Hf:Hp) (m:Nat) (s₁:bj):Prop
 |mk (j:Nat) (σ:bO) (K₁:aO) (dU:List bn) (H:Hp) (hm:m=aa L+1-j) (hj:j<=aa L) (st:Step W K μ g K₁ dU s₁.heap) (so:aW s s₁) (iv:Inv KF K₁ dU H fs s₁.heap) (c:aT env cx.ns σ K₁ dU s₁.heap) (l:aa σ=aa cx.names)
  (ci:jK I fp P J L j K₁ dU s₁.heap) (e:iu (λτ p=>f9 τ [i] aq p) bM (L.drop j) σ H=.ok r Hf)
theorem Rl {cx:Cx} (T:dk X cx Z) (U:lC cx.names x=ac i)
 (hW:∀a∈W,a∈aY Z) (hW':∀a∈aY Z,a∈W)
 (hb:∀V,aa V=aa cx.names->aj w X W n (aT Z cx.ns V) (bM V) (iB Z cx) (kr body Z))
 (hw:sP w I d (aa L) P J)
 {A:iN} {M:List mh} (ha:kA n A M) {s:bj} {K:aO} {O:List bn} {H z:Hp} {V:bO} {r:gm×bO} (iv:Inv X K O H M s.heap) (c:aT Z cx.ns V K O s.heap) (C:aa V=aa cx.names)
 (ci:jK I d P J L 0 K O s.heap) (Q:I∉aY Z) (hfp:∀a∈d,a∉aY Z) (e:iu (λτ p=>f9 τ [i] aq p) bM L V H=.ok r z) {R:Result->bj->Prop}
 {gF:aO} {tH:List bn} {g:eK} (hg:g.get? I=am) (EW:Step W gF tH g K O s.heap)
 (hR:∀f F K' qa x H',dt x H'=.ok r z->Step W gF tH g K' qa F.heap->Inv X K' qa H' M F.heap->iB Z cx x f K' qa F.heap->aW s F->R (.ok f) F):
 nJ (MM w) A (.forLoop (.Name x xpos) (.ref I) body [] Z) R s:=by
 refine Z3 (ajw X W Z cx I d P J L i bM M gF tH g s r z) (aa L+1) ⟨0,V,K,O,H,rfl,hX _,EW,.refl s,iv,c,C,ci,e⟩ ?_;intro m s₁ hi N B E hN hS hB hk hr;cases hi with|mk j σ₁ K₁ dU H₁ hm hj dL eX h c₁ S rx e₁=>?_
 subst hm;have hCi:∀j,fI W (jK I d P J L j):=λj=>vZ hw (λq=>Q<|hW _ q) λa ha' q=>hfp a ha'<|hW _ q
 refine wn hw ha.hd h rx hj (λp v h' tk hp je D RZ hv=>?_) λh' tk hend je hk=>?_
 ·have hjlt:=(aB.mp hp).1;rw[zR hp] at e₁;refine iI (n6 e₁) λy k ey e₂=>?_;have c₂:=aT.kI (λa m=>(aV.mp m)▸Q) _ _ _ _ _ _ c₁ D;refine hS _ _ (av ?_);refine(pW T S (.one x xpos i U) (hW' _ (hV Z)) λ_ _=>hW').run ha je ⟨c₂,hv⟩ rfl λu s₃ kz abO Y jx Q1 o=>(hb _ (by refine ah d7 ?_;exact S)).run ha jx Q1 ey λfl t JA rZ b lO Hh E1=>?_;have xw:=hCi _ _ _ _ _ _ _ (hCi _ _ _ _ _ _ _ RZ Y) b;have pO:=((dL.hide D λa m=>by exact(aV.mp m)▸.inr hg).trans Y).trans b;have pQ:=(eX.trans<|jy ⟨rfl,rfl⟩ o).trans E1;have hlt:=pa (iV hjlt)<|kG j
  exact uq (G:=λf=>B f t) Hh.f e₂ (λe=>hB _ _ hlt ⟨j+1,y.2,JA,rZ,k,rfl,hjlt,pO,pQ,lO,Hh.c,Hh.l,xw,e⟩) (λe=>hk _ (hR _ _ JA rZ _ _ e pO lO ⟨Hh.c,Hh.l,.next⟩ pQ)) λp v hv e=>hr _ _ (hR _ _ JA rZ _ _ e pO lO ⟨Hh.c,Hh.l,.ret hv⟩ pQ)
 ·rw[hend,nq] at e₁;exact hN _ (av<|hR _ _ K₁ dU _ _ e₁ (dL.sN hg hk) je ⟨c₁.but hk Q,S,.next⟩ (eX.trans ⟨rfl,rfl⟩))
theorem BG (h:ev p H≠.stuck):∃L,ev p H=.ok L H:=by
 cases p with
 |Ki a b=>
  by_cases q:-4611686018427387904<=a/\a<4611686018427387904/\-4611686018427387904<=b/\b<4611686018427387904
  ·exact⟨_,if_pos q⟩
  ·exact absurd (if_neg q) h
 |lst l=>exact⟨_,rfl⟩
 |tup l=>exact⟨_,rfl⟩
 |bytes l=>exact⟨_,rfl⟩
 |_=>exact absurd rfl h
theorem Il {e:bL} (h:(e.ctorIdx !=7)=aq):∀u k p,e≠.Set u k p:=λ_ _ _ q=>by rw[q] at h;cases h
theorem lP {K:aO} (c:aT Z j V K O h) (ha:a∈aY Z):∃f,h.get? a=ac f/\K a=none:=by
 obtain⟨m,⟨o,_,_,e,_⟩,A,_,n,_⟩:=c;rcases aM.mp ha with rfl|ha
 ·exact⟨o,e,A⟩
 ·refine aI (b3.mp ha) λq P S=>?_;subst S;obtain⟨a,_,_,v,o,e,_⟩:=n q.1 q.2 P;exact⟨o,e,a⟩
theorem ss (h:∀u k p,iter≠.Set u k p):∀x,foldedSetIterable iter Z x=pure x:=by intro x;rcases iter<;>first|rfl|exact absurd rfl<|h _ _ _
theorem M9 (T:dk X Y env) (U:lC Y.names x=ac i)
 (hns:∀es k p,iter≠.Set es k p) (hW:∀a∈W,a∈aY env) (hW':∀a∈aY env,a∈W) (C:aa V=aa Y.names)
 (hi:aj w X [] n (aT env Y.ns V) E fi (iC iter env))
 (B:∀V,aa V=aa Y.names->aj w X W n (aT env Y.ns V) (bM V) (iB env Y) (kr body env)):
 aj w X W n (aT env Y.ns V) (ax (ax E ev) λl=>g4<|iu (λQ p=>f9 Q [i] aq p) bM l V) (iB env Y) (N2 (.For (.Name x xpos) iter body [] G) env):=by
 intro A s K O H M I N c;generalize b:ax (ax E ev) (λl=>g4<|iu (λQ p=>f9 Q [i] aq p) bM l V) H=o;intro ho;refine xS ?_;intro amL;refine MD ?_;intro am0;refine afU ?_ (ss hns);have hwh:E H≠.stuck:=λq=>ho<|ah b.symm<|by rw[f0,f0,q]
 refine xS ?_;intro amK;refine a0 ((hi.keep dw) A s K O H M I N c hwh) (λv u ⟨p,g,K₁,dU,ep,dL,h,⟨j,t⟩,eX⟩=>?_) λy u Yy=>yq.casesOn Yy λp g K₁ dU ep dL h hex eX=>?_
 ·have b:ax (ev p) (λl=>g4<|iu (λQ p=>f9 Q [i] aq p) bM l V) g=o:=ah (by rw[f0,f0,f0,ep]) b;have D:ev p g≠.stuck:=λq=>ho<|ah b.symm<|by(refine ah (f0 ..) ?_;rw[q])
  refine be (BG D) λL eL=>?_;have b:g4 (iu (λQ p=>f9 Q [i] aq p) bM L V) g=o:=ah (by(refine(f0 ..)▸?_;rw[eL])) b;refine iI (zh λq=>ho<|ah b.symm q) λr z e R=>?_;have b:=ah b.symm R;refine wo h t eL λd P J o Z ci hfr=>?_;have kp:=Ar u.heap o;have Rg:=dL.none<|bX _
  have S:=dw _ _ _ _ _ _ j kp.step
  have hI:u.heap.objs.size∉aY env:=λq=>by refine aI (lP j q) λoa ea _=>?_;rw[bX] at ea;exact aE ea
  refine Rl T U hW hW' B Z I (h.keep kp) S C ci hI (λa ha' q=>?_) e Rg ((dL.mono λ_ m=>absurd m aZ).trans kp.step) λf F K' qa x' H' ex st At hf so=>?_
  ·refine aI (lP j q) λoa ea ka=>?_;rcases ci.2.2.2.1 a ha' with rfl|⟨o',k',_⟩
   ·exact hI q
   ·rw[ka] at k';exact aE k'
  ·exact⟨x',H',K',qa,ah b ex.symm,st,At,hf,eX.trans<|jy ⟨rfl,rfl⟩ so⟩
 ·exact⟨p,g,K₁,dU,ah b.symm (by rw[f0,f0,ep]),dL.mono λ_ m=>absurd m aZ,h,hex,eX⟩
set_option backward.match.sparseCases true in
theorem FM {one:Bool} (Z:Os j b f one) (L:s.heap.get? I=ac o) (P:o.cls=.type O) (F:zb.contains O=ai) (h:Q () s):
 aD M A (agV b (.ref I) v) Q E s:=by
 have c:aD M A (do
  let(.ref r,.ref a):=(ge I,v)|return
  let o <-load r
  match o.cls,o.data with
  |.type n,.fields U=>
   if["enumerate","zip","dict_itemiterator","dict_reverseitemiterator","odict_iterator","itertools.zip_longest","itertools.pairwise"].contains n&&U[0]?==ac (pY a) then
    rule "for.unpacks-the-owned-tuple"
    updateField r 0 .none
  |_,_=>pure ():jN Unit) Q E s:=by
  rcases v<;>first|exact av h|skip
  refine ak<|uE L ?_
  refine P▸?_;cases o.data<;>first|exact av h|skip
  rename_i U;have:["enumerate","zip","dict_itemiterator","dict_reverseitemiterator","odict_iterator","itertools.zip_longest","itertools.pairwise"].contains O=false:=F;simp only[this,X5,bP,if_false];exact av h
 induction Z with
 |one=>exact av h
 |tup=>exact c
def xX (D:bn) (S:List PV):xz:=λK O h=>∃U k,h.get? D=ac {cls:=.type "list",dict:=am,data:=.seq (ag U) k,slots:=#[]}/\bV K O S U/\K D=am/\D∉O
theorem xX.stable (u:D∉W):fI W (xX D S):=by intro K O h j l Z a st;refine AV a λU k e r G z=>?_;exact⟨U,k,st.same e z u (λf=>absurd f.1<|by simp),vW st r,st.lH G e,st.lG z e⟩
open xX renaming stable->Lu
theorem aT.weaken (h:∀(j:Nat) (p:PV),Q[j]?=ac (ac p)->V[j]?=ac (ac p)) {K:aO} (c:aT Z U V K O g):aT Z U Q K O g:=by obtain⟨m,F,a,b,d,t⟩:=c;exact⟨m,F,a,b,d,λi x p T W=>t i x p T<|h i p W⟩
theorem HO:∀{f z j},j∉f->(fR V f z)[j]?=V[j]?:=by
 intro f
 induction f generalizing V with
 |nil=>exactλ_=>rfl
 |cons i f o=>
  intro z j h
  cases z with
  |nil=>rfl
  |cons p z=>simp only[aM,not_or] at h;exact ah (o h.2)<|dQ<|js h.1
inductive SE (σ:bO) (is:List Nat):bO->Prop
 |one (i:Nat) (p:PV) (e:is=[i]):SE σ is (σ.set i (ac p))
 |tup (ps:List PV):SE σ is (fR σ is ps)
theorem GM {one:Bool} (h:f9 V f one p=ac τ):SE V f τ:=by
 cases one with
 |true=>refine aI (map_some h) λi D S=>?_;subst S;exact .one i p<|uk D
 |false=>
  refine aI (bind_some h) λz _ h=>?_;by_cases q:aa z=aa f
  ·obtain rfl:=al<|(if_pos q).symm.trans h;exact .tup z
  ·exact aE<|(if_neg q).symm.trans h
theorem z7 {one:Bool} (h:f9 V is one p=ac Q) (B:∀j∈is,V[j]?=ac am) (j:Nat) (q) (L:V[j]?=ac (ac q)):Q[j]?=ac (ac q):=by
 have F:j∉is:=λm=>by rw[B j m] at L;cases L
 cases GM h with
 |one i p e=>refine ah (dQ λm=>F<|by rw[e,m];exact ji j) ?_;exact L
 |tup z=>rw[HO F];exact L
theorem B6 {one:Bool} (h:f9 σ f one p=ac Q):aa Q=aa σ:=by
 cases GM h with
 |one i p e=>exact d7
 |tup z=>exact mP ..
theorem Qn (h:g4 m H=.ok a H'):m H=.ok a H':=by
 unfold g4 at h
 cases e:m H with
 |ok b f=>rw[e] at h;exact h
 |exc p f=>rw[e] at h;cases h
 |stuck=>rw[e] at h;cases h
inductive afS (w:dG) (KF:aO) (fs:List mh) (env:mh) (ns:List an) (rY:bO) (I D:bn) (fp:List bn) (P:Nat->Value->Prop) (J:Nat->eK->Prop) (L acc r:List PV) (Hf:Hp) (f:PV->IM (Option PV)) (gF:aO) (tH:List bn) (g:eK) (s:bj) (m:Nat) (s₁:bj):Prop
 |mk (j:Nat) (K₁:aO) (dU:List bn) (H₁:Hp) (rg:List PV) (em:m=aa L+1-j) (hj:j<=aa L) (KM:aa rg<=aa acc+j) (st:Step [] gF tH g K₁ dU s₁.heap) (so:aW s s₁) (iv:Inv KF K₁ dU H₁ fs s₁.heap)
  (c:aT env ns rY K₁ dU s₁.heap) (ci:jK I fp P J L j K₁ dU s₁.heap) (ca:xX D rg K₁ dU s₁.heap) (e:iJ f (L.drop j) rg H₁=.ok r Hf)
inductive afR (rY:bO) (is:List Nat) (one:Bool) (cM:bO->IM Bool) (eM:bO->IM PV) (F:PV->IM (Option PV)) (p:PV) (l acc:List PV) (H:Hp) (r:List PV) (Hf:Hp):Prop
 |mk (τ:bO) (b:Bool) (H':Hp) (hτ:f9 rY is one p=ac τ) (ec:cM τ H=.ok b H') (no:b=ai->iJ F l acc H'=.ok r Hf) (yes:b=aq->∃q H'',eM τ H'=.ok q H''/\iJ F l (acc++[q]) H''=.ok r Hf)
def qV (c:bO) (f:List Nat) (one:Bool) (a:bO->IM Bool) (d:bO->IM PV) (p:PV):IM (Option PV):=match f9 c f one p with
 |none=>aQ
 |some Q=>g4<|ax (a Q) λg=>if g then ax (d Q) λq=>ay (ac q) else ay am
theorem NB {one:Bool} (h:iJ (qV c f one a d) (p::l) S H=.ok r Hf):afR c f one a d (qV c f one a d) p l S H r Hf:=by
 refine nu ?_;intro n;refine iI (n6 h) λo k g e=>?_;unfold qV at g
 cases F:f9 c f one p with
 |none=>rw[F] at g;cases g
 |some Q=>
  rw[F] at g;refine iI (n6<|Qn g) λb i j g=>⟨Q,b,i,F,j,λq=>?_,λq=>?_⟩
  ·subst q;cases g;exact e
  ·refine nu ?_;intro s;subst q;refine iI (n6 g) λq m P g=>?_;cases g;exact⟨q,_,P,e⟩
theorem NC {one:Bool} {cM:bO->IM Bool} (T:dk X cx Z) (ht:Os cx.names tgt is one)
 (hcell:∀x,cx.names.lookup x≠ac .cell) (C:aa rY=aa cx.names) (hbase:∀j∈is,rY[j]?=ac am)
 (hc:∀τ,aa τ=aa cx.names->aj w X [] n (aT Z cx.ns τ) (cM τ) (Lg) (forIn ifs aq λc r=>if r=aq then do let ok <-pZ c Z (iC c Z);pure (fg ok) else pure (fg r)))
 (he:∀τ,aa τ=aa cx.names->aj w X [] n (aT Z cx.ns τ) (eM τ) fi (iC elt Z))
 {P:Nat->Value->Prop} {J:Nat->eK->Prop} {L:List PV} (hw:sP w I d (aa L) P J)
 {A:iN} {M:List mh} (ha:kA n A M) {s:bj} {K:aO} {O:List bn} {H z:Hp} {S r:List PV} (iv:Inv X K O H M s.heap) (c:aT Z cx.ns rY K O s.heap)
 (ci:jK I d P J L 0 K O s.heap) (ca:xX D S K O s.heap) (hI:I∉aY Z) (hfp:∀a∈d,a∉aY Z) (hD:D∉aY Z) (hDI:D≠I) (hDf:D∉d)
 (e:iJ (qV rY is one cM eM) L S H=.ok r z) (hz:aa S+aa L<=16777216) {R:Result->bj->Prop}
 {gF:aO} {i:List bn} {g:eK} (hg:g.get? I=am) (hgD:g.get? D=am) (hgC:g.get? Z.locals=am) (EW:Step [] gF i g K O s.heap)
 (hR:∀s' K' qa x H',dt x H'=.ok r z->Step [] gF i g K' qa s'.heap->Inv X K' qa H' M s'.heap->aT Z cx.ns rY K' qa s'.heap->xX D x K' qa s'.heap->aW s s'->R (.ok .next) s'):
 nJ (MM w) A (.compLoop (.ListComp elt [⟨tgt,iter,ifs,0⟩] scope pos) 0 (.ref I) (.ref D) Z) R s:=by
 refine ada rfl (afS w X M Z cx.ns rY I D d P J L S r z (qV rY is one cM eM) gF i g s) (aa L+1)
  (.mk 0 K O H S rfl (hX _) (bT _) EW (.refl s) iv c ci ca e) ?_
 intro m s₁ hi Q E V hDn;cases hi with|mk j K₁ dU H₁ rg hm hj KM dL eX fL c₁ rx XF e₁=>?_
 subst hm;show aD _ _ ((compTurn (.ListComp elt [⟨tgt,iter,ifs,0⟩] scope pos) 0 (.ref I) (.ref D) Z).onRaise λx=>do Ow x Z;theTreesLotGoes x) _ _ s₁;refine wpAny_noted ?_;generalize notedBy (MM w) _ Z E=E';rw[compTurn_list];refine MD ?_;intro akT;refine ak<|cf<|ak ?_
 refine xS ?_;intro akO;refine wn hw ha.hd fL rx hj (λp v h' tk hp je lz l hv=>?_) λh' tk hend je hk=>?_
 ·have hjlt:=(aB.mp hp).1;have hlt:=pa (iV hjlt)<|kG j
  rw[zR hp] at e₁;refine nu ?_;intro amQ;cases NB e₁ with|mk τ b amW hτ ec eno aiK=>?_
  have adQ:aa τ=aa cx.names:=by rw[B6 hτ];exact C
  have hCI:Z.locals≠I:=λq=>hI<|q▸hV Z
  refine AV (hw.own (j+1) _ l.1) λoI nmI eI cI nI _=>ak<|FM ht eI cI nI ?_
  have CC:=dL.hide lz<|u4<|.inr hg
  have c₂:=aT.kI (u4 hI) _ _ _ _ _ _ c₁ lz;have aeT:=Lu (AO hDI) _ _ _ _ _ _ XF lz;have hDC:D≠Z.locals:=λq=>hD<|q▸hV Z
  have key:=(pW (w:=w) (n:=n) (p:=p) (v:=v) T C ht (ji _) λx h=>absurd h<|hcell x);have eb:bindM rY is one p H₁=.ok τ H₁:=by unfold bindM;rw[hτ];rfl
  refine ak<|key.run ha je ⟨c₂,hv⟩ eb λu s₃ kz t Y jx c₃ ip=>?_
  have K7:jK I d P J L (j+1) kz t s₃.heap:=vZ hw (AO<|js hCI) (λa ha'=>AO λq=>hfp a ha'<|q▸hV Z) _ _ _ _ _ _ l Y;have aeS:xX D rg kz t s₃.heap:=Lu (AO hDC) _ _ _ _ _ _ aeT Y;have yP:Step [] gF i g kz t s₃.heap:=CC.hide Y<|u4<|.inr hgC
  refine ak<|((hc τ adQ).keep dw).run ha jx c₃ ec λrb s₄ G rZ pn lO sq N=>?_
  have xw:jK I d P J L (j+1) G rZ s₄.heap:=vZ hw no0 (λ_ _=>no0) _ _ _ _ _ _ K7 pn;have XE:xX D rg G rZ s₄.heap:=Lu no0 _ _ _ _ _ _ aeS pn;have pO:=yP.trans pn;have pQ:aW s s₄:=eX.trans<|(jy ⟨rfl,rfl⟩ ip).trans N
  have hrb:b=rb:=sq.2
  cases rb with
  |false=>exact av<|V _ _ hlt (.mk (j+1) G rZ _ rg rfl hjlt (Nat.le_succ_of_le KM) pO pQ lO (sq.1.weaken<|z7 hτ hbase) xw XE (eno hrb))
  |true=>
   refine iI (aiK hrb) λq amV eq5 e₂=>?_;refine ak<|ak<|((he τ adQ).keep dw).run ha lO sq.1 eq5 λx s₅ Jz EB EU FW Xl Pu=>?_
   have aeR:jK I d P J L (j+1) Jz EB s₅.heap:=vZ hw no0 (λ_ _=>no0) _ _ _ _ _ _ xw EU;refine xS ?_;intro akN;refine AV (Lu (S:=rg) (W:=[]) no0 _ _ _ _ _ _ XE EU) λU k eD rs kD mD=>?_;have hlD:IsL s₅.heap D (ag U) k:=eD;have hsz:(ag U).size<=sizeLine:=by rw[bh,aS,rs.length];exact aN KM<|aN (dH hj _) hz
   refine ak<|Aj F.slot_list_append ⟨_,hlD,rfl⟩ F.entry_list_append (F.args_list_append_2 _ _) (list_append D (ag U) k x hsz) ⟨hlD,?_⟩
   have hkp:∀b o,b≠D->s₅.heap.get? b=ac o->(s₅.heap.update D<|fU λy=>y.push x).get? b=ac o:=λb o B eb=>ah ((ds s₅.heap D<|fU λy=>y.push x).2 b B) eb;have QQ:=FW.but kD mD hkp λo eo=>by rw[<-al (eD.symm.trans eo)];exactλf=>absurd f.1<|by simp
   have hl2:=hlD.update λy=>y.push x;have WL:Step [D] Jz EB s₅.heap Jz EB _:=E0 (ji D) hkp ⟨_,hl2⟩
   exact av (av (V _ _ hlt (.mk (j+1) Jz EB _ (rg++[q]) rfl hjlt (by rw[aJ];exact Al KM) ((pO.trans EU).hide WL<|u4<|.inr hgD) (pQ.trans<|Pu.trans ⟨rfl,rfl⟩) QQ
    ((Xl.1.but hkp hD).weaken<|z7 hτ hbase) (vZ hw (AO<|js hDI) (λa ha'=>AO λq=>hDf<|q▸ha') _ _ _ _ _ _ aeR WL) ⟨U++[x],_,by rw[show(U++[x]).toArray=(ag U).push x by simp];exact hl2,rs.append<|b8 Xl.2 eA,kD,mD⟩ e₂)))
 ·rw[hend,nq] at e₁;refine iI XF λU k e rest=>?_;exact av<|hDn _ _ (hR _ K₁ dU _ _ e₁ (dL.sN hg hk) je (c₁.but hk hI) ⟨U,k,hk _ _ hDI e,rest⟩ (eX.trans ⟨rfl,rfl⟩))
def oP (cells:List (an×bn)) (S:List (an×bn)) (x:an×f8):List (an×bn):=(gd (x.2==.free)<|cells.lookup x.1).elim S λc=>(x.1,c)::S
def uv (cells:List (an×bn)) (l:List (an×f8)) (S:List (an×bn)):List (an×bn):=l.foldl (oP cells) S
theorem KQ {k:f8} (h:(k==.free)=aq):k=.free:=by rcases k<;>first|rfl|cases h
inductive ClV (cells:List (an×bn)) (acc:List (an×bn)) (x:an×f8):Prop
 |no (e:oP cells acc x=acc)
 |yes (c:bn) (k:x.2=.free) (h:cells.lookup x.1=ac c) (e:oP cells acc x=(x.1,c)::acc)
theorem clV (cells S x):ClV cells S x:=by
 cases h:gd (x.2==.free) (cells.lookup x.1) with
 |none=>exact .no<|congrArg (λo:Option bn=>o.elim S λc=>(x.1,c)::S) h
 |some c=>exact .yes c (KQ (cL h).1) (cL h).2<|congrArg (λo:Option bn=>o.elim S λc=>(x.1,c)::S) h
theorem Je (h:∀x,(x,iD)∈scope.names->∃c,Z.cells.lookup x=ac c):closureFor scope Z=pure (uv Z.cells scope.names []):=by
 have R:∀(l:List (an×f8)) (S:List (an×bn)),(∀x,(x,iD)∈l->∃c,Z.cells.lookup x=ac c)->
  (forIn l S λ(x:an×f8) (D:List (an×bn))=>(if(x.2==iD)=aq then do let a <-cellOf Z x.1;pure (fg<|(x.1,a)::D) else pure (fg D):jN _))=pure (uv Z.cells l S):=by
  intro l
  induction l with
  |nil=>intro S _;rfl
  |cons y l o=>
   intro S C;have o:=λS=>o S λy j=>C y<|bc _ j
   refine ah (cC ..) ?_;by_cases G:(y.2==iD)=aq
   ·refine be (C y.1<|by refine((KQ G))▸?_;exact bd) λc P=>?_
    (refine(if_pos G)▸(show cellOf Z y.1=pure c by unfold cellOf;rw[P])▸?_)
    exact ah (o _)<|by show _=pure (uv Z.cells l<|oP Z.cells S y);rw[show oP Z.cells S y=(y.1,c)::S by unfold oP gd;rw[if_pos G,P];rfl]
   ·rw[if_neg G];exact ah (o _)<|by show _=pure (uv Z.cells l<|oP Z.cells S y);rw[show oP Z.cells S y=S by unfold oP gd;rw[if_neg G];rfl]
 exact ah (congrArg (· >>=λD=>pure D)<|R scope.names [] h) rfl
theorem zX (cells l):∀S x c,(x,c)∈uv cells l S->(x,c)∈S\/((x,iD)∈l/\cells.lookup x=ac c):=by
 induction l with
 |nil=>exactλ_ _ _ h=>.inl h
 |cons y r o=>
  intro S x c h;refine(o _ x c h).elim (λq=>?_) λq=>.inr ⟨bc _ q.1,q.2⟩
  cases clV cells S y with
  |no e=>exact .inl<|e▸q
  |yes D k P e=>
   rw[e] at q;refine(aM.mp q).elim (λq=>.inr ?_) .inl
   (refine(show x=y.1 from congrArg Ll q)▸(show c=D from congrArg Prod.snd q)▸(k)▸?_)
   exact⟨bd,P⟩
theorem NF (cells l):∀acc e,e∈acc->e∈uv cells l acc:=by
 induction l with
 |nil=>exactλ_ _ h=>h
 |cons y r o=>
  intro acc e h;refine o _ e ?_
  cases clV cells acc y with
  |no q=>exact(af q)▸h
  |yes c k P q=>exact q▸bc _ h
theorem RY (cells l):∀acc x c,(x,iD)∈l->cells.lookup x=ac c->(x,c)∈uv cells l acc:=by
 induction l with
 |nil=>exactλ_ _ _ h _=>absurd h aZ
 |cons y r o=>
  intro acc x c h P;refine(aM.mp h).elim (λq=>?_) λq=>o _ x c q P;refine NF cells r _ _ ?_
  (refine(q)▸(show oP cells acc (x,iD)=(x,c)::acc by unfold oP;rw[P];rfl)▸?_)
  exact bd
theorem Jf (a:cells.Pairwise λx y=>x.2≠y.2) (l):∀S,(l.map (·.1)).Nodup->(∀x c,(x,c)∈S->x∉l.map (·.1)/\cells.lookup x=ac c)->
 S.Pairwise (λx y=>x.2≠y.2)->(uv cells l S).Pairwise λx y=>x.2≠y.2:=by
 induction l with
 |nil=>exactλ_ _ _ h=>h
 |cons y r o=>
  intro S F I h;have F:=ls.mp F;have i:∀x c,(x,c)∈S->x∉r.map (·.1)/\cells.lookup x=ac c:=λx c m=>⟨λq=>(I x c m).1<|bc _ q,(I x c m).2⟩;refine o _ F.2 ?_ ?_
  ·cases clV cells S y with
   |no e=>exact(af e)▸i
   |yes c k P e=>
    refine e▸?_
    refineλx D m=>(aM.mp m).elim (λq=>?_)<|i x D
    (refine(show x=y.1 from congrArg Ll q)▸(show D=c from congrArg Prod.snd q)▸?_)
    exact⟨F.1,P⟩
  ·cases clV cells S y with
   |no e=>exact(af e)▸h
   |yes c k P e=>refine e▸?_;refine OB.mpr ⟨λz N q=>?_,h⟩;have d:=I z.1 z.2 N;exact d.1<|(name_of_addr a (mem_of_lookup P)<|q▸mem_of_lookup d.2)▸bd
theorem mR:∀{l:List (an×u)} {x} {k:u},(l.map (·.1)).Nodup->(x,k)∈l->l.lookup x=ac k
 |[],_,_,_,h=>by simp at h
 |(n,H)::r,x,k,F,h=>by
  simp only[bv,ls] at F;rcases aM.mp h with q|q
  ·cases q;simp[bt]
  ·have X:(x==n)=false:=by
    rw[beq_eq_false_iff_ne];rintro rfl;exact F.1<|b3.mpr ⟨_,q,rfl⟩
   simp only[bt,X];exact mR F.2 q
theorem rt:∀{l:List (an×u)} {x} {k:u},(x,k)∈l->∃H,l.lookup x=ac H
 |[],_,_,h=>by simp at h
 |(n,H)::r,x,k,h=>by
  cases B:x==n with
  |true=>exact⟨H,by simp only[bt,B]⟩
  |false=>
   rcases aM.mp h with q|q
   ·cases q;simp at B
   ·exact be (rt q) λa R=>⟨a,by simp only[bt,B];exact R⟩
noncomputable def u1 (Z:mh):an×f8->an×NameKind:=λ(n,k)=>if(k==.free&&Z.scope.kind==.function&&Z.kindOf n==ac .cell) then(n,.cell) else(n,k)
theorem vj:∀{U:List (an×f8)} {x},(U.map<|u1 Z).lookup x=(U.lookup x).map λk=>(u1 Z (x,k)).2
 |[],x=>rfl
 |(n,k)::r,x=>by
  have J:(u1 Z (n,k)).1=n:=by unfold u1;dsimp only;split<;>rfl
  refine bv▸?_
  cases d:u1 Z (n,k) with
  |mk a b=>
   rw[d] at J;subst J;simp only[bt]
   cases B:x==a with
   |true=>
    have:x=a:=by simpa using B
    subst this;simp[d]
   |false=>exact vj
theorem gv (h:jl Y scope=aq):scope.kind=.function/\(scope.names.map (·.1)).Nodup/\(∀x k,(x,k)∈scope.names->k≠.cell/\(k=.free->Y.names.lookup x=ac .cell)):=by unfold jl at h;simp only[bu,beq_iff_eq,decide_eq_true_eq,cn,gL,bne_iff_ne] at h;refine⟨h.1.1,h.1.2,λx k m=>?_⟩;have:=h.2 (x,k) m;exact⟨this.1,λq=>by rcases this.2 with r|r;exact absurd q r;exact r⟩
noncomputable abbrev Oq (Y:Cx) (scope:rU):Cx:=⟨scope.names,Y.glob,[]⟩
theorem tj {cl:List (an×bn)} (x):(A4 scope cl C Z).kindOf x=(scope.names.lookup x).map λk=>(u1 Z (x,k)).2:=vj
theorem Do (T:dk X Y Z) (h:jl Y scope=aq):∀x,(x,iD)∈scope.names->Z.kindOf x=ac .cell/\∃c,Z.cells.lookup x=ac c:=λx m=>by
 have J:=T.ce x<|((gv h).2.2 x _ m).2 rfl
 exact⟨J,T.fe.has x<|.inl J⟩
theorem PL (h:k≠.free):(u1 Z (x,k)).2=k:=by
 unfold u1;have:(k==iD)=false:=by rcases k<;>first|rfl|exact absurd rfl h
 simp[this]
theorem mem_lookup:∀{l:List (an×u)} {x} {k:u},l.lookup x=ac k->(x,k)∈l
 |(n,v)::r,x,k,h=>by
  rw[bt] at h
  cases B:x==n with
  |true=>rw[B] at h;obtain rfl:=al h;exact(beq_iff_eq.mp B)▸bd
  |false=>rw[B] at h;exact bc _ (mem_lookup h)
theorem GB (T:dk X Y Z) (h:jl Y scope=aq) (x) (G:scope.names.lookup x=ac .free):∃c,(uv Z.cells scope.names []).lookup x=ac c/\Z.cells.lookup x=ac c:=by
 refine bD (Do T h x<|mem_lookup G) λ_ S=>be S λc P=>?_;refine be (rt<|RY Z.cells scope.names [] x c (mem_lookup G) P) λD f=>?_;rcases zX _ _ _ _ _ (mem_lookup f) with q|⟨_,q⟩
 ·simp at q
 ·exact⟨D,f,q⟩
theorem VM (T:dk X W Z) (h:jl W scope=aq) (B:Z.builtins=0):vN (A4 scope (uv Z.cells scope.names []) C Z) where
 kind:=(gv h).1
 glob:=T.fe.glob
 bi:=B
 apart:=Jf T.fe.apart scope.names [] (gv h).2.1 (by simp) Ch
 has:=λx G=>by
  have R:scope.names.lookup x=ac .free:=by
   rw[tj] at G
   cases d:scope.names.lookup x with
   |none=>rw[d] at G;rcases G with q|q<;>exact aE q
   |some k=>
    rw[d] at G;by_cases Y:k=.free
    ·rw[Y]
    ·have V:=((gv h).2.2 x k<|mem_lookup d).1;simp only[yA,ajJ,PL Y] at G;rcases G with q|q
     ·exact absurd q V
     ·exact absurd q Y
  exact aI (GB T h x R) λc P _=>⟨c,P⟩
theorem vJ (T:dk X Y Z) (h:jl Y scope=aq):dk X (Oq Y scope) (A4 scope (uv Z.cells scope.names []) C Z) where
 nd:=(gv h).2.1
 gi:=λx G=>by refine ah (tj ..) ?_;show(scope.names.lookup x).map _=_;exact(af<|show scope.names.lookup x=ac .globalImplicit from G)▸rfl
 lc:=λx G=>by refine ah (tj ..) ?_;show(scope.names.lookup x).map _=_;exact(af<|show scope.names.lookup x=ac .local from G)▸rfl
 ce:=λx G=>absurd rfl ((gv h).2.2 x _ (mem_lookup G)).1
 fe:=VM T h T.fe.bi
 gl:=T.gl
theorem R2 {i:Nat} (h:(rK V k)[i]?=ac (ac p)):∃j,k[i]?=ac (ac j)/\V[j]?=ac (ac p):=by
 unfold rK at h;rw[bZ,ba] at h;refine aI h λc P e=>?_
 cases c with
 |none=>exact aE e
 |some j=>
  refine⟨j,P,?_⟩;simp only[xF] at e
  cases w:V[j]? with
  |none=>rw[w] at e;exact aE e
  |some o=>rw[w] at e;simp at e;rw[e]
theorem NH {K:aO} {O:List bn} (T:dk X Y Z) (h:jl Y scope=aq) (Q:h'.Ns C λ_=>am) (G:K C=am) (z:C∉O) (l:C∉aY Z) (c:aT Z Y.ns M K O h'):
 aT (A4 scope (uv Z.cells scope.names []) C Z) (Oq Y scope).ns (rK M<|k5 Y scope.names) K O h':=by
 obtain⟨m,L,A,I,n,t⟩:=c;refine⟨_,Q,G,z,λx d q=>?_,λi x p H W=>?_⟩
 ·rcases zX _ _ _ _ _ q with N|⟨_,E⟩
  ·simp at N
  ·obtain⟨a,b,_,v,P⟩:=n x d (mem_of_lookup E);refine⟨a,b,?_,v,P⟩;rintro rfl;exact l<|by simp only[aY,aM,b3];exact .inr ⟨_,mem_of_lookup E,rfl⟩
 ·refine aI (R2 W) λj F w=>?_;have o:scope.names[i]?.map (·.1)=ac x:=by simpa[Cx.ns] using H
  rw[ba] at o;refine aI o λS U V=>?_;obtain⟨y,k⟩:=S;subst V;unfold k5 at F;rw[bZ,U] at F;refine bD (cL<|al F) λs F=>?_;obtain rfl:=eq_of_beq s;have u:=br U;have f:=mR (gv h).2.1 u;refine bD (Do T h y u) λB S=>be S λc P=>?_;refine aI (GB T h y f) λD J R=>?_;rcases t j y p (QC F) w with ⟨q,_⟩|⟨_,d,v,g,r,e⟩
  ·rw[B] at q;cases q
  ·rw[R] at g;obtain rfl:=al g;refine .inr ⟨.inl ?_,D,v,J,r,e⟩
   (refine ah (tj ..)<|f▸?_)
   simp[u1,T.fe.kind,B]
theorem NI {one:Bool} (h:jl Y scope=aq) (U:Os scope.names R f one):∀j∈f,(rK V<|k5 Y scope.names)[j]?=ac none:=by
 have a:∀(x:an) (i:Nat),lC scope.names x=ac i->(rK V<|k5 Y scope.names)[i]?=ac none:=λx i D=>by
  refine bD (cL D) λhk D=>aI (l4.mp D) λt J _=>?_;have b:=eq_of_beq J;have s:scope.names.lookup x=ac scope.names[i].2:=mR (gv h).2.1<|by exact(b)▸hZ t
  have C:scope.names[i].2=.local:=by
   rcases(gL _ _).mp hk with hk|hk
   ·exact al<|ah s.symm<|eq_of_beq hk
   ·exact absurd rfl ((gv h).2.2 x _ (mem_lookup<|eq_of_beq hk)).1
  unfold rK k5
  (refine ah bZ ?_;refine(af bZ)▸?_;refine(aP t)▸?_)
  show ac (G7 (gd (scope.names[i].2==.free)<|Y.loc _) _)=_;refine C▸?_;rfl
 induction U with
 |one x G i D=>exactλj F=>(aV.mp F)▸a x i D
 |tup u k G f D=>obtain⟨l,_,rfl,C⟩:=ul u f D;intro j F;refine aI (b3.mp F) λq L S=>?_;subst S;exact a _ _ (C q L)
section
variable {KF K:aO}
theorem Inv.afx (N:Inv KF K O H M h) (g:K a=am) (z:a∉O) (G:∀b o,b≠a->h.get? b=ac o->h'.get? b=ac o) (Y:∀e∈M,∀L,e.frame=ac L->L≠a):Inv KF K O H M h':=
 ⟨N.par,N.stat,λb o e=>G b o (by rintro rfl;rw[g] at e;exact aE e)<|N.sub b o e,N.kf,
  ⟨N.kM.len,N.kM.nodup,λi b l D C=>by
   obtain⟨k,o,n,U,e,s,u,j⟩:=N.kM.at_ i b l D C
   exact⟨k,o,n,U,G b o (by rintro rfl;exact z<|br D) e,s,u,j⟩⟩,
  ⟨λZ J=>by
   obtain⟨k,L,o,f,v,m,e,fo,fr⟩:=N.stk.all Z J
   exact⟨k,L,o,f,v,m,G L o (Y Z J L f) e,fo,fr⟩⟩⟩
theorem Inv.frames (N:Inv KF K O H M h) (S:h.get? a=am):∀e∈M,∀L,e.frame=ac L->L≠a:=λe J L B q=>by refine nu ?_;intro c;obtain⟨_,d,o,f,_,_,b,_⟩:=N.stk.all e J;rw[f] at B;obtain rfl:=al B;subst q;rw[S] at b;exact aE b
end
theorem Step.gk {K k:aO} (x:Step W K O g k J h₁) (S:g.get? D=fS) (G:k D=fS):Step W K O g (Internal.gk k D o) J h₁:=
 ⟨x.par,(λa B e=>by
  have m:=x.kle a B e;rw[db]
  ·exact m
  ·rintro rfl;rw[G] at m;exact aE m),
   (λa B e=>by
    by_cases q:a=D
    ·subst q;exact .inr S
    ·rw[db q] at e;exact x.new a B e),x.pre,x.there,x.keep,x.frs⟩
theorem Iy {K:aO} (G:K D=am) (z:bV K O r U):VR (gk K D {cls:=.type "list",dict:=am,data:=.seq (ag U) k,slots:=#[]}) O (.lst r) (.ref D):=by
 refine⟨D,_,k,U,rfl,fv _ _ _,⟨rfl,rfl,rfl⟩,rfl,?_⟩
 have:=rH (K:=K) (K':=gk K D {cls:=.type "list",dict:=am,data:=.seq (ag U) k,slots:=#[]}) (Q:=[]) rfl (λa o e=>by
  rw[db]
  ·exact e
  ·rintro rfl;rw[G] at e;exact aE e) r U z
 simpa using this
def tO (V:bO) (k:List (Option Nat)) (f:List Nat) (one:Bool) (a:bO->IM Bool) (d:bO->IM PV):PV->IM (Option PV):=qV (rK V k) f one a d
def DL (scope:rU) (Z:mh) (C:bn):Env:=A4 scope (uv Z.cells scope.names []) C Z
def D3 (w:dG) (X:aO) (n:Nat) (Y:Cx) (Z:mh) (scope:rU) (v:List bL) (a:bO->IM Bool):Prop:=∀C Q,aa Q=aa scope.names->aj w X [] n (aT (DL scope Z C) (Oq Y scope).ns Q) (a Q) (Lg)
 (forIn v aq λc r=>if r=aq then do let g <-pZ c (DL scope Z C) (iC c<|DL scope Z C);pure (fg g) else pure (fg r))
def Lh (w:dG) (X:aO) (n:Nat) (Y:Cx) (Z:mh) (scope:rU) (A:bL) (d:bO->IM PV):Prop:=∀C Q,aa Q=aa scope.names->aj w X [] n (aT (DL scope Z C) (Oq Y scope).ns Q) (d Q) fi (iC A<|DL scope Z C)
theorem ww (m:a∈aY (DL scope env C)):a=C\/a∈aY env:=
 (aM.mp m).elim .inl λm=>aI (b3.mp m) λx z e=>(zX _ _ _ _ _ z).elim (λq=>absurd q aZ) λq=>.inr<|bc _ (b3.mpr ⟨_,mem_of_lookup q.2,e⟩)
theorem ND {one:Bool} (T:dk X Y env) (z:jl Y scope=aq)
 (U:Os scope.names tgt is one)
 (hc:D3 w X n Y env scope ifs cM) (he:Lh w X n Y env scope elt d)
 (ha:kA n A M) {K K₁:aO} {O dU:List bn} {H g Hf:Hp} {p:PV} {v:Value} {L r:List PV} (N:Inv X K O H M s.heap) (dL:Step [] K O s.heap K₁ dU s₁.heap) (h:Inv X K₁ dU g M s₁.heap)
 (c₀:aT env Y.ns V K O s.heap) (j:aT env Y.ns V K₁ dU s₁.heap) (hv:VR K₁ dU p v) (eL:ev p g=.ok L g) (B:aa L<=16777216) (eX:aW s s₁)
 (e:iJ (tO V (k5 Y scope.names) is one cM d) L [] g=.ok r Hf) {use:Option (Value->jN Unit)} {Q:Value->bj->Prop} {E:Value->bj->Prop}
 (hR:∀C D F K' l r i,iJ (tO V (k5 Y scope.names) is one cM d) L [] g=.ok r i->s.heap.get? C=am->C∉aY env->K' C=am->C∉l->(∃m,F.heap.Ns C m)->Step [] K O s.heap K' l F.heap->Inv X K' l i M F.heap->aT env Y.ns V K' l F.heap->VR K' l (.lst r) (.ref D)->aW s F->
  Wn (MM w) A E use Q (.ref D) C (.ok .next) F):
 aD (MM w) A (JI v) (λit s₂=>aD (MM w) A (abv []) (λS s₃=>
  aD (MM w) A (JJ scope env.globals (uv env.cells scope.names []) [] env.qual am .none<|ac env) (λcenv s₄=>
   nJ (MM w) A (.compStart (.ListComp elt [⟨tgt,iter,ifs,0⟩] scope G) 0 it S {cenv with scope:=relabel scope env}) (Wn (MM w) A E use Q S cenv.locals) s₄) E s₃) E s₂) E s₁:=by
 refine wo h hv eL λfp P J o Z ci hfr=>?_;generalize Rc:s₁.heap.objs.size=I at Z ci;have gI:s.heap.get? I=none:=dL.none<|by exact(Rc)▸bX _
 have s1I:s₁.heap.get? I=none:=by exact(Rc)▸bX _
 refine yw ?_ (by decide);refine wpAny_newFunctionEnv (λx hxm=>((gv z).2.2 x.1 x.2 hxm).1) (by simp) (λh' hns hsb=>?_) (gv z).1;dsimp only at hns hsb|-
 have kp1:de s₁.heap (s₁.heap.push o):=Ar _ _;generalize hh2:s₁.heap.push o=h2 at*;have hDs:h2.objs.size=I+1:=by(refine(hh2)▸ah (jk ..) ?_;rw[Rc])
 generalize u:h2.objs.size=D at*;generalize hh3:h2.push {cls:=.type "list",data:=.seq (ag ([]:List Value))}=y at*;have hCs:y.objs.size=D+1:=by(refine(hh3)▸ah (jk ..) ?_;rw[u])
 generalize hC:y.objs.size=C at*;have hDI:D≠I:=hDs▸rM I;have hCD:C≠D:=hCs▸rM D;have hCI:C≠I:=pg<|hCs▸hDs▸iV (kG I)
 have k23:∀b o,h2.get? b=ac o->y.get? b=ac o:=λb o e=>by exact(hh3)▸aR _ e
 have hD3:y.get? D=ac {cls:=.type "list",data:=.seq (ag ([]:List Value))}:=by(refine(hh3)▸(u)▸?_);exact b6 _ rfl
 have k3:∀b o,y.get? b=ac o->h'.get? b=ac o:=λb o e=>hsb.extBut b o (by exact(hC)▸eU (dS e))<|aR _ e
 have k2:∀b o,h2.get? b=ac o->h'.get? b=ac o:=λb o e=>k3 b o<|k23 b o e
 have c:Inv X K₁ dU g M h2:=h.keep kp1;have c2:aT env Y.ns V K₁ dU h2:=dw _ _ _ _ _ _ j kp1.step;have s2D:h2.get? D=none:=by exact(u)▸bX _
 have s3C:y.get? C=none:=by exact(hC)▸bX _
 have s2C:h2.get? C=none:=by
  cases q:h2.get? C with
  |none=>rfl
  |some o=>have:=k23 _ _ q;rw[s3C] at this;exact aE this
 have st2:Step [] K O s.heap K₁ dU h2:=dL.trans kp1.step;have gD:s.heap.get? D=none:=st2.none s2D;have gC:s.heap.get? C=none:=st2.none s2C;have kpA:de h2 h':=.of_keeps k2;have At:Inv X K₁ dU g M h':=c.keep kpA;have c':aT env Y.ns V K₁ dU h':=dw _ _ _ _ _ _ c2 kpA.step;have kC:K₁ C=none:=c.cO s2C;have mC:C∉dU:=c.dY s2C;have kD:K₁ D=none:=c.cO s2D;have mD:D∉dU:=c.dY s2D;have t:C∉aY env:=λq=>aI (lP c2 q) λoa ea _=>aE<|ah s2C.symm ea
 have hDf:D∉aY env:=λq=>aI (lP c2 q) λoa ea _=>aE<|ah s2D.symm ea
 have hcx:=vJ (C:=C) T z;have cc:=NH T z hns kC mC t c';have adR:I∉aY env:=λq=>aI (lP j q) λoa ea _=>aE<|ah s1I.symm ea
 have ci':=vZ Z (W:=[]) (by simp) (by simp) _ _ _ _ _ _ ci (kpA.step);have ca':xX D [] K₁ dU h':=⟨[],0,k3 D _ hD3,eA,kD,mD⟩;have hIw:I∉aY (DL scope env C):=λq=>(ww q).elim (λr=>hCI r.symm) adR;have hDw:D∉aY (DL scope env C):=λq=>(ww q).elim (λr=>hCD r.symm) hDf;have aiq:∀a∈fp,a∉aY (DL scope env C):=λa m q=>(ci.2.2.2.1 a m).elim (λe=>hIw<|e▸q) λx=>aI x λo' k' _=>(ww q).elim (λr=>aE<|ah kC.symm<|r▸k') λr=>aI (lP c2 r) λ_ _ k0=>aE<|ah k0.symm k'
 have aiG:D∉fp:=λm=>(ci.2.2.2.1 D m).elim hDI λx=>aI x λo' k' _=>aE<|ah kD.symm k'
 have st':Step [] K O s.heap K₁ dU h':=st2.trans kpA.step
 have loop:∀s₄:bj,s₄.heap=h'->aW s s₄->nJ (MM w) A (.compLoop (.ListComp elt [⟨tgt,iter,ifs,0⟩] scope G) 0 (.ref I) (.ref D)<|A4 scope (uv env.cells scope.names []) C env) (Wn (MM w) A E use Q (.ref D) C) s₄:=by
  intro s₄ R so4
  refine NC hcx U (λx q=>((gv z).2.2 x _ (mem_lookup q)).1 rfl) (by simp[rK,k5]) (NI z U) (hc C) (he C) Z ha
   (by exact(af R)▸At) (by refine(af R)▸?_;exact cc) (by refine(af R)▸?_;exact ci') (by refine(af R)▸?_;exact ca') hIw aiq hDw hDI aiG e (by simpa using B) gI gD gC (by rw[R];exact st') λF K' l x5 H5 e5 st5 iv5 c5 ca5 so5=>?_
  refine nu ?_;intro amR;refine AV ca5 λvs k eD rs kD5 mD5=>?_;cases c5 with|mk m5 hn5 kC5 mC5 _ _=>?_
  have iv6:=iv5.freeze eD kD5 mD5 λf=>absurd f.1<|by simp
  have st6:=st5.gk (o:={cls:=.type "list",dict:=am,data:=.seq (ag vs) k,slots:=#[]}) gD kD5;exact hR C D F _ l x5 H5 (ah e e5.symm) gC t (ah (db hCD) kC5) mC5 ⟨m5,hn5⟩ st6 iv6 (dw _ _ _ _ _ _ c₀ st6) (Iy kD5 rs) (so4.trans so5)
 exact codeAny_compStart_list (loop _ rfl (eX.trans ⟨rfl,rfl⟩))<|(Z.walks A ha.hd).self 0 _ _ _ ci'.1 (loop _ rfl (eX.trans ⟨rfl,rfl⟩))
theorem aev.{p,d,c,e,q} {j:Sort p} {l:Sort d} {m:Sort c} {n:Sort e} {o:Sort q} {a b f g i:j->l->m->n->o->Prop} {G:Prop} (h:∃x,∃y,∃z,∃u,∃v,a x y z u v/\b x y z u v/\f x y z u v/\g x y z u v/\i x y z u v) (k:∀x y z u v,a x y z u v->b x y z u v->f x y z u v->g x y z u v->i x y z u v->G):G:=h.elim λx h=>h.elim λy h=>h.elim λz h=>h.elim λu h=>h.elim λv h=>k x y z u v h.1 h.2.1 h.2.2.1 h.2.2.2.1 h.2.2.2.2
theorem P8 (h:dt a H=.ok b H'):a=b/\H=H':=by cases h;exact⟨rfl,rfl⟩
theorem Vn (h:(.exc a H:kg Z)=.exc b H'):a=b/\H=H':=by cases h;exact⟨rfl,rfl⟩
def sH (E:IM PV) (f:PV->IM (Option PV)):IM PV:=ax (ax E ev) λl=>if aa l<=16777216 then ax (iJ f l []) λr=>ay (.lst r) else aQ
theorem qW (Y:∀p H q i,f p H≠.exc q i):∀l S H q i,iJ f l S H≠.exc q i
 |[],S,H,q,i=>by rw[qY];intro e;cases e
 |p::l,S,H,q,i=>by
  rw[Gw,f0]
  cases e:f p H with
  |ok r s=>cases r with
   |none=>exact qW Y l S s q i
   |some x=>exact qW Y l (S++[x]) s q i
  |exc j s=>exact absurd e<|Y _ _ _ _
  |stuck=>intro e;cases e
theorem Qm:g4 m H≠.exc q H':=by unfold g4;cases m H<;>nofun
theorem Gx {one:Bool} (p H q H'):tO V k f one a d p H≠.exc q H':=by
 unfold tO qV
 cases f9 (rK V k) f one p with
 |none=>intro e;cases e
 |some Q=>exact Qm
theorem M1 (z:jl Y scope=aq):∀x∈scope.names,x.2=.local->scope.names.lookup x.1=ac .local:=λx T h=>mR (gv z).2.1<|by exact(h)▸T
theorem NE {E:IM PV} (Y:∀p H q i,f p H≠.exc q i) (h:sH E f H≠.stuck):
 (∃q i,E H=.exc q i/\sH E f H=.exc q i)\/∃p g L r Hf,E H=.ok p g/\ev p g=.ok L g/\aa L<=16777216/\iJ f L [] g=.ok r Hf/\sH E f H=.ok (.lst r) Hf:=by
 unfold sH at h|-
 rw[f0,f0] at h|-
 cases e:E H with
 |stuck=>rw[e] at h;exact absurd rfl h
 |exc q i=>exact .inl ⟨q,i,rfl,rfl⟩
 |ok p g=>
  rw[e] at h;dsimp only at h|-
  have D:ev p g≠.stuck:=λq=>by rw[q] at h;exact absurd rfl h
  refine be (BG D) λL a=>?_;rw[a] at h;refine a▸?_;dsimp only at h|-
  by_cases B:aa L<=16777216
  ·rw[if_pos B] at h|-
   rw[f0] at h|-
   cases Z:iJ f L [] g with
   |stuck=>rw[Z] at h;exact absurd rfl h
   |exc q i=>exact absurd Z<|qW Y _ _ _ _ _
   |ok r Hf=>exact .inr ⟨p,g,L,r,Hf,rfl,a,B,Z,rfl⟩
  ·rw[if_neg B] at h;exact absurd rfl h
section
variable {one:Bool}
theorem zT (T:dk X Y Z) (hok:jl Y scope=aq) (U:Os scope.names R f one) (hns:∀es k p,iter≠.Set es k p) (hi:aj w X [] n (aT Z Y.ns V) whole fi (iC iter Z))
 (hc:D3 w X n Y Z scope ifs cM) (he:Lh w X n Y Z scope elt d) {K:aO} (I:kA n A M) (N:Inv X K O H M s.heap) (c:aT Z Y.ns V K O s.heap) (eo:sH whole (tO V (k5 Y scope.names) f one cM d) H=o) (ho:o≠.stuck)
 (hq:∀C D F j l r i,o=.ok (.lst r) i->s.heap.get? C=am->C∉aY Z->j C=am->C∉l->(∃m,F.heap.Ns C m)->Step [] K O s.heap j l F.heap->Inv X j l i M F.heap->aT Z Y.ns V j l F.heap->VR j l (.lst r) (.ref D)->aW s F->Wn (MM w) A E use Q (.ref D) C (.ok .next) F)
 (hE:∀p i j l y F,o=.exc p i->Step [] K O s.heap j l F.heap->Inv X j l i M F.heap->kh s.heap j l p y F.heap->aW s F->E y F):
 aD (MM w) A (comprehension (.ListComp elt [⟨R,iter,ifs,0⟩] scope G) scope Z (firstIterPos [⟨R,iter,ifs,0⟩] G) (abv []) (firstAsync [⟨R,iter,ifs,0⟩]) (firstIter [⟨R,iter,ifs,0⟩] Z) use) Q E s:=by
 have hwh:whole H≠.stuck:=λq=>ho<|ah eo.symm<|by unfold sH;rw[f0,f0,q]
 have b:=NE (λp H q i=>Gx p H q i) λq=>ho<|ah eo.symm q
 rw[eo] at b;refine wpAny_comprehension_free rfl (ss hns) (Je λx hm=>(Do T hok x hm).2) (gv hok).1 (M1 hok) ?_;show aD _ A (iC iter Z) _ _ s;refine xS ?_;intro amI;refine a0 ((hi.keep dw) A s K O H M I N c hwh) (λv u z=>?_) λy u z=>?_
 ·cases z with|mk p g K₁ J ep dL fL hv eX=>?_
  refine b.elim (λh=>?_) λh=>?_
  ·refine iI h λq i P _=>?_;rw[ep] at P;cases P
  ·refine aev h λp' a L r Hf P eL B eg ef=>?_;have e2:=P8<|ah ep.symm P
   rw[<-e2.1,<-e2.2] at eL;rw[<-e2.2] at eg;exact ND T hok U hc he I N dL fL c hv.1 hv.2 eL B eX eg λC D F j l r' i er gC t kC mC hn st At c' e S=>hq C D F j l r' i (ah ef (by have W:=P8<|ah eg.symm er;(refine W.1▸?_;rw[W.2]))) gC t kC mC hn st At c' e S
 ·cases z with|mk p g K₁ J ep dL fL hex eX=>?_
  refine b.elim (λh=>?_) λh=>?_
  ·refine iI h λq i P ee=>?_;have e2:=Vn<|ah ep.symm P
   exact hE p g K₁ J y u (by(refine e2.1▸e2.2▸?_);exact ee) dL fL hex eX
  ·refine aev h λp' a L r Hf P _ _ _ _=>?_;rw[ep] at P;cases P
theorem Jc (T:dk X Y Z) (z:jl Y scope=aq)
 (U:Os scope.names R f one) (h:∀u k p,iter≠.Set u k p) (hi:aj w X [] n (aT Z Y.ns V) E fi (iC iter Z))
 (hc:D3 w X n Y Z scope v a) (J:Lh w X n Y Z scope Q d):
 aj w X [] n (aT Z Y.ns V) (sH E<|tO V (k5 Y scope.names) f one a d) fi (iC (.ListComp Q [⟨R,iter,v,0⟩] scope pos) Z):=by
 intro A s K O H M I N c L;refine kW (eval_ListComp ..)<|zT T z U h hi hc J I N c rfl L (λC D s' j l r i eo q t g x F st P c' hvr S=>?_) λp i j l y s' eo st P hex S=>⟨p,i,j,l,eo,st,P,hex,S⟩
 refine be F λm F=>⟨m,F,λW hs=>?_⟩;have G:∀b o,b≠C->s'.heap.get? b=ac o->W.get? b=ac o:=λb o B e=>ah (hs.2 b B) e;exact⟨.lst r,i,j,l,eo,st.sN q G,P.afx g x G<|N.frames q,hvr,S.trans ⟨rfl,rfl⟩⟩
theorem Gy (T:dk X cx Z) (z:jl cx scope=aq)
 (U:Os scope.names R f one) (h:∀es k p,iter≠.Set es k p) (hi:aj w X [] n (aT Z cx.ns V) E fi (iC iter Z))
 (hc:D3 w X n cx Z scope v cM) (J:Lh w X n cx Z scope elt d)
 (htg:GS cx Z W V x i) (g:Z.locals∈W) (hWf:∀a∈W,a∈aY Z):
 aj w X W n (aT Z cx.ns V) (ax (sH E<|tO V (k5 cx scope.names) f one cM d) λp=>ay<|V.set i<|ac p) (λQ _=>aT Z cx.ns Q)
  (comprehension (.ListComp elt [⟨R,iter,v,0⟩] scope pos) scope Z (firstIterPos [⟨R,iter,v,0⟩] pos) (abv []) (firstAsync [⟨R,iter,v,0⟩]) (firstIter [⟨R,iter,v,0⟩] Z)<|ac<|assign (.Name x xpos) Z):=by
 intro A s K O H M I N c L;have e0:=f0 (sH E<|tO V (k5 cx scope.names) f one cM d) (λp=>ay<|V.set i<|ac p) H;generalize ax (sH E<|tO V (k5 cx scope.names) f one cM d) (λp=>ay<|V.set i<|ac p) H=o at e0 L|-
 refine xS ?_;intro akQ;refine zT T z U h hi hc J I N c rfl (λq=>L<|ah e0<|by rw[q]) (λC D s' j l r H' eo gC hCf kC mC F st P c' hvr S=>?_) λp H' j l y s' eo st P hex S=>⟨p,H',j,l,ah e0 (by rw[eo]),st.mono Ii,P,hex,S⟩;have e1:o=.ok (V.set i<|ac<|.lst r) H':=ah e0<|by refine eo▸?_;rfl
 refine be F λm F=>?_;show aD _ A (assign (.Name x xpos) Z<|.ref D) _ _ s';refine(qu T htg g).run I P ⟨c',hvr⟩ rfl λu s₃ kz t Y jx c₃ ip=>?_;have hCW:C∉W:=λq=>hCf<|hWf _ q
 refine sF (id F) λoC _ _ eC _=>?_;have st4:=(st.mono Ii).trans Y;refine⟨m,Y.ns F mC hCW,λh'' hs=>?_⟩;have G:∀b o,b≠C->s₃.heap.get? b=ac o->h''.get? b=ac o:=λb o B e=>ah (hs.2 b B) e;exact⟨V.set i<|ac<|.lst r,H',kz,t,e1,st4.sN gC G,jx.afx (Y.lH kC eC) (Y.lG mC eC) G<|N.frames gC,c₃.but G hCf,S.trans<|ip.trans ⟨rfl,rfl⟩⟩
end
section
variable (w:dG) (KF:aO) (n:Nat) (jI:on)
def bK (e:bL):Prop:=∀(Y:Cx) (Z:mh) (V:bO) (F:Bool),dk KF Y Z->aj w KF [] n (aT Z Y.ns V) (bp jI (bR Y F e) V) fi (iC e Z)
def iP (e:bL):Prop:=∀(Y:Cx) (Z:mh) (V:bO) (F:Bool),dk KF Y Z->aj w KF [] n (aT Z Y.ns V) (j6 jI (bR Y F e) V<|bp jI (bR Y F e) V) (Lg) (pZ e Z<|iC e Z)
structure j2:Prop where
 fn:∀a,(∃o fd,KF a=ac o/\o.data=.func fd)\/∀args,jI a args=aQ
 call:∀a args vs,aj w KF [] n (kq args vs) (jI a args) fi (call (.ref a) vs [])
end
theorem dD (G env):∀u,u.any isStarred=ai->D9 G (rl u env)=(u.map λe=>iC e env).map λt=>(ai,t)
 |[],_=>rfl
 |e::r,h=>by
  simp only[vP,nV] at h;have o:=dD G env r h.2
  have:rl (e::r) env=(ai,iC e env)::rl r env:=by rcases e<;>first|rfl|(exact nomatch h.1)
  rw[this];unfold D9 at o|-
  rw[bv,o];rfl
theorem KU (Y V):∀u,ol B (pN Y u) V=Pz (u.map λe=>bp B (bR Y ai e) V)
 |[]=>rfl
 |e::r=>congrArg (λm=>ax (bp B (bR Y ai e) V) λa=>ax m λk=>ay<|a::k)<|KU Y V r
theorem qq (T:dk X Y Z) (d:u.any isStarred=ai) (h:∀e∈u,bK w X n B e):
 aj w X [] n (aT Z Y.ns V) (ol B (pN Y u) V) kq (gG<|D9 G<|rl u Z):=by
 rw[dD G Z u d,KU];refine pP dw _ _ (by rw[aC,aC]) λi m t z U=>?_;rw[bZ,ba] at z U;refine aI z λe J S=>?_;subst S;refine aI U λR H S=>?_;subst S;rw[J] at H;obtain rfl:=al H;exact h e (br J) Y Z V ai T
noncomputable def sj (c:CE):Bool:=by
 cases c
 case not=>exact aq
 case bool=>exact aq
 case fm=>exact aq
 case cmp=>exact aq
 all_goals exact ai
theorem Nm (h:sj c=ai) (V m):j6 B c V m=ax m gW:=by rcases c<;>first|rfl|cases h
theorem EN (h:aj w X [] n C m fi t):aj w X [] n C (ax m gW) (Lg (Z:=Bool)) (t>>=λv=>f7 G>>=λ_=>dK [v]<|wO v):=
 ct h λp v=>bA<|jO<|qK p v
theorem NP (T:dk X Y Z) (C:bK w X n B l) (d:bK w X n B r):
 aj w X [] n (aT Z Y.ns V) (bp B (bR Y F<|.BinOp l I r G) V) fi (iC (.BinOp l I r G) Z):=by
 rw[arm_eval_BinOp];exact cw (C Y Z V ai T) dw λa f=>cw (((d Y Z V ai T).weak λ_ _ _ c=>c.1).holding) (dw.and<|cb a f) λb R=>bA<|Ez<|(Mp F I a b f R).weak λ_ _ _ c=>⟨c.1.2,c.2⟩
theorem Mt (T:dk X Y Z) (h:bK w X n B x):
 aj w X [] n (aT Z Y.ns V) (ax (bp B (bR Y F x) V) Zp) fi (iC (.UnaryOp .USub x G) Z):=by
 rw[af3];exact ct (h Y Z V F T) λp v=>bA<|jO<|Ik p v
theorem Ms (T:dk X Y Z) (h:bK w X n B x):
 aj w X [] n (aT Z Y.ns V) (ax (bp B (bR Y F x) V) λp=>ax (gW p) λb=>ay<|.bool<|!b) fi (iC (.UnaryOp .Not x G) Z):=by
 rw[af3];refine ct (h Y Z V F T) λp v=>bA<|jO ?_
 have R:aj w X [] n (λK O _=>VR K O p v) (ax (gW p) λb=>ay<|.bool<|!b) fi (wO v>>=λb=>jh<|ni<|!b):=
  ct (qK p v) λb r=>gg λK O g e=>by subst e;exact tx
 unfold unaryOp;exact jO R
theorem MW (T:dk X Y Z) (U:iP w X n B t) (I:bK w X n B a) (W:bK w X n B b):
 aj w X [] n (aT Z Y.ns V) (ax (j6 B (bR Y ai t) V<|bp B (bR Y ai t) V) λc=>if c then bp B (bR Y ai a) V else bp B (bR Y ai b) V) fi (iC (.IfExp t a b G) Z):=by
 rw[arm_eval_IfExp];refine cw (U Y Z V ai T) dw λc r=>?_;intro A s K O H M P N ⟨j,e⟩ L;subst e;cases c
 ·exact W Y Z V ai T A s K O H M P N j L
 ·exact I Y Z V ai T A s K O H M P N j L
theorem IS (T:dk X Y Z) (U:iP w X n B t) (I:iP w X n B a) (W:iP w X n B b):
 aj w X [] n (aT Z Y.ns V) (ax (j6 B (bR Y ai t) V<|bp B (bR Y ai t) V) λc=>if c then j6 B (bR Y ai a) V (bp B (bR Y ai a) V) else j6 B (bR Y ai b) V (bp B (bR Y ai b) V)) (Lg) (pZ (.IfExp t a b G) Z f):=by
 rw[arm_isTrue_IfExp];refine cw (U Y Z V ai T) dw λc r=>?_;intro A s K O H M P N ⟨j,e⟩ L;subst e;cases c
 ·exact W Y Z V ai T A s K O H M P N j L
 ·exact I Y Z V ai T A s K O H M P N j L
theorem LF (T:dk X Y Z) (d:u.any isStarred=ai) (h:∀e∈u,bK w X n B e):
 aj w X [] n (aT Z Y.ns V) (ax (ol B (pN Y u) V) λl=>if aa l<=16777216 then ay (.tup l) else aQ) fi (iC (.Tuple u k G) Z):=by
 rw[ajG];exact bA<|ct (qq T d h) λz U=>sf z U
theorem IC (T:dk X Y Z) (d:u.any isStarred=ai) (h:∀e∈u,bK w X n B e):
 aj w X [] n (aT Z Y.ns V) (ax (ol B (pN Y u) V) λl=>if aa l<=16777216 then lL F l else aQ) fi (iC (.List u G) Z):=by
 rw[arm_eval_List];exact bA<|ct (qq T d h) λz U=>AP F z U
theorem LR (y:KF.P=w.params) (T:dk KF Y Z) (L:bK w KF n B o) (D:bK w KF n B i):
 aj w KF [] n (aT Z Y.ns V) (ax (bp B (bR Y ai o) V) λa=>ax (bp B (bR Y ai i) V) λb=>uW a b) fi (iC (.Subscript o i G) Z):=by
 rw[JM];exact cw (L Y Z V ai T) dw λa f=>cw (((D Y Z V ai T).weak λ_ _ _ c=>c.1).holding) (dw.and<|cb a f) λb R=>bA<|(HB y o i a b f R).weak λ_ _ _ c=>⟨c.1.2,c.2⟩
theorem IM.bind_assoc (m) (f:Z->IM u) (g:u->IM z):ax (ax m f) g=ax m λa=>ax (f a) g:=by funext H;show(match (match m H with|.ok a i=>f a i|.exc p i=>.exc p i|.stuck=>.stuck) with|.ok a i=>g a i|.exc p i=>.exc p i|.stuck=>.stuck)=_;refine(af (f0 ..))▸?_;cases m H<;>rfl
theorem aj.ac9 {g:Z->z} (x:aj w X W n C m R t) (h:∀a v K O k,R a v K O k->I (g a) v K O k):aj w X W n C (ax m λa=>ay<|g a) I t:=
 λA s K O H M Y N c L=>a0 (x A s K O H M Y N c λe=>L<|by(refine ah (f0 ..) ?_;rw[e])) (λv F q=>zd.casesOn q λy i j l e st P d S=>⟨g y,i,j,l,by(refine ah (f0 ..)<|e▸?_);rfl,st,P,h _ _ _ _ _ d,S⟩) λv F r=>yq.casesOn r λp i j l e T o b f=>⟨p,i,j,l,by(refine ah (f0 ..) ?_;rw[e]),T,o,b,f⟩
theorem zx (m a b r q):aj w X [] n (λK O _=>VR K O a r/\VR K O b q) (bG (Fs b) λ_=>isM m a) rA (i7 (if m then .IsNot else .Is) r q):=
 eR λ_ e A s K O H M I N c L=>by obtain rfl:=Fq e;obtain rfl:=(c.2);exact MV m a r A s K O H M I N c.1 L
theorem uu (I:WB) (a b) (r q:Value):aj w X [] n (λK O _=>VR K O a r/\VR K O b q) (lS I a b) rA (i7 I r q):=by
 induction I with
 |Eq=>exact(Gi a b r q ai).post λx v _ _ _ h=>ah h<|congrArg ni<|pK x
 |NotEq=>exact(Gi a b r q aq).ac9 λx v _ _ _ h=>ah h<|congrArg ni<|vR x
 |In=>exact BK ai a b r q
 |NotIn=>exact BK aq a b r q
 |Is=>exact zx ai a b r q
 |IsNot=>exact zx aq a b r q
 |Lt=>exact qP .Lt a b r q
 |LtE=>exact qP .LtE a b r q
 |Gt=>exact qP .Gt a b r q
 |GtE=>exact qP .GtE a b r q
theorem My (h:e.ctorIdx≠7):markedBehindIn I e t=t:=
 markedBehindIn_of_false (by rcases e<;>first|rfl|exact absurd rfl h)
theorem O6 (h:e.ctorIdx=7):bR Y F e=.bad:=Expr.Set.elim e h λ_ _ _=>rfl
theorem TB (Y):pN Y []=[]:=rfl
theorem O5 (Y e r):pN Y (e::r)=bR Y ai e::pN Y r:=rfl
theorem pR (h:Q () s) (U f):aD M A (SK U f) Q E s:=by
 unfold SK;generalize U.filter _=l
 induction l with
 |nil=>exact av h
 |cons x r o=>
  induction r with
  |nil=>exact av h
  |cons y r=>
   rw[release.go]
   ·exact ak<|a9<|mW o
   ·intro e;cases e
theorem YV {e:PV->IM Bool} {F:Value->jN Value} (l:fI [] C) (d:aj w X [] n C g fi t)
 (S:∀b R,aj w X [] n (λK O h=>C K O h/\VR K O b R) (e b) rA<|F R):
 aj w X [] n (λK O h=>C K O h/\VR K O a f) (ax g λb=>ax (lS I a b) λc=>if c then e b else ay ai) rA
  (dK [f] t>>=λo=>f7 G>>=λ_=>dK [f,o] (i7 I f o)>>=λc=>SK [f,o] [c]>>=λ_=>dK [c,o] (wO c)>>=λb=>if b=aq then F o else jh c):=by
 refine cw ((d.weak λ_ _ _ c=>c.1).holding) (l.and<|cb a f) λb R=>bA<|cw (((uu I a b f R).weak λ_ _ _ c=>⟨c.1.2,c.2⟩).holding) ((l.and<|cb a f).and<|cb b R) λc i=>Aq () (λA Q E s h=>pR h _ _) ?_
 intro A s K O H M P N j L;obtain rfl:=(j.2);refine ak<|a9<|i9 ?_
 cases c with
 |true=>exact S b R A s K O H M P N ⟨j.1.1.1,j.1.2⟩ L
 |false=>exact av ⟨ai,H,K,O,rfl,iT ..,N,rfl,.refl s⟩
theorem YW {e:PV->IM Bool} {F:Value->jN Bool} (l:fI [] C) (d:aj w X [] n C g fi t)
 (S:∀b R,aj w X [] n (λK O h=>C K O h/\VR K O b R) (e b) (Lg)<|F R):
 aj w X [] n (λK O h=>C K O h/\VR K O a f) (ax g λb=>ax (lS I a b) λc=>if c then e b else ay ai) (Lg)
  (dK [f] t>>=λo=>f7 G>>=λ_=>dK [f,o] (i7 I f o)>>=λc=>SK [f,o] [c]>>=λ_=>dK [c,o] (wO c)>>=λb=>if b=aq then F o else jh ai):=by
 refine cw ((d.weak λ_ _ _ c=>c.1).holding) (l.and<|cb a f) λb R=>bA<|cw (((uu I a b f R).weak λ_ _ _ c=>⟨c.1.2,c.2⟩).holding) ((l.and<|cb a f).and<|cb b R) λc i=>Aq () (λA Q E s h=>pR h _ _) ?_
 intro A s K O H M P N j L;obtain rfl:=(j.2);refine ak<|a9<|i9 ?_
 cases c with
 |true=>exact S b R A s K O H M P N ⟨j.1.1.1,j.1.2⟩ L
 |false=>exact av ⟨ai,H,K,O,rfl,iT ..,N,rfl,.refl s⟩
theorem GA (T:dk X Y Z) (W):∀z,(∀e∈z,bK w X n B e)->∀a f,
 aj w X [] n (λK O h=>aT Z Y.ns V K O h/\VR K O a f) (py B a W (pN Y z) V) rA (compareChain G f W<|aaU W z<|tE z Z)/\
 aj w X [] n (λK O h=>aT Z Y.ns V K O h/\VR K O a f) (py B a W (pN Y z) V) (Lg) (testChain G f W<|aaU W z<|tE z Z):=by
 induction W with
 |nil=>
  intro z _ a f
  induction z with
  |nil=>exact⟨bf,bf⟩
  |cons r z=>exact⟨bf,bf⟩
 |cons I W o=>
  intro z h a f
  cases z with
  |nil=>exact⟨bf,bf⟩
  |cons r z=>
   have d:=(h r bd) Y Z V ai T
   cases W with
   |cons p W=>
    have o:=o z λe m=>h e<|bc _ m
    exact⟨(YV dw d λb R=>(o b R).1).eqT (by rcases z<;>rfl),(YW dw d λb R=>(o b R).2).eqT<|by rcases z<;>rfl⟩
   |nil=>cases z with
    |cons u z=>exact⟨bf,bf⟩
    |nil=>
     by_cases g:r.ctorIdx=7
     ·have e:py B a [I] (pN Y [r]) V=aQ:=ah (congrArg (λc=>ax (bp B c V) λb=>lS I a b)<|O6 g) rfl;exact e▸⟨bf,bf⟩
     ·have D:aaU [I] [r] (tE [r] Z)=[iC r Z]:=congrArg (λt=>[t]) (My g);refine D▸?_;have Q:∀b R,aj w X [] n (λK O h=>(aT Z Y.ns V K O h/\VR K O a f)/\fi b R K O h) (lS I a b) rA (PySem.operate [f,R]<|i7 I f R):=λb R=>Ez<|(uu I a b f R).weak λ_ _ _ c=>⟨c.1.2,c.2⟩
      have J:=(d.weak (C:=λK O h=>aT Z Y.ns V K O h/\VR K O a f) λ_ _ _ c=>c.1).holding (U:=[f]);refine⟨cw J (dw.and<|cb a f) λb R=>bA<|Q b R,cw J (dw.and<|cb a f) λb R=>bA ?_⟩;intro A s K O H M E N c L
      exact ak (a0 (Q b R A s K O H M E N c L) (λx F k=>zd.casesOn k λy i j l e st P d S=>by
       cases d
       exact a9<|i9 ⟨y,i,j,l,e,st,P,rfl,S⟩) λ_ _ y=>y)
open IM renaming bind_assoc->pL
set_option backward.match.sparseCases true
theorem Sq {I:BoolOp} (h:aj w X [] n C m R x) (f:aj w X [] n C D R y):
 aj w X [] n (λK O g=>C K O g/\Lg b t K O g) (if b=(I==.And) then m else D) R (match I,t with|.And,ai|.Or,aq=>y|_,_=>x):=by
 intro A s K O H M P N j L;obtain rfl:=(j.2)
 induction I with
 |And=>cases b with
  |false=>exact f A s K O H M P N j.1 L
  |true=>exact h A s K O H M P N j.1 L
 |Or=>cases b with
  |false=>exact h A s K O H M P N j.1 L
  |true=>exact f A s K O H M P N j.1 L
theorem GJ {G:oq} (T:dk X Y Z):∀U,(∀e∈U,bK w X n B e)->
 aj w X [] n (aT Z Y.ns V) (I1 B (I==.And) (pN Y U) V) fi (boolOp G I<|tE U Z):=by
 intro U
 induction U with
 |nil=>exactλ_=>bf
 |cons x r o=>
  intro h;have N:=h x bd Y Z V ai T
  induction r with
  |nil=>exact N
  |cons y r=>exact cw N dw λp v=>bA<|cw (((qK p v).weak λ_ _ _ c=>c.2).holding) (dw.and<|cb p v) λb t=>Sq ((o λe J=>h e<|bc _ J).weak λ_ _ _ c=>c.1)<|gg λK O g c=>c.2
theorem GK {V:bO} (T:dk X Y Z):∀U,(∀e∈U,iP w X n B e)->
 aj w X [] n (aT Z Y.ns V) (pA B (I==.And) (pN Y U) V) (Lg) (allTrue I U Z):=by
 intro U
 induction U with
 |nil=>exactλ_=>by exact(arm_allTrue_nil ..)▸gg λ_ _ _ _=>rfl
 |cons x r o=>intro h;refine(arm_allTrue_cons ..)▸?_;refine cw (h x bd Y Z V ai T) dw λb t=>?_;exact(Sq (o λe J=>h e<|bc _ J)<|gg λ_ _ _ _=>rfl).eqT<|by rcases I<;>rcases t<;>rfl
theorem wg (T:dk X Y Z) (o) (h:∀e,o=ac e->bK w X n B e):aj w X [] n (aT Z Y.ns V) (bp B (G5 Y o) V) fi (valueOrNone<|evalOpt o Z):=by
 induction o with
 |none=>exact gg λ_ _ _ _=>rh
 |some e=>exact h e rfl Y Z V ai T
theorem E2 {lo D st:Option bL} (T:dk X Y Z) (L:bK w X n B o) (J:∀e,lo=ac e->bK w X n B e) (R:∀e,D=ac e->bK w X n B e)
 (y:∀e,st=ac e->bK w X n B e):
 aj w X [] n (aT Z Y.ns V) (ax (bp B (bR Y ai o) V) λa=>ax (bp B (G5 Y lo) V) λl=>ax (bp B (G5 Y D) V) λh=>ax (bp B (G5 Y st) V) λs=>mq F a l h s) fi
  (iC (.Subscript o (.Slice lo D st i) G) Z):=by
 have e:(ax (bp B (bR Y ai o) V) λa=>ax (bp B (G5 Y lo) V) λl=>ax (bp B (G5 Y D) V) λh=>ax (bp B (G5 Y st) V) λs=>mq F a l h s)=
  ax (bp B (bR Y ai o) V) λa=>ax (ax (bp B (G5 Y lo) V) λl=>ax (bp B (G5 Y D) V) λh=>ax (bp B (G5 Y st) V) λs=>ay (l,h,s)) λx=>mq F a x.1 x.2.1 x.2.2:=by
  congr 1;funext a;simp only[pL];rfl
 (refine e▸(JM ..)▸?_)
 refine cw (L Y Z V ai T) dw λa f=>cw (v:=Wc) (jO ?_) (dw.and<|cb a f) λx g=>?_
 ·refine(arm_eval_Slice ..)▸?_;refine cw ((wg T lo J).weak λ_ _ _ c=>c.1) (dw.and<|cb a f) λl b=>?_;exact cw (((wg T D R).weak λ_ _ _ c=>c.1.1).holding) ((dw.and<|cb a f).and<|cb l b) λh d=>cw (((wg T st y).weak λ_ _ _ c=>c.1.1.1).holding) (((dw.and<|cb a f).and<|cb l b).and<|cb h d) λs z=>(zl (l,h,s) b d z).weak λ_ _ _ c=>⟨c.1.1.2,c.1.2,c.2⟩
 ·exact bA<|(CG F o (.Slice lo D st i) a x.1 x.2.1 x.2.2 f g).weak λ_ _ _ c=>⟨c.1.2,c.2⟩
theorem F7 (T:dk X Y Z) (S:Y.gl x=ac p) (g:(x==("__debug__":an))=ai):
 aj w X [] n (aT Z Y.ns V) (ay p) fi (iC (.Name x G) Z):=by
 have J:iC (.Name x G) Z=(f7 G>>=λ_=>rm Z x):=by(refine ah (yz ..)<|g▸?_);rfl
 refine J▸?_;exact bA<|zD T.fe (T.gi x (KN S).1)<|T.gl x p (KN S).2
theorem aaz {K:aO} (h:V2 p=ac b) (x:VR K O p v):Jx X v/\∀z U,aj w X W n (kq z U) (b z) fi (call v U):=by
 rcases pt h with h|h
 ·refine aI (bind_some h) λs d h=>?_;obtain rfl:=Ud d;subst x;exact⟨.inl ⟨_,rfl⟩,um (λs b=>∀z U,aj w X W n (kq z U) (b z) fi<|call (.builtin s) U) Sf (dn IE<|dn Iv<|dn Ip<|dn Jw<|dn HA<|dn Jv<|dn Jg<|dn Df trivial) h⟩
 ·refine aI (bind_some h) λs d h=>?_;obtain rfl:=P0 d;subst x;exact⟨.inr<|.inl ⟨_,rfl⟩,um (λs b=>∀z U,aj w X W n (kq z U) (b z) fi<|call (.type s) U) WH (dn DN<|dn IQ<|dn HF<|dn Ct<|dn FL<|dn CN trivial) h⟩
set_option backward.match.sparseCases false
theorem pG {R:PV->Value->xz} (hC:fI [] C) (T:dk X Y Z) (S:Y.gl x=ac p) (g:(x==("__debug__":an))=ai)
 (d:D.any isStarred=ai) (i:∀e∈D,bK w X n B e)
 (hF:∀(K:aO) (O:List bn) (v:Value),VR K O p v->(Jx X v/\∀z U,aj w X [] n (λK O h=>C K O h/\bV K O z U) (F z) R<|call v U [])\/∀z,F z=aQ):
 aj w X [] n (λK O h=>aT Z Y.ns V K O h/\C K O h) (ax (ol B (pN Y D) V) F) R (iC (.Call (.Name x r) D [] G) Z):=by
 rw[dN];show aj w X [] n _ _ _ (iC (.Name x r) Z>>=λf=>iL G f [] (D9 G<|rl D Z) []);have hn:=F7 (w:=w) (n:=n) (V:=V) (G:=r) T S g;have o:ax (ol B (pN Y D) V) F=ax (ay p) λ_=>ax (ol B (pN Y D) V) F:=rfl;rw[o];have m:=qq (G:=G) (V:=V) T d i;rw[dD G Z D d] at m|-
 intro A s K O H M I N c L;have b:=dw (Z:=Z) (U:=Y.ns) (V:=V) |>.and hC
 refine ak<|((hn.weak λ_ _ _ c=>c.1).keep b).run I N c (show(ay p:IM PV) H=.ok p H from rfl) λv u k J E Q q l=>bD q λj hv=>?_
 have m:=m.weak (C:=λK O h=>aT Z Y.ns V K O h/\C K O h) λ_ _ _ c=>c.1
 have y:aj w X [] n (λK O h=>aT Z Y.ns V K O h/\C K O h) (ax (ol B (pN Y D) V) F) R (iL G v [] ((D.map λe=>iC e Z).map λt=>(ai,t)) []):=by
  rcases hF k J v hv with ⟨W,P⟩|hst
  ·exact sK b W m λz U=>(P z U).weak λ_ _ _ c=>⟨c.1.2,c.2⟩
  ·unfold iL;refine ct (v:=λ_ _ _ _ _=>True) ((sy m).post λ_ _ _ _ _ _=>trivial).holding λz a=>?_;rw[hst z];exact bf
 exact(y A u k J H M I Q j).step E l L
theorem GD (L:j2 w X n B) (T:dk X Y Z) (S:Y.gl x=ac (.ref a)) (g:(x==("__debug__":an))=ai)
 (d:D.any isStarred=ai) (i:∀e∈D,bK w X n B e):
 aj w X [] n (aT Z Y.ns V) (ax (ol B (pN Y D) V) λl=>B a l) fi (iC (.Call (.Name x r) D [] G) Z):=
 (pG fI.true T S g d i λK O v t=>by
  subst t;rcases L.fn a with ⟨o,fd,J,R⟩|h
  ·exact .inl ⟨.inr<|.inr ⟨a,o,fd,rfl,J,R⟩,λz U=>(L.call a z U).weak λ_ _ _ c=>c.2⟩
  ·exact .inr h).weak λ_ _ _ c=>⟨c,trivial⟩
theorem GF (T:dk X Y Z) (S:Y.gl x=ac p) (W:V2 p=ac b) (g:(x==("__debug__":an))=ai)
 (d:D.any isStarred=ai) (i:∀e∈D,bK w X n B e):
 aj w X [] n (aT Z Y.ns V) (ax (ol B (pN Y D) V) b) fi (iC (.Call (.Name x r) D [] G) Z):=
 (pG fI.true T S g d i λK O v t=>by
  exact bD (aaz W t) λJ R=>.inl ⟨J,λz U=>(R z U).weak λ_ _ _ c=>c.2⟩).weak λ_ _ _ c=>⟨c,trivial⟩
theorem rf (h:Dj o=ai):attributeBase o a Z wh=wh:=by
 rcases o<;>first|rfl|skip
 rename_i f D C p;rcases f<;>first|rfl|skip
 rcases D<;>first|rfl|skip
 rcases C<;>first|rfl|skip
 exact nomatch h
theorem Iq (T:dk X Y Z) (z:Zq x=ac O) (u:(E.endLine==G.line)=aq) (J:aa D<=29)
 (U:Dj o=ai) (L:bK w X n B o) (d:D.any isStarred=ai) (i:∀e∈D,bK w X n B e):
 aj w X [] n (aT Z Y.ns V) (ax (bp B (bR Y ai o) V) λp=>Bz O p<|ol B (pN Y D) V) fi (iC (.Call (.Attribute o x E) D [] G) Z):=by
 refine bD (ac8 (w:=w) (X:=X) (W:=[]) (n:=n) z) λS b=>?_;rw[N4,rf U,dD G Z D d];refine cw (L Y Z V ai T) dw λp v=>bA ?_;have m:=qq (G:=G) (V:=V) T d i;rw[dD G Z D d] at m;have R:=wl (o:=o) (Z:=Z) dw S b u (by rw[aC];exact Nat.lt_succ_of_le J) m p v;have e:aa (D.map λe=>iC e Z)=aa D+aa ([]:List abC):=aC ..;rw[e] at R;exact R
structure sS (w:dG) (KF:aO) (n:Nat) (jI:on):Prop where
 heap:∀(cx:Cx) (env:mh) (σ:bO) (o:bL) (pos:oq),dk KF cx env->Dh o=aq->bK w KF n jI o->aj w KF [] n (aT env cx.ns σ) (ax (bp jI (bR cx ai o) σ) Q7) fi (iC (.Attribute o "heap" pos) env)
 xV:∀(cx:Cx) (env:mh) (σ:bO) (ks:List (Option bL)) (vs:List bL) (kp vp:List PV) (x d:bL) (p1 p2 p3:oq),dk KF cx env->ks.mapM oO=ac kp->vs.mapM oN=ac vp->Ja kp vp=aq->isStarred x=ai->isStarred d=ai->
  (p2.endLine==p3.line)=aq->bK w KF n jI x->bK w KF n jI d->
  aj w KF [] n (aT env cx.ns σ) (bp jI (.xV kp vp (bR cx ai x)<|bR cx ai d) σ) fi (iC (.Call (.Attribute (.Dict ks vs p1) "get" p2) [x,d] [] p3) env)
theorem F6 (h:bK w X n B e) (D:∀Y F,sj (bR Y F e)=ai) (U:∀Z f,pZ e Z f=(f>>=λv=>f7 e.pos>>=λ_=>dK [v]<|wO v)):iP w X n B e:=
 λY Z V F T=>by
  (refine(Nm (D Y F) ..)▸(U ..)▸?_)
  exact EN<|h Y Z V F T
theorem vr (h:∀Y F,bR Y F e=.bad) (U:∀Z f,pZ e Z f=(f>>=λv=>f7 e.pos>>=λ_=>dK [v]<|wO v)):bK w X n B e/\iP w X n B e:=by
 have J:bK w X n B e:=λY Z V F T=>by exact(h ..)▸bf
 exact⟨J,F6 J (λY F=>by refine(h ..)▸?_;rfl) U⟩
theorem uT (h:∀c,o=ac c->sj c=ai):sj (Av o)=false:=by
 cases o with
 |none=>rfl
 |some c=>exact h c rfl
theorem O3 (Y x):sj (Av<|Qt Y x)=false:=uT λc h=>by
 rcases pt (cL h).2 with h|h
 ·refine aI (map_some h) λi _ S=>?_;subst S;rfl
 ·refine aI (map_some h) λi _ S=>?_;subst S;rfl
inductive tV (cx:Cx) (args:List bL) (pos:oq):bL->CE->Prop
 |f (x:an) (p:oq) (a:bn) (d:tN x=aq) (g:cx.gl x=ac (.ref a)):tV cx args pos (.Name x p) (.aA a (pN cx args))
 |b (x:an) (p:oq) (q:PV) (b:BF) (d:tN x=aq) (g:cx.gl x=ac q) (h:V2 q=ac b):tV cx args pos (.Name x p) (.bw b (pN cx args))
 |m (o:bL) (m:MN) (x:an) (p:oq) (hm:Zq x=ac m) (l:(p.endLine==pos.line)=aq) (h:Dj o=ai):tV cx args pos (.Attribute o x p) (.gj m (bR cx ai o) (pN cx args))
 |g (ks:List (Option bL)) (vs:List bL) (q p:oq) (kp vp:List PV) (x d:bL) (l:(p.endLine==pos.line)=aq) (h1:ks.mapM oO=ac kp) (h2:vs.mapM oN=ac vp) (h3:Ja kp vp=aq) (e:args=[x,d]):
    tV cx args pos (.Attribute (.Dict ks vs q) "get" p) (.xV kp vp (bR cx ai x)<|bR cx ai d)
theorem R4 (h:XH Y x (pN Y D)=ac c):tV Y D G (.Name x p) c:=by
 refine bD (cL h) λd h=>aI (bind_some h) λq g h=>?_;rcases pt h with h|h
 ·refine aI (map_some h) λa e S=>?_;subst S;obtain rfl:=u3 e;exact .f x p a d g
 ·refine aI (map_some h) λb e S=>?_;subst S;exact .b x p q b d g e
theorem TA (h:two (pN Y D)=ac y):∃x d,D=[x,d]/\y=(bR Y ai x,bR Y ai d):=by
 cases D with|nil=>exact aE h|cons a l=>?_
 cases l with|nil=>exact aE h|cons b l=>?_
 cases l with
 |nil=>exact⟨a,b,rfl,af<|al h⟩
 |cons f l=>exact aE h
theorem QA (h:W6 o O (p.endLine==G.line) (bR Y ai o) (pN Y D)=ac c):tV Y D G (.Attribute o O p) c:=by
 refine bD (cL h) λl h=>?_;rcases pt h with h|h
 ·refine aI (bind_some h) λm z h=>bD (cL h) λB h=>?_;obtain rfl:=al h;exact .m o m O p z l<|u8 B
 ·refine bD (cL h) λF h=>?_;obtain rfl:=eq_of_beq F;refine aI (bind_some h) λd W h=>aI (bind_some h) λr J h=>aI (bind_some h) λH R h=>aI (bind_some h) λy X h=>?_;refine bD (cL h) λZ h=>?_;obtain rfl:=al h;refine iI (TA X) λx N e S=>?_;subst S;refine(RM W)▸?_;exact .g _ _ _ _ _ _ x N l J R Z e
theorem Jj (L:j2 w X n B) (s:sS w X n B) (i:∀e∈D,bK w X n B e)
 (Q:∀o O E,f=.Attribute o O E->bK w X n B o) (T:dk X Y Z) (W:D.any isStarred=ai) (J:aa D<=29) (h:tV Y D G f c):
 aj w X [] n (aT Z Y.ns V) (bp B c V) fi (iC (.Call f D [] G) Z):=by
 induction h with
 |f x p a d g=>exact GD L T g (se d) W i
 |b x p q b d g h=>exact GF T g h (se d) W i
 |m o m x p z l h=>exact Iq T z l J h (Q _ _ _ rfl) W i
 |g j U q p r H x d l S R y e=>subst e;have W:=(nV.mp W);exact s.xV Y Z V j U r H x d q p G T S R y W.1 (nV.mp W.2).1 l (i x bd)<|i d<|bc _ bd
theorem GR (h:So D C=aq):D.any isStarred=ai/\C=[]/\aa D<=29:=
 ⟨u8 (ia (ia h).1).1,kt.mp (ia (ia h).1).2,of_decide_eq_true (ia h).2⟩
theorem GE (h:XG Y f (O7 Y f) (pN Y D) G=ac c):tV Y D G f c:=by
 cases f with
 |Name x p=>exact R4 h
 |Attribute o O p=>exact QA h
 |_=>exact aE h
theorem tV.tst {f:bL} (h:tV Y D G f c):sj c=false:=by rcases h<;>rfl
theorem NK (L:j2 w X n B) (s:sS w X n B) (i:∀e∈D,bK w X n B e)
 (Y:∀o O E,f=.Attribute o O E->bK w X n B o):bK w X n B (.Call f D C G):=by
 intro R Z V F T;refine Em λc h=>bD (cL h) λU W=>?_;refine i8 (GR U) λd S J=>?_;subst S;exact Jj L s i Y T d J<|GE W
theorem w4 (Z):∀v:List bL,(forIn v ai λc r=>if r=aq then do let g <-pZ c Z (iC c Z);pure (fg g) else pure (fg r):jN Bool)=pure ai
 |[]=>rfl
 |e::r=>by exact ah (cC ..)<|w4 Z r
theorem w3 (T:dk X Y Z):∀v,(∀e∈v,iP w X n B e)->
 aj w X [] n (aT Z Y.ns V) (xq B (pN Y v) V) (Lg) (forIn v aq λc r=>if r=aq then do let g <-pZ c Z (iC c Z);pure (fg g) else pure (fg r)):=by
 intro v
 induction v with
 |nil=>exactλ_=>gg λ_ _ _ _=>rfl
 |cons e r o=>
  intro h;rw[cC];have u:=(h e bd) Y Z V ai T;refine cw ((G2 (f:=id) (I:=λ(a:Bool) (x:ForInStep Bool) _ _ _=>x=.yield a) u λa b _ _ _ e=>by refine e▸?_;rfl).zL<|by funext H;show _=ax _ _ H;refine(f0 ..)▸?_;cases j6 B (bR Y ai e) V (bp B (bR Y ai e) V) H<;>rfl) dw λb x=>?_;intro A s K O H M P N d L;refine bD d λc W=>?_;cases W
  induction b with
  |true=>exact o (λe m=>h e<|bc _ m) A s K O H M P N c L
  |false=>show aD _ _ (forIn r ai _) _ _ _;exact kW (w4 ..)<|av ⟨ai,H,K,O,rfl,iT ..,N,rfl,.refl s⟩
theorem ur (h:sm c=ai) (V m):rJ B c V m=ax m ev:=by rcases c<;>first|rfl|cases h
inductive XS (cx:Cx) (elt:bL) (scope:rU):List Oj->CE->Prop
 |mk (tgt iter:bL) (ifs:List bL) (is:List Nat) (one:Bool) (hs:(iter.ctorIdx !=7)=aq) (he:sm (bR cx ai iter)=ai) (hok:jl cx scope=aq) (ht:Os scope.names tgt is one):
  XS cx elt scope [⟨tgt,iter,ifs,0⟩] (.comp (bR (Oq cx scope) ai elt) (bR cx ai iter) (k5 cx scope.names) is one<|pN (Oq cx scope) ifs)
theorem zU (h:K3 Y scope (bR (Oq Y scope) ai A) (toG Y (Oq Y scope) M)=ac c):XS Y A scope M c:=by
 refine aI (bind_some h) λx T h=>bD (cL h) λz h=>?_;refine aI (map_some h) λt U S=>?_;subst S
 cases M with
 |nil=>exact aE T
 |cons g e=>cases e with
  |cons Z e=>obtain⟨a,b,c,d⟩:=g;exact aE T
  |nil=>obtain⟨R,iter,v,a⟩:=g;refine bD (cL T) λP T=>?_;obtain rfl:=al T;refine bD (ia P) λI J=>bD (ia I) λI X=>?_;obtain rfl:=eq_of_beq I;exact .mk R iter v t.1 t.2 X (u8 J) z<|ES U
theorem K2 {one:Bool} (J:sm iter=ai):bp B (.comp A iter k f one v) V=sH (bp B iter V) (tO V k f one (λQ=>xq B v Q) λQ=>bp B A Q):=
 congrArg (λm=>ax m _) (ur J V _)
theorem BZ (j:bK w X n B A) (S:∀R iter v a,M=[⟨R,iter,v,a⟩]->bK w X n B iter/\∀e∈v,iP w X n B e):
 bK w X n B (.ListComp A M scope G):=by
 intro Y Z V F T;refine Em λc h=>?_
 cases zU h with
 |mk R iter v f one d J z U=>
  exact bD (S _ _ _ _ rfl) λD l=>(Jc T z U (Il d) (D Y Z V ai T)
   (λC Q _=>w3 (vJ T z) v l) λC Q _=>j _ _ Q ai (vJ T z)).zL<|K2 J
section
variable {w:dG} {KF:aO} {n:Nat} {jI:on}
theorem wm {e:bL} (h:bK w KF n jI e) (D:∀Y F,sj (bR Y F e)=ai) (U:∀Z f,pZ e Z f=(f>>=λv=>f7 e.pos>>=λ_=>dK [v]<|wO v)):bK w KF n jI e/\iP w KF n jI e:=⟨h,F6 h D U⟩
def XQ (w:dG) (KF:aO) (n:Nat) (jI:on) (e:bL):Prop:=(∀lo D st g,e=.Slice lo D st g->(∀x,lo=ac x->bK w KF n jI x)/\(∀x,D=ac x->bK w KF n jI x)/\∀x,st=ac x->bK w KF n jI x)/\
 ∀o O p,e=.Attribute o O p->bK w KF n jI o
abbrev Lf (w:dG) (KF:aO) (n:Nat) (jI:on) (e:bL):Prop:=(bK w KF n jI e/\iP w KF n jI e)/\XQ w KF n jI e
theorem pk {e:bL} (h:bK w KF n jI e/\iP w KF n jI e) (d:(e.ctorIdx !=26&&e.ctorIdx !=20)=aq):Lf w KF n jI e:=
 ⟨h,dn (λlo D st g q=>by rw[q] at d;cases d) λo O p q=>by rw[q] at d;cases d⟩
theorem mE {e:bL} (h:∀Y F,bR Y F e=.bad) (U:∀Z f,pZ e Z f=(f>>=λv=>f7 e.pos>>=λ_=>dK [v]<|wO v)) (d:(e.ctorIdx !=26&&e.ctorIdx !=20)=aq):Lf w KF n jI e:=pk (vr h U) d
theorem pv {e:bL} (h:bK w KF n jI e) (D:∀Y F,sj (bR Y F e)=ai) (U:∀Z f,pZ e Z f=(f>>=λv=>f7 e.pos>>=λ_=>dK [v]<|wO v)) (d:(e.ctorIdx !=26&&e.ctorIdx !=20)=aq):Lf w KF n jI e:=pk (wm h D U) d
inductive afK (cx:Cx):bL->CE×CE×CE->Prop
 |mk (lo hi st:Option bL) (p:oq):afK cx (.Slice lo hi st p) (G5 cx lo,G5 cx hi,G5 cx st)
theorem O4 {Y:Cx} {i:bL} {x:CE×CE×CE} (h:J9 Y i=ac x):afK Y i x:=by
 cases i with
 |Slice lo D st p=>obtain rfl:=al h;exact .mk lo D st p
 |_=>exact aE h
theorem Ph (X:KF.P=w.params) {o i:bL} {p:oq} (L:bK w KF n jI o) (D:bK w KF n jI i) (d:XQ w KF n jI i):bK w KF n jI (.Subscript o i p):=by
 intro Y Z V F T;show aj w KF [] n _ (bp jI (Pk F (bR Y ai o) (J9 Y i)<|bR Y ai i) V) _ _
 cases e:J9 Y i with
 |none=>exact LR X T L D
 |some x=>
  cases O4 e with
  |mk lo A st g=>exact i8 (d.1 lo A st g rfl) λJ R y=>E2 T L J R y
theorem Tv (F:Bool) (o i:CE) (s:Option (CE×CE×CE)):sj (Pk F o s i)=false:=by rcases s<;>rfl
theorem NQ (s:sS w KF n jI) {o:bL} {O:an} {p:oq} (h:bK w KF n jI o):bK w KF n jI (.Attribute o O p):=by intro Y Z V F T;refine Em λc P=>bD (cL P) λJ P=>?_;obtain rfl:=al P;obtain rfl:=eq_of_beq (ia J).1;exact s.heap Y Z V o p T (ia J).2 h
theorem Hu {b:Bool} {c:CE} (h:sj c=ai):sj (Av<|gd b<|ac c)=false:=uT λd e=>by obtain rfl:=al<|(cL e).2;exact h
theorem E3 {u:List bL} {P:jN Value} {m:List PV->IM PV} {Y:Cx} {Z:mh} {V:bO} {c:CE} (h:u.any isStarred=ai->aj w KF [] n (aT Z Y.ns V) (bp jI c V) fi P):aj w KF [] n (aT Z Y.ns V) (bp jI (Av<|gd (!u.any isStarred)<|ac c) V) fi P:=
 Em λd e=>by obtain rfl:=al<|(cL e).2;exact h<|u8 (cL e).1
theorem Tq {I:UnaryOp} {x:bL} {p:oq} (h:bK w KF n jI x/\iP w KF n jI x):bK w KF n jI (.UnaryOp I x p)/\iP w KF n jI (.UnaryOp I x p):=by
 induction I with
 |USub=>exact wm (λY Z V F T=>Mt T h.1) (λY F=>rfl) λ_ _=>rfl
 |Not=>refine⟨λY Z V F T=>Ms T h.1,λY Z V F T=>?_⟩;refine(arm_isTrue_UnaryOp ..)▸?_;exact ct (h.2 Y Z V ai T) λb r=>gg λK O g e=>congrArg (!·) e
 |Invert=>exact vr (λY F=>rfl) λ_ _=>rfl
 |UAdd=>exact vr (λY F=>rfl) λ_ _=>rfl
theorem NO {I:BoolOp} {U:List bL} {p:oq} (h:∀e∈U,bK w KF n jI e/\iP w KF n jI e):bK w KF n jI (.BoolOp I U p)/\iP w KF n jI (.BoolOp I U p):=
 ⟨λY Z V F T=>by exact(arm_eval_BoolOp ..)▸GJ T U λe J=>(h e J).1,λY Z V F T=>by exact(arm_isTrue_BoolOp ..)▸GK T U λe J=>(h e J).2⟩
theorem RX {l:bL} {W:List WB} {z:List bL} {p:oq} (C:bK w KF n jI l) (d:∀e∈z,bK w KF n jI e/\iP w KF n jI e):bK w KF n jI (.Compare l W z p)/\iP w KF n jI (.Compare l W z p):=by
 have R:=λ(Y:Cx) (Z:mh) (V:bO) (T:dk KF Y Z)=>GA (G:=p) (V:=V) T W z λe J=>(d e J).1;refine⟨λY Z V F T=>?_,λY Z V F T=>?_⟩
 ·rw[arm_eval_Compare];exact cw (C Y Z V ai T) dw λa f=>(R Y Z V T a f).1.ac9 λb v K O g e=>by rw[show v=ni b from e];exact tx
 ·refine(arm_isTrue_Compare ..)▸?_;exact cw (C Y Z V ai T) dw λa f=>(R Y Z V T a f).2
mutual
theorem jU (y:KF.P=w.params) (L:j2 w KF n jI) (s:sS w KF n jI):∀e:bL,Lf w KF n jI e
 |.Constant c k p=>pv (λY Z V F T=>Em λd h=>by refine aI (map_some h) λq X S=>?_;subst S;exact Gs X) (λY F=>uT λd h=>by refine aI (map_some h) λq X S=>?_;subst S;rfl) (λ_ _=>rfl) rfl
 |.Name x p=>pv (λY Z V F T=>Io T jI) (λY F=>O3 Y x) (λ_ _=>rfl) rfl
 |.BinOp l I r p=>pv (λY Z V F T=>NP T (jU y L s l).1.1 (jU y L s r).1.1) (λY F=>rfl) (λ_ _=>rfl) rfl
 |.UnaryOp I x p=>pk (Tq (jU y L s x).1) rfl
 |.BoolOp I U p=>pk (NO<|zB y L s U) rfl
 |.IfExp t a b p=>pk ⟨λY Z V F T=>MW T (jU y L s t).1.2 (jU y L s a).1.1 (jU y L s b).1.1,λY Z V F T=>IS T (jU y L s t).1.2 (jU y L s a).1.2 (jU y L s b).1.2⟩ rfl
 |.Compare l W z p=>pk (RX (jU y L s l).1.1<|zB y L s z) rfl
 |.Tuple u k p=>pv (λY Z V F T=>E3 (m:=ay∘WE) λh=>LF T h λe J=>(zB y L s u e J).1) (λY F=>Hu rfl) (λ_ _=>rfl) rfl
 |.List u p=>pv (λY Z V F T=>E3 (m:=ay∘WE) λh=>IC T h λe J=>(zB y L s u e J).1) (λY F=>Hu rfl) (λ_ _=>rfl) rfl
 |.Subscript o i p=>pv (Ph y (jU y L s o).1.1 (jU y L s i).1.1 (jU y L s i).2) (λY F=>Tv F _ _ _) (λ_ _=>rfl) rfl
 |.Slice lo R st g=>⟨vr (λY F=>rfl) λ_ _=>rfl,dn (λa b c d q=>by cases q;exact⟨Rf y L s lo,Rf y L s R,Rf y L s st⟩) λ_ _ _ q=>nomatch q⟩
 |.Attribute o O p=>⟨wm (NQ s (jU y L s o).1.1) (λY F=>Hu rfl) λ_ _=>rfl,dn (λ_ _ _ _ q=>nomatch q) λB v j q=>by cases q;exact(jU y L s o).1.1⟩
 |.Call f D C p=>pv (NK L s (λe J=>(zB y L s D e J).1) λo O E q=>(jU y L s f).2.2 o O E q) (λY F=>uT λc h=>(GE (cL h).2).tst) (λ_ _=>rfl) rfl
 |.ListComp A M scope p=>pv (BZ (jU y L s A).1.1<|ad1 y L s M) (λY F=>uT λc h=>by cases zU h;rfl) (λ_ _=>rfl) rfl
 |.NamedExpr _ _ _=>mE (λY F=>rfl) (λ_ _=>rfl) rfl
 |.Lambda _ _ _ _=>mE (λY F=>rfl) (λ_ _=>rfl) rfl
 |.Dict _ _ _=>mE (λY F=>rfl) (λ_ _=>rfl) rfl
 |.Set _ _ _=>mE (λY F=>rfl) (λ_ _=>rfl) rfl
 |.SetComp _ _ _ _=>mE (λY F=>rfl) (λ_ _=>rfl) rfl
 |.DictComp _ _ _ _ _=>mE (λY F=>rfl) (λ_ _=>rfl) rfl
 |.GeneratorExp _ _ _ _=>mE (λY F=>rfl) (λ_ _=>rfl) rfl
 |.Await _ _=>mE (λY F=>rfl) (λ_ _=>rfl) rfl
 |.Yield _ _=>mE (λY F=>rfl) (λ_ _=>rfl) rfl
 |.YieldFrom _ _=>mE (λY F=>rfl) (λ_ _=>rfl) rfl
 |.FormattedValue _ _ _ _=>mE (λY F=>rfl) (λ_ _=>rfl) rfl
 |.JoinedStr _ _=>mE (λY F=>rfl) (λ_ _=>rfl) rfl
 |.Starred _ _=>mE (λY F=>rfl) (λ_ _=>rfl) rfl
theorem zB (y:KF.P=w.params) (L:j2 w KF n jI) (s:sS w KF n jI):∀l:List bL,∀e∈l,bK w KF n jI e/\iP w KF n jI e
 |[]=>λe J=>absurd J aZ
 |x::r=>λe J=>(aM.mp J).elim (λq=>q▸(jU y L s x).1)<|zB y L s r e
theorem Rf (y:KF.P=w.params) (L:j2 w KF n jI) (s:sS w KF n jI):∀o:Option bL,∀e,o=ac e->bK w KF n jI e
 |none=>λe J=>aE J
 |some x=>λe J=>al J▸(jU y L s x).1.1
theorem ad1 (y:KF.P=w.params) (L:j2 w KF n jI) (s:sS w KF n jI):∀l:List Oj,∀R iter v a,l=[⟨R,iter,v,a⟩]->bK w KF n jI iter/\∀e∈v,iP w KF n jI e
 |[]=>λ_ _ _ _ q=>nomatch q
 |⟨t,i,f,b⟩::r=>λR iter v a q=>by cases q;exact⟨(jU y L s i).1.1,λe J=>(zB y L s f e J).2⟩
end
end
section
variable (w:dG) (KF:aO) (n:Nat) (jI LM:on)
def mG (s:rL):Prop:=∀(Y:Cx) (Z:mh) (V:bO),dk KF Y Z->aa V=aa Y.names->aj w KF (aY Z) n (aT Z Y.ns V) (KT jI LM (YQ Y s) V) (iB Z Y) (N2 s Z)
def jq (l:List rL):Prop:=∀(Y:Cx) (Z:mh) (V:bO),dk KF Y Z->aa V=aa Y.names->aj w KF (aY Z) n (aT Z Y.ns V) (fY jI LM (mm Y l) V) (iB Z Y) (kr l Z)
end
theorem aj.K0 (h:∀c,o=ac c->aj w X W n C (KT B E c V) R t):aj w X W n C (KT B E (Internal.K0 o) V) R t:=by
 induction o with
 |none=>exact bf
 |some c=>exact h c rfl
theorem bK.kw (h:bK w X n B e) (T:dk X Y Z) (F):aj w X (aY Z) n (aT Z Y.ns V) (bp B (bR Y F e) V) (λq v K O g=>aT Z Y.ns V K O g/\fi q v K O g) (iC e Z):=
 ((h Y Z V F T).keep dw).widen Ii
theorem bK.kw2 (h:bK w X n B e) (u:fI [] D) (T:dk X Y Z) (F):aj w X (aY Z) n (λK O g=>aT Z Y.ns V K O g/\D K O g) (bp B (bR Y F e) V) (λq v K O g=>(aT Z Y.ns V K O g/\D K O g)/\fi q v K O g) (iC e Z):=
 (((h Y Z V F T).weak λ_ _ _ c=>c.1).keep<|dw.and u).widen Ii
theorem eQ (h:∀Y,YQ Y s=.bad):mG w X n B E s:=by intro Y Z V T C;exact(h ..)▸bf
theorem PI (h:bK w X n B e):mG w X n B E (.Return (ac e) p):=by intro Y Z V T C;refine(af0 ..)▸?_;exact bA<|ct (h.kw T _) λq v=>gg λK O g c=>⟨c.1,C,.ret c.2⟩
theorem Sd:mG w X n B E (.Break p):=by intro Y Z V T C;refine(arm_exec_Break ..)▸?_;exact bA<|gg λK O g c=>⟨c,C,.brk⟩
theorem Nz:mG w X n B E (.Continue p):=by intro Y Z V T C;refine(arm_exec_Continue ..)▸?_;exact bA<|gg λK O g c=>⟨c,C,.cont⟩
theorem UZ (U:iP w X n B t) (I:jq w X n B E a) (W:jq w X n B E b):mG w X n B E (.If t a b p):=by
 intro Y Z V T C;refine(exec_If ..)▸?_;show aj w X (aY Z) n _ (ax (j6 B (bR Y ai t) V<|bp B (bR Y ai t) V) λc=>if c then fY B E (mm Y a) V else fY B E (mm Y b) V) _ _;refine bA<|ct (((U Y Z V ai T).keep dw).widen Ii) λc r=>?_
 intro A s K O H M P N d L;refine bD d λj e=>?_;subst e;cases c
 ·exact W Y Z V T C A s K O H M P N j L
 ·exact I Y Z V T C A s K O H M P N j L
theorem Qo:jq w X n B E []:=λY Z V T C=>gg λK O g c=>⟨c,C,.next⟩
theorem NA (h:mG w X n B E s) (d:jq w X n B E r):jq w X n B E (s::r):=by
 intro Y Z V T C
 refine ct (m:=λx=>match x.1 with
  |.next=>fY B E (mm Y r) x.2
  |f=>ay (f,x.2)) (h Y Z V T C) λx f=>?_
 intro A st K O H M P N c L;obtain⟨W,G⟩:=x
 induction W with
 |next=>cases c.f;exact d Y Z G T c.l A st K O H M P N c.c L
 |brk=>cases c.f;exact av ⟨_,H,K,O,rfl,iT ..,N,c,.refl st⟩
 |cont=>cases c.f;exact av ⟨_,H,K,O,rfl,iT ..,N,c,.refl st⟩
 |ret q=>
  obtain⟨v,rfl⟩:∃v,f=.ret v:=by cases c.f;exact⟨_,rfl⟩
  exact av ⟨_,H,K,O,rfl,iT ..,N,c,.refl st⟩
theorem Hm (U:iP w X n B t) (I:jq w X n B E a):mG w X n B E (.While t a [] p):=
 λY Z V T C=>EJ (λQ _=>U Y Z Q ai T) (λQ F=>I Y Z Q T F) Ld V C
noncomputable def Di (e:bL):Bool:=e.ctorIdx==8||e.ctorIdx==9||e.ctorIdx==10
theorem yk (h:Di v=ai):Ou v t l Z=pure false:=by rcases v<;>first|rfl|cases h
theorem K1 (h:Di e=aq):e.ctorIdx=8\/∀Y F,bR Y F e=.bad:=by
 rcases(gL _ _).mp h with h|h
 ·rcases(gL _ _).mp h with h|h
  ·exact .inl<|eq_of_beq h
  ·exact .inr<|ahd e (eq_of_beq h) λ_ _ _ _ _ _=>rfl
 ·exact .inr<|agi e (eq_of_beq h) λ_ _ _ _ _ _ _=>rfl
theorem Bl {D:xz} (T:dk X Y Z) (C:aa V=aa Y.names) (U:lC Y.names x=ac i):
 aj w X (aY Z) n (λK O g=>(aT Z Y.ns V K O g/\D K O g)/\fi q v K O g) (ay (.next,V.set i<|ac q)) (iB Z Y) (JN Z x v>>=λ_=>jh l0):=by
 intro A s K O H M P N c L;refine ak<|(uB T (td T (λ_ _ _ m=>m) C U)<|hV Z).run P N ⟨c.1.1,c.2⟩ rfl λu W k J st h j S=>?_
 exact av ⟨_,H,k,J,rfl,st,h,⟨j,ah (d7 ..) C,.next⟩,S⟩
theorem vK (T:dk X Y Z) (C:aa V=aa Y.names) (D:lC Y.names x=ac i) (h:bK w X n B e) (F:Bool)
 (d:Ou e (ac<|.Name x W) p.line Z=pure ai):
 aj w X (aY Z) n (aT Z Y.ns V) (KT B E (.assign i<|bR Y F e) V) (iB Z Y) (N2 (.Assign [.Name x W] e p) Z):=by
 refine(exec_Assign_Name _ _ _ _ _ d)▸?_;exact bA<|ct (h.kw T F) λq v=>bA<|(Bl T C D).weak λ_ _ _ c=>⟨⟨c.1,trivial⟩,c.2⟩
open aj renaming K0->X9
theorem Jq (I:tG) (a b r q):aj w X [] n (λK O _=>VR K O a r/\VR K O b q) (aaC I a b) fi (inplaceOp I r q):=by
 refine dm λx e=>dm λy R=>?_;subst e R;rcases I<;>first|exact bf|skip
 ·refine bE λA s K O Q E _ _ _ _ c _ h=>?_;refine bD c λS Z=>be S λt V=>?_;subst V;refine be Z λu H=>?_;subst H;exact AutoIntOps.iadd_0<|h _ _ _ (.refl _) fC
 ·refine bE λA s K O Q E _ _ _ _ c _ h=>?_;refine bD c λS Z=>be S λt V=>?_;subst V;refine be Z λu H=>?_;subst H;exact AutoIntOps.isub_0<|h _ _ _ (.refl _) fC
 ·refine aj.Zo λd=>bE λA s K O Q E _ _ _ _ c _ h=>?_;rw[not_or] at d;refine bD c λS Z=>be S λt V=>?_;subst V;refine be Z λu H=>?_;subst H;exact AutoIntOps.ifloordiv_1 (by simpa using d.1) (by simpa using Eb (wU.mp d.2))<|h _ _ _ (.refl _) fC
theorem Iz (k:vN Z) (T:U[i]?=ac x) (G:Z.kindOf x=ac .local\/Z.kindOf x=ac .cell):
 aj w X [] n (aT Z U V) (IA V i) fi (rm Z x):=by
 refine eR λp W=>bE λA s K O Q E _ _ _ _ c _ h=>?_;obtain⟨m,F,_,_,_,t⟩:=c;rcases t i x p T (Ec.mp W) with ⟨a,v,b,c⟩|⟨a|a,c,v,b,d,e⟩
 ·exact wN k.kind a F b<|h _ _ s.toks (.refl _) c
 ·exact xY k.kind a b d<|h _ _ s.toks (.refl _) e
 ·rw[a] at G;rcases G with q|q<;>cases q
theorem Sj (h:bK w X n B e):mG w X n B E (.AugAssign t I e p):=by
 refineλY Z N T M=>X9 λc P=>?_
 refine aI (map_some P) λi Q S=>?_;subst S;refine aI (s8 Q) λS V Q=>?_;obtain⟨x,H⟩:=S;subst V;have U:=td T (λ_ _ _ m=>m) M Q;rw[exec_AugAssign_Name];have J:=((Iz (w:=w) (X:=X) (n:=n) (V:=N) T.fe U.1<|U.2.2.imp id And.left).keep dw).widen (W:=aY Z) Ii;refine bA<|ct J λa f=>?_
 refine ct ((h.kw2 (cb a f) T ai).holding (U:=[f])) λb R=>bA ?_;have y:=((((Jq (w:=w) (X:=X) (n:=n) I a b f R).weak (C:=λK O g=>(aT Z Y.ns N K O g/\fi a f K O g)/\fi b R K O g) λ_ _ _ c=>⟨c.1.2,c.2⟩).keep<|(dw.and<|cb a f).and<|cb b R).widen (W:=aY Z) Ii);exact ct (Ez y) λq v=>bA<|(Bl (D:=λ_ _ _=>True) T M Q).weak λ_ _ _ c=>⟨⟨c.1.1.1,trivial⟩,c.2⟩
theorem Rm (T:dk X Y Z) (C:aa V=aa Y.names) (D:bK w X n B j) (I:jq w X n B E a) (d:(j.ctorIdx !=7)=aq) (J:sm (bR Y ai j)=ai) (h:lC Y.names x=ac i):
 aj w X (aY Z) n (aT Z Y.ns V) (KT B E (.for [i] aq (bR Y ai j) (mm Y a)) V) (iB Z Y) (N2 (.For (.Name x W) j a [] p) Z):=
 (M9 T h (Il d) (λa h=>h) (λa h=>h) C (D Y Z V ai T) λQ F=>I Y Z Q T F).zL (congrArg (λm=>ax m λl=>g4<|iu (λQ p=>f9 Q [i] aq p) (λQ=>fY B E (mm Y a) Q) l V)<|ur J V _)
theorem Hx (A M scope G x W l Z):∃b,Ou (.ListComp A M scope G) (ac<|.Name x W) l Z=pure b:=⟨_,rfl⟩
theorem ny (m) (f:Z->u) (g:u->z):ax (ax m λa=>ay<|f a) (λb=>ay<|g b)=ax m λa=>ay (g<|f a):=pL m _ _
theorem DP (T:dk X Y Z) (U:aa V=aa Y.names) (D:lC Y.names x=ac i) (j:bK w X n B A) (S:∀R iter v a,M=[⟨R,iter,v,a⟩]->bK w X n B iter/\∀e∈v,iP w X n B e) (F):
 aj w X (aY Z) n (aT Z Y.ns V) (KT B E (.assign i<|bR Y F<|.ListComp A M scope G) V) (iB Z Y) (N2 (.Assign [.Name x W] (.ListComp A M scope G) p) Z):=by
 refine be (Hx A M scope G x W p.line Z) λb hb=>?_
 induction b with
 |false=>exact vK T U D (BZ j S) _ hb
 |true=>
  rw[exec_Assign_Name_used (hs:=hb)];refine bA ?_;show aj w X (aY Z) n (aT Z Y.ns V) (ax (bp B (Av<|K3 Y scope (bR (Oq Y scope) ai A)<|toG Y (Oq Y scope) M) V) λq=>ay (EA,V.set i<|ac q)) _ _
  cases hc:K3 Y scope (bR (Oq Y scope) ai A) (toG Y (Oq Y scope) M) with
  |none=>exact bf
  |some c=>
  cases zU hc with
  |mk R iter v is one d J z k=>
  refine bD (S _ _ _ _ rfl) λL l=>?_
  have N:=Gy (xpos:=W) (pos:=G) T z k (Il d) (L Y Z V ai T)
   (λC Q _=>w3 (vJ T z) v l) (λC Q _=>j _ _ Q ai (vJ T z)) (td T (λ_ _ _ m=>m) U D) (hV Z) λa h=>h
  have t:=N.res (P:=λQ=>aa Q=aa Y.names) λH a H' e=>by refine iI (n6 e) λq s _ e2=>?_;cases e2;exact ah (d7 ..) U
  have o:=G2 (g:=λ_:Value=>()) (I:=λ(Q:bO) (_:Unit) K O h=>aT Z Y.ns Q K O h/\aa Q=aa Y.names) t λQ u K O g c=>c;have y:=G2 (f:=λQ:bO=>(EA,Q)) (g:=λ_:Unit=>l0) (I:=iB Z Y) o λQ u K O g c=>⟨c.1,c.2,.next⟩;rw[arm_evalThenUse_ListComp];refine y.zL ?_;rw[ny,ny];exact congrArg (λm=>ax m λp=>ay (EA,V.set i<|ac p))<|K2 J
theorem nr (h:Z.scope.kind=.function):interactive Z=false:=by unfold interactive;rw[h];rfl
theorem Nj (h:bK w X n B e):mG w X n B E (.Expr e p):=by
 refineλY Z V T C=>X9 λc P=>bD (cL P) λf P=>?_
 obtain rfl:=al P
 cases L:Di e with
 |true=>rcases K1 L with q|q
        ·rw[q] at f;cases f
        ·rw[q];exact bf
 |false=>
  rw[Ak _ _ _ (nr T.fe.kind) (yk L)];refine bA<|ct (h.kw T ai) λq v=>?_
  exactλA s K O H M W N c U=>GW ⟨_,H,K,O,rfl,iT ..,N,⟨c.1,C,.next⟩,.refl s⟩
theorem bV.setAt {K:aO} (c:VR K O q u):∀{U} (j),bV K O l U->bV K O (l.set j q) (U.set j u):=by
 induction l with
 |nil=>exactλj h=>by subst h;exact eA
 |cons p l o=>
  intro U j h;refine cN h λv r S a b=>?_;subst S
  induction j with
  |zero=>exact b8 c b
  |succ j=>exact b8 a<|o j b
theorem AG (p i q v k u):aj w X W n (λK O _=>VR K O p v/\VR K O i k/\VR K O q u) (yX p i q) (λ_ _ _ _ _=>True) (setItem v k u):=by
 refine aj.sd λj e=>dm λz R=>?_;subst e R;intro A s K O H M I N b L;refine i8 b λc f Y=>aI c λa D e=>be f λt R=>?_;subst e R;dsimp only at L|-
 cases e:H[j]? with
 |none=>rw[e] at L;exact absurd rfl L
 |some l=>
  rw[e] at L;by_cases d:0<=z/\z<aa l/\aa l<=16777216
  ·obtain⟨_,o,m,B,R,V,g,Z⟩:=N.kM.at_ j a l D e;obtain rfl:=Kr V g;have J:=Z.length;have C:IsL s.heap a (ag B) m:=R;refine ki_setAt R d.1 (lZ d.2.1<|fW (dI.mpr d.2.2)<|by decide) (by(refine aS▸?_;refine J▸?_);exact d.2.1) ?_;have S:=C.update λxs=>xs.setIfInBounds z.toNat u;have P:=N.Px D (ds s.heap a<|fU λxs=>xs.setIfInBounds z.toNat u) S ⟨rfl,rfl,rfl⟩ (by rw[<-List.setIfInBounds_toArray])<|bV.setAt Y _ Z
   exact⟨(),_,K,O,if_pos d,CD (br D) (ds s.heap a _) ⟨_,S⟩,P,trivial,rfl,rfl⟩
  ·exact absurd (if_neg d) L
theorem CH (T:dk X Y Z) (hl:aa V=aa Y.names) (L:bK w X n B o) (D:bK w X n B i) (t:bK w X n B v):
 aj w X (aY Z) n (aT Z Y.ns V) (KT B E (.setItem (bR Y ai o) (bR Y ai i)<|bR Y ai v) V) (iB Z Y) (N2 (.Assign [.Subscript o i sp] v p) Z):=by
 rw[exec_Assign_Subscript _ _ _ _ _ (by rcases v<;>rfl)];refine bA<|ct (t.kw T ai) λq I=>?_
 refine(arm_assign_Subscript ..)▸?_;have G:=L.kw2 (V:=V) (cb q I) T ai
 have Q:∀a f,aj w X (aY Z) n (λK O g=>(aT Z Y.ns V K O g/\fi q I K O g)/\fi a f K O g) (bp B (bR Y ai i) V) (λb R K O g=>((aT Z Y.ns V K O g/\fi q I K O g)/\fi a f K O g)/\fi b R K O g) (iC i Z):=λa f=>(((D Y Z V ai T).weak λK O g c=>c.1.1).keep<|(dw.and<|cb _ _).and<|cb _ _).widen Ii
 have hin:∀ks:Value->Value->List Value,aj w X (aY Z) n (λK O g=>aT Z Y.ns V K O g/\fi q I K O g) (ax (bp B (bR Y ai o) V) λa=>ax (bp B (bR Y ai i) V) λb=>yX a b q) (λ_ _=>aT Z Y.ns V) (do
  let ov <-holding [I] (iC o Z);let N <-holding [I,ov] (iC i Z)
  f7 sp
  holding [I,ov,N] (setItem ov N I)
  SK (ks ov N) []):=by
  intro ks;refine ct (jO G) λa f=>ct (jO<|Q a f) λb R=>bA ?_;have d:=(((AG (w:=w) (X:=X) (n:=n) a b q f R I).weak (C:=λK O g=>((aT Z Y.ns V K O g/\fi q I K O g)/\fi a f K O g)/\fi b R K O g) λK O g c=>⟨c.1.2,c.2,c.1.1.2⟩).keep<|((dw.and<|cb _ _).and<|cb _ _).and<|cb _ _).widen (W:=aY Z) Ii;intro A s K O H M P N c U;exact ak<|a9<|a0 (d A s K O H M P N c U) (λr u l=>zd.casesOn l λx H₁ k J e st h j S=>pR ⟨x,H₁,k,J,e,st,h,j.1.1.1.1,S⟩ _ _) λ_ _ y=>y
 refine(ct (z:=iB Z Y) (m:=λ_=>ay (EA,V)) (F:=λ_=>jh l0) (hin _) λ_ _=>gg λK O g c=>⟨c,hl,.next⟩).zL ?_;rw[pL];exact congrArg (ax _)<|funext λa=>af<|pL _ _ _
theorem tK (T:dk X Y Z) (C:aa V=aa Y.names) (z:G.mapM (qL Y.names)=ac W):
 aj w X (aY Z) n (λK O h=>aT Z Y.ns V K O h/\VR K O q o) (ax (yJ (aa W) q) λl=>ay (.next,fR V W l)) (iB Z Y) (Oy o [assign (.Tuple G k b) Z]>>=λ_=>jh l0):=by
 have y:=(uR (w:=w) (n:=n) (p:=q) (v:=o) T C z (hV Z) (λ_ _ _ m=>m)<|cb _ _).res (P:=λQ=>aa Q=aa Y.names) λH a S e=>by refine iI (n6 e) λl s _ i=>?_;cases i;exact ah (mP ..) C
 have d:aj w X (aY Z) n (λK O h=>aT Z Y.ns V K O h/\VR K O q o) _ _ (Oy o [assign (.Tuple G k b) Z]):=(bA (G:=b) y).eqT<|by rw[<-af4];rfl
 exact(G2 (f:=λQ:bO=>(EA,Q)) (g:=λ_:Unit=>l0) (I:=iB Z Y) d λQ u K O g c=>⟨c.1,c.2,.next⟩).zL (ny _ _ _).symm
theorem EK (T:dk X Y Z) (C:aa V=aa Y.names) (z:G.mapM (qL Y.names)=ac f) (t:bK w X n B v) (a:v.ctorIdx≠25):
 aj w X (aY Z) n (aT Z Y.ns V) (KT B E (.unpack f<|bR Y ai v) V) (iB Z Y) (N2 (.Assign [.Tuple G k b] v p) Z):=by
 have m:N2 (.Assign [.Tuple G k b] v p) Z=(do f7 p;let r <-iC v Z;do {Oy r [assign (.Tuple G k b) Z];jh l0}):=by(refine ah (Wl ..) ?_;refine(show swapsWithSole [.Tuple G k b] v p.line Z=pure ai by rcases v<;>rfl)▸?_;refine(show N1 [.Tuple G k b] v Z=pure am by rcases v<;>first|rfl|exact absurd rfl a)▸?_);rfl
 refine m▸?_;exact bA<|ct (t.kw T ai) λq o=>tK T C z
theorem Ry (Y V G):∀u,aa G=aa u->ol B (Hv Y G u) V=Pz ((G.zip u).map λe=>bp B (bR Y (KI Y e.1) e.2) V):=by
 induction G with
 |nil=>exactλu _=>by rcases u<;>rfl
 |cons t G o=>
  intro u h
  induction u with
  |nil=>cases h
  |cons e r=>exact congrArg (λm=>ax (bp B (bR Y (KI Y t) e) V) λa=>ax m λk=>ay<|a::k)<|o r<|nR h
theorem I0 (T:dk X Y Z) (C:aa W=aa u) (d:u.any isStarred=ai) (h:∀e∈u,bK w X n B e):
 aj w X [] n (aT Z Y.ns V) (ol B (Hv Y W u) V) kq (gG<|D9 G<|rl u Z):=by
 (refine(dD G Z u d)▸(Ry Y V W u C)▸?_)
 refine pP dw _ _ (by(refine ah (aC ..) ?_;refine(af (aC ..))▸ah sX ?_;refine C▸?_;rw[Nat.min_self])) λi m t z U=>?_;rw[bZ] at z U;refine aI (map_some z) λe J S=>?_;subst S;refine aI (map_some U) λR H S=>?_;subst S;rw[qc] at J;obtain rfl:=al<|ah J.2.symm H
 exact h e.2 (br J.2) Y Z V _ T
noncomputable def CT (Z:mh) (line:Nat) (x:bL):Option an:=afV (λ_=>Option an) x (λid G=>if Z.kindOf id==ac .local&&G.line==line then ac id else am) λ_=>am
noncomputable def lF (Z:mh) (G:List bL):List an:=G.filterMap (CT Z ((G.head?.map (·.pos.line)).getD 0))
theorem Hz {k j b H} (P:(U.all (nH 8)&&!U.all (o9 8))=ai):
 N1 [.Tuple G k b] (.Tuple U j H) Z=pure am\/(N1 [.Tuple G k b] (.Tuple U j H) Z=pure (ac<|lF Z G)/\aa (lF Z G)=aa G):=by
 by_cases J:(!(aa G==2||aa G==3)||(aa U)!=(aa G)||Z.blockKind !=.function)=aq
 ·exact .inl<|if_pos J
 ·by_cases R:(U.any λx=>afW (λ_=>Bool) x (λ_ _=>aq) λ_=>ai)=aq
  ·exact .inl<|ah (if_neg J)<|if_pos R
  ·by_cases y:((aa<|lF Z G)!=(aa G)||(lF Z G).eraseDups.length !=aa (lF Z G))=aq
   ·exact .inl<|ah (if_neg J)<|ah (if_neg R)<|if_pos y
   ·by_cases X:U.all (o9 8)=aq
    ·exact .inl<|ah (if_neg J)<|ah (if_neg R)<|ah (if_neg y)<|if_pos X
    ·have Q:¬U.all (nH 8)=true:=λq=>by rw[q,SZ.mpr X] at P;cases P
     exact .inr ⟨ah (if_neg J)<|ah (if_neg R)<|ah (if_neg y)<|ah (if_neg X)<|if_neg Q,by
      cases e:((aa<|lF Z G)!=aa G) with
      |true=>rw[e] at y;exact absurd rfl y
      |false=>exact of_decide_eq_true (Bool.not_eq_false' ..▸e:)⟩
theorem bV.PH {K:aO}:∀{U},bV K O l U->bV K O l.reverse U.reverse:=by
 induction l with
 |nil=>exactλh=>by subst h;exact eA
 |cons p l o=>
  intro U h;refine cN h λv r S a b=>?_;subst S
  (refine qw▸(af qw)▸?_)
  exact(o b).append<|b8 a eA
theorem Mm (f:b->an×oq) (l:List b) (h:aa (lF Z<|l.map λq=>.Name (f q).1 (f q).2)=aa (l.map λq=>yC (f q).1 (f q).2)):lF Z (l.map λq=>.Name (f q).1 (f q).2)=l.map λq=>(f q).1:=by
 unfold lF at h|-
 generalize (((l.map λq=>yC (f q).1 (f q).2).head?.map (·.pos.line)).getD 0)=line at h|-
 rw[OF] at h|-
 rw[aC] at h
 induction l with
 |nil=>rfl
 |cons q l o=>
  rw[eZ] at h|-
  cases c:(Z.kindOf (f q).1==ac .local&&(f q).2.line==line) with
  |true=>
   rw[show(CT Z line∘λq=>yC (f q).1 (f q).2) q=ac (f q).1 from if_pos c] at h|-
   exact congrArg ((f q).1::·)<|o<|nR h
  |false=>rw[show(CT Z line∘λq=>yC (f q).1 (f q).2) q=am from if_neg<|by exact c▸bq] at h;exact absurd (h▸List.length_filterMap_le _ l)<|Nat.not_succ_le_self _
theorem Bf {k k2 b vp p} (T:dk X Y Z) (hl:aa V=aa Y.names) (hm:G.mapM (qL Y.names)=ac f) (y:(U.all (nH 8)&&!U.all (o9 8))=ai) (h4:f.Nodup):
 ∃F:Value->jN Ej,N2 (.Assign [.Tuple G k b] (.Tuple U k2 vp) p) Z=(do f7 p;let r <-iC (.Tuple U k2 vp) Z;F r)/\
  ∀q o,aj w X (aY Z) n (λK O h=>aT Z Y.ns V K O h/\VR K O q o) (ax (yJ (aa f) q) λl=>ay (.next,fR V f l)) (iB Z Y) (F o):=by
 have g:swapsWithSole [.Tuple G k b] (.Tuple U k2 vp) p.line Z=pure false:=rfl;rcases Hz y with D|⟨D,hn⟩
 ·exact⟨λr=>do {Oy r [assign (.Tuple G k b) Z];jh l0},by(refine ah (Wl ..)<|g▸D▸?_);rfl,λq o=>tK T hl hm⟩
 ·obtain⟨l,rfl,rfl,hs⟩:=ul G f hm;rw[Mm (λq:(an×oq)×Nat=>q.1) l hn] at D;refine⟨λr=>do {rule "assign.swapped-stores";let u <-unpackItems r (aa<|l.map λq=>q.1.1) am;N3 ((l.map λq=>q.1.1).reverse.map λn=>JN Z n) u.reverse;jh l0},by(refine ah (Wl ..)<|g▸D▸?_);rfl,λq o=>Aq () (λA Q E s h=>mH h) ?_⟩
  (refine(af (aC ..))▸(af (aC ..))▸?_)
  have hU:=(((ph (w:=w) (X:=X) (W:=[]) (n:=n) (aa l) q o).weak (C:=λK O h=>aT Z Y.ns V K O h/\VR K O q o) λ_ _ _ c=>c.2).keep<|dw.and<|cb q o).widen (W:=aY Z) Ii;refine ct (hU.res (P:=λz=>aa z=aa l) λH a i e=>EL e) λz B=>?_;intro A s K O H fs I N Yg L;refine bD Yg λd t=>bD d λzq3 hvs=>bD zq3 λc _=>?_;have R:=ry (w:=w) (X:=X) (W:=aY Z) (n:=n) T (hV Z) (λx:an×oq=>x.1) (λx=>JN Z x.1) (λq v M A Q E s h=>h) l.reverse z.reverse B.reverse V (by(refine ah kQ<|(af kQ)▸?_;rw[t])) λq m=>td T (λ_ _ _ m=>m) hl<|hs q<|List.mem_reverse.mp m
  rw[Te,yZ _ _ _ h4 (by(refine ah (aC ..) ?_;rw[t]))] at R
  (refine(Te)▸?_;refine(af gV)▸?_)
  exact ak<|R.run I N ⟨c,bV.PH hvs⟩ (show(ay ():IM Unit) H=.ok () H from rfl) λr s₁ K₁ J st fL j S=>av ⟨_,_,K₁,J,rfl,st,fL,⟨j,ah (mP ..) hl,.next⟩,S⟩
theorem Tr (l):(if aa l=aa f/\aa l<=16777216 then ay (.next,fR V f l) else aQ)=ax (if aa l<=16777216 then ay (.tup l) else aQ) λq=>ax (yJ (aa f) q) λl=>ay (EA,fR V f l):=by
 by_cases c:aa l<=16777216
 ·refine(if_pos c)▸?_;show _=ax (if aa l=aa f then ay l else aQ) _;by_cases E:aa l=aa f
  ·(refine ah (if_pos ⟨E,c⟩)<|(if_pos E)▸?_);rfl
  ·(refine ah (if_neg λq=>E q.1)<|(if_neg E)▸?_);rfl
 ·(refine(if_neg c)▸ah (if_neg λq=>c q.2) ?_);rfl
theorem LH {k j b H p} {V:bO} (T:dk X Y Z) (C:aa V=aa Y.names) (z:G.mapM (qL Y.names)=ac f) (J:U.any isStarred=ai) (R:aa U=aa G) (y:(U.all (nH 8)&&!U.all (o9 8))=ai) (W:f.Nodup) (t:∀e∈U,bK w X n B e):
 aj w X (aY Z) n (aT Z Y.ns V) (KT B E (.mZ f<|Hv Y G U) V) (iB Z Y) (N2 (.Assign [.Tuple G k b] (.Tuple U j H) p) Z):=by
 have u:aj w X (aY Z) n (aT Z Y.ns V) (ax (ol B (Hv Y G U) V) λl=>if aa l<=16777216 then ay (.tup l) else aQ) (λq v K O h=>aT Z Y.ns V K O h/\VR K O q v) (iC (.Tuple U j H) Z):=by refine(ajG ..)▸?_;exact(((bA<|ct (I0 T R.symm J t) λS U=>sf S U)).keep dw).widen Ii
 refine aI (Bf (w:=w) (n:=n) T C z y W) λF L d=>L▸?_;refine(bA<|ct u d).zL<|(af (pL ..))▸?_
 exact congrArg (ax _)<|funext λl=>Tr l
end
open CE renaming bin->n8,bw->akW,aA->Yd,cmp->On,comp->ajS,list->ajR,tup->am8
open aT renaming kI->J3
open IM renaming bind_assoc->pL
open MB renaming sG->am7,found->kU,ite_no->s0
open MN renaming append->iZ,encode->abh,find->Yc,index->agq,join->p9,rfind->S6
open aj renaming K0->X9
section
open PySem PySem.W PySem.Calls PyProof.Rows PySem.SeqAt
open AutoSeq1 (wpAny_loadPart')
theorem xQ (D:s.heap.IsTupleIter j t i) (U:s.heap.IsTuple t u) (T:u[i]?=ac x)
 (V:∀f,f.IsTupleIter j t (i+1)->fQ j s.heap f->Q x {s with heap:=f}):aD (Ox Z w) A (jv<|.ref j) Q E s:=by
 refine gN (id D) λo L P g=>?_;refine gN U λb a _ S=>be S λnl U2=>?_;unfold jv
 refine ak (Ot D.typeIs F.slot_tuple_iterator_next
  (D6 F.slot_tuple_iterator_next D.typeIs F.entry_tuple_iterator_next ?_ (F.args_tuple_iterator_next_1 _)))
 show aD _ _ (field (.ref j) 0>>=_) _ _ s;refine ak<|lb L g rfl ?_
 show aD _ _ (if(ge t==gf)=aq then _ else _) _ _ s;refine kW (if_neg<|bq) ?_;show aD _ _ (field (.ref j) 1>>=_) _ _ s;refine ak<|lb L g rfl ?_
 show aD _ _ (D7 (.ref t)>>=_) _ _ s;refine ak<|JD a U2 ?_
 simp only[et,T];refine ak<|rk L g (by simp)<|av ⟨x,rfl,av<|V _ ?_ (ds ..)⟩
 exact⟨_,ek _ L (j4<|ig g _),ah (x0 ..) P,by
  refine ah (ig g ..) ?_;simp[pY]⟩
theorem zj (r:A.handled=am) (D:s.heap.IsTupleIter j t i) (U:s.heap.IsTuple t u) (T:u[i]?=am)
 (N:∀f e,tX j s.heap f->(∃o,f.get? e=ac o/\o.cls=.type "StopIteration")->E (.ref e) {s with heap:=f}):
 aD (Ox Z w) A (jv<|.ref j) Q E s:=by
 refine gN (id D) λo L P g=>?_;refine gN U λb a _ S=>be S λnl U2=>?_;unfold jv
 refine ak (Ot D.typeIs F.slot_tuple_iterator_next
  (D6 F.slot_tuple_iterator_next D.typeIs F.entry_tuple_iterator_next ?_ (F.args_tuple_iterator_next_1 _)))
 show aD _ _ (field (.ref j) 0>>=_) _ _ s;refine ak<|lb L g rfl ?_
 show aD _ _ (if(ge t==gf)=aq then _ else _) _ _ s;refine kW (if_neg<|bq) ?_;show aD _ _ (field (.ref j) 1>>=_) _ _ s;refine ak<|lb L g rfl ?_
 show aD _ _ (D7 (.ref t)>>=_) _ _ s;refine ak<|JD a U2 ?_
 simp only[et,T];refine ak<|mH<|ak<|rk L g (by simp) ?_
 show aD _ _ (newExc (.type "StopIteration") []>>=_) _ _ _;refine ak ?_;simp only[newExc,newTuple];refine ak<|rR ?_ (by size_fits)
 refine ak<|la (by first|rfl|(simp only[firstArgMember];rfl)) ?_
 refine rR ?_ (by size_fits);unfold raiseNew;refine ak<|wpAny_handled ?_
 first|refine r▸?_|rw[r]
 refine pe<|wpAny_throw ?_
 exact N _ _ (((ds ..).extBut.push _).push _) ⟨_,b6 _ rfl,rfl⟩
theorem RQ (Y:A.handled=am) (j l) (X:l≠j) (u):
 Draws Z w A j [j,l] u.size (λi v=>u[i]?=ac v) (λi h=>h.IsTupleIter j l i/\h.IsTuple l u) where
 live:=λ_ _ st=>let⟨o,L,_⟩:=st.1;⟨o,L⟩
 frame:=λ_ _ _ st G=>⟨let⟨o,e,r⟩:=st.1;⟨o,G j (by simp) o e,r⟩,let⟨o,e,r⟩:=st.2;⟨o,G l (by simp) o e,r⟩⟩
 item:=λi s Q E D st V=>by exact xQ st.1 st.2 (x:=u[i]) (by simp[D]) λf a P=>V _ f s.toks (by simp[D]) ⟨a,st.2.extBut P.extBut X⟩ P
 done:=λs Q E st N=>zj Y st.1 st.2 (by simp) N
theorem PO (h:∀b,Q b s):aD M A (pure a) Q E s:=av<|h a
theorem zn (l items n dct p):
 Meets (mi.«enumerate.__new__» ⟨[.type "enumerate",.ref l],[]⟩) (λ_ R s=>s.heap.get? l=ac {cls:=.type "tuple",dict:=dct,data:=.seq items n,slots:=p}/\
  R (.ok<|.ret<|.ref (s.heap.push {cls:=.type "tuple_iterator",data:=.fields #[.ref l,.int 0 0]}).objs.size)
    {s with heap:=(s.heap.push {cls:=.type "tuple_iterator",data:=.fields #[.ref l,.int 0 0]}).push {cls:=.type "enumerate",data:=.fields #[.none,.bool ai,.ref s.heap.objs.size,pY 0,.none,.none]}}):=
 .of_wp λZ w A R s h=>by
  obtain⟨W,g,d,tk,os⟩:=s;refine bD h λC h=>?_;have a:=sub_enumerate;have B:Heap.IsTuple (Shared.heap ⟨W,g,d,tk,os⟩) l items:=⟨_,C,rfl,n,rfl⟩
  wp_walk using wpAny_loadPart' C
  refine wpAny_stack_any λst=>PO λb=>?_;cases b
  ·wp_walk using wpAny_loadPart' C,Ah B
   exact⟨_,rfl,h⟩
  ·wp_walk using wpAny_loadPart' C,Ah B
   exact⟨_,rfl,h⟩
theorem AX (B:s.heap.IsTuple l u)
 (h:∀f,aa3 f (s.heap.objs.size+1) s.heap.objs.size 0 .none->f.IsTupleIter s.heap.objs.size l 0->f.objs.size=s.heap.objs.size+2->
  (∀b o,s.heap.get? b=ac o->f.get? b=ac o)->Q (.ref<|s.heap.objs.size+1) {s with heap:=f}):
 aD (Ox Z w) A (call (.type "enumerate") [.ref l]) Q E s:=by
 refine gN B λS C P V=>?_;obtain⟨c,dct,I,p⟩:=S;refine be V λn g=>?_;replace P:c=.type "tuple":=P;replace g:I=.seq u n:=g;subst P g
 refine callType_new F.called_enumerate rfl (F.typeCall_enumerate_1 _) (F.newCall_enumerate_1 _) (λa=>F.args_object_init_2 a _) F.entry_enumerate_new
  (zn l u n dct p) ⟨C,?_⟩
 have N:(s.heap.push {cls:=.type "tuple_iterator",data:=.fields #[.ref l,.int 0 0]}).objs.size=s.heap.objs.size+1:=jk ..;show _/\_;refine N▸?_
 have J:aa3 ((s.heap.push {cls:=.type "tuple_iterator",data:=.fields #[.ref l,.int 0 0]}).push
  {cls:=.type "enumerate",data:=.fields #[.none,.bool ai,.ref s.heap.objs.size,pY 0,.none,.none]}) (s.heap.objs.size+1) s.heap.objs.size 0 .none:=by
  have:=b6 (s.heap.push {cls:=.type "tuple_iterator",data:=.fields #[.ref l,.int 0 0]})
   (o:={cls:=.type "enumerate",data:=.fields #[.none,.bool ai,.ref s.heap.objs.size,pY 0,.none,.none]}) rfl
  rw[N] at this;exact this
 refine⟨⟨_,J,rfl⟩,h _ J ⟨_,aR _ (b6 _ rfl),rfl,rfl⟩ (by(refine ah (jk ..) ?_;rw[N])) λb o x=>aR _ (aR _ x)⟩
end
section
open PySem PySem.W PySem.Calls PyProof.Rows PySem.SeqAt
section
variable {KF K:aO} {wr:List bn}
theorem Inv.Sc (N:Inv KF K O H M h) (g:∀a∈wr,K a=am/\a∉O) (G:∀b o,b∉wr->h.get? b=ac o->h'.get? b=ac o) (Y:∀a∈wr,∀o,h.get? a=ac o->¬b5 o):Inv KF K O H M h':=
 ⟨N.par,N.stat,λb o e=>G b o (λm=>by rw[(g b m).1] at e;exact aE e)<|N.sub b o e,N.kf,
  ⟨N.kM.len,N.kM.nodup,λi b l D C=>by
   obtain⟨k,o,n,U,e,s,u,j⟩:=N.kM.at_ i b l D C
   exact⟨k,o,n,U,G b o (λm=>(g b m).2<|br D) e,s,u,j⟩⟩,
  ⟨λZ J=>by
   obtain⟨k,L,o,f,v,m,e,fo,fr⟩:=N.stk.all Z J
   exact⟨k,L,o,f,v,m,G L o (λq=>Y L q o e fo) e,fo,fr⟩⟩⟩
theorem HH (Z:∀a∈wr,a∈W) (G:∀b o,b∉wr->h.get? b=ac o->h'.get? b=ac o) (U:∀a∈wr,∃B,h'.get? a=ac B) (u:h.get? T=am) (F:K T=am):Step W K O h (gk K T r) O h':=
 ⟨rfl,(λb x k=>by
  rw[db]
  ·exact k
  ·rintro rfl;rw[F] at k;cases k),(λb x k=>by
  by_cases q:b=T
  ·subst q;exact .inr u
  ·rw[db q] at k;exact .inl k),⟨[],by simp,by simp⟩,λb o e=>by
   by_cases q:b∈wr
   ·exact U b q
   ·exact⟨o,G b o q e⟩,
  λb o e _ F=>⟨o.slots,G b o (λq=>F<|Z b q) e,.inl rfl⟩,λ_ q=>.inl q⟩
theorem Step.NN (x:Step W K O g k J T) (S:∀a∈wr,g.get? a=fS) (G:∀b o,b∉wr->T.get? b=ac o->h'.get? b=ac o):Step W K O g k J h':=
 ⟨x.par,x.kle,x.new,x.pre,λa o e=>by
  exact be (x.there a o e) λB R=>⟨B,G a B (λq=>by rw[S a q] at e;exact aE e) R⟩,
   λa o e z Z=>by
    exact aI (x.keep a o e z Z) λp R d=>⟨p,G a _ (λq=>by rw[S a q] at e;exact aE e) R,d⟩,x.frs⟩
end
structure Lc (w:dG) (I:bn) (fp wr:List bn) (m:Nat) (Pt:Nat->Array Value->Prop) (J:Nat->eK->Prop) (GV:Nat->bn->eK->Prop):Prop where
 walks:∀A:iN,A.handled=am->WalksT oB w A I fp wr m Pt J GV
 own:∀i h,J i h->∀a∈wr,∃o,h.get? a=ac o/\¬b5 o
def tT (d g:List bn) (x:Nat->Array Value->Prop) (J:Nat->eK->Prop) (L:List PV) (i:Nat):xz:=λK O h=>
 J i h/\(∀a∈g,K a=am/\a∉O)/\(∀a∈d,a∈g\/∃o,K a=ac o/\h.get? a=ac o/\a∉O/\¬b5 o)/\
   ∀(j:Nat) (f:Array Value) (p:PV),L[j]?=ac p->x j f->∃z,p=.tup z/\bV K O z f.toList
theorem tT.stable (Z:Lc w I d g m x J GV)
 (Q:∀a∈g,a∉W) (b:∀a∈d,a∉W):fI W (tT d g x J L i):=by
 intro K O h T l f y st;refine vD y λF G Y t=>?_
 have c:∀a∈g,∃o,h.get? a=ac o/\f.get? a=ac o:=λa X=>by exact aI (Z.own i h F a X) λo e n=>⟨o,e,st.same e (G a X).2 (Q a X) n⟩
 have r:∀a∈d,∀o,h.get? a=ac o->f.get? a=ac o:=λa X o e=>by
  rcases Y a X with q|⟨B,k,R,m,n⟩
  ·refine aI (c a q) λB V U=>?_;rw[V] at e;obtain rfl:=al e;exact U
  ·rw[R] at e;obtain rfl:=al e;exact st.same R m (b a X) n
 refine⟨(Z.walks {handled:=am} rfl).frame i h f F r,λa X=>?_,λa X=>?_,λj v p e q=>?_⟩
 ·exact aI (c a X) λo e _=>⟨st.lH (G a X).1 e,st.lG (G a X).2 e⟩
 ·rcases Y a X with q|⟨B,k,R,m,n⟩
  ·exact .inl q
  ·exact .inr ⟨B,st.kle _ _ k,st.same R m (b a X) n,st.lG m R,n⟩
 ·exact aI (t j v p e q) λz s u=>⟨z,s,vW st u⟩
structure ajq (w:dG) (KF:aO) (fp wr:List bn) (P:Nat->Array Value->Prop) (J:Nat->eK->Prop) (L:List PV) (K:aO) (μ:List bn) (H:Hp) (fs:List mh) (h h₂:eK) (T:bn) (oT:uO) (j:Nat) (p:PV):Prop where
 iv:Inv KF (gk K T oT) μ H fs h₂
 st:Step wr K μ h (gk K T oT) μ h₂
 ci:tT fp wr P J L (j+1) (gk K T oT) μ h₂
 hv:VR (gk K T oT) μ p (.ref T)
theorem RA (Z:Lc w I d g (aa L) P J GV) {K:aO}
 (N:Inv X K O H M h) (ci:tT d g P J L j K O h) (W:L[j]?=ac p) (y:P j f) (V:h.get? T=am) (U:h₂.get? T=ac r) (C:r.cls=.type "tuple") (Q:r.data=.seq f Y) (A:T∉g)
 (t:J (j+1) h₂) (G:∀b o,b∉g->h.get? b=ac o->h₂.get? b=ac o):ajq w X d g P J L K O H M h h₂ T r j p:=by
 refine vD ci λD x air adL=>?_;have kT:=N.cO V;have st:Step g K O h (gk K T r) O h₂:=HH (λ_ q=>q) G (λa ha=>(Z.own (j+1) _ t a ha).imp λ_ q=>q.1) V kT
 have l:tT d g P J L (j+1) (gk K T r) O h₂:=by
  refine⟨t,λa ha=>⟨?_,(x a ha).2⟩,λa ha=>?_,λi v p c E=>?_⟩
  ·refine ah (db<|by rintro rfl;exact A ha) ?_;exact(x a ha).1
  ·rcases air a ha with q|⟨o,k,e,m,n⟩
   ·exact .inl q
   ·exact .inr ⟨o,st.kle _ _ k,G a o (λq=>by rw[(x a q).1] at k;exact aE k) e,m,n⟩
  ·exact aI (adL i v p c E) λz s u=>⟨z,s,vW st u⟩
 refine⟨(N.Sc x G λa ha o e=>?_).freeze U kT (N.dY V) (vb C<|by decide),st,l,?_⟩
 ·refine aI (Z.own j _ D a ha) λB R n=>?_;rw[R] at e;obtain rfl:=al e;exact n
 ·refine aI (l.2.2.2 j f _ W y) λz S F=>?_;subst S;exact⟨T,r,Y,f.toList,rfl,fv _ _ _,C,by exact J1▸Q,F⟩
inductive EnI (KF:aO) (W:List bn) (env:mh) (cx:Cx) (fp wr:List bn) (P:Nat->Array Value->Prop) (J:Nat->eK->Prop) (L:List PV) (is:List Nat) (bM:bO->IM (gm×bO)) (fs:List mh) (K:aO) (μ:List bn) (g:eK) (s:bj) (r:gm×bO) (Hf:Hp) (m:Nat) (s₁:bj):Prop
 |mk (j:Nat) (σ:bO) (K₁:aO) (dU:List bn) (H:Hp) (hm:m=aa L+1-j) (hj:j<=aa L) (st:Step W K μ g K₁ dU s₁.heap) (so:aW s s₁) (iv:Inv KF K₁ dU H fs s₁.heap) (c:aT env cx.ns σ K₁ dU s₁.heap) (l:aa σ=aa cx.names)
  (ci:tT fp wr P J L j K₁ dU s₁.heap) (e:iu (λτ p=>f9 τ is ai p) bM (L.drop j) σ H=.ok r Hf)
inductive afQ (fh:bO->PV->Option bO) (bM:bO->IM (gm×bO)) (p:PV) (L:List PV) (σ:bO) (H:Hp) (r:gm×bO) (Hf:Hp):Prop
 |mk (τ:bO) (y:gm×bO) (H':Hp) (b:fh σ p=ac τ) (e:bM τ H=.ok y H') (k:uC (iu fh bM L) y H'=.ok r Hf)
theorem IX (h:iu fh a (p::L) V H=.ok r Hf):afQ fh a p L V H r Hf:=by
 change bG (fh V p) (λQ=>ax (a Q)<|uC<|iu fh a L) H=.ok r Hf at h
 cases B:fh V p with
 |none=>rw[B] at h;cases h
 |some Q=>rw[B] at h;exact iI (n6 h) λy i e k=>⟨Q,y,i,B,e,k⟩
theorem Nn (hx:dk X cx Z) (ht:es.mapM (qL cx.names)=ac is)
 (hW:∀a∈W,a∈aY Z) (hW':∀a∈aY Z,a∈W)
 (hb:∀V,aa V=aa cx.names->aj w X W n (aT Z cx.ns V) (bM V) (iB Z cx) (kr body Z))
 (hw:Lc w I d wr (aa L) P J GV)
 (ha:kA n A M) {K:aO} (iv:Inv X K μ H M s.heap) (c:aT Z cx.ns V K μ s.heap) (hl:aa V=aa cx.names)
 (ci:tT d wr P J L 0 K μ s.heap) (Q:∀a∈wr,a∉aY Z) (hfp:∀a∈d,a∉aY Z) (e:iu (λτ p=>f9 τ is ai p) bM L V H=.ok r z)
 (hg:∀a∈wr,g.get? a=am) (EW:Step W gF i g K μ s.heap)
 (hR:∀f F K' qa x H',dt x H'=.ok r z->Step W gF i g K' qa F.heap->Inv X K' qa H' M F.heap->iB Z cx x f K' qa F.heap->aW s F->R (.ok f) F):
 nJ (MM w) A (.forLoop (.Tuple es k tp) (.ref I) body [] Z) R s:=by
 refine Z3 (EnI X W Z cx d wr P J L is bM M gF i g s r z) (aa L+1) ⟨0,V,K,μ,H,rfl,hX _,EW,.refl s,iv,c,hl,ci,e⟩ ?_;intro m s₁ D N B E hN hS hB hk hr;cases D with|mk j O K₁ dU H₁ hm hj dL eX h c₁ S rx e₁=>?_
 subst hm;have Wk:=hw.walks A ha.hd;have hCi:∀j,fI W (tT d wr P J L j):=λj=>tT.stable hw (λa ha' q=>Q a ha'<|hW _ q) λa ha' q=>hfp a ha'<|hW _ q
 rcases wV hj with hjlt|hje
 ·have hp:=aP hjlt;rw[zR hp] at e₁;cases IX e₁ with|mk τ y D0 hb0 ey e₂=>?_
  refine Wk.item j s₁ _ _ hjlt rx.1 λT vals h₁ tk hP hTs hT₁ Xp hk₁=>hS _ _ ?_;refine xS ?_;intro akP;refine Wk.go es k tp j T {s₁ with heap:=h₁,toks:=tk} _ _ Xp λh₂ t Xm=>?_;refine nu ?_;intro amS;refine gN hT₁ λoT eT C PM=>be PM λnT dT=>?_;have hTw:=Wk.apart j T h₁ Xp;have U:=RA hw h rx hp hP (iS hTs) (Xm T oT hTw eT) C dT hTw t λb o hb e=>Xm b o hb<|hk₁ b o hb e
  have c₂:=J3 (λa q=>Q a q) _ _ _ _ _ _ c₁ U.st;refine(pW hx S (.tup es k tp is ht) (hW' _ (hV Z)) λ_ _=>hW').run ha U.iv ⟨c₂,U.hv⟩ (show bindM O is ai L[j] H₁=.ok τ H₁ by unfold bindM;refine hb0▸?_;rfl) λu s₃ kz abO Y jx Q1 ip=>?_;refine(hb _ (ah (B6 hb0) S)).run ha jx Q1 ey λfl s₄ JA rZ pn lO sq E1=>?_;have xw:=hCi _ _ _ _ _ _ _ (hCi _ _ _ _ _ _ _ U.ci Y) pn;have pO:=((dL.hide U.st λa q=>.inr<|hg a q).trans Y).trans pn;have pQ:=(eX.trans<|jy ⟨rfl,rfl⟩ ip).trans E1;have hlt:=pa (iV hjlt)<|kG j
  exact uq (G:=λf=>B f s₄) sq.f e₂ (λe=>hB _ _ hlt ⟨j+1,y.2,JA,rZ,D0,rfl,hjlt,pO,pQ,lO,sq.c,sq.l,xw,e⟩) (λe=>hk _ (hR _ _ JA rZ _ _ e pO lO ⟨sq.c,sq.l,.next⟩ pQ)) λp v hv e=>hr _ _ (hR _ _ JA rZ _ _ e pO lO ⟨sq.c,sq.l,.ret hv⟩ pQ)
 ·rw[hje] at rx e₁;refine adb ?_;intro ajY;refine Wk.done s₁ _ _ rx.1 λh' tk hk=>?_;rw[nq] at e₁
  exact hN _ (av (hR _ _ K₁ dU _ _ e₁ (dL.NN hg hk) (h.Sc rx.2.1 hk λa ha o e=>by
   refine aI (hw.own _ _ rx.1 a ha) λo' e' nf=>?_
   rw[e'] at e;obtain rfl:=al e;exact nf) ⟨c₁.Sc hk Q,S,.next⟩ (eX.trans ⟨rfl,rfl⟩)))
theorem rv:∀l i,aa (jV i l)=aa l
 |[],_=>rfl
 |_::l,i=>by simp[nZ,mV,rv l<|i+1]
theorem vC:∀(l) (i j) (p:PV),(jV i l)[j]?=ac p->∃q,l[j]?=ac q/\p=.tup [.int ((i+j:Nat):Int),q]
 |[],_,_,_,h=>by simp[nZ,mV] at h
 |x::l,i,0,p,h=>by simp[nZ,mV] at h;exact⟨x,rfl,by simp[h]⟩
 |x::l,i,j+1,p,h=>by simp only[nZ,mV,List.getElem?_cons_succ] at h;exact aI (vC l (i+1) j p h) λq J R=>⟨q,by simpa using J,by(refine ah R ?_;rw[show i+1+j=i+(j+1) by rw[d9,gs 1 j]])⟩
def SB (w:dG) (g:eK) (p:PV) (v:Value):xz:=λK O h=>∃(e j:bn) (d:List bn) (P:Nat->Array Value->Prop) (J:Nat->eK->Prop) (GV:Nat->bn->eK->Prop),
 v=.ref e/\Lc w e d [e,j] (aa<|vB p) P J GV/\tT d [e,j] P J (vB p) 0 K O h/\g.get? e=am/\g.get? j=am
def tU (g:eK):xz:=λ_ _ h=>∀a o,g.get? a=ac o->∃B,h.get? a=ac B
theorem tU.stable (g):fI W (tU g):=λ_ _ _ _ _ _ c st a o e=>by exact be (c a o e) λB R=>st.there a B R
open tU renaming stable->abi
theorem tU.none {K:aO} (c:tU g K O h) (e:h.get? a=am):g.get? a=none:=by
 cases q:g.get? a with
 |none=>rfl
 |some o=>refine be (c a o q) λB R=>?_;rw[e] at R;exact aE R
theorem BO (x:∀b o,h.get? b=ac o->h'.get? b=ac o):de h h':=λb o e=>⟨o.slots,x b o e,.inl rfl⟩
theorem Gj {K:aO} {St:Nat->eK->Prop} (W:vB p=jV 0 l) (v:∀i h,St i h->∃E,h.get? c=ac E/\¬b5 E)
 (Z:∀A:iN,A.handled=am->WalksT oB w A (c+1) [c+1,c,a] [c+1,c] Y.toArray.size (λi f=>∃t x,(ag Y)[i]?=ac x/\f=#[.int i t,x]) (λi h=>(∃s,aa3 h (c+1) c i s)/\St i h) GV)
 (U:aa3 h (c+1) c 0 .none) (d:St 0 h) (z:bV K O l Y) (F:K (c+1)=am/\c+1∉O) (G:K c=am/\c∉O) (I:h.get? a=ac o) (T:K a=ac o) (k:a∉O) (n:¬b5 o) (H:g.get? (c+1)=am) (N:g.get? c=am):SB w g p (.ref<|c+1) K O h:=by
 have C:aa (vB p)=Y.toArray.size:=by rw[W,rv,aS,z.length]
 refine⟨c+1,c,[c+1,c,a],λi f=>∃t x,(ag Y)[i]?=ac x/\f=#[.int i t,x],λi h=>(∃s,aa3 h (c+1) c i s)/\St i h,GV,rfl,⟨λA P=>by refine C▸?_;exact Z A P,λi h D b B=>?_⟩,⟨⟨⟨_,U⟩,d⟩,λb B=>(aM.mp B).elim (λq=>q▸F) λm=>(aV.mp m)▸G,λb B=>?_,λj f q L V=>?_⟩,H,N⟩
 ·refine be D.1 λs J=>(aM.mp B).elim (λq=>by refine q▸?_;exact⟨_,J,vb rfl<|by decide⟩) λm=>(aV.mp m)▸v i h D.2
 ·exact(aM.mp B).elim (λq=>.inl<|q▸bd) λm=>(aM.mp m).elim (λq=>.inl<|q▸bc _ (ji _)) λm=>.inr<|by exact(aV.mp m)▸⟨o,T,I,k,n⟩
 ·rw[W] at L;refine aI (vC l 0 j q L) λr J R=>iI V λt x y e=>aI (z.get J) λu X Q=>?_;rw[gc,X] at y
  (refine e▸((al y))▸?_)
  exact⟨_,R,by exact(fV ..)▸b8 fC (b8 Q eA)⟩
theorem Gk (g S U):aj w X [] n (λK O h=>tU g K O h/\bV K O S U) (Gl S) (SB w g) (call (.type "enumerate") U []):=by
 refine eR λp Q=>eR λl e=>?_;intro A s K O H M I N c _;refine cN (uk Q▸c.2:bV K O [p] U) λv r u t L=>?_
 (refine u▸L▸?_)
 have Y:=bX s.heap;have Z:s.heap.get? (s.heap.objs.size+1)=none:=iS<|ej _
 have j:s.heap.objs.size+1≠s.heap.objs.size:=rM _;rcases Ks e with rfl|rfl
 ·obtain⟨a,o,k,B,rfl,C,P,W,z⟩:=t;have b:=N.sub _ _ C;have d:=dS b;refine AX ⟨o,b,P,k,W⟩ λf J D F G=>?_;have V:=BO G;refine⟨_,H,K,O,rfl,V.step,N.keep V,Gj rfl (λi h q=>?_) (λA T=>WalksT.enumerateD (RQ (A:=A.in1) T s.heap.objs.size a (eU d)<|ag B) (s.heap.objs.size+1) j ?_ bd) J ⟨D,o,G _ _ b,P,k,W⟩ z ⟨N.cO Z,N.dY Z⟩ ⟨N.cO Y,N.dY Y⟩ (G _ _ b) C (N.zs C) (N.kf _ _ C) (c.1.none Z)<|c.1.none Y,rfl,rfl⟩
  ·refine gN q.1 λE R y _=>⟨E,R,vb y<|by decide⟩
  ·exactλm=>(aM.mp m).elim j λm=>absurd (aV.mp m)<|pg<|iV d
 ·obtain⟨a,o,k,B,rfl,C,P,W,z⟩:=t;have b:=N.sub _ _ C;have d:=dS b;refine call_enumerate_list ⟨o,b,P.1,k,W⟩ λf J D F G=>?_;have V:=BO G;refine⟨_,H,K,O,rfl,V.step,N.keep V,Gj rfl (λi h q=>?_) (λA T=>WalksT.enumerate T (s.heap.objs.size+1) s.heap.objs.size a j (eU<|iV d) (eU d)<|ag B) J ⟨D,o,G _ _ b,P.1,k,W⟩ z ⟨N.cO Z,N.dY Z⟩ ⟨N.cO Y,N.dY Y⟩ (G _ _ b) C (N.zs C) (N.kf _ _ C) (c.1.none Z)<|c.1.none Y,rfl,rfl⟩;refine gN q.1 λE R y _=>⟨E,R,vb y<|by decide⟩
theorem Vo (c V m):rJ B (.enum c) V m=ax (ax (ol B [c] V) Gl) λp=>ay (vB p):=by refine(pL ..)▸?_;exact af<|pL (bp B c V) (λa=>ay [a]) λl=>ax (Gl l) λp=>ay<|vB p
theorem Dp (T:dk X Y env) (C:aa V=aa Y.names) (hg:bK w X n B arg) (I:jq w X n B E a)
 (d:isStarred arg=ai) (hd:tN nm=aq) (hgl:Y.gl nm=ac (.ty "enumerate")) (U:es.mapM (qL Y.names)=ac is):
 aj w X (aY env) n (aT env Y.ns V) (KT B E (.for is ai (.enum<|bR Y ai arg) (mm Y a)) V) (iB env Y) (N2 (.For (.Tuple es k tp) (.Call (.Name nm xp) [arg] [] G) a [] p) env):=by
 refine am5 ?_ (congrArg (λm=>ax m λl=>g4<|iu (λQ p=>f9 Q is ai p) (λQ=>fY B E (mm Y a) Q) l V)<|Vo (bR Y ai arg) V _);intro A s K O H M hA N c L
 have hcall:=pG (V:=V) (r:=xp) (G:=G) (D:=[arg]) (R:=SB w s.heap) (abi _) T hgl (se hd) (by(refine ah vP<|(af d)▸?_);rfl) (λe m=>(aV.mp m)▸hg)
  (λK O v t=>by
   obtain rfl:=(show v=.type "enumerate" from t)
   exact .inl ⟨.inr<|.inl ⟨_,rfl⟩,λz vs=>Gk s.heap z vs⟩)
 rw[O5,TB] at hcall;generalize hM:ax (ol B [bR Y ai arg] V) Gl=M0 at hcall L|-
 refine MD ?_;intro am2;refine afU ?_ (ss<|by intros;intro q;cases q);have hwh:M0 H≠.stuck:=λq=>by apply L;rw[f0,f0,q]
 refine a0 ((hcall.keep<|dw.and<|abi _) A s K O H M hA N ⟨c,λb o e=>⟨o,e⟩⟩ hwh) (λv u ⟨p,H₁,K₁,dU,ep,dL,h,x,eX⟩=>?_) λy u YA=>yq.casesOn YA λp H₁ K₁ dU ep dL h hex eX=>?_
 ·have eo:ax (ax M0 λp=>ay<|vB p) (λl=>g4<|iu (λQ p=>f9 Q is ai p) (λQ=>fY B E (mm Y a) Q) l V) H=g4 (iu (λQ p=>f9 Q is ai p) (λQ=>fY B E (mm Y a) Q) (vB p) V) H₁:=by
   rw[f0,f0,ep];rfl
  rw[eo] at L|-
  refine iI (zh L) λr Hf e e'=>?_;refine(af e')▸?_;refine aes x.2 λe₀ it fp P J GV S Z ci g1 g2=>?_;obtain rfl:=S;have j:=x.1.1;refine(Z.walks A hA.hd).self 0 u _ _ ci.1 ?_;have hgn:∀b∈[e₀,it],s.heap.get? b=none:=λb hb=>(aM.mp hb).elim (λq=>q▸g1) λq=>(aV.mp q)▸g2
  have hI:∀b∈[e₀,it],b∉aY env:=λb hb q=>by refine aI (lP c q) λoa ea _=>?_;rw[hgn b hb] at ea;exact aE ea
  refine Nn (W:=aY env) (n:=n) (cx:=Y) (gF:=K) (i:=O) (g:=s.heap) T U (λ_ q=>q) (λ_ q=>q) (λQ F=>I Y env Q T F) Z hA h j C ci hI (λb hb q=>?_) e hgn (dL.mono Ii) λf s' K' qa x' H' ex st At hf so=>⟨x',H',K',qa,af ex,st,At,hf,eX.trans so⟩;rcases ci.2.2.1 b hb with q'|⟨o',k',_⟩
  ·exact hI b q' q
  ·refine aI (lP j q) λoa _ ka=>?_;rw[ka] at k';exact aE k'
 ·exact⟨p,H₁,K₁,dU,by rw[f0,f0,ep],dL.mono Ii,h,hex,eX⟩
inductive aaO (cx:Cx) (body:List CS):bL->bL->CS->Prop
 |one (x:an) (xp:oq) (it:bL) (i:Nat) (hs:(it.ctorIdx !=7)=aq) (he:sm (bR cx ai it)=ai) (h:lC cx.names x=ac i):aaO cx body (.Name x xp) it (.for [i] aq (bR cx ai it) body)
 |en (es:List bL) (k:Nat) (tp:oq) (is:List Nat) (h:es.mapM (qL cx.names)=ac is) (nm:an) (xp:oq) (arg:bL) (pos:oq) (hd:tN nm=aq) (hg:cx.gl nm=ac (.ty "enumerate")) (hs:isStarred arg=ai):
  aaO cx body (.Tuple es k tp) (.Call (.Name nm xp) [arg] [] pos) (.for is ai (.enum<|bR cx ai arg) body)
theorem Vb (h:ad9 Y R j body=ac c):aaO Y body R j c:=by
 refine aI (bind_some h) λS T h=>?_;obtain⟨f,one⟩:=S;have U:=ES T;dsimp only at U
 induction U with
 |one x G i D=>refine bD (cL h) λZ h=>?_;obtain rfl:=al h;exact .one x G j i (ia Z).1 (u8 (ia Z).2) D
 |tup u k G f D=>
  refine aI (map_some h) λa I S=>?_;subst S;refine aI (bind_some I) λd g I=>aI (bind_some I) λx T I=>bD (cL I) λZ I=>aI (bind_some I) λB J I=>?_;refine bD (cL I) λX I=>?_;cases I;refine aI (bind_some<|eq_of_beq (ia Z).2) λq L e=>?_;obtain rfl:=P0 e
  (refine(zQ g)▸(vE T)▸?_;refine(uk J)▸(kt.mp (ia (ia Z).1).2)▸?_)
  exact .en u k G f D x.1 x.2 a _ (ia (ia Z).1).1 L (u8 X)
theorem Gc (D:bK w X n B j) (e:∀O W arg G,j=.Call (.Name O W) [arg] [] G->bK w X n B arg) (I:jq w X n B E a):mG w X n B E (.For R j a [] p):=by
 refineλY Z V T C=>X9 λc P=>?_
 cases Vb P with
 |one x W j i d J h=>exact Rm T C D I d J h
 |en u k b f h O W arg G g S d=>exact Dp T C (e _ _ _ _ rfl) I d g S h
inductive DX (g:eK) (p:PV) (v:Value) (K:aO) (μ:List bn) (h:eK):Prop
 |mk (a:bn) (oe:uO) (d:bn) (od:uO) (es:Array cF) (n:Nat) (x t:Value) (e:v=.ref a) (ga:g.get? a=am) (ho:h.get? a=ac oe) (c:oe.cls=.ref uU) (di:oe.dict=ac d) (da:oe.data=.fields #[t,.none,.none,.none,.bool ai,.none])
  (ka:K a=am) (ma:a∉μ) (kd:K d=ac od) (dd:od.data=.dict es n) (sk:uI es) (f:lf es "value"=ac x) (r:VR K μ p x)
def XT (X:aO) (C:bn):Prop:=∃(O q:an) (N:bn) (I a:List Value) (m:Bool) (o:List an) (sub:List Value) (i:Bool) (n:Option Bool) (dd:Option bn) (k0 k1 j L F:Option Value) (k:String),
    X C=ac (Eu O q C N I a m o sub i n dd k0 k1 j L F k)/\a.contains (.type "BaseException")=aq
structure tR (w:dG) (KF:aO) (n:Nat) (LM:on):Prop where
 cls:XT KF uU
 fn:∀a,(∃o fd,KF a=ac o/\o.data=.func fd)\/∀args,LM a args=aQ
 call:∀g a args vs,aj w KF [] n (λK μ h=>tU g K μ h/\bV K μ args vs) (LM a args) (DX g) (call (.ref a) vs [])
section
variable {sub:List Value}
theorem HZ (f:a.contains (.type "BaseException")=aq) (r:A.handled=am)
 (h:aD M A x (λv u=>∃e P t,v=.ref e/\u.heap.get? C=ac (Eu O q C N I a m o sub i n dd k0 k1 j L F k)/\
  u.heap.get? e=ac P/\P.cls=.ref C/\P.data=.fields #[t,.none,.none,.none,.bool ai,.none]/\E (.ref e) u) E s):
 aD M A (raiseStmt Z (ac x) am) Q E s:=by
 have y:(ge C::a).contains (.type "BaseException")=true:=by rw[List.contains_cons,f,He]
 unfold raiseStmt;refine ak<|a0 h (λv u T=>?_) λ_ _ x=>x
 refine I6 T λe P t S l J c p Y=>?_;subst S;obtain⟨W,g,d,tk,os⟩:=u;obtain⟨b,z,w,B⟩:=P;replace c:b=.ref C:=c;replace p:w=.fields #[t,.none,.none,.none,.bool ai,.none]:=p;subst c p
 repeat (first|with_reducible refine ja J ?_|with_reducible refine ja l ?_|(with_reducible refine XW l ?_;refine(af y)▸?_)|wp_step)
 exact wpAny_raiseNew_none r Y
end
inductive Sv (cx:Cx):Option bL->CS->Prop
 |mk (x:an) (xp:oq) (args:List bL) (cp:oq) (a:bn) (hs:args.any isStarred=ai) (hd:tN x=aq) (hg:cx.gl x=ac (.ref a)):Sv cx (ac (.Call (.Name x xp) args [] cp)) (.raise a (pN cx args))
theorem Mf (h:PN Y o=ac c):Sv Y o c:=by
 refine aI (bind_some h) λe S U=>?_;subst S;refine aI (bind_some U) λd g h=>aI (bind_some h) λx T h=>bD (cL h) λZ h=>aI (bind_some h) λq L h=>?_;refine aI (map_some h) λa I S=>?_;subst S;obtain rfl:=u3 I;refine i8 (GR (ia Z).1) λX G _=>?_
 (refine(zQ g)▸(vE T)▸?_;refine G▸?_)
 exact .mk x.1 x.2 _ _ a X (ia Z).2 L
theorem H0 (U:tR w X n E) (i:∀e,bK w X n B e):mG w X n B E (.Raise o am G):=by
 refineλY Z V T hl=>X9 λc hc=>?_
 cases Mf hc with
 |mk x W D cpos a hs hd hgl=>
 refine(arm_exec_Raise ..)▸?_;refine bA<|am5 ?_ (pL (ol B (pN Y D) V) (λl=>E a l) λp=>(aeo p:IM (gm×bO))).symm
 refine aet U.cls λO q N I bm hdct S=>aet S λsn sub ab col dd k0 Y8=>?_;refine RJ Y8 λk1 j k3 F newId hC f=>?_;intro A s K μ H M P iv c L
 have hcall:=pG (V:=V) (r:=W) (G:=cpos) (abi _) T hgl (se hd) hs (λe _=>i e)
  (λK μ v hv=>by
   obtain rfl:=(show v=.ref a from hv);rcases U.fn a with ⟨o,fd,h1,R⟩|h
   ·exact .inl ⟨.inr<|.inr ⟨a,o,fd,rfl,h1,R⟩,λps vs=>U.call s.heap a ps vs⟩
   ·exact .inr h)
 generalize hM:(ax (ol B (pN Y D) V) λl=>E a l)=M0 at hcall L|-
 have h0:M0 H≠.stuck:=λq=>L<|by(refine ah (f0 ..) ?_;rw[q])
 refine MD ?_;intro amZ;refine HZ (C:=uU) (O:=O) (q:=q) (N:=N) (I:=I) (a:=bm) (m:=hdct) (o:=sn) (sub:=sub) (i:=ab) (n:=col) (dd:=dd) (k0:=k0) (k1:=k1) (j:=j) (L:=k3) (F:=F) (k:=newId) f P.hd ?_;refine xS ?_;intro amJ;refine ak<|a0 (hcall A s K μ H M P iv ⟨c,λb o e=>⟨o,e⟩⟩ h0) (λv s₁ ⟨p,g,k,J,Q,dL,fL,hv,eX⟩=>ak<|cf<|av ?_) λy s₁ Yj=>yq.casesOn Yj λp g k J Q dL fL hex eX=>?_
 ·obtain⟨e,oe,d,z,es,m,u,t,rfl,h0',h1,R,h3,h4,h5,h6,h7,h8,h9,h10,h11⟩:=hv;exact⟨e,oe,t,rfl,fL.sub _ _ (fL.stat _ _ hC),h1,R,h4,⟨p,g,k,J,by(refine ah (f0 ..)<|(af Q)▸?_);rfl,dL.mono Ii,fL,⟨e,oe,d,_,z,es,m,u,rfl,h0',h1,R,h3,h4,h5,h6,h7,h8,h9,h10,h11,.no rfl⟩,eX⟩⟩
 ·exact⟨p,g,k,J,by(refine ah (f0 ..) ?_;rw[Q]),dL.mono Ii,fL,hex,eX⟩
inductive N0 (cx:Cx):List bL->bL->CS->Prop
 |name (x:an) (xp:oq) (v:bL) (i:Nat) (mu:Bool) (h:lC cx.names x=ac i):N0 cx [.Name x xp] v (.assign i (bR cx mu v))
 |mZ (ts:List bL) (k:Nat) (tp:oq) (vs:List bL) (k2:Nat) (vp:oq) (is:List Nat) (hm:ts.mapM (qL cx.names)=ac is) (h1:vs.any isStarred=ai) (h2:aa vs=aa ts) (h3:(vs.all (nH 8)&&!vs.all (o9 8))=ai) (h4:is.Nodup):N0 cx [.Tuple ts k tp] (.Tuple vs k2 vp) (.mZ is (Hv cx ts vs))
 |unp (ts:List bL) (k:Nat) (tp:oq) (v:bL) (is:List Nat) (hm:ts.mapM (qL cx.names)=ac is) (h:v.ctorIdx≠25):N0 cx [.Tuple ts k tp] v (.unpack is (bR cx ai v))
 |item (o i:bL) (sp:oq) (v:bL):N0 cx [.Subscript o i sp] v (.setItem (bR cx ai o) (bR cx ai i) (bR cx ai v))
theorem Tu (z:G.mapM (qL Y.names)=ac f) (h:YP Y G f v=ac c):N0 Y [.Tuple G k b] v c:=by
 unfold YP at h;by_cases q:v.ctorIdx=25
 ·rw[if_pos q] at h;refine aI (bind_some h) λy j h=>bD (cL h) λS h=>?_;obtain rfl:=al h;refine(yr j)▸?_;refine bD (ia S) λS X=>?_;exact bD (ia S) λS Z=>bD (ia S) λJ R=>.mZ _ _ _ _ _ _ _ z (u8 J) (eq_of_beq R) (u8 Z) (of_decide_eq_true X)
 ·rw[if_neg q] at h;obtain rfl:=al h;exact .unp _ _ _ _ _ z q
theorem V6 (h:afG Y G v=ac c):N0 Y G v c:=by
 refine aI (bind_some h) λt U h=>(uk U)▸?_;rcases pt h with h|h
 ·refine aI (map_some h) λi D S=>?_;subst S;refine aI (s8 D) λx e d=>?_;subst e;exact .name _ _ _ _ _ d
 ·rcases pt h with h|h
  ·refine aI (bind_some h) λx T h=>aI (bind_some h) λf z h=>(yr T)▸?_;exact Tu z h
  ·refine aI (bind_some h) λx T h=>bD (cL h) λ_ h=>?_;obtain rfl:=al h;refine(Vx T)▸?_;exact .item _ _ _ _
theorem Sm (N:∀e,bK w X n B e) (u:∀e,iP w X n B e):mG w X n B E (.Assign G v p):=by
 refineλY Z V T C=>X9 λc P=>?_
 cases V6 P with
 |name x W v i F D=>
  cases L:Di v with
  |false=>exact vK T C D (N v) _ (yk L)
  |true=>
   rcases K1 L with q|q
   ·exact agh v q λA M scope O=>DP T C D (N A) (λI iter Q a _=>⟨N iter,λe _=>u e⟩) F
   ·exact(q ..)▸bf
 |mZ G k b U j H f z J R y S=>exact LH T C z J R y S λe _=>N e
 |unp G k b v f z h=>exact EK T C z (N v) h
 |item o i g v=>exact CH T C (N o) (N i)<|N v
mutual
theorem ZS (N:∀e,bK w X n B e) (u:∀e,iP w X n B e) (U:tR w X n E):∀s,mG w X n B E s
 |.Return am p=>eQ λ_=>rfl
 |.Return (ac e) p=>PI<|N e
 |.Assign G v p=>Sm N u
 |.AugAssign t I v p=>Sj<|N v
 |.Expr e p=>Nj<|N e
 |.If t a b p=>UZ (u t) (pw N u U a)<|pw N u U b
 |.While t b [] p=>Hm (u t)<|pw N u U b
 |.While t b (_::_) p=>eQ λ_=>rfl
 |.For R j b [] p=>Gc (N j) (λ_ _ arg _ _=>N arg)<|pw N u U b
 |.For R j b (_::_) p=>eQ λ_=>rfl
 |.Break p=>Sd
 |.Continue p=>Nz
 |.Raise e am p=>H0 U N
 |.Raise e (ac _) p=>eQ λ_=>rfl
 |.FunctionDef ..=>eQ λ_=>rfl
 |.AsyncFunctionDef ..=>eQ λ_=>rfl
 |.ClassDef ..=>eQ λ_=>rfl
 |.Delete ..=>eQ λ_=>rfl
 |.TypeAlias ..=>eQ λ_=>rfl
 |.AnnAssign ..=>eQ λ_=>rfl
 |.AsyncFor ..=>eQ λ_=>rfl
 |.With ..=>eQ λ_=>rfl
 |.AsyncWith ..=>eQ λ_=>rfl
 |.Match ..=>eQ λ_=>rfl
 |.Try ..=>eQ λ_=>rfl
 |.TryStar ..=>eQ λ_=>rfl
 |.Assert ..=>eQ λ_=>rfl
 |.Import ..=>eQ λ_=>rfl
 |.ImportFrom ..=>eQ λ_=>rfl
 |.Global ..=>eQ λ_=>rfl
 |.Nonlocal ..=>eQ λ_=>rfl
 |.Pass ..=>eQ λ_=>rfl
theorem pw (N:∀e,bK w X n B e) (u:∀e,iP w X n B e) (U:tR w X n E):∀l,jq w X n B E l
 |[]=>Qo
 |s::r=>NA (ZS N u U s)<|pw N u U r
end
noncomputable def fE (a:Nat) (z:List PV):bO:=z.map ac++aX (a-aa z) am
noncomputable def qN:bO->Nat->List PV->bO
 |σ,_,[]=>σ
 |σ,j,p::z=>qN (σ.set j<|ac p) (j+1) z
theorem w8:qN σ j []=σ:=rfl
theorem uZ:qN V j (p::ps)=qN (V.set j<|ac p) (j+1) ps:=rfl
theorem uY:∀z pre m,aa z<=m->qN (pre++aX m am) (aa pre) z=pre++(z.map ac++aX (m-aa z) am)
 |[],pre,m,_=>by simp[w8,uZ]
 |p::z,pre,0,h=>by simp at h
 |p::z,pre,m+1,h=>by
  have e:(pre++aX (m+1) (am:Option PV)).set (aa pre) (ac p)=(pre++[ac p])++aX m none:=by simp[List.replicate_succ]
  have o:=uY z (pre++[ac p]) m<|by simpa using h
  simp only[w8,uZ];refine e▸?_;have C:aa (pre++[ac p])=aa pre+1:=by simp
  rw[C] at o;refine ah o ?_;simp
theorem CI (w ps) (h:aa ps<=w):qN (aX w am) 0 ps=fE w ps:=by have:=uY ps [] w h;simpa[fE] using this
theorem uy:∀U n S x,((∃c,S.lookup x=ac c)\/U.lookup x=ac .cell)->∃c,(xD n U S).lookup x=ac c
 |[],n,S,x,h=>by
  rcases h with h|h
  ·exact h
  ·simp at h
 |(y,k)::r,n,S,x,h=>by
  unfold xD;rw[bt] at h;by_cases G:(k==SQ)=aq
  ·refine(if_pos G)▸?_;refine uy r (n+1) _ x ?_;rw[bt]
   cases m:x==y with
   |true=>exact .inl ⟨n,rfl⟩
   |false=>rw[m] at h;exact h
  ·refine(if_neg G)▸?_;refine uy r n S x ?_;rcases h with h|h
   ·exact .inl h
   ·cases m:x==y with
    |true=>rw[m] at h;obtain rfl:=al h;exact absurd rfl G
    |false=>rw[m] at h;exact .inr h
theorem afz (k:vN Z) (S:U.Nodup) (f) (Y:∀n v u,f (n,v) u=(do afX Z n v;pure (.yield ⟨⟩)))
 {K:aO}:
 ∀(d:List (an×Value)) (T:List PV) (j:Nat) (V:bO) (s:bj) (Q:PUnit->bj->Prop),
  (∀i x v,d[i]?=ac (x,v)->U[j+i]?=ac x/\(Z.kindOf x=ac .local\/Z.kindOf x=ac .cell))->bV K O T (d.map (·.2))->j+aa d<=aa V->Inv X K O H M s.heap->aT Z U V K O s.heap->
  (∀F,Step (aY Z) K O s.heap K O F.heap->Inv X K O H M F.heap->aT Z U (qN V j T) K O F.heap->aW s F->Q ⟨⟩ F)->aD (MM w) A (forIn d ⟨⟩ f) Q E s:=by
 intro d
 induction d with
 |nil=>
  intro T j V s Q _ a _ N fr h
  induction T with
  |nil=>exact av<|h s (iT ..) N fr<|.refl s
  |cons p T=>cases a.length
 |cons b r o=>
  intro T j V s Q B a C N fr h;refine nu ?_;intro I;cases T with|nil=>cases a.length|cons p T=>?_
  (refine kW (cC ..)<|(Y ..)▸?_)
  refine cN a λG t e J a=>?_;have W:=An e;rw[<-W.2] at a;rw[<-W.1] at J;have g:=B 0 b.1 b.2 rfl;have R:=lg (w:=w) (A:=A) (E:=E) k g.1 S (lY (jt<|mK _) C) (g.2.imp id λq=>⟨q,λ_ m=>m⟩) bd N ⟨fr,J⟩;refine ak<|ak<|a0 R (λ_ F z=>av ?_) λ_ _ x=>x
  refine o T (j+1) _ F Q (λi y u q=>?_) (vW z.1 a) (by(refine(af d7)▸?_;refine(d9 ..)▸?_;refine(af (gs 1 ..))▸?_);exact C) z.2.1 z.2.2.1 λc L D l P=>h c (z.1.trans L) D l<|z.2.2.2.trans P
  refine(af<|show j+1+i=j+(i+1) by rw[d9,gs 1 i])▸?_;exact B (i+1) y u q
noncomputable def tQ (K:aO) (L:bn):aO:=⟨K.P,K.f,λa=>K.fr a\/a=L⟩
theorem Inv.tQ {K:aO} (N:Inv X K O H Y h) (L):Inv X (Internal.tQ K L) O H Y h:=
 ⟨N.par,N.stat,N.sub,N.kf,⟨N.kM.len,N.kM.nodup,λi a l D C=>by
  obtain⟨k,o,n,U,e,c,d,r⟩:=N.kM.at_ i a l D C;have:=rH (K:=K) (K':=Internal.tQ K L) (Q:=[]) rfl (λ_ _ e=>e) l U r
  exact⟨k,o,n,U,e,c,d,by simpa using this⟩⟩,⟨λZ J=>by
  obtain⟨k,M,o,f,v,m,e,fo,fr⟩:=N.stk.all Z J
  exact⟨k,M,o,f,v,m,e,fo,.inl fr⟩⟩⟩
theorem vd {code:Value} {K:aO} {O:List bn} {H:Hp} {M:List mh} {E:Value->bj->Prop} {Q:mh->bj->Prop}
 (G:scope.kind=.function) (r:(scope.names.map (·.1)).Nodup) (hfree:∀x∈scope.names,x.2≠.free)
 (B:∀(i:Nat) (x:an) (v:Value),d[i]?=ac (x,v)->(scope.names.map (·.1))[i]?=ac x/\(scope.names.lookup x=ac .local\/scope.names.lookup x=ac .cell))
 (hps:bV K O ps (d.map (·.2))) (J:aa d<=aa scope.names) (N:Inv X K O H M s.heap)
 (V:∀env F j,env=newEnv scope s.heap.objs.size 3 (xD (s.heap.objs.size+1) scope.names []) qual T code am 0->vN env->(∀a∈aY env,s.heap.get? a=am)->Step [] K O s.heap j O F.heap->Inv X j O H (env::M) F.heap->
  aT env (scope.names.map (·.1)) (fE (aa scope.names) ps) j O F.heap->aW s F->Q env F):
 aD (MM w) A (JJ scope 3 [] d qual T code am 0) Q E s:=by
 simp only[JJ,Option.isSome_none,bP,if_false];refine ak<|wpAny_alloc ?_
 refine ak<|wpAny_layCells _ (λname kind cells=>by cases hkc:kind==SQ<;>simp[hkc]) _ _ _ _ ?_
 have g:=cellsFrom_ok scope.names (s.heap.push {cls:=.type "frame",data:=.dict #[]}) (s.heap.objs.size+1) [] ⟨λ_ _ hm=>(nomatch hm),Ch⟩<|by exact(jk ..)▸bT _
 rw[jk] at g;refine(jk ..)▸?_;generalize Z:newEnv scope s.heap.objs.size 3 (xD (s.heap.objs.size+1) scope.names []) qual T code am 0=env;have C:env.cells=xD (s.heap.objs.size+1) scope.names []:=by refine(Z)▸?_;rfl
 have L:env.locals=s.heap.objs.size:=by refine(Z)▸?_;rfl
 have f:env.scope=scope:=by refine(Z)▸?_;rfl
 have l:∀x,env.kindOf x=scope.names.lookup x:=λx=>by unfold SY;rw[f]
 have k:vN env:=⟨by exact f▸G,by refine(Z)▸?_;rfl,by refine(Z)▸?_;rfl,by exact C▸g.apart,λx hx=>by
  rw[l] at hx;refine C▸?_;rcases hx with hx|hx
  ·exact uy _ _ _ x (.inr hx)
  ·exact absurd rfl<|hfree _ (mem_of_lookup hx)⟩
 have kp:de s.heap (xB (s.heap.push {cls:=.type "frame",data:=.dict #[]}) scope.names):=λb o e=>⟨o.slots,GX _ _ b o (aR _ e),.inl rfl⟩;have y:=(N.keep kp).tQ env.locals
 have aid:bV (Internal.tQ K env.locals) O ps (d.map (·.2)):=by have:=rH (K:=K) (K':=Internal.tQ K env.locals) (Q:=[]) rfl (λ_ _ e=>e) _ _ hps;simpa using this
 have t:s.heap.get? env.locals=none:=by exact(af L)▸bX _
 have hLo:(xB (s.heap.push {cls:=.type "frame",data:=.dict #[]}) scope.names).get? env.locals=ac {cls:=.type "frame",data:=.dict #[]}:=by exact(af L)▸GX _ _ _ _ (b6 _ rfl)
 have h:Inv X (Internal.tQ K env.locals) O H (env::M) (xB (s.heap.push {cls:=.type "frame",data:=.dict #[]}) scope.names):=by
  refine⟨y.par,y.stat,y.sub,y.kf,y.kM,⟨λR he=>?_⟩⟩;rcases aM.mp he with rfl|he
  ·exact⟨by(refine(af f)▸(af G)▸?_);decide,R.locals,_,by refine(Z)▸?_;rfl,N.cO t,N.dY t,hLo,⟨rfl,_,_,rfl⟩,.inr rfl⟩
  ·exact y.stk.all R he
 have hcn:∀x c,(x,c)∈env.cells->s.heap.get? c=am/\c≠env.locals:=λx c P=>by rw[C] at P;have:=(g.empty x c P).2;exact⟨iS<|eV this,by exact(af L)▸pg this⟩
 have m:∀a∈aY env,s.heap.get? a=none:=λa I=>by
  simp only[aY,aM,b3] at I;rcases I with rfl|⟨⟨x,c⟩,P,rfl⟩
  ·exact t
  ·exact(hcn x c P).1
 have U:aT env (scope.names.map (·.1)) (aX (aa scope.names) am) (Internal.tQ K env.locals) O (xB (s.heap.push {cls:=.type "frame",data:=.dict #[]}) scope.names):=by
  refine⟨λ_=>am,?_,N.cO t,N.dY t,λx c P=>?_,λi x p _ W=>?_⟩
  ·exact(af L)▸(Heap.Ns.new s.heap<|.type "frame").keeps (GX _ _)
  ·refine bD (hcn x c P) λh1 h2=>?_;rw[C] at P;exact⟨N.cO h1,N.dY h1,h2,am,(g.empty x c P).1⟩
  ·rw[G0] at W;split at W<;>cases W
 refine ak<|afz k r _ (λn v u=>by refine(Z)▸?_;rfl) d ps 0 (aX (aa scope.names) am) {s with heap:=xB (s.heap.push {cls:=.type "frame",data:=.dict #[]}) scope.names} _ (λi x v q=>?_) aid (by simpa using J) h U λF st At Y S=>av ?_
 ·have:=B i x v q
  (refine(af (fV ..))▸(af (l ..))▸?_);exact this
 ·have h0:aa ps<=aa scope.names:=by have:=hps.length;simp at this;exact cQ (bk [aa d,aa scope.names,aa ps] [] [(1,aK,bg),(1,cu,aK),(1,xi bg,cu)] rfl (cl J)<|cl<|ao<|af this)
  rw[CI _ _ h0] at Y
  have st0:Step [] K O s.heap (Internal.tQ K env.locals) O (xB (s.heap.push {cls:=.type "frame",data:=.dict #[]}) scope.names):=
   have z:=kp.step (K:=K) (μ:=O)
   ⟨z.par,z.kle,z.new,z.pre,z.there,z.keep,λa q=>by
     rcases q with q|q
     ·exact .inl q
     ·refine(af q)▸?_;exact .inr t⟩
  have D:Step [] K O s.heap (Internal.tQ K env.locals) O F.heap:=st0.hide st λa I=>.inr<|m a I
  have:=V env F _ Z.symm k m D At Y S;rw[<-Z] at this;exact this
theorem EC:∀(U:List an) (f:List Value),aa U=aa f->∀n∈U,∃v,(U.zip f).lookup n=ac v
 |[],_,_,n,h=>by simp at h
 |a::r,[],h,_,_=>by simp at h
 |a::r,v::Z,h,n,F=>by
  (refine pI▸?_;rw[bt])
  cases q:n==a with
  |true=>exact⟨v,rfl⟩
  |false=>
   rcases aM.mp F with e|e
   ·subst e;simp at q
   ·exact EC r Z (by simpa using h) n e
theorem Gd:∀l:List Z,(∀a∈l,f a=g a)->l.filterMap f=l.filterMap g
 |[],_=>rfl
 |a::r,h=>by rw[eZ,eZ,h a (by simp),Gd r λb B=>h b<|by simp[B]]
theorem J5:∀(U:List an) (f:List Value),aa U=aa f->U.Nodup->(U.filterMap λn=>((U.zip f).lookup n).map (n,·))=U.zip f
 |[],[],_,_=>rfl
 |[],_::_,h,_=>by simp at h
 |a::r,[],h,_=>by simp at h
 |a::r,v::Z,h,F=>by
  rw[ls] at F;have o:=J5 r Z (by simpa using h) F.2
  (refine pI▸ah eZ ?_)
  have J:g9 a ((a,v)::r.zip Z)=ac v:=by refine ah bt ?_;simp
  refine J▸?_;dsimp only[yA];congr 1;refine ah ?_ o;refine Gd r λn z=>?_;rw[bt]
  have:(n==a)=false:=by
   cases q:n==a with
   |true=>have:=beq_iff_eq.mp q;subst this;exact absurd z F.1
   |false=>rfl
  rw[this]
structure j1 (p:jE):Prop where
 pos:p.posonlyargs=[]
 var:p.vararg=am
 kwo:p.kwonlyargs=[]
 kwa:p.kwarg=am
theorem j1.eq (h:j1 p):p=⟨[],p.args,am,[],p.kw_defaults,am,p.defaults⟩:=by
 cases p with|mk a b c d e f g=>?_
 cases h with|mk J R y X=>?_
 subst J;subst R;subst y;subst X;rfl
noncomputable def yW (x:an×Value) (r:List (an×Value)):jN (ForInStep<|List<|an×Value):=if(r.lookup x.1).isNone=aq then pure (.yield<|r++[(x.1,x.2)]) else pure (.yield r)
theorem MA (L:List (an×Value)):(∀x∈L,∃v,slots.lookup x.1=ac v)->(forIn L slots yW:jN _)=pure slots:=by
 induction L with
 |nil=>exactλ_=>rfl
 |cons x r o=>
  intro h;refine be (h x bd) λv t=>?_
  (refine ah (cC ..)<|(show yW x slots=pure (.yield slots) from if_neg<|by rw[t];exact bq)▸?_)
  exact o λx T=>h x<|bc _ T
def j9 (h:eK) (v:Value) (D:List Value):Prop:=(v=.none/\D=[])\/∃d o n,v=.ref d/\h.get? d=ac o/\o.data=.seq (ag D) n
theorem yF (h:j9 s.heap v D) (V:∀o:Option (Array Value),(o.getD #[]).toList=D->Q o s):aD M A (D7 v) Q E s:=by
 rcases h with ⟨rfl,rfl⟩|⟨d,o,n,rfl,L,g⟩
 ·exact av<|V am rfl
 ·exact JD L g<|V _ rfl
theorem rd (W:j1 fd.params) (g:j9 s.heap fd.defaults D)
 (J:aa f<=aa (fd.params.args.map (·.arg)))
 (R:(((fd.params.args.map (·.arg)).take (aa (fd.params.args.map (·.arg))-aa (D.drop (aa D-aa (fd.params.args.map (·.arg)))))).filter λn=>(((fd.params.args.map (·.arg)).zip f).lookup n).isNone).isEmpty=aq)
 (y:(forIn (((fd.params.args.map (·.arg)).drop (aa (fd.params.args.map (·.arg))-aa (D.drop (aa D-aa (fd.params.args.map (·.arg)))))).zip (D.drop (aa D-aa (fd.params.args.map (·.arg))))) ((fd.params.args.map (·.arg)).zip f) yW:jN _)=pure r)
 (X:((fd.params.args.map (·.arg)).filterMap λn=>(r.lookup n).map (n,·))=res) (V:Q res s):aD M A (rn fd ⟨f,[]⟩) Q E s:=by
 unfold rn;rw[W.eq];refine ak<|la rfl<|ak<|yF g λo L=>?_
 rw[<-L] at R y;refine s0 (λh=>absurd (of_decide_eq_true ((bu _ _).mp h).1)<|cW.mpr J)<|s0 (λh=>absurd (ah R.symm<|j5 _▸h) ku) ?_
 refine ak<|la y ?_
 refine ak<|la rfl<|av ?_
 show Q (tW (λn=>(r.lookup n).map (n,·)) (fd.params.args.map (·.arg)++[])) s;rw[fq];exact X▸V
theorem iK {fd:wY} (W:j1 fd.params) (g:j9 s.heap fd.defaults D) (C:aa (fd.params.args.map (·.arg))=aa f) (F:(fd.params.args.map (·.arg)).Nodup)
 (V:Q ((fd.params.args.map (·.arg)).zip f) s):aD M A (rn fd ⟨f,[]⟩) Q E s:=by
 have N:=EC _ f C;refine rd W g (ao C.symm) ?_ (MA _ λx T=>N _ (List.mem_of_mem_drop (List.of_mem_zip T).1)) (J5 _ f C F) V;rw[kt,jA];intro n F;refine be (N n<|List.mem_of_mem_take F) λv t=>?_;rw[t];exact bq
theorem AZ (W:j1 fd.params) (I:fd.params.args=[a,b]) (x:(b.arg==a.arg)=ai) (g:j9 s.heap fd.defaults [d])
 (V:Q [(a.arg,v),(b.arg,d)] s):aD M A (rn fd ⟨[v],[]⟩) Q E s:=by
 have z:fd.params.args.map (·.arg)=[a.arg,b.arg]:=by rw[I];rfl
 have D:g9 a.arg [(a.arg,v)]=ac v:=by rw[bt,beq_self_eq_true]
 have P:g9 b.arg [(a.arg,v)]=none:=by rw[bt,x];rfl
 refine rd (r:=[(a.arg,v),(b.arg,d)]) W g ?_ ?_ ?_ ?_ V<;>rw[z]
 ·exact ej 1
 ·show(aga _ [a.arg]).isEmpty=aq;rw[gH<|by rw[show g9 a.arg (XZ [a.arg,b.arg] [v])=ac v from D];exact bq];rfl
 ·show forIn [(b.arg,d)] [(a.arg,v)] yW=_;rw[cC,show yW (b.arg,d) [(a.arg,v)]=pure (.yield<|[(a.arg,v)]++[(b.arg,d)]) from if_pos<|by rw[P];rfl];rfl
 ·rw[eZ,show g9 a.arg [(a.arg,v),(b.arg,d)]=ac v by rw[bt,beq_self_eq_true],eZ,show g9 b.arg [(a.arg,v),(b.arg,d)]=ac d by rw[bt,x,bt,beq_self_eq_true]];rfl
def jp (F:bn->Prop) (S:List bn) (h f:eK):Prop:=∀b o,b∉S->h.get? b=ac o->∃p,f.get? b=ac {o with slots:=p}/\(p=o.slots\/(b5 o/\F b))
theorem jp.trans (x:jp F S h T) (y:jp F S T h₂):jp F S h h₂:=λb o B e=>by
 refine aI (x b o B e) λp m q1=>aI (y b _ B m) λs i E=>⟨s,i,?_⟩;rcases q1 with rfl|q1
 ·exact E
 ·exact .inr q1
theorem jp.mono (x:jp F S h h') (d:∀b∈S,b∈T):jp F T h h':=λb o B e=>x b o (λq=>B<|d b q) e
theorem Inv.kO {X K:aO} (N:Inv X K O H M h) (W:∀b∈S,K b=am/\b∉O/\∀o,h.get? b=ac o->¬b5 o) (x:jp K.fr S h h'):Inv X K O H M h':=
 ⟨N.par,N.stat,λb o e=>by
    refine aI (x b o (λm=>by rw[(W b m).1] at e;cases e)<|N.sub b o e) λp Y q=>?_;rcases q with rfl|q
    ·exact Y
    ·exact absurd q.1<|N.kf b o e,N.kf,
  ⟨N.kM.len,N.kM.nodup,λi b l D C=>by
   obtain⟨k,o,n,U,e,c,r,u⟩:=N.kM.at_ i b l D C;refine aI (x b o (λm=>(W b m).2.1<|br D) e) λp Y q=>?_;rcases q with rfl|q
   ·exact⟨k,o,n,U,Y,c,r,u⟩
   ·exact absurd q.1<|N.kM.By D e⟩,
  ⟨λZ J=>by
   obtain⟨k,L,o,f,v,m,e,fo,fr⟩:=N.stk.all Z J
   exact aI (x L o (λq=>(W L q).2.2 o e fo) e) λp Y _=>⟨k,L,_,f,v,m,Y,fo,fr⟩⟩⟩
theorem Step.kO {K K₁:aO} (st:Step W K O g K₁ J h) (Y:∀b∈S,g.get? b=fS) (x:jp K₁.fr S h h'):Step W K O g K₁ J h':=
 ⟨st.par,st.kle,st.new,st.pre,λa o e=>by
     refine be (st.there a o e) λB R=>aI (x a B (λq=>by rw[Y a q] at e;cases e) R) λp m _=>?_;exact⟨_,m⟩,
  λa o e z Z=>by
   refine aI (st.keep a o e z Z) λp R hs=>aI (x a _ (λq=>by rw[Y a q] at e;cases e) R) λs m P=>?_;refine⟨s,m,?_⟩;rcases hs with rfl|hs
   ·refine P.imp id λq=>⟨q.1,?_⟩;rcases st.frs a q.2 with r|r
    ·exact r
    ·rw[e] at r;cases r
   ·exact .inr hs,st.frs⟩
noncomputable def Zm:Heap:={objs:=#[]}
theorem vu {K:aO}:∀{M},vL K O M h->h.FunFrames Zm M
 |[],_=>trivial
 |env::M,st=>by
  obtain⟨k,L,o,f,v,m,e,fo,fr⟩:=st.all env<|by simp
  refine bD fo λc S=>lm S λu n d=>?_;exact⟨k,⟨L,o,f,rfl,e,λU q=>by rw[d] at q;cases q⟩,vu ⟨λenv J=>st.all env<|by simp[J]⟩⟩
theorem vL.BL {K:aO} (st:vL K O M h) (B:b∈M.filterMap (·.frame)):∃o,h.get? b=ac o/\b5 o/\K.fr b:=by rw[List.mem_filterMap] at B;refine aI B λZ J e=>?_;obtain⟨k,L,o,f,v,m,R,fo,fr⟩:=st.all Z J;rw[f] at e;obtain rfl:=al e;exact⟨o,R,fo,fr⟩
theorem AS {K:aO} (st:vL K O M h) (x:Heap.SlotsOnly (M.filterMap (·.frame)) h h') (S):jp K.fr S h h':=λb o _ e=>by
 by_cases q:b∈M.filterMap (·.frame)
 ·refine gN (st.BL q) λB R fo fr=>?_;rw[e] at R;obtain rfl:=al R;exact be (x.2.2 b o e) λp m=>⟨p,m,.inr ⟨fo,fr⟩⟩
 ·exact⟨o.slots,by exact ah (x.2.1 b q)<|e,.inl rfl⟩
theorem Da (h o S):jp F S h (h.push o):=λ_ B _ e=>⟨B.slots,aR o e,.inl rfl⟩
theorem oE (h a f):jp F [a] h (h.update a f):=λb o B e=>⟨o.slots,by
 refine ah (fP _ _ λq=>B<|by simp[q]) ?_;exact e,.inl rfl⟩
theorem xr {K:aO} (j:A.frames=ac (Z::fs)) (st:vL K O (Z::fs) s.heap) (Y:Z.frame=ac L)
 (J:s.heap.get? e=ac P) (g:P.data=.fields U) (hsz:1<U.size)
 (h:∀h' T r G,jp K.fr [e] s.heap h'->s.heap.get? T=am->T≠e->h'.get? T=ac r->r.data=.fields G->G[3]?=ac gf->
  h'.get? e=ac (P.mapFields (·.setIfInBounds 1 (.ref T)))->Q () {s with heap:=h'}):
 aD M A (do let a <-frameOf Z;let D <-entryPlaceOf L hadNext;let b <-Ek C a .none (pY L) .none D;setField (.ref e) 1 b) (λ_ F=>aD M A (xA (.ref e) am) Q E F) E s:=by
 have ait:e∉(Z::fs).filterMap (·.frame):=λz=>by refine gN (st.BL z) λo ho fo _=>?_;rw[J] at ho;obtain rfl:=al ho;refine bD fo λ_ S=>lm S λu n d=>?_;rw[g] at d;cases d
 refine ak<|wpAny_frameOf_fun j (vu st) Y λh₁ y=>?_
 have i:=AS st y [e];refine ak<|wpAny_entryPlaceOf λD t=>?_
 unfold Ek newFields;refine ak<|rR ?_ (t.sizeOk5 _ _ _ _ _)
 have k:=ah (y.2.1 e ait) J;generalize hT0:({cls:=.type "traceback",dict:=am,data:=.fields (ag<|[C,.ref L,.none,pY L,.none]++(if D.isEmpty then aX 6 gf else D))}:uO)=v;have w:v.data=.fields (ag<|[C,.ref L,.none,pY L,.none]++(if D.isEmpty then aX 6 gf else D)):=by rw[<-hT0]
 have aip:=j4 w;have R:=aR v k;refine rk R g hsz ?_;have H:=pg<|dS k
 have N:=ig g (·.setIfInBounds 1 (ge h₁.objs.size));have W:=ek (nQ (·.setIfInBounds 1 (ge h₁.objs.size))) R<|j4 N
 have I:=ah (fP (h₁.push v) (nQ (·.setIfInBounds 1 (ge h₁.objs.size)))<|js H)<|b6 h₁ aip
 unfold xA;refine ak<|lb W N (x:=.ref h₁.objs.size) (by simp[hsz]) ?_
 refine kW (if_pos rfl) ?_
 have X:3<([C,.ref L,.none,pY L,.none]++(if D.isEmpty then aX 6 gf else D)).toArray.size:=by(refine aS▸aJ▸?_);exact lY (by decide:3<5)<|co _ _
 refine rk I w X ?_;have l:=ig w (·.setIfInBounds 3 ((am:Option bn).elim gf λf=>pY f))
 have V:s.heap.get? h₁.objs.size=none:=by have:=y.1;exact this▸bX _
 refine h _ h₁.objs.size _ _ ?_ V H (ek _ I (j4 l)) l (by
  refine ah Ap ?_
  simp only[if_true,if_pos X];rfl) ?_
 ·intro b o B eo;exact aI ((i.trans ((Da h₁ v [e]).trans (oE (h₁.push v) e (nQ (·.setIfInBounds 1 (ge h₁.objs.size)))))) b o B eo) λp m c=>⟨p,by refine ah (fP _ _ λq=>by rw[<-q,V] at eo;exact aE eo) ?_;exact m,c⟩
 ·refine ah (fP _ _ H) ?_;exact W
theorem xn {A:iN} (h:A.guards=ac []):(A.deeper Z).guards=ac []:=h
theorem zA {A:iN} (h:A.guards=ac []) (P:c.guards=[]):(A.under c).guards=ac []:=by show pushGuards c.guards A.guards=_;exact(af P)▸h
theorem BU (o:uO) (f):(o.mapFields f).dict=o.dict:=by obtain⟨c,d,I,p⟩:=o;rcases I<;>rfl
theorem Inv.pop {X K:aO} (N:Inv X K O H (Z::M) h):Inv X K O H M h:=
 ⟨N.par,N.stat,N.sub,N.kf,N.kM,⟨λe J=>N.stk.all e<|by simp[J]⟩⟩
theorem zf {X K gF:aO} (j:A.frames=ac (Z::fs)) (N:Inv X K O H (Z::fs) s.heap)
 (x:kh g K O p e s.heap) (Y:Z.frame=ac L) (st:Step W gF tH g K O s.heap)
 (V:∀s',Inv X K O H (Z::fs) s'.heap->Step W gF tH g K O s'.heap->kh g K O p e s'.heap->aW s s'->Q () s'):aD M A (Ow e Z) (λ_ s₂=>aD M A (xA e am) Q E s₂) E s:=by
 obtain⟨a,oe,d,U,z,u,n,v,rfl,ga,I,hcl,w,D,ka,k,kd,m,F,R,t,htb⟩:=x
 have nfe:∀o,s.heap.get? a=ac o->¬b5 o:=λo e f=>by rw[I] at e;obtain rfl:=al e;refine bD f λ_ S=>lm S λu n d=>?_;rw[D] at d;cases d
 unfold Ow;simp only[Y];rcases htb with J|⟨T,r,G,J,gT,hTa,q,mT,hT,l,y⟩
 ·refine adb ?_;intro alj;refine ak<|lb I D J ?_
  refine kW (if_neg<|by decide)<|xr j N.stk Y I D (fK.mp J).1 λh' T' oT' ts' k' n' C e' d' t' ee=>?_
  have P:=(N.kO (λb B=>by simp at B;subst B;exact⟨ka,k,nfe⟩) k');have st':=st.kO (λb B=>by simp at B;subst B;exact ga) k'
  exact V _ P st' ⟨a,_,d,_,z,u,n,v,rfl,ga,ee,ah (x0 ..) hcl,ah (BU ..) w,ig D _,ka,k,kd,m,F,R,t,
   .at T' oT' ts' (by simp[(fK.mp J).1]) (st.none n') C (N.cO n') (N.dY n') e' d' t'⟩ ⟨rfl,rfl⟩
 ·have nfT:∀o,s.heap.get? T=ac o->¬b5 o:=λo e f=>by
   rw[hT] at e;obtain rfl:=al e;refine bD f λ_ S=>lm S λu n d=>?_;rw[l] at d;cases d
  refine ak<|lb I D J ?_
  refine kW (if_pos<|by simp)<|ak<|lb hT l y ?_
  refine kW (if_neg<|by simp[pY])<|ak<|rk hT l (fK.mp y).1 ?_
  have i:jp K.fr [a,T] s.heap (s.heap.update T (nQ (·.setIfInBounds 3 gf))):=(oE s.heap T _).mono<|by simp
  have hS:∀b∈[a,T],K b=am/\b∉O/\∀o,s.heap.get? b=ac o->¬b5 o:=λb B=>by
   simp only[aM,aZ,or_false] at B;rcases B with rfl|rfl
   ·exact⟨ka,k,nfe⟩
   ·exact⟨q,mT,nfT⟩
  have hG:∀b∈[a,T],g.get? b=none:=λb B=>by
   simp only[aM,aZ,or_false] at B;rcases B with rfl|rfl
   ·exact ga
   ·exact gT
  have h:=N.kO hS i;have ha₁:(s.heap.update T (nQ (·.setIfInBounds 3 gf))).get? a=ac oe:=by refine ah (fP _ _ hTa) ?_;exact I
  refine xr j h.stk Y ha₁ D (fK.mp J).1 λh' T' oT' ts' k' n' C e' d' t' ee=>?_;have k₂:=i.trans<|k'.mono<|by simp
  have P:=(N.kO hS k₂);have st':=st.kO hG k₂;have c:=st.kO hG i
  exact V _ P st' ⟨a,_,d,_,z,u,n,v,rfl,ga,ee,ah (x0 ..) hcl,ah (BU ..) w,ig D _,ka,k,kd,m,F,R,t,
   .at T' oT' ts' (by simp[(fK.mp J).1]) (c.none n') C (h.cO n') (h.dY n') e' d' t'⟩ ⟨rfl,rfl⟩
theorem FN {X K f:aO} (j:A.frames=ac (Z::U)) (N:Inv X K O H (Z::U) s.heap)
 (x:kh g K O p e s.heap) (Y:Z.frame=ac L) (st:Step W f i g K O s.heap)
 (V:∀F,Inv X K O H U F.heap->Step W f i g K O F.heap->kh g K O p e F.heap->aW s F->Q () F):aD M A (leaving Z e) Q E s:=
 ak (zf j N x Y st λF P=>V F P.pop)
mutual
noncomputable def jd:PV->Bool
 |.dR _=>ai
 |.tup l=>gY l
 |.lst l=>gY l
 |.dct _ l=>gY l
 |.xT _ l=>gY l
 |.none=>aq
 |.bool _=>aq
 |.int _=>aq
 |.str _=>aq
 |.bytes _=>aq
 |.ref _=>aq
 |.ty _=>aq
 |.blt _=>aq
 |.Ki _ _=>aq
 |.uo=>aq
 |.AM=>aq
noncomputable def gY:List PV->Bool
 |[]=>aq
 |p::l=>jd p&&gY l
end
mutual
theorem VR.jd {K:aO}:∀p v,Internal.jd p=aq->VR K O p v->VR K Q p v
 |.none,_,_,h|.bool _,_,_,h|.int _,_,_,h|.str _,_,_,h|.bytes _,_,_,h|.ref _,_,_,h|.ty _,_,_,h|.blt _,_,_,h|.AM,_,_,h|.uo,_,_,h|.Ki _ _,_,_,h=>h
 |.tup l,v,q,h|.lst l,v,q,h=>by obtain⟨a,o,n,U,e,k,c,d,r⟩:=h;exact⟨a,o,n,U,e,k,c,d,bV.jd l U q r⟩
 |.dR i,v,q,h=>nomatch q
 |.dct j l,v,q,h|.xT j l,v,q,h=>by obtain⟨a,o,n,u,e,k,c,d,b,E,G,r⟩:=h;exact⟨a,o,n,u,e,k,c,d,b,E,G,bV.jd l _ q r⟩
theorem bV.jd {K:aO}:∀l U,gY l=aq->bV K O l U->bV K Q l U
 |[],_,_,h=>h
 |p::l,U,q,h=>by refine cN h λv r e a b=>?_;exact⟨v,r,e,VR.jd p v (ia q).1 a,bV.jd l r (ia q).2 b⟩
end
theorem lI:jd (.tup l)=gY l:=rfl
theorem lJ:jd (.str l)=true:=rfl
theorem i4:jd (.bytes l)=true:=rfl
theorem lK:jd (.int i)=true:=rfl
theorem ft:gY (p::l)=(jd p&&gY l):=rfl
theorem gh:gY []=true:=rfl
noncomputable def cZ (H:Hp):Bool:=H.all gY
def callEnd (f:Bool) (n:Nat) (H':Hp) (p:PV):kg PV:=if f then .ok p H' else if cZ (H'.take n) then(xc p).elim (if jd p then .ok p (H'.take n) else .stuck) λi=>if n<=i then(H'[i]?).elim .stuck λl=>if gY l then .ok (.lst l) (H'.take n) else .stuck else .stuck else .stuck
inductive ajx (n:Nat) (H':Hp) (p:PV) (o:kg PV):Prop
 |keep (e:o=.ok p H')
 |lst (i:Nat) (l:List PV) (hp:p=.dR i) (hi:n<=i) (hl:H'[i]?=ac l) (hn:gY l=aq) (hok:cZ (H'.take n)=aq) (e:o=.ok (.lst l) (H'.take n))
 |val (hn:jd p=aq) (hok:cZ (H'.take n)=aq) (e:o=.ok p (H'.take n))
theorem aiN (h:callEnd keep n H' p≠.stuck):ajx n H' p (callEnd keep n H' p):=by
 unfold callEnd at h|-
 by_cases G:keep=aq
 ·exact(if_pos G)▸.keep rfl
 rw[if_neg G] at h|-
 by_cases z:cZ (H'.take n)=aq
 case neg=>rw[if_neg z] at h;exact absurd rfl h
 rw[if_pos z] at h|-
 cases e:xc p with
 |none=>
  rw[e] at h;by_cases F:jd p=aq
  ·exact .val F z<|if_pos F
  ·exact absurd (if_neg F) h
 |some i=>
  rw[e] at h;by_cases D:n<=i
  case neg=>exact absurd (if_neg D) h
  cases C:H'[i]? with
  |none=>exact absurd (ah (if_pos D)<|by refine C▸?_;rfl) h
  |some l=>
   by_cases F:gY l=aq
   ·exact .lst i l (za e) D C F z<|ah (if_pos D)<|by exact C▸if_pos F
   ·exact absurd (ah (if_pos D)<|by exact C▸if_neg F) h
noncomputable def Dv (n:Nat) (H':Hp) (p:PV):kg PV:=if cZ (H'.take n)&&jd p then .exc p (H'.take n) else .stuck
def iO (f:Bool) (m:IM PV):IM PV:=λH=>match m H with
 |.ok p i=>callEnd f (aa H) i p
 |.exc p i=>Dv (aa H) i p
 |.stuck=>.stuck
theorem abT (u n):u+3+10*n<=u+10*(n+1):=by(refine(Nat.mul_succ ..)▸(af (d9 ..))▸(af (gs 3 ..))▸?_);exact dH (dH (by decide) _) _
section
variable {KF K gF:aO}
theorem Inv.mz (N:Inv KF K (O++Q) H M h) (F:cZ (H.take<|aa O)=aq):Inv KF K O (H.take<|aa O) M h:=by
 have J:=N.kM.len;rw[aJ] at J;refine⟨N.par,N.stat,N.sub,N.kf,⟨by(refine rF▸?_;refine(J)▸?_);exact af<|eN<|co _ _,(fO.mp N.kM.nodup).1,λi a l D C=>?_⟩,⟨λZ Y=>?_⟩⟩
 ·have t:=(aB.mp D).1;have B:H[i]?=ac l:=by rw[List.getElem?_take_of_lt t] at C;exact C
  obtain⟨k,o,n,U,e,c,d,r⟩:=N.kM.at_ i a l (by refine ah (dh t) ?_;exact D) B;refine⟨k,o,n,U,e,c,d,bV.jd l U ?_ r⟩;unfold cZ at F;rw[cn] at F;exact F l<|br C
 ·obtain⟨k,L,o,f,v,m,e,fo,fr⟩:=N.stk.all Z Y;exact⟨k,L,o,f,v,λq=>m<|kk _ q,e,fo,fr⟩
theorem Step.mz (st:Step W gF O g K (O++Q) h):Step W gF O g K O h:=⟨st.par,st.kle,st.new,⟨[],by simp,by simp⟩,st.there,st.keep,st.frs⟩
theorem Step.Gb (st:Step W gF O g K (O++Q) h) (G:K a=fS) (I:a∈Q):Step W gF O g (Internal.gk K a o) O h:=by
 have S:g.get? a=fS:=by refine aI st.pre λd e c=>?_;have:=List.append_cancel_left e;subst this;exact c a I
 refine⟨st.par,λb x k=>?_,λb x k=>?_,⟨[],by simp,by simp⟩,st.there,st.keep,st.frs⟩
 ·rw[db]
  ·exact st.kle b x k
  ·rintro rfl;have:=st.kle b x k;rw[G] at this;exact aE this
 ·by_cases q:b=a
  ·subst q;exact .inr S
  ·rw[db q] at k;exact st.new b x k
end
structure FnAt (KF:aO) (a:bn) (params:jE) (body:List rL) (scope:rU) (defs:List PV):Prop where
 kind:scope.kind=.function
 gen:scope.isGenerator=ai
 cor:scope.isCoroutine=ai
 nd:(scope.names.map (·.1)).Nodup
 free:∀x∈scope.names,x.2≠.free
 par:j1 params
 args:∃rest,scope.names.map (·.1)=params.args.map (·.arg)++rest
 XM:∀x∈params.args,scope.names.lookup x.arg=ac .local\/scope.names.lookup x.arg=ac .cell
 ex:∃o fd,KF a=ac o/\o.data=.func fd/\fd.scope=scope/\fd.params=params/\fd.body=.stmts body/\fd.closure=[]/\fd.globals=3/\fd.builtins=0/\
  (∃c oc vs t,fd.code=.ref c/\KF c=ac oc/\oc.data=.fields vs/\vs[1]?=ac (.str fd.qualname t))/\
  ((fd.defaults=.none/\defs=[])\/∃d od n Go,fd.defaults=.ref d/\KF d=ac od/\od.data=.seq (ag Go) n/\bV KF [] defs Go)
structure uD (KF:aO):Prop where
 lim:∃o es n,KF 2=ac o/\o.data=.dict es n/\uI es/\lf es "sys.recursionlimit"=am
 glob:∀x p,yn x=ac p->JB KF x p
def Rn (B E:on) (f:Bool) (scope:rU) (body:List CS) (z:List PV) (k:List Arg) (n:List PV):IM PV:=
 bG (one z) λp=>bG (two k) λa=>bG (one n) λd=>if(a.2.arg==a.1.arg)=ai then iO f (kX B E (aa scope.names) body [p,d]) else aQ
def fnM (B E:on) (f:Bool) (params:jE) (scope:rU) (body:List CS) (e:List PV) (z:List PV):IM PV:=
 if aa z=aa params.args then iO f (kX B E (aa scope.names) body z)
 else Rn B E f scope body z params.args e
noncomputable def Y2:gm->PV
 |.ret p=>p
 |_=>.none
noncomputable def ab7:Ej->Value
 |.ret v=>v
 |_=>.none
theorem iB.val {f:Ej} {K:aO} (x:iB Z Y r f K O h):VR K O (Y2 r.1) (ab7 f):=by
 cases r with|mk a b=>?_
 cases x.f with
 |ret h=>exact h
 |_=>exact rh
theorem TR (e:fY B E body (fE len g) H=.ok r H₂):kX B E len body g H=.ok (Y2 r.1) H₂:=by
 show ax (fY B E body<|fE len g) _ H=_
 (refine ah (f0 ..)<|e▸?_)
 cases r with|mk a b=>?_
 rcases a<;>rfl
theorem TQ (e:fY B E body (fE len g) H=.stuck):kX B E len body g H=.stuck:=by
 show ax (fY B E body<|fE len g) _ H=_
 (refine ah (f0 ..) ?_;rw[e])
theorem Y0 (e:fY B E body (fE len g) H=.exc p H₂):kX B E len body g H=.exc p H₂:=by
 show ax (fY B E body<|fE len g) _ H=_
 (refine ah (f0 ..) ?_;rw[e])
theorem kh.drop {K:aO} (x:kh g K (O++Q) p e h) (F:jd p=aq):kh g K O p e h:=by
 cases x with|mk a P d Y z u m v c E k w S Z f o t b i l n y=>?_
 refine⟨a,P,d,Y,z,u,m,v,c,E,k,w,S,Z,f,λq=>o<|kk _ q,t,b,i,l,VR.jd p v F n,?_⟩
 induction y with
 |no q=>exact .no q
 |«at» T r G s X j A B C D H=>exact .at T r G s X j A (λq=>B<|kk _ q) C D H
section
variable {K K₂:aO}
theorem Jl (st:Step [] K μ s.heap K₂ E s₂.heap) (N:Inv X K₂ E P M s₂.heap) (t:VR K₂ E p v) (S:aW s s₂) (d:aa μ=m) (L:callEnd keep m P p≠.stuck):zd X [] M K μ s fi (callEnd keep m P p) v s₂:=by
 refine aI st.pre λQ e _=>?_;rw[e] at st N t;subst d
 cases aiN L with
 |keep e=>exact⟨p,P,K₂,_,e,st,N,t,S⟩
 |val F z e=>exact⟨p,_,K₂,μ,e,st.mz,N.mz z,VR.jd p v F t,S⟩
 |lst i l W D C F z e=>
  rw[W] at t;refine aI t λb B u=>?_;obtain⟨c,ob,k,Y,U,f,h,R⟩:=N.kM.at_ i b l B C;rw[ck D] at B;have a:=br B;have g:b∉μ:=λq=>(fO.mp N.kM.nodup).2.2 b q b a rfl;refine u▸?_
  exact⟨.lst l,_,Internal.gk K₂ b ob,μ,e,st.Gb c a,(N.mz z).freeze U c g (vb f.1<|by decide),⟨b,ob,k,Y,rfl,fv _ _ _,f,h,
   rH (K:=K₂) (K':=Internal.gk K₂ b ob) rfl (λx y q=>ah (db λr=>aE<|ah c.symm<|r▸q) q) l Y (bV.jd (Q:=[]) l Y F R)⟩,S⟩
theorem Nl (st:Step [] K O s.heap K₂ E s₂.heap) (N:Inv X K₂ E H₂ M s₂.heap) (T:kh s.heap K₂ E p x s₂.heap) (S:aW s s₂) (d:aa O=m) (L:Dv m H₂ p≠.stuck):yq X [] M K O s (Dv m H₂ p) x s₂:=by
 refine nu ?_;intro a;refine aI st.pre λQ e _=>?_;rw[e] at st N T;subst d
 cases q:cZ (H₂.take<|aa O)&&jd p with
 |false=>exact absurd (if_neg<|by exact q▸bq) L
 |true=>have r:=(bu _ _).mp q;exact⟨p,_,K₂,O,if_pos q,st.mz,N.mz r.1,T.drop r.2,S⟩
end
theorem K9 (Y:FnAt X a params body scope defs) (hS:uD X) (j:jq w X n B LM body)
 {K:aO} (I:kA (n+1) A M) (N:Inv X K O H M s.heap) (hqs:bV K O g us) (J:aa g=aa params.args)
 (hbind:∀(o:uO) (fd:wY) (Q:List (an×Value)->bj->Prop),X a=ac o->o.data=.func fd->fd.params=params->((fd.defaults=.none/\defs=[])\/∃d od n Go,fd.defaults=.ref d/\X d=ac od/\od.data=.seq (ag Go) n/\bV X [] defs Go)->
  Q ((params.args.map (·.arg)).zip us) s->∀E,aD (MM w) A.in1 (rn fd ⟨vs,[]⟩) Q E s):
 Sat w X [] A M K O s fi (iO keep (kX B LM (aa scope.names) (mm ⟨scope.names,yn,muts⟩ body) g) H) (call (.ref a) vs []):=by
 generalize eo:iO keep (kX B LM (aa scope.names) (mm ⟨scope.names,yn,muts⟩ body) g) H=o';intro ho;refine xS ?_;intro akL;refine nu ?_;intro amN;refine aah Y.ex λo fd G hd e1 e2 W e4 C S=>i8 S λe6 Y8 e11=>?_;refine aez Y8 λc oc cvs t e7 e8 e9 b=>?_;have hroom:=I.d0;refine oW<|Tb hroom (N.sub _ _ (N.stat _ _ G)) hd (by refine e1▸?_;exact Y.cor) (by exact e1▸Y.gen) W ⟨c,oc,cvs,t,e7,N.sub _ _ (N.stat _ _ e8),e9,b⟩ ?_
 refine hbind o fd _ G hd e2 e11 ?_ _
 (refine e1▸e4▸C▸e6▸?_)
 refine be Y.args λF hargs=>?_;have hul:=hqs.length
 have hlz:((params.args.map (·.arg)).zip us).map (·.2)=us:=by rw[rC];simp[hul,J]
 refine vd (ps:=g) Y.kind Y.nd Y.free (λi x v hi=>?_) (by refine(af hlz)▸?_;exact hqs) ?_ N λenv u k Z hF hfw dL h U l=>?_
 ·rw[qc] at hi;refine hargs▸?_;have L:=hi.1;refine⟨by refine ah (dh (aB.mp L).1) ?_;exact L,?_⟩;rw[bZ,ba] at L;refine aI L λy hy S=>?_;subst S;exact Y.XM y<|br hy
 ·have:=congrArg aa hargs;simp only[aC,aJ] at this
  (refine sX▸(af (aC ..))▸this▸?_)
  exact aN (Nat.min_le_left _ _)<|co _ _
 have hsc:env.scope=scope:=by refine Z▸?_;rfl
 have hfr:env.frame=ac s.heap.objs.size:=by refine Z▸?_;rfl
 have hko:∀x,env.kindOf x=scope.names.lookup x:=λx=>by unfold SY;rw[hsc]
 have T:dk X ⟨scope.names,yn,muts⟩ env:=⟨Y.nd,λx q=>by exact ah (hko ..)<|q,λx q=>by exact ah (hko ..)<|q,λx q=>by exact ah (hko ..)<|q,hF,λx p q=>hS.glob x p q⟩;refine⟨?_,codeAny_func ?_⟩
 ·refine I7 hS.lim λoL es m hL hLd hLs hLf=>?_;exact⟨lf es,⟨oL,es,m,h.sub _ _ (h.stat _ _ hL),hLd,hLs,λ_=>rfl⟩,hLf⟩
 have hA:kA n (A.deeper env) (env::M):=⟨I.hd,by have:=I.dp;rw[gs n 1,<-d9] at this;exact this,bY (uJ (abT A.units n) 20) I.un,tA I.fr,xn I.gd⟩;have hne:fY B LM (mm ⟨scope.names,yn,muts⟩ body) (fE (aa scope.names) g) H≠.stuck:=λq=>ho<|ah eo.symm<|by unfold iO;rw[TQ q]
 have V:aa (fE (aa scope.names) g)=aa scope.names:=by
  have:=congrArg aa hargs;simp only[aC,aJ] at this
  (rewrite[fE];refine ah aJ<|(af (aC ..))▸tz▸?_;refine(af J)▸this▸?_;rw[gJ])
 refine xS ?_;intro akK;refine MD ?_;intro akS;refine a0 (j ⟨scope.names,yn,muts⟩ env (fE (aa scope.names) g) T V (A.deeper env) u k O H (env::M) hA h U hne) (λf s₂ z=>?_) λe s₂ z=>?_
 ·cases z with|mk r P K₂ Be er D je hr jH=>?_
  have e2:callEnd keep (aa H) P (Y2 r.1)=o':=ah (by unfold iO;rw[TR er]) eo
  have R:zd X [] M K O s fi o' (ab7 f) s₂:=by
   rw[<-e2] at ho|-
   exact Jl (dL.hide D λa q=>.inr<|hfw a q) je.pop hr.val (l.trans jH) N.kM.len ho
  rcases f<;>exact R
 ·cases z with|mk p P K₂ Be er D je hex jH=>?_
  have e2:Dv (aa H) P p=o':=ah (by unfold iO;rw[Y0 er]) eo;refine FN (tA I.fr) je (hex.back dL) hfr (dL.hide D λa q=>.inr<|hfw a q) λs₃ jx EV ZK ip=>?_;rw[<-e2] at ho|-
  exact Nl EV jx ZK ((l.trans jH).trans ip) N.kM.len ho
theorem FnAt.nodup (Y:FnAt X a params body scope e):(params.args.map (·.arg)).Nodup:=by refine be Y.args λF h=>?_;have:=Y.nd;rw[h] at this;exact(fO.mp this).1
theorem KZ {K:aO} (N:Inv X K O H M h) (x:(v=.none/\e=[])\/∃d z n j,v=.ref d/\X d=ac z/\z.data=.seq (ag j) n/\bV X [] e j):∃D,j9 h v D/\bV X [] e D:=by
 rcases x with ⟨J,rfl⟩|⟨d,z,m,j,J,R,y,Z⟩
 ·exact⟨[],.inl ⟨J,rfl⟩,eA⟩
 ·exact⟨j,.inr ⟨d,z,m,J,N.sub _ _ (N.stat _ _ R),y⟩,Z⟩
theorem NJ (Y:FnAt X a params body scope e) (b:uD X) (j:jq w X n B LM body) (z U):
 aj w X [] (n+1) (kq z U) (Rn B LM keep scope (mm ⟨scope.names,yn,h⟩ body) z params.args e) fi (call (.ref a) U []):=by
 refine eR λp c=>eR λab q2=>eR λd k=>cU λx=>?_;obtain rfl:=uk c;obtain rfl:=uk k;have T:=Ht q2;intro A s K O H M I N F L;refine xS ?_;intro amM;refine MD ?_;intro am1;refine cN F λv r S W V=>?_;subst S;subst V;refine aah Y.ex λo fd G g m i e3 R C S=>i8 S λy q t=>?_;refine aI (KZ N t) λD J S=>cN S λP u V hdv Z=>?_;subst V;subst Z;have aiu:=Om (Q:=O) N.par N.stat d P hdv;refine K9 Y b j I N (b8 W<|b8 aiu eA) (by refine T▸?_;rfl) (λo' fd' Q f l e2' _ hQ E=>?_) L;obtain rfl:=al<|ah G.symm f
 cases ah g.symm l;refine AZ (by refine i▸?_;exact Y.par) (by exact i▸T) x J ?_;rw[T] at hQ;exact hQ
theorem VN (Y:FnAt X a params body scope e) (b:uD X) (j:jq w X n B Z body) (z U):
 aj w X [] (n+1) (kq z U) (fnM B Z f params scope (mm ⟨scope.names,yn,h⟩ body) e z) fi (call (.ref a) U []):=by
 unfold fnM;by_cases C:aa z=aa params.args
 ·refine(if_pos C)▸?_;intro A s K O H M I N F;refine K9 Y b j I N F C λo fd Q _ _ i t V E=>aI (KZ N t) λD J _=>?_;subst i;exact iK Y.par J (by(refine ah (aC ..)<|ah (af C) ?_;rw[vX F])) Y.nodup V
 ·refine(if_neg C)▸?_;exact NJ Y b j z U
structure FE where
 addr:bn
 k:Nat
 keep:Bool
 muts:List an
 defs:List PV
def fnOf (B E:on) (f:FE):List PV->IM PV:=fnM B E f.keep (bH f.k).1 (bH f.k).2.2 (DK f.k f.muts) f.defs
noncomputable def iq (v E:on):List FE->on
 |[]=>v
 |f::r=>λa z=>if a=f.addr then fnOf (iq v E r) E f z else iq v E r a z
theorem zc:iq v E (f::r) a ps=if a=f.addr then fnOf (iq v E r) E f ps else iq v E r a ps:=rfl
theorem tR.more (h:tR w X n LM) (G:n<=k):tR w X k LM:=⟨h.cls,h.fn,λg a D U=>(h.call g a D U).more G⟩
theorem j2.more (h:j2 w X n jI) (G:n<=k):j2 w X k jI:=⟨h.fn,λa D U=>(h.call a D U).more G⟩
theorem Fv (y:KF.P=w.params) (b:uD KF) (X:j2 w KF n v) (U:tR w KF n E) (s:∀k B,j2 w KF k B->sS w KF k B):
 ∀l,(∀f∈l,FnAt KF f.addr (bH f.k).1 (bH f.k).2.1 (bH f.k).2.2 f.defs)->j2 w KF (n+aa l) (iq v E l)
 |[],_=>X
 |f::r,h=>by
  have Z:=Fv y b X U s r λg S=>h g<|by simp[S]
  have Y:=h f<|by simp
  have c:=s _ _ Z;have N:∀e,bK w KF (n+aa r) (iq v E r) e:=λe=>(jU y Z c e).1.1;have u:∀e,iP w KF (n+aa r) (iq v E r) e:=λe=>(jU y Z c e).1.2;have j:=pw N u (U.more<|co _ _) (bH f.k).2.1;refine⟨λa=>?_,λa z W=>?_⟩
  ·by_cases q:a=f.addr
   ·subst q;exact cN Y.ex λo fd J R _=>.inl ⟨o,fd,J,R⟩
   ·rcases Z.fn a with h'|h'
    ·exact .inl h'
    ·exact .inr λz=>ah zc<|ah (if_neg q)<|h' z
  ·rw[zc];by_cases q:a=f.addr
   ·refine(if_pos q)▸?_;subst q;exact VN Y b j z W
   ·refine(if_neg q)▸?_;exact(Z.call a z W).more<|by simp
end
open VR renaming jd->am4
section
open PySem PySem.W
def aeI (l:List rL) (j:Nat):jE×List rL×Scope:=fnO l[j]?
noncomputable def ahv (s:rL):List Stmt:=if h:s.ctorIdx=2 then af6 (motive_2:=λ_=>List rL) s h λ_ _ _ body _ _ _ _ _ _ _=>body else[]
def tC (k j:Nat):jE×List rL×Scope:=aeI (((bS.main.body)[k]?).elim [] ahv) j
namespace H
noncomputable abbrev N:Value:=.none
noncomputable abbrev T:Value:=.bool aq
noncomputable abbrev F:Value:=.bool ai
noncomputable abbrev i (a:Int) (t:Nat):Value:=.int a t
noncomputable abbrev s (a:String) (t:Nat):Value:=.str (fw a) t
noncomputable abbrev y (a:List UInt8) (t:Nat):Value:=.bytes ⟨a⟩ t
noncomputable abbrev r (a:Nat):Value:=.ref a
noncomputable abbrev ty (a:String):Value:=.type a
noncomputable abbrev bl (a:String):Value:=.builtin a
noncomputable abbrev xs (l:List Value):Obj:=⟨.type "tuple",am,.seq ⟨l⟩ 0,#[]⟩
noncomputable abbrev fd (l:List Value):Obj:=⟨.none,am,.fields ⟨l⟩,#[]⟩
noncomputable abbrev cd (l:List Value):Obj:=⟨.type "code",am,.fields ⟨l⟩,#[]⟩
noncomputable abbrev e (P:cG) (a:String) (t:Nat) (v:Value):DictEntry:=⟨gq P<|fw a,.str (fw a) t,v⟩
noncomputable abbrev fu (k:jE×List rL×rU) (O p:Wq) (g:bn) (df doc t cd b:Value) (a:bn):FuncData:={name:=O,qualname:=p,params:=k.1,body:=.stmts k.2.1,scope:=k.2.2,globals:=g,closure:=[],defaults:=df,kwdefaults:=.none,doc:=doc,pyModule:=t,annotations:=am,code:=cd,closureTuple:=b,builtins:=a}
noncomputable abbrev pb:Obj:=⟨ty "builtin_function_or_method",am,.fields ⟨[bl "type.__prepare__",ty "type"]⟩,#[]⟩
noncomputable abbrev fr (c l:Nat) (v:Value):Obj:=⟨ty "frame",am,.plain,#[ac (r c),ac (r 3),ac (r l),am,ac v,am,ac (r 0)]⟩
noncomputable abbrev ib (a:Nat):Obj:=⟨ty "builtin_function_or_method",am,.fields ⟨[bl "object.__init_subclass__",r a]⟩,#[]⟩
noncomputable abbrev su (a:Nat):Obj:=⟨ty "super",am,.fields ⟨[r a,r a,r a]⟩,#[]⟩
noncomputable abbrev di (c:String) (l:List cF) (n:Nat):Obj:=⟨ty c,am,.dict ⟨l⟩ n,#[]⟩
noncomputable abbrev k (O:String) (t:Nat) (L:Int) (R:Nat):Obj:=cd [s O t,s O<|t+1,s "/claim/cut.py"<|t+2,i L 0,i 0 0,i 0 0,i 0 0,i 0 0,r R,F,i 181 0,r<|R+1,N,N,N,N,i (t+3:Nat) 0,i L 0,s "/claim/cut.py"<|t+4]
noncomputable abbrev w (k:jE×List rL×rU) (O p:String) (df:Value) (md:String) (t c:Nat):Obj:=⟨ty "function",am,.func<|fu k (fw O) (fw p) 3 df N (s md t) (r c) N 0,#[]⟩
noncomputable def g (P:cG) (v:Value) (l:List cF) (n:Nat):Obj:=di "dict" (e P "__name__" 165 v::l) n
def h (l:List Nat):Obj:=fd<|kj [] (λx _ R=>.int (jP<|x / 10000) 0::i 0 0::r (x%10000)::R) l
noncomputable def sNm (s:rL):Option (Wq×Nat):=if h:s.ctorIdx=0 then wT (motive_2:=λ_=>Option<|Wq×Nat) s h λname _ _ _ _ _ _ _ _ G=>ac (name,G.line) else am
noncomputable def nl (k:Nat):Wq×Nat:=(((bS.main.body)[k]?).bind sNm).getD (fw "",0)
noncomputable abbrev fz {α:Type} (n:Nat) (k:Nat->α):α:=x3 (k 0) (λm _=>k<|aa0 m) n
abbrev lv (f:jE×List rL×rU) (k:List Wq->uO):Obj:=kj (λk=>k []) (λx _ R k=>NameKind.rec (R λl=>k<|x.1::l) (R k) (R k) (R k) (R k) x.2) f.2.2.names k
abbrev tk (l:List Wq) (t:Nat) (k:List Value->uO):Obj:=kj (λt k=>k []) (λa _ R t k=>fz t λt=>R (t+1) λl=>k<|.str a t::l) l t k
noncomputable abbrev cq (O p:Wq) (m a c b t u:Nat) (x y:Value):Obj:=fz m λm=>fz a λa=>fz (c-1) λc=>fz b λb=>fz (b+1) λI=>fz t λt=>fz (t+1) λt1=>fz (t+2) λt2=>fz u λu=>fz (u+1) λd=>cd [.str O t,.str p t1,s "/claim/cut.py" t2,.int (jP m) 0,.int (jP a) 0,i 0 0,i 0 0,i 3 0,r b,T,i 181 0,r I,N,x,y,r c,.int (jP u) 0,.int (jP m) 0,s "/claim/cut.py" d]
abbrev iz (d n:Nat) (x y:uO):Obj:=tZ y x<|nU d n
abbrev fo (f:jE×List rL×rU) (O p:Wq) (m:Nat) (df md:Value) (B:Bool) (c t d:Nat):Obj:=fz c λc=>iz d 0 ⟨ty "function",am,.func<|fu f O p 3 df N md (r c) N 0,#[]⟩ (iz d 2 ⟨N,am,.func<|fu f O p 0 N N N N N 0,#[]⟩ (tZ
 (iz d 1 (lv f λl=>fz (c-3) λe=>fz (c-2) λg=>cq O p m f.1.args.length c (c-5) t (t+3+l.length) (r e)<|r g)<|iz d 5 (fd [])<|iz d 4 (lv f λl=>tk l (t+3) xs)<|xs [])
 (iz d 1 (cq O p m f.1.args.length c (c-3) t (t+3) N N)<|iz d 3 (fd [])<|xs []) B))
noncomputable def md (t:Nat):Value:=bif nS 1476 t then s "law_sf0044_01" 1476 else bif nS 1064 t then s "methodrows.string_builtins" 1064 else bif nS 782 t then s "methodrows.strings" 782 else bif nS 753 t then s "methodrows.arrays" 753 else bif nS 544 t then s "methodrows.values" 544 else bif nS 405 t then s "methodrows.octets" 405 else bif nS 330 t then s "methodrows.kind_terms" 330 else bif nS 268 t then s "methodrows.forms" 268 else bif nS 194 t then s "methodrows.errors" 194 else s "__main__" 164
noncomputable def df (k:Nat):Value:=bif k.beq 9 then(r 77) else bif k.beq 19 then(r 131) else bif k.beq 83 then(r 510) else N
noncomputable def big:Nat:=367111816533641113164236211061623360109916133591092160735710871601354108215903531075158435010701571349106315653461058155734410511550342104415433401037153333810301526336102315193351016151333210111503331100414973280999148832609921478322098514683200978146231809711456316096414493140957144331209501434308093614183060929140930409221400302091513923000908138429809011375296089413672940887135829208801350290087313422880866133428608591326284085213182820845131028008381302278083112932760824128227508171276273081212702700807126226808001254267079312482640788123926307811233260077612252580769121725607621209254075512002520748119125007411182248073411722460727116424407201156242071311472400706113923806991132236069211232340685111623206781108213066010582100655105120806481040204064110322020634102420106271018198062210081960615100119506080995192060309881900596098118805890972186058209631840575095518205680947180056109381790554093217605490923174054209131720535090417005280897168052108891670514088316405080873162050108661600494085815804870850156048008421540473083515204660827150045908191360450077213504430766132043807571260431074312404240727122041707151200410070411904030698117039806921120393068111003860673108037906650950289053809302840532090027905250890272051908602670510084026005010820253049208002460482078023904730760232046107402250454072021804470700211043506802040426066019704190540189039805201820391051017503850480170037604701630370044015803630420151035504001440345038013703370300125032202801180314026011103060240104029902200970292020009002850180083027700000200187
noncomputable def X (j:Nat):Nat:=big / 10^(11*j)%10^11
abbrev fx (x a:Nat):Obj:=fz x λx=>fo (bH<|x / 200000000) (nl<|x / 200000000).1 (nl<|x / 200000000).1 (nl<|x / 200000000).2 (df<|x / 200000000) (md<|x%10000) (nU (x / 100000000%2) 1) (x / 10000%10000) (x%10000)<|x / 10000%10000+1-a
abbrev ff (a:Nat):Obj:=fx (x3 0 (λj R=>tZ R (X j)<|nS (X j / 10000%10000-tZ 5 3 (nU (X j / 100000000%2) 1)) a) 141) a
abbrev me (k j:Nat) (O p:String) (m c t:Nat) (d:Value) (a:Nat):Obj:=fo (tC k j) (fw O) (fw p) m d (md t) ai c t<|c+1-a
noncomputable abbrev li (n:Nat) (l:List uO) (a:Nat):Obj:=(l[a-n]?).getD<|xs []
abbrev sg (l:List (Nat×(Nat->uO))) (a:Nat):Obj:=kj (xs []) (λx _ R=>tZ R (x.2 a)<|nS x.1 a) l
abbrev ov (f:Nat->uO) (l:List (Nat×uO)) (a:Nat):Obj:=kj (f a) (λx _ R=>tZ R x.2<|nU x.1 a) l
def gen (f:Nat->uO) (n:Nat):BT:=x3 (λ_ _=>.nil) (λ_ R a b=>tZ (.node (f b) (R (2*a)<|a+b)<|R (2*a)<|2*a+b) .nil<|nS n b) 11 1 0
noncomputable def adn (P:cG) (x:Nat):List DictEntry:=[e P "__doc__" 166 N,e P "__package__" 167 N,e P "__loader__" 168<|bl "__main__.__loader__#opaque",e P "__spec__" 169 N,e P "__annotations__" 170<|r 6,e P "__builtins__" 171<|r 4,e P "__file__" 173<|s "/claim/cut.py" 172,e P "__cached__" 174 N]
noncomputable def adm (P:cG) (x:Nat):List DictEntry:=adn P x++[e P "_wall" 193<|r 21,e P "RowsError" 226<|r 39,e P "MachineFault" 242<|r 52]
noncomputable def adl (P:cG) (x:Nat):List DictEntry:=adm P x++[e P "Thrown" 267<|r 71,e P "NOTHING" 271<|r 74,e P "TRUE" 273<|r 75,e P "FALSE" 275<|r 76,e P "int_value" 284<|r 84,e P "bool_value" 291<|r 91,e P "text_value" 298<|r 98,e P "error_kind" 305<|r 105,e P "error_value" 313<|r 112,e P "thrown" 321<|r 119,e P "thrown_text" 329<|r 126,e P "ANY" 334<|r 128,e P "BOTTOM" 336<|r 129,e P "named" 344<|r 138,e P "union_of" 354<|r 145,e P "parts_of_kind" 362<|r 152,e P "shown_name" 369<|r 159,e P "binder_text" 375<|r 164,e P "bound_text" 384<|r 171,e P "written_kind" 390<|r 176,e P "kind_text" 397<|r 183,e P "kind_key" 404<|r 190,e P "MOST_CODE" 408<|i 1114111 407,e P "FIRST_BAD" 410<|i 55296 409,e P "LAST_BAD" 412<|i 57343 411,e P "LIMITS" 418<|r 191,e P "is_bad" 425<|r 198,e P "size_of_code" 434<|r 205,e P "encoded" 446<|r 212,e P "lead_of" 453<|r 219,e P "is_following" 460<|r 226,e P "whole_at" 472<|r 233,e P "decoded" 481<|r 240]
noncomputable def adk (P:cG) (x:Nat):List DictEntry:=adl P x++[e P "is_start" 491<|r 247,e P "next_index" 500<|r 254,e P "prev_index" 509<|r 261,e P "starts_of" 518<|r 268,e P "codes_of" 524<|r 273,e P "length" 531<|r 280,e P "is_valid" 537<|r 285,e P "joined_codes" 543<|r 290,e P "MOST_BITS_values" 547<|i 4000 546,e P "MOST_OPEN" 549<|i 100 548,e P "ESCAPES" 560<|r 296,e P "Thing" 593<|r 313,e P "Heap" 664<|r 369,e P "array_kind" 672<|r 380,e P "plain_text" 680<|r 387,e P "escaped" 690<|r x,e P "escaped_values" 691<|r 394,e P "told_octets" 697<|r 399,e P "sizes_text" 703<|r 404,e P "pieces_of" 714<|r 411,e P "listed" 726<|r 418,e P "value_text" 742<|r 425,e P "printed_text" 752<|r 432,e P "MOST_ITEMS" 756<|i 20000 755,e P "many_of" 765<|r 439,e P "check_sizes" 771<|r 444,e P "made" 781<|r 451,e P "MOST_OCTETS" 785<|i 200000 784,e P "MOST_BITS_strings" 787<|i 4000 786,e P "FIGURES" 789<|y [48,49,50,51,52,53,54,55,56,57,97,98,99,100,101,102,103,104,105,106,107,108,109,110,111,112,113,114,115,116,117,118,119,120,121,122] 788,e P "BLANKS" 796<|r 452,e P "SHORT_ESCAPES" 818<|r 453]
noncomputable def adj (P:cG) (x:Nat):List DictEntry:=adk P x++[e P "check_index" 826<|r 460,e P "check_start" 834<|r 467,e P "bounded" 841<|r 474,e P "code_at" 849<|r 481,e P "next_at" 857<|r 488,e P "prev_at" 865<|r 495,e P "last_start" 872<|r 502,e P "sub" 881<|r 509,e P "joined" 888<|r 515,e P "repeated" 896<|r 522,e P "reversed_signs" 903<|r 529,e P "is_whole" 912<|r 536,e P "find_first" 922<|r 543,e P "find_last" 931<|r 550,e P "split" 937<|r 555,e P "replaced" 946<|r 562,e P "compare" 954<|r 569,e P "starts_with" 962<|r 576,e P "ends_with" 971<|r 583,e P "stripped" 980<|r 590,e P "raised" 987<|r 597,e P "lowered" 994<|r 604,e P "with_codes" 1000<|r 609,e P "check_base" 1007<|r 616,e P "number_text" 1017<|r 623,e P "number_in" 1023<|r 628,e P "hex_octets" 1031<|r 635,e P "escaped_strings" 1039<|r 642,e P "written" 1050<|r 649]
noncomputable def adi (P:cG) (x:Nat):List DictEntry:=adj P x++[e P "written_sign" 1057<|r 656,e P "indices_of" 1063<|r 661,e P "UNTOLD" 1067<|i 65533 1066,e P "MOST_PRINTED" 1069<|i 20000 1068,e P "STRING" 1074<|r 663,e P "CHAR" 1079<|r 665,e P "INT" 1084<|r 667,e P "BOOL" 1089<|r 669,e P "SYMBOL" 1094<|r 671,e P "KINDS" 1107<|r 672]
noncomputable def adh (P:cG) (x:Nat):List DictEntry:=adi P x++[e P "part_in" 1115<|r 679,e P "whole_in" 1122<|r 686,e P "index_in" 1131<|r 693,e P "sign_value" 1138<|r 700,e P "octets_of_piece" 1146<|r 707,e P "row_value" 1155<|r 714,e P "deed_length" 1163<|r 721,e P "deed_size" 1171<|r 728,e P "deed_octet" 1181<|r 735,e P "deed_at" 1190<|r 742,e P "deed_next" 1199<|r 749,e P "deed_prev" 1208<|r 756,e P "deed_last" 1216<|r 763,e P "deed_is_start" 1224<|r 770,e P "deed_is_valid" 1232<|r 777,e P "deed_indices" 1238<|r 782,e P "deed_sub" 1247<|r 789,e P "deed_joined" 1253<|r 794,e P "deed_repeated" 1261<|r 801,e P "deed_reversed" 1269<|r 808,e P "deed_split" 1275<|r 813,e P "deed_replaced" 1281<|r 818,e P "deed_find" 1292<|r 825,e P "deed_find_last" 1301<|r 832,e P "deed_compare" 1309<|r 839,e P "deed_starts" 1317<|r 846,e P "deed_ends" 1325<|r 853,e P "deed_strip" 1333<|r 860,e P "deed_upper" 1341<|r 867,e P "deed_lower" 1349<|r 874,e P "deed_number_text" 1357<|r 881,e P "deed_number_in" 1366<|r 888,e P "deed_code" 1374<|r 895,e P "deed_sign" 1383<|r 902]
noncomputable def ah3 (P:cG) (x:Nat):List DictEntry:=adh P x++[e P "deed_raised_sign" 1391<|r 909,e P "deed_lowered_sign" 1399<|r 916,e P "deed_written" 1408<|r 923,e P "deed_symbol" 1417<|r 930,e P "deed_symbol_text" 1425<|r 937,e P "always" 1433<|r 944,e P "pure" 1442<|r 951,e P "sign_rows" 1448<|r 958,e P "search_rows" 1455<|r 965,e P "array_rows" 1461<|r 972,e P "text_rows" 1467<|r 979,e P "string_rows" 1475<|r 986,e P "_law_vat" 1487<|r 993,e P "_law_dip" 1496<|r 1000,e P "_law_octets" 1502<|r 1005,e P "_law_pieces" 1512<|r 1012,e P "_law_begins" 1518<|r 1017,e P "_law_code" 1525<|r 1024,e P "_law_int" 1532<|r 1031,e P "_law_index" 1542<|r 1038,e P "_law_worth" 1549<|r 1045,e P "_law_has_room" 1556<|r 1052,e P "_law_beyond" 1564<|r 1059,e P "_law_index_calls" 1570<|r 1064,e P "_law_sub" 1583<|r 1071,e P "_law_places" 1589<|r 1076,e P "_law_cut" 1600<|r 1083,e P "_law_search_calls" 1606<|r 1088,e P "_law_whole_calls" 1612<|r 1093,e P "_law_figures" 1622<|r 1100,e P "_law_number_calls" 1641<|r 1107,e P "_law_heard" 1652<|r 1114,e P "law" 1658<|r 1119]
noncomputable def Xf:List Nat:=[]
noncomputable def Xe:List Nat:=Xf++[10020,50027,110048]
noncomputable def Xd:List Nat:=Xe++[130060,220083,240090,260097,280104,300111,320118,340125,390137,410144,540151,650158,670163,730170,760175,960182,980189,1050197,1070204,1140211,1260218,1360225,1380232,1500239]
noncomputable def Xc:List Nat:=Xd++[1550246,1650253,1700260,1750267,1810272,1830279,1850284,1870289,1930302,1990323,2210379,2230386,2420393,2470398,2490403,2510410,2640417,2710424,2880431,3000438,3050443,3080450]
noncomputable def Xb:List Nat:=Xc++[3190459,3220466,3260473,3290480,3320487,3360494,3400501,3420508,3480514,3510521,3560528,3580535,3600542,3670549,3720554,3820561,3860568,3900575,3920582,3950589,4020596,4040603,4060608,4080615,4110622,4200627,4330634,4350641,4440648]
noncomputable def Xa:List Nat:=Xb++[4520655,4560660]
noncomputable def W9:List Nat:=Xa++[4670678,4710685,4770692,4820699,4840706,4940713,4960720,4980727,5000734,5050741,5080748,5110755,5140762,5160769,5180776,5200781,5220788,5270793,5290800,5310807,5330812,5360817,5390824,5440831,5470838,5490845,5510852,5530859,5550866,5570873,5590880,5610887,5660894,5680901]
noncomputable def ado:List Nat:=W9++[5730908,5750915,5770922,5860929,5910936,5930943,5950950,5970957,5990964,6020971,6040978,6060985,6120992,6160999,6231004,6261011,6331016,6361023,6381030,6401037,6471044,6491051,6511058,6531063,6601070,6731075,6791082,6881087,6961092,7031099,7091106,7251113,7331118]
noncomputable def ac3 (P:cG):Obj:=⟨N,am,.dict ⟨[e P "type.__subclasses__.Exception.0" 223<|i 39 0,e P "type.__subclasses__.Exception.n" 224<|i 1 0]⟩ 2,#[]⟩
def ac2 (P:cG):Obj:=⟨(ty "function"),am,.func<|fu (tC 2 0) "__init__" "RowsError.__init__" 3 (r 29) N (s "methodrows.errors" 194) (r 35) N 0,#[]⟩
noncomputable def W3 (P:cG):Obj:=di "dict" [e P "__module__" 203<|s "methodrows.errors" 194,e P "__firstlineno__" 207<|i 5 206,e P "__init__" 216<|r 36,e P "__static_attributes__" 219<|r 37,e P "__weakref__" 221<|r 40,e P "__doc__" 222 N] 3
noncomputable def ac1 (P:cG):Obj:=⟨(ty "type"),am,.cls ⟨"RowsError",[ty "Exception"],[r 39,ty "Exception",ty "BaseException",ty "object"],38,"RowsError",aq,[],[r 52],ai,am,ai⟩,#[ac (r 22),am,ac (s "RowsError" 196),ac (s "RowsError" 204),ac (bl "Exception.__new__"),ac T]⟩
noncomputable def W2 (P:cG):Obj:=⟨(ty "type"),am,.cls ⟨"RowsError",[ty "Exception"],[r 39,ty "Exception",ty "BaseException",ty "object"],38,"RowsError",aq,[],[r 52,r 71],ai,am,ai⟩,#[ac (r 22),am,ac (s "RowsError" 196),ac (s "RowsError" 204),ac (bl "Exception.__new__"),ac T]⟩
def ac0 (P:cG):Obj:=⟨(ty "function"),am,.func<|fu (tC 4 0) "__init__" "Thrown.__init__" 3 N N (s "methodrows.errors" 194) (r 67) N 0,#[]⟩
noncomputable def W1 (P:cG):Obj:=di "dict" [e P "__module__" 250<|s "methodrows.errors" 194,e P "__firstlineno__" 254<|i 13 253,e P "__init__" 262<|r 68,e P "__static_attributes__" 264<|r 69,e P "__doc__" 265 N] 2
noncomputable def W0 (P:cG):Obj:=⟨(ty "type"),am,.cls ⟨"Thrown",[r 39],[r 71,r 39,ty "Exception",ty "BaseException",ty "object"],70,"Thrown",aq,[],[],ai,am,ai⟩,#[ac (r 55),am,ac (s "Thrown" 243),ac (s "Thrown" 251),ac (bl "Exception.__new__"),ac T]⟩
def Zj (P:cG):Obj:=⟨(ty "function"),am,.func<|fu (tC 53 0) "__init__" "Heap.__init__" 3 N N (s "methodrows.values" 544) (r 330) N 0,#[]⟩
noncomputable def Qj (P:cG):Obj:=di "dict" [e P "__module__" 601<|s "methodrows.values" 544,e P "__firstlineno__" 605<|i 199 604,e P "__init__" 612<|r 331,e P "put" 620<|r 338,e P "new_object" 629<|r 345,e P "new_array" 639<|r 352,e P "new_box" 647<|r 359,e P "object" 655<|r 366,e P "__static_attributes__" 657<|r 367,e P "__dict__" 659<|r 370,e P "__weakref__" 661<|r 371,e P "__doc__" 662 N] 4
noncomputable def Qi (P:cG):Obj:=⟨(ty "type"),am,.cls ⟨"Heap",[ty "object"],[r 369,ty "object"],368,"Heap",aq,[],[],ai,am,ai⟩,#[am,am,ac (s "Heap" 594),ac (s "Heap" 602),ac (bl "object.__new__"),ac T]⟩
noncomputable def Qh (P:cG):Obj:=fd []
noncomputable def C4 (P:cG):Obj:=cd [s "always" 1426,s "always" 1427,s "/claim/cut.py" 1428,i 593 0,i 1 0,i 0 0,i 0 0,i 3 0,r 938,T,i 181 0,r 939,N,r 940,r 941,r 942,i 1431 0,i 593 0,s "/claim/cut.py" 1432]
def Qg (P:cG):Obj:=⟨(ty "function"),am,.func<|fu (bH 155) "always" "always" 3 N N (s "methodrows.string_builtins" 1064) (r 943) N 0,#[]⟩
def ob (P:cG):Nat->Obj:=sg [(945,ff),
 (938,li 938 [xs [],Qh P,xs [s "kind" 1429],xs [s "kind" 1430],⟨N,am,.func<|fu (bH 155) "always" "always" 0 N N N N N 0,#[]⟩,C4 P,Qg P]),
 (673,ff),
 (662,li 662 [di "frame" [e P "name" 1071<|s "String" 1070,e P "params" 1072<|r 130] 2,xs [s "name" 1073,s "String" 1070,r 130],di "frame" [e P "name" 1076<|s "Char" 1075,e P "params" 1077<|r 130] 2,xs [s "name" 1078,s "Char" 1075,r 130],di "frame" [e P "name" 1081<|s "Int64" 1080,e P "params" 1082<|r 130] 2,xs [s "name" 1083,s "Int64" 1080,r 130],di "frame" [e P "name" 1086<|s "Bool" 1085,e P "params" 1087<|r 130] 2,xs [s "name" 1088,s "Bool" 1085,r 130],di "frame" [e P "name" 1091<|s "Symbol" 1090,e P "params" 1092<|r 130] 2,xs [s "name" 1093,s "Symbol" 1090,r 130],di "dict" [e P "text" 1095<|s "String" 1096,e P "char" 1097<|s "Char" 1098,e P "sym" 1099<|s "Symbol" 1100,e P "int" 1101<|s "Int64" 1102] 4]),
 (511,ff),
 (510,li 510 [xs [y [] 882]]),
 (454,ff),
 (452,li 452 [xs [i 9 790,i 10 791,i 11 792,i 12 793,i 13 794,i 32 795],di "dict" [⟨10,i 10 797,(y [92,110] 798)⟩,⟨9,i 9 799,(y [92,116] 800)⟩,⟨13,i 13 801,(y [92,114] 802)⟩,⟨0,i 0 803,(y [92,48] 804)⟩,⟨92,i 92 805,(y [92,92] 806)⟩,⟨36,i 36 807,(y [92,36] 808)⟩,⟨34,i 34 809,(y [92,34] 810)⟩] 7]),
 (374,ff),
 (367,li 367 [xs [s "things" 656],Qj P,Qi P,⟨(ty "getset_descriptor"),am,.fields ⟨[s "__dict__" 658,r 369,bl "function.__dict__",bl "function.__dict__#set"]⟩,#[]⟩,⟨(ty "getset_descriptor"),am,.fields ⟨[s "__weakref__" 660,r 369,bl "ExceptionGroup.__weakref__",N]⟩,#[]⟩,su 369,ib 369]),
 (360,me 53 5 "object" "Heap.object" 217 365 648 N),
 (353,me 53 4 "new_box" "Heap.new_box" 214 358 640 N),
 (346,me 53 3 "new_array" "Heap.new_array" 211 351 630 N),
 (339,me 53 2 "new_object" "Heap.new_object" 208 344 621 N),
 (332,me 53 1 "put" "Heap.put" 204 337 613 N),
 (325,me 53 0 "__init__" "Heap.__init__" 201 330 606 N),
 (311,li 311 [xs [s "fields" 583,s "kind" 584,s "sizes" 585],di "dict" [e P "__module__" 568<|s "methodrows.values" 544,e P "__firstlineno__" 572<|i 193 571,e P "__init__" 582<|r 310,e P "__static_attributes__" 586<|r 311,e P "__dict__" 588<|r 314,e P "__weakref__" 590<|r 315,e P "__doc__" 591 N] 4,⟨(ty "type"),am,.cls ⟨"Thing",[ty "object"],[r 313,ty "object"],312,"Thing",aq,[],[],ai,am,ai⟩,#[am,am,ac (s "Thing" 561),ac (s "Thing" 569),ac (bl "object.__new__"),ac T]⟩,⟨(ty "getset_descriptor"),am,.fields ⟨[s "__dict__" 587,r 313,bl "function.__dict__",bl "function.__dict__#set"]⟩,#[]⟩,⟨(ty "getset_descriptor"),am,.fields ⟨[s "__weakref__" 589,r 313,bl "ExceptionGroup.__weakref__",N]⟩,#[]⟩,su 313,ib 313,xs [],pb,di "dict" [e P "__module__" 601<|s "methodrows.values" 544,e P "__qualname__" 603<|s "Heap" 602,e P "__firstlineno__" 605<|i 199 604,e P "__init__" 612<|r 331,e P "put" 620<|r 338,e P "new_object" 629<|r 345,e P "new_array" 639<|r 352,e P "new_box" 647<|r 359,e P "object" 655<|r 366,e P "__static_attributes__" 657<|r 367] 10,xs [],fd [i 201 0,i 4 0,r 330,i 204 0,i 4 0,r 337,i 208 0,i 4 0,r 344,i 211 0,i 4 0,r 351,i 214 0,i 4 0,r 358,i 217 0,i 4 0,r 365],k "Heap" 596 199 321,fr 323 320<|s "methodrows.values" 544]),
 (304,me 52 0 "__init__" "Thing.__init__" 195 309 573 N),
 (291,li 291 [xs [s "\\" 550,s "\\\\" 551],xs [s "$" 552,s "\\$" 553],xs [s "\n" 554,s "\\n" 555],xs [s "\r" 556,s "\\r" 557],xs [s "\t" 558,s "\\t" 559],xs [r 291,r 292,r 293,r 294,r 295],xs [],pb,di "dict" [e P "__module__" 568<|s "methodrows.values" 544,e P "__qualname__" 570<|s "Thing" 569,e P "__firstlineno__" 572<|i 193 571,e P "__init__" 582<|r 310,e P "__static_attributes__" 586<|r 311] 5,xs [],fd [i 195 0,i 4 0,r 309],k "Thing" 563 193 300,fr 302 299<|s "methodrows.values" 544]),
 (192,ff),
 (191,li 191 [xs [i 128 413,i 2048 414,i 65536 415,i 1114112 417]]),
 (132,ff),
 (127,li 127 [xs [],xs [s "name" 332,s "Any" 333,r 127],xs [s "bottom" 335],xs [],xs [r 130]]),
 (78,ff),
 (69,li 69 [xs [s "value" 263],W1 P,W0 P,su 71,ib 71,xs [s "nothing" 270],xs [s "bool" 272,T],xs [s "bool" 274,F],xs [s "Int64" 276]]),
 (62,me 4 0 "__init__" "Thrown.__init__" 15 67 255 N),
 (37,li 37 [xs [s "message" 217,s "spot" 218],W3 P,W2 P,⟨(ty "getset_descriptor"),am,.fields ⟨[s "__weakref__" 220,r 39,bl "ExceptionGroup.__weakref__",N]⟩,#[]⟩,su 39,ib 39,xs [r 39],pb,di "dict" [e P "__module__" 234<|s "methodrows.errors" 194,e P "__qualname__" 236<|s "MachineFault" 235,e P "__firstlineno__" 238<|i 11 237,e P "__static_attributes__" 239<|r 50] 4,xs [],fd [],k "MachineFault" 229 11 46,fr 48 45<|s "methodrows.errors" 194,xs [],di "dict" [e P "__module__" 234<|s "methodrows.errors" 194,e P "__firstlineno__" 238<|i 11 237,e P "__static_attributes__" 239<|r 50,e P "__doc__" 240 N] 2,⟨(ty "type"),am,.cls ⟨"MachineFault",[r 39],[r 52,r 39,ty "Exception",ty "BaseException",ty "object"],51,"MachineFault",aq,[],[],ai,am,ai⟩,#[ac (r 43),am,ac (s "MachineFault" 227),ac (s "MachineFault" 235),ac (bl "Exception.__new__"),ac T]⟩,su 52,ib 52,xs [r 39],pb,di "dict" [e P "__module__" 250<|s "methodrows.errors" 194,e P "__qualname__" 252<|s "Thrown" 251,e P "__firstlineno__" 254<|i 13 253,e P "__init__" 262<|r 68,e P "__static_attributes__" 264<|r 69] 5,xs [],fd [i 15 0,i 4 0,r 67],k "Thrown" 245 13 58,fr 60 57<|s "methodrows.errors" 194]),
 (30,me 2 0 "__init__" "RowsError.__init__" 7 35 208<|r 29),
 (22,li 22 [xs [ty "Exception"],pb,di "dict" [e P "__module__" 203<|s "methodrows.errors" 194,e P "__qualname__" 205<|s "RowsError" 204,e P "__firstlineno__" 207<|i 5 206,e P "__init__" 216<|r 36,e P "__static_attributes__" 219<|r 37] 5,xs [],fd [i 7 0,i 4 0,r 35],k "RowsError" 198 5 25,fr 27 24<|s "methodrows.errors" 194,xs [N]]),
 (15,ff),
 (0,li 0 [boot_o_0 P,Wo P,ac3 P,g P (s "law_sf0044_01" 1476) (ah3 P 642) 183,boot_o_4 P,boot_o_5 P,boot_o_6 P,boot_o_7 P,boot_o_8 P,boot_o_9 P,boot_o_10 P,xs [],h ado,k "<module>" 182 1 11,fr 13 3<|s "__main__" 164])]
def t7 (P:cG):BT:=gen (ob P) 1120
def t0 (P:cG):BT:=gen (ov (ob P) [(2,boot_o_2 P),(3,g P (s "__main__" 164) (adn P 394) 9),(12,h Xf)]) 15
def t1 (P:cG):BT:=gen (ov (ob P) [(3,g P (s "methodrows.errors" 194) (adm P 394) 12),(12,h Xe),(39,ac1 P)]) 55
def t2 (P:cG):BT:=gen (ov (ob P) [(3,g P (s "methodrows.octets" 405) (adl P 394) 45),(12,h Xd)]) 241
def t3 (P:cG):BT:=gen (ov (ob P) [(3,g P (s "methodrows.strings" 782) (adk P 394) 77),(12,h Xc)]) 454
def t4 (P:cG):BT:=gen (ov (ob P) [(3,g P (s "methodrows.strings" 782) (adj P 642) 106),(12,h Xb)]) 650
def t5 (P:cG):BT:=gen (ov (ob P) [(3,g P (s "methodrows.string_builtins" 1064) (adi P 642) 116),(12,h Xa)]) 673
def t6 (P:cG):BT:=gen (ov (ob P) [(3,g P (s "methodrows.string_builtins" 1064) (adh P 642) 150),(12,h W9)]) 903
end H
open H renaming t7->abL
def ue:Env:={scope:=oB.main.scope,locals:=mainNs,globals:=mainNs,cells:=[],code:=.ref 13,frame:=ac 14}
def gt:Code:=.body oB.main.body ue
noncomputable def EP:List Frame:=[topFrame ⟨0,0,0,0⟩]
noncomputable def l5 (t:cG->BT) (n k:Nat) (w:dG) (os:gU):SharedT:=⟨t w.params,n,{},#[],{},k,os⟩
def ye (a b:Nat):List Stmt:=(oB.main.body.drop a).take b
def sR (w:dG) (k:Nat) (s:aby) (a n:Nat) (p:oq):Option (Ej×aby×Code×oq):=Fast.tw10110043849684766642 Fast.tw14364793385576792824 oB w 11 (ac<|.ref 6) 1 k s ⟨(Fast.tw12563942051412417395 (ye a n) ue).wrap doneF deadEnd id id,gt,p,EP⟩
theorem ab5 (w:dG) (k:Nat) (s:aby) (a n:Nat) (p:oq):segRunT oX oB w 11 (ac<|.ref 6) 1 k s (piecesOf (ye a n) ue gt p EP)=sR w k s a n p:=by unfold piecesOf;rw[Fast.te10110043849684766642,pc,Fast.te12563942051412417395];rfl
theorem ch1 (w:dG) (os:gU):sR w 783 (l5 H.t0 15 187 w os) 0 4 ⟨0,0,0,0⟩=ac (.next,l5 H.t1 55 243 w os,gt,⟨11,0,12,8⟩):=by kernel_rfl
theorem ch2 (w:dG) (os:gU):sR w 1370 (l5 H.t1 55 243 w os) 4 36 ⟨11,0,12,8⟩=ac (.next,l5 H.t2 241 482 w os,gt,⟨150,0,154,42⟩):=by kernel_rfl
theorem ch3 (w:dG) (os:gU):sR w 1751 (l5 H.t2 241 482 w os) 40 35 ⟨150,0,154,42⟩=ac (.next,l5 H.t3 454 819 w os,gt,⟨318,0,318,13⟩):=by refine byRow2 "special-get-raises" (P:=λw=>∀os:gU,sR w 1751 (l5 H.t2 241 482 w os) 40 35 ⟨150,0,154,42⟩=ac (.next,l5 H.t3 454 819 w os,gt,⟨318,0,318,13⟩)) ?_ ?_ w os<;>(intro w os;kernel_rfl)
theorem ch4 (w:dG) (os:gU):sR w 1173 (l5 H.t3 454 819 w os) 75 30 ⟨318,0,318,13⟩=ac (.next,l5 H.t4 650 1051 w os,gt,⟨444,0,451,40⟩):=by kernel_rfl
theorem ch5 (w:dG) (os:gU):sR w 753 (l5 H.t4 650 1051 w os) 105 11 ⟨444,0,451,40⟩=ac (.next,l5 H.t5 673 1108 w os,gt,⟨466,0,466,5⟩):=by refine byRow2 "special-get-raises" (P:=λw=>∀os:gU,sR w 753 (l5 H.t4 650 1051 w os) 105 11 ⟨444,0,451,40⟩=ac (.next,l5 H.t5 673 1108 w os,gt,⟨466,0,466,5⟩)) ?_ ?_ w os<;>(intro w os;kernel_rfl)
theorem ch6 (w:dG) (os:gU):sR w 1317 (l5 H.t5 673 1108 w os) 116 34 ⟨466,0,466,5⟩=ac (.next,l5 H.t6 903 1384 w os,gt,⟨568,0,572,25⟩):=by kernel_rfl
theorem ch7 (w:dG) (os:gU):sR w 1295 (l5 H.t6 903 1384 w os) 150 34 ⟨568,0,572,25⟩=ac (.next,l5 abL 1120 1659 w os,gt,⟨733,0,743,94⟩):=by kernel_rfl
def sh0 (w:dG) (os:gU):Shared:=(l5 H.t0 15 187 w os).abs
theorem ZN (w:dG) (os:gU):topGo oX oB w 11 (ac<|.ref 6) 12 ⟨qA w.params,WD [],aaY,af2,os⟩ (topStub oB)=
 ac ((l5 H.t0 15 187 w os).abs,⟨denote oX gt,gt,⟨0,0,0,0⟩,EP⟩):=by
 rw[Fast.te15667345088766844465,pc,Fast.te11892475500146522536];kernel_rfl
theorem Ra (w:dG) (os:gU):segRun oX oB w 11 (ac<|.ref 6) 1 1 (l5 H.t0 15 187 w os).abs (blockOf oB.main.body ue gt ⟨0,0,0,0⟩ EP)=
 ac (.next,(l5 H.t0 15 187 w os).abs,gt,⟨0,0,0,0⟩):=by kernel_rfl
theorem ZO (w:dG) (os:gU):aaR oX oB w 11 (ac<|.ref 6) 2 (l5 abL 1120 1659 w os).abs ⟨doneF .next,gt,⟨733,0,743,94⟩,EP⟩=ac (l5 abL 1120 1659 w os).abs:=by rw[Fast.te14082659384304107361,pc];kernel_rfl
theorem U5:opening oB=plainProg oB.main.scope.names:=by kernel_rfl
theorem Q9 (s:bj):fenceModules? oB s=ac s:=by kernel_rfl
def wv (P:cG):Heap:=absHeap (abL P) 1120 {}
theorem U3 (w:dG):((qA w.params).isNs Er&&(#[]:Array GenState).size==0,(qA w.params).objs.size,(qA w.params).nsMap Er "__annotations__")=(aq,11,ac<|.ref 6):=by kernel_rfl
def pi (a:Nat):List Stmt:=oB.main.body.drop a
theorem AE (a n:Nat):pi a=ye a n++pi (a+n):=by unfold pi ye;rw[<-List.drop_drop,fj]
theorem oA {w:dG} {a n N k:Nat} {s F:aby} {r:bj} {p j:oq} (h:sR w k s a n p=ac (.next,F,gt,j))
 (q:aaR oX oB w 11 (ac<|.ref 6) N F.abs (restOf (pi<|a+n) ue gt j EP)=ac r):aaR oX oB w 11 (ac<|.ref 6) (k+N) s.abs (restOf (pi a) ue gt p EP)=ac r:=by
 rw[AE a n];exact piece_app (segRun_of<|ah (ab5 ..) h) q
theorem EO:pi 184=[]:=by kernel_rfl
theorem ZM (w:dG) (os:gU):aaR oX oB w 11 (ac<|.ref 6) 8457 ⟨qA w.params,WD [],aaY,af2,os⟩ (topStub oB)=ac (l5 abL 1120 1659 w os).abs:=by
 have a:aaR oX oB w 11 (ac<|.ref 6) 2 (l5 abL 1120 1659 w os).abs (restOf (pi 184) ue gt ⟨733,0,743,94⟩ EP)=ac (l5 abL 1120 1659 w os).abs:=by rw[EO];exact piece_nil<|ZO w os
 have d:=oA (ch7 w os) a;have Q:=oA (ch6 w os) d;have X:=oA (ch5 w os) Q;have y:=oA (ch4 w os) X;have R:=oA (ch3 w os) y;have J:=oA (ch2 w os) R;have U:=oA (ch1 w os) J;have B:=piece_block (Ra w os) U;have W:=go_top (ZN w os) B;exact W
def qX:Program:={oB with main:={oB.main with body:=pi 183}}
def zp:List Str:=oB.boundNames.filter λn=>!(n==("law":Wq))
def ab6 (w:dG) (os:gU):Shared:=(l5 abL 1120 1659 w os).abs
theorem Uz:importedModules oB.main.body=[]:=by kernel_rfl
theorem QD (w:dG):namesBound oB (wv w.params)=true:=by kernel_rfl
theorem UA (w:dG):laidKept (qA w.params) (wv w.params)=true:=by kernel_rfl
theorem Ux (w:dG):staticsOk [] (qA w.params) (wv w.params)=true:=by kernel_rfl
theorem UB (w:dG) (os:gU):gensDone (ab6 w os)=true:=by kernel_rfl
theorem Uy (w:dG) (os:gU):openSeen qX zp [] (λ_=>aq) aq (ab6 w os)=openGood qX zp:=by rw[Fast.te4187177175401517315];kernel_rfl
end
section
open PySem PySem.W PySem.Calls PyProof.Rows
theorem Q8:LeftO oB qX zp (λ_=>aq) (λs=>(s.heap,s.toks)) (λw=>(wv w.params,1659)) 9000:=
 LeftO.of_pieces (H₀:=qA) (H₁:=wv) (gs₀:=WD []) (gs₁:=#[]) (d₀:=aaY) (d₁:={}) (k₀:=af2) (k₁:=1659) (m₀:=11) (ann:=ac<|.ref 6) (M:=8457)
  (boot_open U5 (by kernel_rfl) Q9) U3 ZM (by kernel_rfl) λw=>by funext os;rw[Uz];have J:=QD w;have R:=UA w;have y:=Ux w;have X:=UB w os;have Q:=Uy w os;rw[J,R,y];exact Prod.ext (by rw[show gensDone ⟨wv w.params,#[],{},1659,os⟩=aq from X];rfl)<|Prod.ext Q rfl
abbrev ZR:List an->an->Bool:=@Fast.tw3471404346716756564 an<|@instBEqOfDecidableEq an Fast.sDec
theorem lo1:Fast.tw11788848310118352699 oB.main=true:=by kernel_rfl
theorem lo2:((Ci oB.main.body).isEmpty||Fast.tw12862048085361865435 (Ci oB.main.body) oB.main.body)=true:=by kernel_rfl
theorem lo3:Fast.tw8377067652309620493 oB=true:=by kernel_rfl
theorem lo4:(R.allR (Fast.tw18344453789297297638 oB) λn=>!ZR Fast.tw14412699480532031325 n)=true:=by kernel_rfl
theorem ah0:R.filterR (Bc oB oB.main.body) [{cps:={toList:=[118,97,114,115]}},{cps:={toList:=[100,105,114]}},{cps:={toList:=[108,111,99,97,108,115]}}]=[]:=by kernel_rfl
theorem ahZ:(!R.allR (Ck oB.main.body) (ZR Bb))=false:=by kernel_rfl
theorem lo6:(Fast.tw17119622794617984870 oB oB.main.body λx n=>Fast.tw17868728402115742887 n)=true:=by kernel_rfl
theorem lo5:Cj {strict:=ai,foot:=am,bare:=[]} oB.main.body=true:=by kernel_rfl
theorem ahY:Cj {strict:=!R.allR (Ck oB.main.body) (ZR Bb),foot:=am,bare:=R.filterR (Bc oB oB.main.body) [{cps:={toList:=[118,97,114,115]}},{cps:={toList:=[100,105,114]}},{cps:={toList:=[108,111,99,97,108,115]}}]} oB.main.body=true:=by rw[ah0,ahZ];exact lo5
theorem Zs:Fast.tw12908688711261696721 oB=true:=qz (qz (qz (qz (qz lo1 lo2) lo3) lo4) ahY) lo6
abbrev lX:OpenLaw:=cT
theorem acf:Cm (Cn lX)=true:=by
 unfold Cm
 iterate 13 (refine qz ?_ (by kernel_rfl))
 exact Zs
theorem ahw:Ba (Cn lX)=true:=by
 unfold Ba
 iterate 2 (refine qz ?_ (by kernel_rfl))
 exact acf
theorem U4:lX.wellSaid=true:=by
 rw[Fast.te9446332074065402090];unfold Fast.tw9446332074065402090
 iterate 18 (refine qz ?_ (by kernel_rfl))
 exact ahw
def dX:DefRec:=((defOf qX ("law":Wq)).getD (⟨"law",(bH 183).1,(bH 183).2.1,(bH 183).2.2,⟨0,0,0,0⟩⟩,[])).1
theorem ZP:defOf qX ("law":Wq)=ac (dX,[]):=by kernel_rfl
theorem ZL:oB.theDef ("law":Wq)=ac (dX.params,dX.body,dX.scope):=by kernel_rfl
def Told (w:dG) (h:eK):Prop:=∀b o,(wv w.params).get? b=ac o->h.get? b=ac o
theorem adW:kwWritten? dX.params.kwonlyargs dX.params.kw_defaults=ac []:=by kernel_rfl
theorem adV:(chainsOk qX&&opensWell oB&&(frees cT.row.toRowW&&cT.row.within.isEmpty))=true:=by kernel_rfl
theorem F5:cT.row.toRowW.promised:=⟨[.list []],by decide+kernel,by decide+kernel⟩
theorem MZ (call:WalkX qX zp (λ_ _=>True) (λs=>(s.heap,s.toks)) (λw=>(wv w.params,1659)) cT.row.toRowW dX [] λf U=>PySem.call f U):cT.Holds:=
 holds_law U4 λa=>PySem.W.holds_openX (q:=qX) (loose:=zp) (Xt:=λ_=>aq) (XP:=λ_ _=>True) (Yf:=λs=>(s.heap,s.toks)) (Ya:=λw=>(wv w.params,1659)) (N:=9000) Q8
  (λ_ _=>trivial) (λ_ _ _ _ _=>trivial) ZP ZL adW (λs _=>recFacts_nil rfl) rfl a adV ⟨rfl,rfl,rfl,rfl,rfl,by decide+kernel⟩ F5 call
noncomputable def WR (o:uO):Bool:=by
 cases o.data
 case freed=>exact ai
 case dict=>
  cases o.cls
  case type s=>exact s !="frame"
  all_goals exact aq
 all_goals exact aq
def cD (P:cG):aO:=⟨P,λa=>gd (Nat.blt a 1120)<|((H.t7 P).get a).bind λo=>gd (WR o&&!nU a 939)<|ac o,λ_=>False⟩
theorem KH (h:cD P a=ac o):a<1120/\(H.t7 P).get a=ac o/\WR o=true:=by refine bD (cL h) λJ R=>aI (bind_some R) λB g y=>bD (cL y) λk e=>?_;obtain rfl:=al e;exact⟨Nat.blt_eq.mp J,g,(ia k).1⟩
theorem FO (t:Told w h) (e:cD w.params a=ac o):h.get? a=ac o:=by refine i8 (KH e) λJ R y=>t a o ?_;unfold wv;refine ah (abs_get J R) ?_;obtain⟨c,d,I,p⟩:=o;rcases I<;>first|rfl|cases y
theorem Zw (e:cD P a=ac o):¬b5 o:=by refine i8 (KH e) λJ R y=>?_;rintro ⟨c,u,n,d⟩;obtain⟨b,z,I,p⟩:=o;replace c:b=.type "frame":=c;replace d:I=.dict u n:=d;subst c d;have:("frame"!="frame")=true:=y;exact absurd this<|by decide
theorem UH (P):cD P 939=none:=rfl
noncomputable def fnB (x:jE×List rL×rU):Bool:=
 (x.2.2.kind==.function)&&!x.2.2.isGenerator&&!x.2.2.isCoroutine&&decide (x.2.2.names.map (·.1)).Nodup&&x.2.2.names.all (λy=>y.2 !=.free)&&x.1.posonlyargs.isEmpty&&x.1.vararg.isNone&&x.1.kwonlyargs.isEmpty&&x.1.kwarg.isNone&&
   (x.1.args.map (·.arg)).isPrefixOf (x.2.2.names.map (·.1))&&x.1.args.all λy=>x.2.2.names.lookup y.arg==ac .local||x.2.2.names.lookup y.arg==ac .cell
noncomputable def aeK:Data->Option wY
 |.func f=>ac f
 |_=>am
theorem VH (h:aeK d=ac f):d=.func f:=vw (λv=>by rcases v<;>rfl) h
noncomputable def aeL:Data->Option (Array Value)
 |.fields f=>ac f
 |_=>am
theorem VI (h:aeL d=ac f):d=.fields f:=vw (λv=>by rcases v<;>rfl) h
noncomputable def vStr:Value->Option an
 |.str j _=>ac j
 |_=>am
theorem Cr (h:vStr v=ac i):∃t,v=.str i t:=vwE (C:=λi v=>∃t,v=agX i t) (λv=>by rcases v<;>first|trivial|exact⟨_,rfl⟩) h
noncomputable def KO (K:aO) (a:bn):Option FuncData:=(K a).bind λo=>aeK o.data
noncomputable def CO (K:aO) (c:bn):Option an:=(K c).bind λo=>(aeL o.data).bind λU=>(U[1]?:Option Value).bind vStr
theorem T1 {K:aO} (h:CO K c=ac s):∃b U t,K c=ac b/\b.data=.fields U/\U[1]?=ac (.str s t):=by refine aI (bind_some h) λo e h=>aI (bind_some h) λU u h=>aI (bind_some h) λv m h=>be (Cr h) λt a=>?_;exact⟨o,U,t,e,VI u,by(refine ah m ?_;rw[a])⟩
theorem Z2 {K:aO} (h:KO K a=ac f):∃o,K a=ac o/\o.data=.func f:=by exact aI (bind_some h) λo e h=>⟨o,e,VH h⟩
noncomputable def Dq (f:wY):=(f.params,f.body,f.scope,f.globals,f.closure,f.builtins,f.code,f.qualname,f.defaults)
theorem Vc {K:aO} (e:fnB x=aq)
 (Y:(KO K a).map Dq=ac (x.1,.stmts x.2.1,x.2.2,3,[],0,.ref c,p,P)) (hq:CO K c=ac p)
 (g:(P=.none/\defs=[])\/∃d z n j,P=.ref d/\K d=ac z/\z.data=.seq (ag j) n/\bV K [] defs j):
 FnAt K a x.1 x.2.1 x.2.2 defs:=by
 simp only[fnB,bu,J0,vQ,decide_eq_true_eq,beq_iff_eq,cn,bne_iff_ne,kt,A7,gL,List.isPrefixOf_iff_prefix] at e;refine bD e λS A=>bD S λV h=>?_;refine bD V λZ X=>bD Z λH T=>?_;refine bD H λG Q=>bD G λk O=>?_;refine bD k λM J=>bD M λN E=>?_;refine bD N λu D=>bD u λI v=>?_;refine be h λF w=>?_;refine aI (ba.mp Y) λf B l=>aI (Z2 B) λo L m=>?_;simp only[Dq,A6] at l;refine aeC l λe1 i W R C y q S=>bD S λs r=>?_;refine wB (T1 hq) λb U t c1 c2 c3=>⟨I,v,D,E,J,⟨O,Q,T,X⟩,⟨F,af w⟩,A,o,f,L,m,W,e1,i,C,R,y,⟨c,b,U,t,q,c1,c2,by refine s▸?_;exact c3⟩,?_⟩;exact r▸g
theorem aea {K:aO} {a c k:Nat} (e:fnB (bH k)=aq)
 (Y:(KO K a).map Dq=ac ((bH k).1,.stmts (bH k).2.1,(bH k).2.2,3,[],0,.ref c,p,P)) (L:CO K c=ac p)
 (g:(P=.none/\defs=[])\/∃d z n j,P=.ref d/\K d=ac z/\z.data=.seq (ag j) n/\bV K [] defs j):
 FnAt K a (bH k).1 (bH k).2.1 (bH k).2.2 defs:=Vc e Y L g
noncomputable def Ni:List FE:=[⟨112,13,ai,[],[]⟩,⟨105,12,ai,[],[]⟩,⟨98,11,ai,[],[]⟩]
def sx:List FE:=[⟨794,133,ai,[],[]⟩,⟨707,120,ai,[],[]⟩,⟨432,63,ai,[],[]⟩,⟨888,147,ai,[],[]⟩,⟨628,100,ai,[],[]⟩,⟨590,94,ai,[],[]⟩,⟨881,146,ai,[],[]⟩,⟨902,149,ai,[],[]⟩,⟨801,134,ai,[],[]⟩,⟨522,84,ai,[],[]⟩,⟨930,153,ai,[],[]⟩,⟨923,152,ai,[],[]⟩,⟨649,104,ai,["found"],[]⟩,⟨425,62,ai,["found","left"],[]⟩,⟨387,55,ai,[],[]⟩,⟨656,105,ai,[],[]⟩,⟨642,102,ai,[],[]⟩,⟨635,101,ai,[],[]⟩,⟨623,99,ai,["found"],[]⟩,⟨616,98,ai,[],[]⟩,⟨808,135,ai,[],[]⟩,⟨529,85,ai,[],[]⟩,⟨290,47,ai,[],[]⟩,⟨777,130,ai,[],[]⟩,⟨285,46,ai,[],[]⟩,⟨763,128,ai,[],[]⟩,⟨502,81,ai,[],[]⟩,⟨721,122,ai,[],[]⟩,⟨280,45,ai,[],[]⟩,⟨818,137,ai,[],[]⟩,⟨562,90,ai,[],[]⟩,⟨555,89,ai,["found"],[]⟩,⟨273,44,ai,[],[]⟩,⟨268,43,ai,["found"],[]⟩,⟨212,35,ai,["found"],[]⟩,⟨515,83,ai,[],[.bytes []]⟩,⟨474,77,ai,[],[]⟩,⟨853,142,ai,[],[]⟩,⟨583,93,ai,[],[]⟩,⟨846,141,ai,[],[]⟩,⟨576,92,ai,[],[]⟩,⟨832,139,ai,[],[]⟩,⟨550,88,ai,[],[]⟩,⟨825,138,ai,[],[]⟩,⟨543,87,ai,[],[]⟩,⟨536,86,ai,[],[]⟩,⟨789,132,ai,[],[]⟩,⟨509,82,ai,[],[]⟩,⟨770,129,ai,[],[]⟩,⟨91,10,ai,[],[]⟩,⟨756,127,ai,[],[]⟩,⟨495,80,ai,[],[]⟩,⟨261,42,ai,[],[]⟩,⟨749,126,ai,[],[]⟩,⟨488,79,ai,[],[]⟩,⟨254,41,ai,[],[]⟩,⟨742,125,ai,[],[]⟩,⟨481,78,ai,[],[]⟩,⟨240,39,ai,[],[]⟩,⟨467,76,ai,[],[]⟩,⟨247,40,ai,[],[]⟩,⟨233,38,ai,[],[]⟩,⟨205,34,ai,[],[]⟩,⟨198,33,ai,[],[]⟩,⟨219,36,ai,[],[]⟩,⟨226,37,ai,[],[]⟩,⟨700,119,ai,[],[]⟩,⟨735,124,ai,[],[]⟩,⟨460,75,ai,[],[]⟩,⟨84,9,ai,[],[cV "Int64"]⟩,⟨693,118,ai,[],[]⟩,⟨686,117,ai,[],[]⟩,⟨679,116,ai,[],[]⟩]
noncomputable def rI:List FE:=[⟨1071,175,ai,[],[]⟩,⟨1093,179,ai,[],[]⟩,⟨1064,174,ai,[],[]⟩,⟨1024,168,ai,[],[]⟩,⟨1107,181,ai,[],[]⟩,⟨1100,180,ai,[],[]⟩,⟨1088,178,ai,[],[]⟩,⟨1083,177,ai,["found"],[]⟩,⟨1059,173,ai,[],[]⟩,⟨1031,169,ai,[],[]⟩,⟨1052,172,ai,[],[]⟩,⟨1045,171,ai,[],[]⟩,⟨1076,176,ai,[],[]⟩,⟨1017,167,ai,[],[]⟩,⟨1012,166,ai,["found"],[]⟩,⟨1038,170,ai,[],[]⟩,⟨1005,165,ai,[],[]⟩,⟨1000,164,ai,[],[]⟩,⟨993,163,aq,["return"],[]⟩]
def dd (k:Nat):List PV:=bif nU k 9 then[cV "Int64"] else bif nU k 19 then[.tup []] else bif nU k 83 then[.bytes []] else[]
def SA (K:aO) (f:FE):Prop:=FnAt K f.addr (bH f.k).1 (bH f.k).2.1 (bH f.k).2.2 f.defs
theorem nbF {a b:Nat} (h:¬a=b):nU a b=false:=SZ.mpr λe=>h<|Lo e
theorem aeH (P:cG) (k:Nat):(H.df k=.none/\dd k=[])\/∃d z n Go,H.df k=.ref d/\cD P d=ac z/\z.data=.seq (ag Go) n/\bV (cD P) [] (dd k) Go:=by
 by_cases J:k=9
 ·subst J;exact .inr ⟨77,H.xs [H.s "Int64" 276],0,[H.s "Int64" 276],rfl,by kernel_rfl,rfl,b8 (qv) eA⟩
 by_cases R:k=19
 ·subst R;exact .inr ⟨131,H.xs [H.r 130],0,[H.r 130],rfl,by kernel_rfl,rfl,b8 (⟨130,H.xs [],0,[],rfl,by kernel_rfl,rfl,rfl,eA⟩) eA⟩
 by_cases Z:k=83
 ·subst Z;exact .inr ⟨510,H.xs [H.y [] 882],0,[H.y [] 882],rfl,by kernel_rfl,rfl,b8 (j0) eA⟩
 left;unfold H.df dd;rw[nbF J,nbF R,nbF Z];exact⟨rfl,rfl⟩
abbrev feV (P:cG) (f:FE):=(fnB<|bH f.k,(KO (cD P) f.addr).map Dq,CO (cD P)<|f.addr-1,f.defs)
abbrev feD (f:FE):=(aq,ac ((bH f.k).1,FuncBody.stmts (bH f.k).2.1,(bH f.k).2.2,(3:bn),([]:List (an×bn)),(0:bn),ge<|f.addr-1,(H.nl f.k).1,H.df f.k),ac (H.nl f.k).1,dd f.k)
theorem Ut {Z u:Type} {F G:Z->u} {l:List Z} (e:l.map F=kj [] (λf _ R=>G f::R) l):∀f∈l,F f=G f:=by
 induction l with
 |nil=>exactλ_ h=>absurd h aZ
 |cons a l o=>exact bD (An e) λJ Y=>List.forall_mem_cons.mpr ⟨J,o Y⟩
theorem Gg (P:cG) {l:List FE} (e:l.map (feV P)=kj [] (λf _ R=>feD f::R) l):∀f∈l,SA (cD P) f:=λf Y=>by have h:=Ut e f Y;refine aea (congrArg (·.1) h) (congrArg (·.2.1) h) (congrArg (·.2.2.1) h) ?_;rw[show f.defs=dd f.k from congrArg (·.2.2.2) h];exact aeH P f.k
theorem my {P:cG} {a k:Nat} (e:[(⟨a,k,ai,[],[]⟩:FE)].map (feV P)=[feD ⟨a,k,ai,[],[]⟩]):FnAt (cD P) a (bH k).1 (bH k).2.1 (bH k).2.2 []:=Gg P e _ bd
theorem Vk (P:cG):∀f∈Ni,SA (cD P) f:=Gg P rfl
theorem Vj (P:cG):∀f∈sx,SA (cD P) f:=Gg P rfl
theorem Vi (P:cG):∀f∈rI,SA (cD P) f:=Gg P rfl
def Oo (u:List cF) (x:an):Option Value:=(u.find? λe=>(vStr e.key).elim ai λn=>Lr n x).map (·.val)
theorem MU (x v):v.isStr x=(vStr v).elim ai λn=>Lr n x:=by
 induction v with
 |str n t=>
  show(n==x)=Lr n x
  cases q:Lr n x with
  |true=>exact(af<|abG.mp q)▸beq_self_eq_true x
  |false=>exact beq_false_of_ne λg=>by rw[abG.mpr g] at q;exact ku q
 |_=>rfl
theorem qQ (u x):lf (ag u) x=Oo u x:=by unfold lf wQ Oo;rw[OC];exact congrArg (λp=>(u.find? p).map (·.val))<|funext λe=>MU x e.key
noncomputable def vInt:Value->Option Int
 |.int j _=>ac j
 |_=>am
noncomputable def OU:Value->Option (Array UInt8)
 |.bytes j _=>ac j
 |_=>am
noncomputable def LA:Value->Option bn
 |.ref j=>ac j
 |_=>am
noncomputable def vTy:Value->Option String
 |.type j=>ac j
 |_=>am
noncomputable def aeJ:Data->Option (Array Value)
 |.seq U _=>ac U
 |_=>am
noncomputable def RV:Data->Option (Array cF)
 |.dict u _=>ac u
 |_=>am
theorem J6 {i:Int} (h:vInt v=ac i):∃t,v=.int i t:=vwE (C:=λi v=>∃t,v=Value.int i t) (λv=>by rcases v<;>first|trivial|exact⟨_,rfl⟩) h
theorem LB (h:OU v=ac i):∃t,v=.bytes i t:=vwE (C:=λi v=>∃t,v=JO i t) (λv=>by rcases v<;>first|trivial|exact⟨_,rfl⟩) h
theorem Cs (h:LA v=ac i):v=.ref i:=vw (λv=>by rcases v<;>rfl) h
theorem OT (h:vTy v=ac i):v=.type i:=vw (λv=>by rcases v<;>rfl) h
theorem VG (h:aeJ d=ac i):∃n,d=.seq i n:=vwE (C:=λi v=>∃t,v=Data.seq i t) (λv=>by rcases v<;>first|trivial|exact⟨_,rfl⟩) h
theorem Gq (h:RV d=ac i):∃n,d=.dict i n:=vwE (C:=λi v=>∃t,v=Data.dict i t) (λv=>by rcases v<;>first|trivial|exact⟨_,rfl⟩) h
def uX (l:List cF):Bool:=l.all λe=>(vStr e.key).isSome
theorem jQ (h:uX u=aq):uI (ag u):=λe J=>by exact be (kP.mp<|cn.mp h e<|by simpa using J) λn F=>be (Cr F) λt e=>⟨n,t,e⟩
noncomputable def zS (K:aO) (a:bn):Option (List cF):=(K a).bind λo=>(RV o.data).map o6
theorem n4 {K:aO} (h:zS K a=ac u):∃o n,K a=ac o/\o.data=.dict (ag u) n:=by refine aI (bind_some h) λo G e=>?_;refine aI (ba.mp e) λl C S=>?_;subst S;exact be (Gq C) λn e=>⟨o,n,G,e⟩
def vh (P:cG):List DictEntry:=(zS (cD P) 3).getD []
def Sg (P:cG):List DictEntry:=(zS (cD P) 0).getD []
noncomputable def ikB:List Int->List cF->Bool
 |[],u=>u.isEmpty
 |k::j,u=>match u with
  |e::u=>decide (e.hash=hashInt k)&&decide (vInt e.key=ac k)&&ikB j u
  |[]=>ai
noncomputable def Tt (K:aO) (v:Value):Option (Array Value):=(LA v).bind λa=>(K a).bind λo=>(aeJ o.data).filter λ_=>decide<|vTy o.cls=ac "tuple"
noncomputable def Dm (K:aO) (v:Value):Option (Array cF):=(LA v).bind λa=>(K a).bind λo=>(RV o.data).filter λ_=>decide (vTy o.cls=ac "dict")&&o.dict.isNone&&o.slots.isEmpty&&!nU a 1
mutual
noncomputable def vrB (K:aO) (p:PV) (v:Value):Bool:=match p with
 |.int i=>decide<|vInt v=ac i
 |.bool i=>decide<|v=.bool i
 |.str l=>decide ((vStr v).map (·.cps.toList)=ac l)
 |.bytes l=>decide ((OU v).map (·.toList)=ac l)
 |.ref a=>(LA v).elim ai<|nU a
 |.blt s=>decide<|v=.builtin s
 |.ty s=>decide<|v=.type s
 |.tup l=>(Tt K v).elim ai λU=>Lz K l U.toList
 |.xT j l=>(Dm K v).elim ai λu=>ikB j u.toList&&Lz K l (u.toList.map (·.val))
 |_=>ai
noncomputable def Lz (K:aO) (l:List PV) (U:List Value):Bool:=match l with
 |[]=>U.isEmpty
 |p::l=>match U with
  |v::U=>vrB K p v&&Lz K l U
  |[]=>ai
end
theorem ZH:∀{j u},ikB j u=aq->aa j=aa u/\∀(i:Nat) (k:Int) (e:cF),j[i]?=ac k->u[i]?=ac e->e.hash=hashInt k/\∃t,e.key=.int k t:=by
 intro j
 induction j with
 |nil=>intro u h;cases u with
  |nil=>exact⟨rfl,λi k e h=>by rcases i<;>cases h⟩
  |cons _ _=>cases h
 |cons k j o=>intro u h;cases u with
  |nil=>cases h
  |cons e u=>
   refine bD ((fG.mp h)) λJ y=>bD ((fG.mp J)) λJ Z=>bD (o y) λX Q=>⟨congrArg (· +1) X,λi H R a b=>?_⟩
   induction i with
   |zero=>cases a;cases b;exact⟨of_decide_eq_true J,J6<|of_decide_eq_true Z⟩
   |succ i=>exact Q i H R a b
theorem Ts {K:aO} (h:Tt K v=ac U) (W:P U.toList):vM K A1 P v:=by exact aI (bind_some h) λa J h=>aI (bind_some h) λo R h=>bD (pH.mp h) λy X=>be (VG y) λn Q=>⟨a,o,n,U.toList,Cs J,R,OT<|of_decide_eq_true X,Q,W⟩
theorem MX {K:aO} (h:Dm K v=ac u) (z:m=u.size) (Z:C u) (W:P (u.toList.map (·.val))):aaP K m C P v:=by refine aI (bind_some h) λa J h=>aI (bind_some h) λo R h=>bD (pH.mp h) λy X=>be (Gq y) λn Q=>?_;simp only[bu,decide_eq_true_eq,A7,OK,J0,vQ] at X;refine bD X λS w=>bD S λV k=>?_;refine bD V λc E=>?_;exact⟨a,o,n,u,Cs J,R,⟨OT c,E,k⟩,Nat.ne_of_beq_eq_false w,Q,z,Z,W⟩
mutual
theorem v8 {K:aO} {O:List bn} (p v) (h:vrB K p v=aq):VR K O p v:=by
 cases p with
 |int i=>exact J6<|of_decide_eq_true h
 |bool i=>exact(of_decide_eq_true h:v=.bool i)
 |str l=>exact aI (ba.mp<|of_decide_eq_true h) λs J R=>be (Cr J) λt y=>⟨t,by(refine ah y ?_;rw[<-R])⟩
 |bytes l=>exact aI (ba.mp<|of_decide_eq_true h) λs J R=>be (LB J) λt y=>⟨t,by(refine ah y ?_;rw[<-R])⟩
 |ref a=>
  have h:(LA v).elim ai (nU a)=true:=h
  cases q:LA v with
  |none=>rw[q] at h;cases h
  |some b=>rw[q] at h;rw[Cs q,Lo h];rfl
 |blt s=>exact(of_decide_eq_true h:v=.builtin s)
 |ty s=>exact(of_decide_eq_true h:v=.type s)
 |tup l=>
  have h:((Tt K v).elim ai λU=>Lz K l U.toList)=true:=h
  cases q:Tt K v with
  |none=>rw[q] at h;cases h
  |some U=>rw[q] at h;exact Ts q<|ud l U.toList h
 |xT j l=>
  have h:((Dm K v).elim ai λu=>ikB j u.toList&&Lz K l (u.toList.map (·.val)))=true:=h
  cases q:Dm K v with
  |none=>rw[q] at h;cases h
  |some u=>rw[q] at h;exact bD (fG.mp h) λJ R=>bD (ZH J) λy X=>MX q (by simpa using y) X<|ud l _ R
 |_=>cases h
theorem ud {K:aO} (l vs) (h:Lz K l vs=aq):bV K O l vs:=by
 cases l with
 |nil=>cases vs with
  |nil=>exact eA
  |cons _ _=>cases h
 |cons p l=>cases vs with
  |nil=>cases h
  |cons v vs=>have q:=fG.mp h;exact b8 (v8 p v q.1)<|ud l vs q.2
end
def glB (K:aO) (g b:List cF) (e:an×PV):Bool:=match Oo g e.1 with
 |some v=>vrB K e.2 v
 |none=>(match Oo b e.1 with
  |some v=>vrB K e.2 v
  |none=>ai)
theorem ZU (P):ad4.all (glB (cD P) (vh P)<|Sg P)=true:=by kernel_rfl
theorem ti (P):zS (cD P) 3=ac (vh P):=rfl
theorem Se (P):zS (cD P) 0=ac (Sg P):=rfl
theorem qn (P):uX (vh P)=true:=rfl
theorem GL (P):uX (Sg P)=true:=rfl
def Pn (P:cG):List DictEntry:=(zS (cD P) 2).getD []
theorem TJ (P):zS (cD P) 2=ac (Pn P):=rfl
theorem LW (P):uX (Pn P)=true:=rfl
theorem TI (P):Oo (Pn P) "sys.recursionlimit"=none:=rfl
theorem jR (P):uD (cD P):=by
 refine⟨?_,λx p T=>?_⟩
 ·exact iI (n4<|TJ P) λo n J R=>⟨o,_,n,J,R,jQ<|LW P,by exact ah (qQ ..)<|TI P⟩
 ·have z:=mem_of_lookup T;have B:=cn.mp (ZU P) _ z;unfold glB at B;refine iI (n4<|ti P) λo n J R=>?_
  cases q:Oo (vh P) x with
  |some v=>simp only[q] at B;exact⟨v,v8 p v B,o,_,n,J,R,jQ<|qn P,.inl<|by exact ah (qQ ..)<|q⟩
  |none=>
   simp only[q] at B
   cases E:Oo (Sg P) x with
   |none=>simp only[E] at B;cases B
   |some v=>simp only[E] at B;exact iI (n4<|Se P) λZ w y X=>⟨v,v8 p v B,o,_,n,J,R,jQ<|qn P,.inr ⟨by exact ah (qQ ..)<|q,Z,_,w,y,X,jQ<|GL P,by exact ah (qQ ..)<|E⟩⟩
end
section
open PySem PySem.W PySem.Calls PyProof.Rows PySem.SeqAt
theorem wF (Y:FnAt X a params body scope defs) (hS:uD X)
 {K:aO} (I:kA (n+1) A M) (N:Inv X K O H M s.heap) (hqs:bV K O g us) (J:aa g=aa params.args)
 (hbind:∀(o:uO) (fd:wY) (Q:List (an×Value)->bj->Prop),X a=ac o->o.data=.func fd->fd.params=params->((fd.defaults=.none/\defs=[])\/∃d z n j,fd.defaults=.ref d/\X d=ac z/\z.data=.seq (ag j) n/\bV X [] defs j)->
  Q ((params.args.map (·.arg)).zip us) s->∀E,aD (MM w) A.in1 (rn fd ⟨vs,[]⟩) Q E s)
 (hbody:∀env u k,dk X ⟨scope.names,yn,[]⟩ env->kA n (A.deeper env) (env::M)->(∀a∈aY env,s.heap.get? a=am)->Step [] K O s.heap k O u.heap->Inv X k O H (env::M) u.heap->
  aT env (scope.names.map (·.1)) (fE (aa scope.names) g) k O u.heap->aW s u->aa (fE (aa scope.names) g)=aa scope.names->
  (∃o fd q,X a=ac o/\o.data=.func fd/\env=newEnv scope s.heap.objs.size 3 (xD (s.heap.objs.size+1) scope.names []) q (ac a) fd.code am 0)->
  aD (MM w) (A.deeper env) (kr body env) (λf C=>R (.ok<|.ret (match f with|.ret v=>v|_=>.none)) C) (λ_ _=>False) u):
 nJ (MM w) A (.call (.ref a) ⟨vs,[]⟩) R s:=by
 refine aah Y.ex λo fd G hd e1 e2 W e4 e5 S=>i8 S λe6 Y8 e11=>?_;refine aez Y8 λc oc cvs t e7 e8 r b=>?_;have hroom:A.depth<recursionLimit:=by have:=I.dp;exact bY (co _ _)<|by assumption
 refine(Tb hroom (N.sub _ _ (N.stat _ _ G)) hd (by refine e1▸?_;exact Y.cor) (by exact e1▸Y.gen) W ⟨c,oc,cvs,t,e7,N.sub _ _ (N.stat _ _ e8),r,b⟩ ?_);refine hbind o fd _ G hd e2 e11 ?_ _
 (refine(af e1)▸e4▸e5▸e6▸?_)
 refine be Y.args λF hargs=>?_;have hul:=hqs.length
 have hlz:((params.args.map (·.arg)).zip us).map (·.2)=us:=by rw[rC];simp[hul,J]
 refine vd (ps:=g) Y.kind Y.nd Y.free (λi x v D=>?_) (by refine(af hlz)▸?_;exact hqs) ?_ N λenv u k Z hF hfw dL fL U eX=>?_
 ·rw[qc] at D;refine hargs▸?_;have L:=D.1;refine⟨by refine ah (dh (aB.mp L).1) ?_;exact L,?_⟩;rw[bZ,ba] at L;refine aI L λy hy S=>?_;subst S;exact Y.XM y<|br hy
 ·have:=congrArg aa hargs;simp only[aC,aJ] at this;simp only[sX,aC];exact cQ<|bk [aa params.args,aa F,aa scope.names,min (aa params.args)<|aa us] [] [(1,.a aK bg,cu),(1,io,aK),(1,xi cu,io)] rfl (cl<|ao<|af this)<|cl<|ao<|eN<|cQ<|bk [aa params.args,aa g,aa us] [] [(1,aK,bg),(1,bg,cu),(1,xi cu,aK)] rfl (cl<|ao<|af J)<|cl<|ao<|af hul
 have hsc:env.scope=scope:=by refine Z▸?_;rfl
 have l:∀x,env.kindOf x=scope.names.lookup x:=λx=>by unfold SY;rw[hsc]
 have T:dk X ⟨scope.names,yn,[]⟩ env:=⟨Y.nd,λx q=>by exact ah (l ..)<|q,λx q=>by exact ah (l ..)<|q,λx q=>by exact ah (l ..)<|q,hF,λx p q=>hS.glob x p q⟩;refine⟨?_,codeAny_func ?_⟩
 ·refine I7 hS.lim λoL es m B hLd hLs hLf=>?_;exact⟨lf es,⟨oL,es,m,fL.sub _ _ (fL.stat _ _ B),hLd,hLs,λ_=>rfl⟩,hLf⟩
 have P:kA n (A.deeper env) (env::M):=⟨I.hd,by have:=I.dp;show A.depth+1+n<_;exact cQ<|bk [A.depth,n,nA] [] [(1,xi<|.a aK<|xi bg,cu),(1,xi cu,xi<|.a (xi aK) bg)] rfl<|cl this,by have:=I.un;show A.units+3+10*n+20<_;exact cQ<|bk [A.units,n,yy] [] [(1,xi<|.a (.a aK<|.m 10<|xi bg)<|.n 20,cu),(1,xi cu,xi<|.a (.a (.a aK<|.n 3)<|.m 10 bg)<|.n 20)] rfl<|cl this,tA I.fr,xn I.gd⟩
 have V:aa (fE (aa scope.names) g)=aa scope.names:=by have:=congrArg aa hargs;simp only[aC,aJ] at this;simp only[fE,aJ,aC,tz];exact cg (cQ<|bk [aa scope.names-aa g,aa g,aa scope.names] [] [(1,.a aK bg,cu),(1,xi cu,.a bg aK)] rfl<|cl<|ao<|bQ<|cQ<|bk [aa g,aa params.args,aa F,aa scope.names] [] [(1,aK,bg),(1,.a bg cu,io),(1,xi io,aK)] rfl (cl<|ao J)<|cl<|ao<|af this)<|cQ<|bk [aa scope.names,aa scope.names-aa g,aa g] [] [(1,aK,.a bg cu),(1,xi<|.a cu bg,aK)] rfl<|cl<|ao<|af<|bQ<|cQ<|bk [aa g,aa params.args,aa F,aa scope.names] [] [(1,aK,bg),(1,.a bg cu,io),(1,xi io,aK)] rfl (cl<|ao J)<|cl<|ao<|af this
 refine a0 (hbody env u k T P hfw dL fL U eX V ⟨o,fd,_,G,hd,Z⟩) (λf C h=>?_) λe C h=>h.elim;rcases f<;>exact h
theorem jZ (Y:FnAt X a params body scope e) (b:uD X)
 {K:aO} (I:kA (n+1) A M) (N:Inv X K O H M s.heap) (i:bV K O g B) (J:aa g=aa params.args)
 (p:∀(o:uO) (fd:wY) (Q:List (an×Value)->bj->Prop),X a=ac o->o.data=.func fd->fd.params=params->((fd.defaults=.none/\e=[])\/∃d z n j,fd.defaults=.ref d/\X d=ac z/\z.data=.seq (ag j) n/\bV X [] e j)->
  Q ((params.args.map (·.arg)).zip B) s->∀E,aD (MM w) A.in1 (rn fd ⟨W,[]⟩) Q E s)
 (q:∀Z u k,dk X ⟨scope.names,yn,[]⟩ Z->kA n (A.deeper Z) (Z::M)->(∀a∈aY Z,s.heap.get? a=am)->Step [] K O s.heap k O u.heap->Inv X k O H (Z::M) u.heap->
  aT Z (scope.names.map (·.1)) (fE (aa scope.names) g) k O u.heap->aW s u->aa (fE (aa scope.names) g)=aa scope.names->
  aD (MM w) (A.deeper Z) (kr body Z) (λf C=>Q (match f with|.ret v=>v|_=>.none) C) (λ_ _=>False) u):
 aD (MM w) A (call (.ref a) W []) Q E s:=
 oW (wF Y b I N i J p λZ u k T P m c h U l V _=>q Z u k T P m c h U l V)
end
section
open PySem PySem.W PySem.Calls PyProof.Rows PySem.SeqAt Builtin Builtin.ObjectAttr
def k0 (P:cG):Frag:=[(39,H.W2 P),(71,H.W0 P),(38,H.W3 P),(70,H.W1 P),(36,H.ac2 P),(68,H.ac0 P),(2,H.ac3 P)]
theorem zu (x:∀a o,cD P a=ac o->h.get? a=ac o):(k0 P).In h:=by
 intro a o e;refine x a o ?_;unfold k0 at e;simp only[bt,Ay] at e
 repeat' split at e
 all_goals first
  |(cases e;rename_i q;rw[beq_iff_eq] at q;subst q;kernel_rfl)
  |(exact aE e)
theorem QK (P):readsIn (k0 P) 39 (.type "type")=true:=rfl
theorem MO (P):findCls (k0 P) (.ref 39) (.type "type") "__init__"=ac (.val<|.ref 36):=rfl
theorem UQ (P):specialIn (k0 P) (.ref 39) "__getattribute__"=ac (ac<|.builtin "type.__getattribute__"):=rfl
theorem ML (P):oZ (k0 P) (.ref 71) "__init__"=ac (ac<|.ref 68):=rfl
theorem QL (P):findCls (k0 P) (.type "Exception") (.type "type") "__init__"=ac (.val<|.builtin "Exception.__init__"):=rfl
theorem adw (P):oZ (k0 P) (.ref 71) "__setattr__"=ac (ac<|.builtin "object.__setattr__"):=rfl
theorem IG (P):oZ (k0 P) (.ref 71) "message"=ac none:=rfl
theorem UN (P):oZ (k0 P) (.ref 71) "spot"=ac none:=rfl
theorem FR (P):oZ (k0 P) (.ref 71) "value"=ac none:=rfl
theorem ZC (P):mroIn (k0 P) 71 (.type "Exception")=ac true:=rfl
theorem ZB (P):mroIn (k0 P) 71 (.type "object")=ac true:=rfl
theorem UO (P):mroIn (k0 P) 71 (.ref 71)=ac true:=rfl
theorem ady (P):typeIn (k0 P) (.ref 68)=ac (.type "function"):=rfl
theorem tJ (Z:s.heap.Ns1 a m)
 (h:∀f,f.Ns1 a (λx=>if x=name then ac v else m x)->fQ a s.heap f->vO a s.heap f->Q () {s with heap:=f,toks:=s.toks+1}):
 aD M A (nsSet a name v) Q E s:=λd p _=>Bw Z.ns<|Sem.wp_nsSet1 M d (λe _ F=>E e F) p s Z name v (λu _ F=>vO a s.heap F.heap->Q u F) h
def Li (h:eK) (d:bn):Prop:=∃o,h.get? d=ac o/\o.cls=.type "dict"
inductive TS (e:bn) (m:an->Option Value) (ns:List an):Option bn->eK->Prop
 |no {h:eK} (t:Value) (sl:Array (Option Value)) (he:h.get? e=ac ⟨.ref 71,am,.fields #[t,.none,.none,.none,.bool ai,.none],sl⟩) (hm:m=λ_=>am):TS e m ns am h
 |yes {h:eK} (d:bn) (t:Value) (sl:Array (Option Value)) (ne:d≠e) (he:h.get? e=ac ⟨.ref 71,ac d,.fields #[t,.none,.none,.none,.bool ai,.none],sl⟩) (hd:h.Ns1 d m) (hw:Within m ns) (hc:Li h d):TS e m ns (ac d) h
theorem TS.get (x:TS e m j D h):∃t p,h.get? e=ac ⟨.ref 71,D,.fields #[t,.none,.none,.none,.bool ai,.none],p⟩:=by
 induction x with
 |no t p J=>exact⟨t,p,J⟩
 |yes d t p L J _ _ _=>exact⟨t,p,J⟩
theorem tpe (J:h.get? e=ac o) (P:o.cls=.ref 71):wW M h (sU<|.ref e) (.ref 71):=by obtain⟨c,d,I,p⟩:=o;replace P:c=.ref 71:=P;subst P;exact(Looks.ld J).andThen .now
section
variable {os:gU}
theorem PX (P):∃cd,clsIn (k0 P) 71=ac cd/\cd.mro=[.ref 71,.ref 39,.type "Exception",.type "BaseException",.type "object"]/\cd.hasDict=true:=⟨_,rfl,rfl,rfl⟩
theorem TH (X:(k0 w.params).In h) (x:TS e m j D h) (ha:oZ (k0 w.params) (.ref 71) name=ac am) (hl:aa j<=900)
 (L:∀f u N,TS e (λy=>if y=name then ac v else m y) (name::j) (ac N) f->(∀b o,b≠e->b≠N->h.get? b=ac o->f.get? b=ac o)->(D=ac N\/(D=am/\h.get? N=am))->Q (.done<|.ret .none) ⟨f,g,d,u,os⟩):
 aD (MM w) A (mi.«object.__setattr__» ⟨[.ref e,.str name tk,v],[]⟩) Q E ⟨h,g,d,t,os⟩:=by
 refine gN (PX w.params) λcd P aif hdc=>?_;have z:wW (MM w) h (mroOf<|.ref 71) cd.mro:=(Et X P).andThen .now;have L2:=nC (M:=MM w) X ha;refine lm x.get λt0 p J=>?_;have T:=tpe (M:=MM w) J rfl
 (refine kW (osa_eq ..)<|(refuse_eq ..)▸?_)
 refine ak<|ak<|T.here<|ak<|z.here ?_
 (refine aif▸kW (ajC ..)<|kW (ajC ..)<|kW (Cd.passes<|.ref e) ?_)
 refine av<|ak<|T.here<|ak<|L2.here<|ak<|av ?_
 have l:=X 71 _ rfl;refine pe<|ak<|f6 (λ_ _ h=>JE J h) ?_
 cases x with
 |no t0' s H I=>
  refine ak<|(Et X P).here ?_
  (refine(af hdc)▸?_;refine kW (if_neg<|by decide) ?_)
  subst I;have k:(h.push {cls:=.type "dict",data:=.dict #[]}).get? e=ac ⟨.ref 71,am,.fields #[t0,.none,.none,.none,.bool ai,.none],p⟩:=aR _ J;have Y:e≠h.objs.size:=eU<|dS J
  refine ak<|wpAny_alloc' ?_
  refine ak<|wpAny_update' k ?_
  refine av ?_
  have G:((h.push {cls:=.type "dict",data:=.dict #[]}).update e λo=>{cls:=o.cls,dict:=ac h.objs.size,data:=o.data,slots:=o.slots}).get? h.objs.size
   =ac {cls:=.type "dict",data:=.dict #[]}:=
   ah (gQ _ _ _ _ Y.symm) (SV rfl rfl)
  have r:((h.push {cls:=.type "dict",data:=.dict #[]}).update e λo=>{cls:=o.cls,dict:=ac h.objs.size,data:=o.data,slots:=o.slots}).Ns h.objs.size (λ_=>am):=
   ⟨_,#[],_,G,rfl,λe J=>absurd J (by simp),λ_=>rfl⟩
  have heu:((h.push {cls:=.type "dict",data:=.dict #[]}).update e λo=>{cls:=o.cls,dict:=ac h.objs.size,data:=o.data,slots:=o.slots}).get? e
   =ac ⟨.ref 71,ac h.objs.size,.fields #[t0,.none,.none,.none,.bool ai,.none],p⟩:=ek _ k rfl
  show aD _ _ (Ep h.objs.size (.str name tk) name v) _ _ _;unfold Ep newKeyGuard;refine pe<|ak<|tJ (Heap.Ns1.of_empty r) λf n hs c=>?_
  refine wB (n.count<|xZ name v abx) λoD esD epD V U S=>?_;refine ak<|D4 V (by refine(af U)▸?_;exact D8<|aN S<|by(refine(af bN)▸?_;refine(af d8)▸?_;refine(af bh)▸?_);exact ch _ _) ?_
  refine av<|L f _ _ (.yes _ t0 p Y.symm (ah (hs.2 e Y) heu) n (λy hy=>by have q:=xZ name v abx y hy;simp only[aV] at q;simp[q]) (by refine cN c λo o' e1 i W=>?_;rw[G] at e1;obtain rfl:=al e1;exact⟨o',i,W⟩)) (λb o hbe O B=>?_) (.inr ⟨rfl,bX h⟩)
  exact ah (hs.2 b O)<|ah (gQ _ _ _ _ hbe)<|aR _ B
 |yes dx t0' s hne H hd Z a=>
  refine ak<|(Et X P).here ?_
  (refine(af hdc)▸?_;refine kW (if_neg<|by decide) ?_)
  refine av ?_;show aD _ _ (Ep dx (.str name tk) name v) _ _ _;unfold Ep newKeyGuard;refine pe<|ak<|tJ hd λf n hs c=>?_
  refine wB (n.count<|xZ name v Z) λoD esD epD V U S=>?_;refine ak<|D4 V (by refine(af U)▸?_;exact D8<|aN S<|by(refine(af bN)▸?_;refine(af bh)▸?_);exact bY (by assumption)<|by decide) ?_
  refine av<|L f _ _ (.yes _ t0 p hne (ah (hs.2 e hne.symm) J) n (xZ name v Z) (by refine cN c ?_;clear c;intro o o' e1 i W;refine aI a λo₀ R C=>?_;rw[R] at e1;obtain rfl:=al e1;exact⟨o',i,ah W C⟩)) (λb o _ O B=>ah (hs.2 b O) B) (.inl rfl)
theorem ab3 (X:(k0 w.params).In h) (x:TS e m j D h) (I:oZ (k0 w.params) (.ref 71) name=ac am) (C:aa j<=900)
 (Z:∀f u N,TS e (λy=>if y=name then ac v else m y) (name::j) (ac N) f->(∀b o,b≠e->b≠N->h.get? b=ac o->f.get? b=ac o)->(D=ac N\/(D=am/\h.get? N=am))->Q () ⟨f,g,d,u,os⟩):
 aD (MM w) A (setAttr (.ref e) name v) Q E ⟨h,g,d,t,os⟩:=by
 have SF:=Cd;refine lm x.get λt0 p J=>?_;have T:=tpe (M:=MM w) J rfl;have sub:wW (MM w) h (JL (.ref e)<|.type "object") true:=T.andThen<|Es X<|ZB _
 have L:=nC (M:=MM w) X<|adw w.params
 refine ak<|SI<|ak<|ak<|f6 (λ_ _ h=>T.here h)<|L.here<|a9<|ak ?_
 refine kW (SF.slot.bind ..)<|av<|ak<|oW ?_
 refine wR SF.slot.plain SF.entry<|@check_slot (MM w) _ _ _ "object.__setattr__" "object" "__setattr__" (.ref e) [.str name t,v] [] _ SF.kind SF.split sub (SF.args (.ref e) (.str name t) v) ?_
 exact TH X x I C λf u N a b c=>av<|av<|Z f u N a b c
end
section
variable {os:gU}
noncomputable abbrev Nk:List Value:=[.ref 39,.type "Exception",.type "BaseException",.type "object"]
theorem Bv (X:(k0 P).In h):h.get? 71=ac (Eu "Thrown" "Thrown" 71 70 [.ref 39] Nk aq [] [] ai am am (ac<|.ref 55) am (ac<|.str (fw "Thrown") 243) (ac<|.str (fw "Thrown") 251) (ac<|.bool aq) "Exception.__new__"):=
 X 71 _ rfl
theorem ac6 (X:(k0 w.params).In h) (S:aa Z<=jb)
 (L:R (.ok<|.ret<|.ref<|h.objs.size+1) ⟨(h.push {cls:=.type "tuple",data:=.seq (ag Z)}).push
  {cls:=.ref 71,data:=.fields #[.ref h.objs.size,.none,.none,.none,.bool ai,.none]},g,d,t,os⟩):
 nJ (MM w) A (.builtin "Exception.__new__" ⟨.ref 71::Z,[]⟩) R ⟨h,g,d,t,os⟩:=by
 have F:=pf;have l:=Bv X;have e:=F.ends;have y:(ge 71::Nk).contains (.type "Exception")=true:=by decide+kernel
 have a:(ge 71::Nk).contains (.type "AttributeError")=false:=by decide+kernel
 have b:(ge 71::Nk).contains (.type "NameError")=false:=by decide+kernel
 refine codeAny_builtinAt F.entry ?_;unfold mi.«BaseException.__new__»;refine Tc ?_;show PySem.wpAt _ _ _ (stack>>=_) _ _ _;refine Tc<|PySem.wpAt_stack λp c=>Lk ?_
 wp_walk
 refine Lk<|F.owner▸?_
 repeat (first|with_reducible refine wpAny_madeHere_exc F.canon l ?_|with_reducible refine ja l ?_|(with_reducible refine XW l ?_;first|refine y▸?_|rw[a]|rw[b])|wp_step)
 show R _ _;refine(jk ..)▸?_;exact L
end
section
variable {os:gU}
noncomputable abbrev ut (A:iN) (v:Value):Around:=A.under<|.builtin "type.__call__" ⟨[.ref 71,v],[]⟩
theorem Ho (X:(k0 w.params).In h)
 (L:∀f e (m:bn),(∀b o,h.get? b=ac o->f.get? b=ac o)->h.get? e=am->f.get? e=ac ⟨.ref 71,am,.fields #[.ref m,.none,.none,.none,.bool ai,.none],#[]⟩->
  aD (MM w) A (call (.ref 68) [.ref e,v]) (λr Z=>r=.none/\Q (.done<|.ret<|.ref e) Z) E ⟨f,g,d,t,os⟩):
 aD (MM w) A (mi.«type.__call__» ⟨[.ref 71,v],[]⟩) Q E ⟨h,g,d,t,os⟩:=by
 have F:=pf;have l:=Bv X
 repeat (first|with_reducible refine ja l ?_|with_reducible refine wpAny_madeBy_exc l ?_|wp_step)
 refine codeAny_call_builtin_code (OJ _ F.quiet)<|wpAny_check_new_subU F (by decide+kernel) .base l<|ac6 X (by show 1<=jb;rw[bh];exact ch _ _) ?_
 show aD _ _ _ _ _ _;have k:∀b o,h.get? b=ac o->((h.push {cls:=.type "tuple",data:=.seq [v].toArray}).push {cls:=.ref 71,data:=.fields #[.ref h.objs.size,.none,.none,.none,.bool ai,.none]}).get? b=ac o:=λb o e=>aR _ (aR _ e);have C:=X.keeps k
 have a:((h.push {cls:=.type "tuple",data:=.seq [v].toArray}).push {cls:=.ref 71,data:=.fields #[.ref h.objs.size,.none,.none,.none,.bool ai,.none]}).get? (h.objs.size+1)=ac
  {cls:=.ref 71,data:=.fields #[.ref h.objs.size,.none,.none,.none,.bool ai,.none]}:=by heap_get
 have T:=tpe (M:=MM w) a rfl;have t1:=Es (M:=MM w) C<|UO _
 have c:=nC (M:=MM w) C<|ML w.params
 have I:=bind_fn (M:=MM w) C (.ref<|h.objs.size+1)<|ady w.params
 unfold JL;refine ak<|ak<|T.here<|t1.here ?_
 simp only[vQ,bP,if_false];unfold callSpecial? afY;refine ak<|a9<|ak<|f6 (λ_ _ h=>T.here h)<|c.here<|a9<|ak<|I.here ?_
 refine ak<|a0 (L _ (h.objs.size+1) h.objs.size k (iS<|ej _) a) (λr Z Y=>?_) λ_ _ x=>x
 refine bD Y λS V=>?_;subst S;exact av<|av V
theorem aaq (X:(k0 w.params).In h)
 (L:∀f e (m:bn),(∀b o,h.get? b=ac o->f.get? b=ac o)->h.get? e=am->f.get? e=ac ⟨.ref 71,am,.fields #[.ref m,.none,.none,.none,.bool ai,.none],#[]⟩->
  aD (MM w) (ut A v) (call (.ref 68) [.ref e,v]) (λr F=>r=.none/\Q (.ref e) F) E ⟨f,g,d,t,os⟩):
 aD (MM w) A (call (.ref 71) [v]) Q E ⟨h,g,d,t,os⟩:=by
 have l:=Bv X;have n:=tc_lookup;have J:=tc_bind<|.ref 71
 have u:(⟨h,g,d,t,os⟩:bj).TypeIs (.ref 71) "type":=⟨_,l,rfl⟩;refine oW<|codeAny_of_tree ?_
 show aD _ _ (callAny (.ref 71) _) _ _ _
 repeat (any_goals (first|assumption|with_reducible refine ja l ?_|wp_step))
 refine⟨rfl,?_⟩;refine codeAny_call_builtin_at (OJ _ (by decide+kernel)) entry_typeCall<|wpAny_check_type_call_sub l<|Ho X λf e m a b c=>?_
 exact L f e m a b c
end
section
variable {os:gU}
theorem Vm (X:(k0 w.params).In h) (J:h.get? e=ac ⟨.ref 71,am,.fields #[.ref t0,.none,.none,.none,.bool ai,.none],p⟩)
 (L:∀f t1,f.get? e=ac ⟨.ref 71,am,.fields #[t1,.none,.none,.none,.bool ai,.none],p⟩->(∀b o,b≠e->h.get? b=ac o->f.get? b=ac o)->Q .none ⟨f,g,d,t,os⟩):
 aD (MM w) A (call (.builtin "Exception.__init__") [.ref e,v]) Q E ⟨h,g,d,t,os⟩:=by
 have F:=pf;have T:=tpe (M:=MM w) J rfl;have sub:wW (MM w) h (JL (.ref e)<|.type "Exception") true:=T.andThen<|Es X<|ZC _
 refine oW<|wR F.init.plain F.initEntry ?_
 have a:=F.noStar;simp only[checkBuiltinCall,F.initKind,F.initSplit,F.initRow];refine f6 (λ_ _ h=>sub.here h) ?_;simp only[vQ,bP,if_false];have l:=Bv X
 repeat (first|(with_reducible refine ja J ?_)|with_reducible refine ja l ?_|wp_step)
 wp_walk
 have Z:=(eU<|dS J).symm;refine L _ _ (ek _ (aR _ J) rfl) λb o B i=>?_;refine ah (fP _ _ (js B)) ?_;exact aR _ i
end
def jL (X:aO) (x:an) (v:Value):Prop:=∃o u n,X 3=ac o/\o.data=.dict u n/\uI u/\
 (lf u x=ac v\/(lf u x=am/\∃B r w,X 0=ac B/\B.data=.dict r w/\uI r/\lf r x=ac v))
theorem oK (h:Oo (vh P) x=ac v):jL (cD P) x v:=by exact iI (n4<|ti P) λo n J R=>⟨o,_,n,J,R,jQ<|qn P,.inl<|by exact ah (qQ ..)<|h⟩
theorem zE (h:Oo (vh P) x=am) (R:Oo (Sg P) x=ac v):jL (cD P) x v:=by exact iI (n4<|ti P) λo n J y=>iI (n4<|Se P) λB w X Q=>⟨o,_,n,J,y,jQ<|qn P,.inr ⟨by exact ah (qQ ..)<|h,B,_,w,X,Q,jQ<|GL P,by exact ah (qQ ..)<|R⟩⟩
theorem ad3 (P):jL (cD P) "Exception" (.type "Exception"):=zE rfl rfl
theorem ZX (P):jL (cD P) "RowsError" (.ref 39):=oK rfl
theorem Ga (P):jL (cD P) "Thrown" (.ref 71):=oK rfl
section
variable {K:aO}
theorem ir (k:vN Z) (g:(x==("__debug__":an))=ai) (W:Z.kindOf x=ac .globalImplicit) (N:Inv X K O H M s.heap) (S:jL X x v) (V:Q v s):aD (MM w) A (eval (.Name x G) Z) Q E s:=by
 refine I7 S λo u m y b f R=>?_
 have J:eval (.Name x G) Z=(f7 G>>=λ_=>rm Z x):=by(refine ah (yz ..)<|g▸?_);rfl
 have a:s.heap.Ns Z.globals (lf u):=by exact k.glob▸⟨o,u,m,N.sub _ _ (N.stat _ _ y),b,f,λ_=>rfl⟩
 refine kW J<|ak<|cf ?_
 unfold rm;simp only[Env.blockKind,k.kind,W,ScopeKind.isAnnotationScope,X5,bP,if_false];rcases R with Y|⟨Y,B,r,D,U,d,l,e⟩
 ·exact Ey a Y V
 ·exact El a Y (by exact k.bi▸⟨B,r,D,N.sub _ _ (N.stat _ _ U),d,l,λ_=>rfl⟩) e V
theorem gM {i:Nat} (k:vN Z) (g:(x==("__debug__":an))=ai) (P:(x==("__classdict__":an))=ai) (T:U[i]?=ac x) (W:Y[i]?=ac (ac p)) (fr:aT Z U Y K O s.heap)
 (V:∀v,VR K O p v->Q v s):aD (MM w) A (eval (.Name x G) Z) Q E s:=by
 have J:eval (.Name x G) Z=(f7 G>>=λ_=>rm Z x):=by(refine ah (yz ..)<|g▸?_);rfl
 refine kW J<|ak<|cf ?_
 obtain⟨m,F,_,_,_,t⟩:=fr;rcases t i x p T W with ⟨a,v,b,c⟩|⟨a|a,c,v,b,d,e⟩
 ·exact wN k.kind a F b<|V v c
 ·exact xY k.kind a b d<|V v e
 ·exact XV k.kind a b d (V v e) P
end
noncomputable abbrev eW (e:bn) (D:Option bn):List Addr:=e::D.toList
structure GV (KF K:aO) (μ:List bn) (H:Hp) (fs:List mh) (env:mh) (names:List an) (σ:bO) (e:bn) (m:an->Option Value) (ns:List an) (D:Option bn) (h:eK):Prop where
 iv:Inv KF K μ H fs h
 fr:aT env names σ K μ h
 ts:TS e m ns D h
 ke:K e=am
 me:e∉μ
 kd:∀d,D=ac d->K d=am/\d∉μ
 ne:∀a∈aY env,a≠e/\∀d,D=ac d->a≠d
theorem TS.dict (x:TS e m j (ac d) h):h.Ns1 d m/\Li h d/\d≠e:=by
 cases x with
 |yes _ t p L J g Z P=>exact⟨g,P,L⟩
def We (D a:Option bn) (h:eK):Prop:=a=D\/(D=am/\∃d,a=ac d/\h.get? d=am)
section
variable {KF K:aO}
theorem jf (fr:aT Z U V K O h) (I:a∈aY Z):∃o,h.get? a=ac o:=(lP fr I).imp λ_ q=>q.1
theorem HG (c:TS e D i a h') (G:∀b o,b≠e->(∀d,a=ac d->b≠d)->h.get? b=ac o->h'.get? b=ac o):Step (eW e a) K O h K O h':=
 ⟨rfl,λ_ _ e=>e,λ_ _ e=>.inl e,⟨[],by simp,by simp⟩,λb o B=>by
     by_cases q:b=e
     ·subst q;exact lm c.get λt p J=>⟨_,J⟩
     ·by_cases E:a=ac b
      ·subst E;refine bD c.dict λS _=>sF S λZ _ _ R _=>?_;exact⟨Z,R⟩
      ·exact⟨o,G b o q (λd g=>by rintro rfl;exact E g) B⟩,
  λb o B _ F=>⟨o.slots,G b o (λq=>F<|by simp[q]) (λd g=>by rintro rfl;exact F<|by simp[g]) B,.inl rfl⟩,λ_ q=>.inl q⟩
theorem adC (N:Inv KF K μ H M h) (G:TS e m j D h) (l:K e=am) (me:e∉μ) (Y:∀d,D=ac d->K d=am/\d∉μ) (u:We D a h)
 (V:∀b o,b≠e->(∀d,a=ac d->b≠d)->h.get? b=ac o->W.get? b=ac o):Inv KF K μ H M W/\∀d,a=ac d->K d=am/\d∉μ:=by
 have k:∀d,a=ac d->K d=am/\d∉μ:=λd g=>by
  rcases u with q|⟨_,X,q,f⟩
  ·exact Y d<|q▸g
  ·rw[q] at g;obtain rfl:=al g;exact⟨N.cO f,N.dY f⟩
 refine⟨N.kO (S:=eW e a) (λb hb=>?_) (λb o hb i=>⟨o.slots,V b o (λq=>hb<|by simp[q]) (λd g=>by rintro rfl;exact hb<|by simp[g]) i,.inl rfl⟩),k⟩;simp only[eW,aM,N7] at hb;rcases hb with rfl|hb
 ·refine⟨l,me,λo L fo=>?_⟩;refine lm G.get λt p J=>?_;rw[J] at L;obtain rfl:=al L;cases fo.1
 ·refine⟨(k b hb).1,(k b hb).2,λo L fo=>?_⟩;rcases u with q|⟨_,X,q,f⟩
  ·rw[q] at hb;subst hb;refine i8 G.dict λ_ Z _=>aI Z λB R c=>?_;rw[R] at L;obtain rfl:=al L;rw[fo.1] at c;exact absurd c<|by decide
  ·rw[q] at hb;obtain rfl:=al hb;rw[f] at L;exact aE L
theorem GV.H9 (M:GV KF K O H Y Z U V e m j D h) (c:TS e X i D' h') (u:We D D' h)
 (G:∀b o,b≠e->(∀d,D'=ac d->b≠d)->h.get? b=ac o->h'.get? b=ac o):GV KF K O H Y Z U V e X i D' h':=by
 have C:∀a∈aY Z,a≠e/\∀d,D'=ac d->a≠d:=λa I=>⟨(M.ne a I).1,λd g=>by
  rcases u with q|⟨_,N,q,f⟩
  ·exact(M.ne a I).2 d (q▸g)
  ·rw[q] at g;obtain rfl:=al g;rintro rfl;refine be (jf M.fr I) λo L=>?_
   rw[f] at L;cases L⟩
 have l:∀a∈aY Z,a∉eW e D':=λa I q=>by
  simp only[eW,aM,N7] at q;rcases q with q|q
  ·exact(C a I).1 q
  ·exact(C a I).2 a q rfl
 exact bD (adC M.iv M.ts M.ke M.me M.kd u G) λP k=>⟨P,J3 (λa m q=>l a q m) _ _ _ _ _ _ M.fr (HG c G),c,M.ke,M.me,k,C⟩
end
section
variable {K:aO}
 {A:iN} {E:Value->bj->Prop} {s:bj}
theorem Pw (x:D=ac N\/(D=am/\h.get? N=am)):We D (ac N) h:=by
 rcases x with x|⟨x,y⟩
 ·exact .inl x.symm
 ·exact .inr ⟨x,N,rfl,y⟩
theorem y0 {i:Nat} (M:GV (cD w.params) K O H S Z U V e m j D s.heap) (k:vN Z)
 (h:U[0]?=ac ("self":an)) (l:V[0]?=ac (ac<|.ref e)) (T:U[i]?=ac x) (W:V[i]?=ac (ac p)) (B:(x==("__debug__":an))=ai) (P:(x==("__classdict__":an))=ai)
 (I:oZ (k0 w.params) (.ref 71) name=ac am) (C:aa j<=900)
 (z:∀F N v,VR K O p v->GV (cD w.params) K O H S Z U V e (λy=>if y=name then ac v else m y) (name::j) (ac N) F.heap->Step (eW e<|ac N) K O s.heap K O F.heap->We D (ac N) s.heap->aW s F->Q .next F):
 aD (MM w) A (exec (.Assign [.Attribute (.Name "self" p1) name p2] (.Name x p3) p4) Z) Q E s:=by
 refine n7<|gM k B P T W M.fr λv n=>gM k (by decide) (by decide) h l M.fr λo L=>?_
 replace L:_=_:=L;subst L;obtain⟨r,g,d,t,os⟩:=s;have X:=zu λa o q=>M.iv.sub _ _ (M.iv.stat _ _ q);refine ab3 X M.ts I C λf u N a b c=>?_;have G:=Pw c;have Y:∀b o,b≠e->(∀d,ac N=ac d->b≠d)->r.get? b=ac o->f.get? b=ac o:=λb o J R=>‹∀(b:bn) (o:uO),b≠e->b≠N->r.get? b=ac o->f.get? b=ac o› b o J (R N rfl);exact z _ N v n (M.H9 a G Y) (HG a Y) G ⟨rfl,rfl⟩
theorem f36 (P):FnAt (cD P) 36 (tC 2 0).1 (tC 2 0).2.1 (tC 2 0).2.2 [.none]:=
 Vc rfl rfl rfl (.inr ⟨29,_,_,_,rfl,rfl,rfl,b8 rh eA⟩)
theorem f68 (P):FnAt (cD P) 68 (tC 4 0).1 (tC 4 0).2.1 (tC 4 0).2.2 []:=
 Vc rfl rfl rfl (.inl ⟨rfl,rfl⟩)
end
theorem yR (h:aD M A t1 (λB q=>aD M A t2 (λz F=>Q [B,z] F) E q) E s):aD M A (gG [(ai,t1),(ai,t2)]) Q E s:=by
 rw[gG];refine ak<|a0 h (λB q J=>?_) λ_ _ x=>x
 simp only[bP,if_false];refine pe<|ak<|a9 ?_
 rw[gG];refine ak<|a0 J (λz F R=>?_) λ_ _ x=>x
 simp only[bP,if_false];refine pe<|ak<|a9 ?_
 rw[gG];exact av<|av<|av R
theorem yS (h:aD M A t1 (λB q=>Q [B] q) E s):aD M A (gG [(ai,t1)]) Q E s:=by
 rw[gG];refine ak<|a0 h (λB q J=>?_) λ_ _ x=>x
 simp only[bP,if_false];refine pe<|ak<|a9 ?_
 rw[gG];exact av<|av J
theorem tP
 (h:aD (MM w) A (gG<|(t1::G).map λt=>(ai,t)) (λU s1=>((∃id,f=.builtin id)\/(∃a o fd,f=.ref a/\s1.heap.get? a=ac o/\o.data=.func fd)\/wW (MM w) s1.heap (nE f) .machine)/\aD (MM w) A (call f (first++U) []) Q E s1) E s):
 aD (MM w) A (iL X f first ((t1::G).map λt=>(ai,t)) []) Q E s:=by
 unfold iL;refine ak<|a9<|JZ<|a0 h (λU s1 c=>bD c λY y=>?_) λ_ _ x=>x
 refine f6 (λ_ _ h=>cf h) ?_;have e:((((t1::G).map λt=>(ai,t)).any (·.1))||(([]:List (Option an×jN Value)).any (·.1.isNone)))=false:=by simp
 have tail:∀{t:jN Value},aD (MM w) A t Q E s1->aD (MM w) A (t>>=λr=>dK [r] point>>=λ_=>jh r) Q E s1:=
  λZ=>ak<|a0 Z (λr C d=>ak<|a9<|mW<|av d) λ_ _ x=>x
 refine(af e)▸?_;rcases Y with ⟨id,rfl⟩|⟨b,o,fd,rfl,B,g⟩|hk
 ·refine ak (av ?_);exact tail y
 ·refine ak ?_;unfold nE;refine f6 (λ_ _ h=>uE B h)<|g▸?_
  refine av ?_;dsimp only;split
  ·exact tail y
  ·exact tail<|by unfold aaX;exact yd y
 ·exact ak<|hk.here<|tail y
theorem iA
 (h:aD (MM w) A (gG<|(t1::Z).map λt=>(ai,t)) (λU q=>((∃id,f=.builtin id)\/(∃a o fd,f=.ref a/\q.heap.get? a=ac o/\o.data=.func fd)\/wW (MM w) q.heap (nE f) .machine)/\aD (MM w) A (call f U []) Q E q) E s):
 aD (MM w) A (iL G f [] ((t1::Z).map λt=>(ai,t)) []) Q E s:=
 tP h
theorem BJ (T:Z.scope.kind=.function) (u:(k.endLine==pos.line)=aq)
 (g:isStarred W=ai) (e:isStarred V=ai)
 (h:aD (MM w) A (eval (.Name C l) Z) (λv q=>v=c/\∀D,aD (MM w) A (xC c "__init__" D) (λr F=>r=(f,[])/\aD (MM w) A (eval W Z) (λB i=>aD (MM w) A (eval V Z) (λz b=>
  ((∃id,f=.builtin id)\/(∃a o fd,f=.ref a/\b.heap.get? a=ac o/\o.data=.func fd)\/wW (MM w) b.heap (nE f) .machine)/\aD (MM w) A (call f [B,z] []) (λ_ j=>Q .next j) E b) E i) E F) E q) E s):
 aD (MM w) A (exec (.Expr (.Call (.Attribute (.Name C l) "__init__" k) [W,V] [] pos) p) Z) Q E s:=by
 refine kW (Ak _ _ _ (nr T) (yk rfl))<|f6 (λ_ _ h=>cf h) ?_
 (refine(N4 ..)▸?_;rewrite[rf rfl];refine(dD pos Z [W,V]<|by simp[g,e])▸?_)
 refine ak<|ak<|a0 h (λv q m=>bD m λP J=>?_) λ_ _ x=>x
 subst P;refine ak<|cf ?_
 have Y:∀(n:Nat) (G:List (jN Value)),n=2->aa G=2->nB n (G.map λt=>(ai,t)) ([]:List (Option an×jN Value))=true:=λn G J R=>by unfold nB;simp[J,R]
 have S:o8 aq (.Name C l) Z k pos=pure pos:=by unfold o8;simp[u]
 show aD (MM w) A (uF (.Name C l) "__init__" k pos Z v 2 ([eval W Z,eval V Z].map λt=>(ai,t)) []) _ _ _;unfold uF
 (refine(Y 2 [eval W Z,eval V Z] rfl rfl)▸S▸?_)
 refine ak<|a9<|a0 (J _) (λr F H=>bD H λd R=>?_) λ_ _ x=>x
 subst d;refine pe<|iA<|yR<|a0 R (λB i y=>a0 y (λz b X=>?_) λ_ _ x=>x) λ_ _ x=>x
 exact⟨X.1,a0 X.2 (λv j U=>GW U) λ_ _ x=>x⟩
theorem Rh (X:(k0 w.params).In s.heap) (h:Q (.ref 36,[]) {s with toks:=s.toks+1}):aD (MM w) A (xC (.ref 39) "__init__" D) Q E s:=
 method_cls X (UQ _) (cls_value X (QK _) (MO _) rfl h)
theorem YN:sU (.type "Exception")=pure (.type "type"):=rfl
theorem Zc:opaqueClassAbove (.type "Exception")=pure none:=rfl
theorem QJ (P):oZ (k0 P) (.type "type") "__getattribute__"=ac (ac<|.builtin "type.__getattribute__"):=rfl
theorem UP:hookBefore (.type "type")=pure none:=rfl
theorem adv (P):subIn (k0 P) (.type "type") (.type "type")=ac true:=rfl
theorem U7 (X:(k0 w.params).In s.heap) (h:Q (.builtin "Exception.__init__",[]) {s with toks:=s.toks+1}):aD (MM w) A (xC (.type "Exception") "__init__" D) Q E s:=by
 have T:wW (MM w) s.heap (sU<|.type "Exception") (.type "type"):=np YN;have L:=nC (M:=MM w) X<|QJ w.params
 unfold xC afY;refine ak<|f6 (λ_ _ h=>T.here h)<|L.here ?_
 dsimp only;refine kW (if_pos canon_tga)<|ak<|cls_open X (np Zc) T (QJ _) (np UP) (adv _) (QL _)<|av ?_
 show aD _ _ (handedOut _) _ _ _;exact kW (handedOut_of rfl)<|av<|av h
theorem Jn (W:j1 fd.params) (I:fd.params.args=[a,b,c])
 (e:(b.arg==a.arg)=ai) (h:(c.arg==a.arg)=ai) (f:(c.arg==b.arg)=ai) (g:j9 s.heap fd.defaults [d])
 (V:Q [(a.arg,v),(b.arg,u),(c.arg,d)] s):aD M A (rn fd ⟨[v,u],[]⟩) Q E s:=by
 have z:fd.params.args.map (·.arg)=[a.arg,b.arg,c.arg]:=by refine I▸?_;rfl
 have D:∀r,g9 a.arg ((a.arg,v)::r)=ac v:=λr=>by(refine ah bt ?_;rw[beq_self_eq_true])
 have P:∀r,g9 b.arg ((a.arg,v)::(b.arg,u)::r)=ac u:=λr=>by(refine ah bt<|e▸ah bt ?_;rw[beq_self_eq_true])
 have t:∀r,g9 c.arg ((a.arg,v)::(b.arg,u)::r)=g9 c.arg r:=λr=>by(refine ah bt<|h▸ah bt ?_;rw[f])
 refine rd (r:=[(a.arg,v),(b.arg,u),(c.arg,d)]) W g ?_ ?_ ?_ ?_ V<;>refine z▸?_
 ·exact ej 2
 ·show(aga _ [a.arg,b.arg]).isEmpty=aq;rw[gH (by rw[show g9 a.arg (XZ [a.arg,b.arg,c.arg] [v,u])=ac v from D _];exact bq),gH<|by rw[show g9 b.arg (XZ [a.arg,b.arg,c.arg] [v,u])=ac u from P _];exact bq];rfl
 ·show forIn [(c.arg,d)] [(a.arg,v),(b.arg,u)] yW=_;rw[cC,show yW (c.arg,d) [(a.arg,v),(b.arg,u)]=pure (.yield<|[(a.arg,v),(b.arg,u)]++[(c.arg,d)]) from if_pos<|by rw[t];rfl];rfl
 ·rw[eZ,D,eZ,P,eZ,t,bt,beq_self_eq_true];rfl
theorem aav:(tC 2 0).2.1=[.Expr (.Call (.Attribute (.Name "Exception" ⟨8,8,8,17⟩) "__init__" ⟨8,8,8,26⟩) [.Name "self" ⟨8,27,8,31⟩,.Name "message" ⟨8,33,8,40⟩] [] ⟨8,8,8,41⟩) ⟨8,8,8,41⟩,
 .Assign [.Attribute (.Name "self" ⟨9,8,9,12⟩) "message" ⟨9,8,9,20⟩] (.Name "message" ⟨9,23,9,30⟩) ⟨9,8,9,30⟩,
 .Assign [.Attribute (.Name "self" ⟨10,8,10,12⟩) "spot" ⟨10,8,10,17⟩] (.Name "spot" ⟨10,20,10,24⟩) ⟨10,8,10,24⟩]:=rfl
section
variable {K:aO}
theorem RE (st:Step W K O h j qa Y) (J:h.get? e=ac ⟨.ref 71,am,.fields #[.ref x,.none,.none,.none,.bool ai,.none],p⟩) (l:K e=am) (me:e∉O) (Z:e∉W):
 Y.get? e=ac ⟨.ref 71,am,.fields #[.ref x,.none,.none,.none,.bool ai,.none],p⟩/\j e=am/\e∉qa:=
 ⟨st.same J me Z (λf=>by cases f.1),st.lH l J,st.lG me J⟩
theorem ZF (I:kA (n+1) A M) (iv:Inv (cD w.params) K O H M s.heap) (he:s.heap.get? e=ac ⟨.ref 71,am,.fields #[.ref ta,.none,.none,.none,.bool ai,.none],sl⟩)
 (ke:K e=am) (me:e∉O) (z:VR K O pm vm)
 (L:∀F j d' D ns',aa ns'<=10->Step (eW e<|ac d') K O s.heap j O F.heap->Inv (cD w.params) j O H M F.heap->TS e D ns' (ac d') F.heap->j e=am->j d'=am->d'∉O->s.heap.get? d'=am->aW s F->Q .none F):
 aD (MM w) A (call (.ref 36) [.ref e,vm] []) Q E s:=by
 refine jZ (f36 _) (jR _) I iv (g:=[.ref e,pm,.none]) (b8 rfl<|b8 z<|b8 rh eA) rfl (λo fd Q' G g W hdf hQ E'=>?_) λZ u k T P hfw c fL U l hfl=>?_
 ·have Y:j9 s.heap fd.defaults [.none]:=by
   rcases hdf with ⟨_,q⟩|⟨d,od,m,Go,J,R,y,h4⟩
   ·cases q
   ·refine cN h4 λv r S h5 V=>?_;subst S;subst V;replace h5:_=_:=h5;subst h5;exact .inr ⟨d,od,m,J,iv.sub _ _ (iv.stat _ _ R),y⟩
  refine Jn (by refine W▸?_;exact(f36 w.params).par) (by rw[W];rfl) (by decide) (by decide) (by decide) Y ?_;exact hQ
 refine i8 (RE c he ke me<|by simp) λXn QH KB=>?_;have C:=zu λa o q=>fL.sub _ _ (fL.stat _ _ q);have ajs:GV (cD w.params) k O H (Z::M) Z _ _ e (λ_=>am) [] am u.heap:=⟨fL,U,.no _ sl Xn rfl,QH,KB,(λd g=>nomatch g),λa h=>⟨λq=>absurd (q▸hfw _ h) (by exact(af he)▸λh=>aE h.symm),(λd g=>nomatch g)⟩⟩;refine aav▸?_;refine ak<|BJ T.fe.kind rfl rfl rfl<|ir T.fe (by decide) (T.gi _ rfl) fL (ad3 _) ⟨rfl,λpl=>U7 C ⟨rfl,?_⟩⟩
 refine gM (i:=0) (p:=.ref e) T.fe (by decide) (by decide) rfl rfl U λB X=>gM (i:=1) (p:=pm) T.fe (by decide) (by decide) rfl rfl U λv2 hv2=>⟨.inl ⟨_,rfl⟩,?_⟩;replace X:_=_:=X;subst X;refine Vm C Xn λh' t1 he' G=>?_;have kb:∀b o,b≠e->(∀d,(am:Option bn)=ac d->b≠d)->u.heap.get? b=ac o->h'.get? b=ac o:=λb o J _=>G b o J;have T2:TS e (λ_=>am) [] am h':=.no _ sl he' rfl;have aaK:=ajs.H9 T2 (.inl rfl) kb;have S2:=HG (K:=k) (O:=O) T2 kb;refine ak<|y0 (i:=1) (p:=pm) aaK T.fe rfl rfl rfl rfl (by decide) (by decide) (IG _) (by simp) λx d1 v3 _ Wd S3 G3 ip=>?_
 refine ak<|y0 (i:=2) (p:=.none) Wd T.fe rfl rfl rfl rfl (by decide) (by decide) (UN _) (by simp) λt d2 v4 _ Sw S4 G4 N=>?_
 refine av ?_
 have aiw:d2=d1:=by
  rcases G4 with q|⟨q,_⟩
  ·obtain rfl:=al q;rfl
  ·cases q
 subst aiw
 have hfr:h'.get? d2=none:=by
  rcases G3 with q|⟨_,d,q,f⟩
  ·cases q
  ·obtain rfl:=al q;exact f
 have Sa:Step (eW e<|ac d2) K O s.heap k O h':=(c.mono<|by simp).trans<|S2.mono<|by simp
 refine L t k d2 _ _ ?_ (Sa.trans<|S3.trans S4) Sw.iv.pop Sw.ts Sw.ke (Sw.kd _ rfl).1 (Sw.kd _ rfl).2 (Sa.none hfr) ((l.trans ⟨rfl,rfl⟩).trans<|ip.trans N);simp
end
theorem aau:(tC 4 0).2.1=[.Expr (.Call (.Attribute (.Name "RowsError" ⟨16,8,16,17⟩) "__init__" ⟨16,8,16,26⟩) [.Name "self" ⟨16,27,16,31⟩,.Constant (.str "a value is thrown") 0 ⟨16,33,16,52⟩] [] ⟨16,8,16,53⟩) ⟨16,8,16,53⟩,
 .Assign [.Attribute (.Name "self" ⟨17,8,17,12⟩) "value" ⟨17,8,17,18⟩] (.Name "value" ⟨17,21,17,26⟩) ⟨17,8,17,26⟩]:=rfl
theorem qr (h:Q (.str x s.toks) {s with toks:=s.toks+1}):aD M A (eval (.Constant (.str x) k G) Z) Q E s:=
 λ_ _ _=>h
section
variable {K:aO}
theorem ZE (I:kA (n+2) A M) (iv:Inv (cD w.params) K O H M s.heap) (J:s.heap.get? e=ac ⟨.ref 71,am,.fields #[.ref ta,.none,.none,.none,.bool ai,.none],sl⟩)
 (ke:K e=am) (me:e∉O) (t:VR K O p v)
 (hq:∀F j N (D:an->Option Value) ns' G,Step (eW e<|ac N) K O s.heap j O F.heap->Inv (cD w.params) j O H M F.heap->TS e (λy=>if y=("value":an) then ac G else D y) ns' (ac N) F.heap->VR j O p G->j e=am->j N=am->N∉O->s.heap.get? N=am->aW s F->Q .none F):
 aD (MM w) A (call (.ref 68) [.ref e,v] []) Q E s:=by
 refine jZ (f68 _) (jR _) I iv (g:=[.ref e,p]) (b8 rfl<|b8 t eA) rfl (λo fd Q' hk hd W hdf V f=>?_) λZ u K₁ T hA hfw c fL U l hfl=>?_
 ·have Y:j9 s.heap fd.defaults []:=by
   rcases hdf with ⟨q,_⟩|⟨d,z,m,Go,h1,R,h3,h4⟩
   ·exact .inl ⟨q,rfl⟩
   ·have:=h4.length
    induction Go with
    |nil=>exact .inr ⟨d,z,m,h1,iv.sub _ _ (iv.stat _ _ R),h3⟩
    |cons a b=>simp at this
  refine iK (by refine W▸?_;exact(f68 w.params).par) Y (by refine W▸?_;rfl) (by refine W▸?_;decide+kernel) ?_;refine W▸?_;exact V
 refine i8 (RE c J ke me<|by simp) λk QH KB=>?_;have C:=zu λa o q=>fL.sub _ _ (fL.stat _ _ q);have hne:∀a∈aY Z,a≠e:=λa h q=>absurd (q▸hfw _ h)<|by exact J▸λh=>aE h.symm
 refine aau▸?_;refine ak<|BJ T.fe.kind rfl rfl rfl<|ir T.fe (by decide) (T.gi _ rfl) fL (ZX _) ⟨rfl,λpl=>Rh C ⟨rfl,?_⟩⟩
 refine gM (i:=0) T.fe (by decide) (by decide) rfl rfl U λv1 X=>qr ⟨.inr<|.inl ⟨36,_,_,rfl,C 36 _ rfl,rfl⟩,?_⟩;replace X:_=_:=X;subst X;refine ZF hA fL k QH KB qv λs₂ g d2 m2 ns2 hl2 S2 je T2 ke2 kd2 P B so2=>?_
 have no:∀a∈aY Z,a∉eW e (ac d2):=λa h q=>by
  simp only[eW,Lm,aM,aZ,or_false] at q;rcases q with q|q
  ·exact hne a h q
  ·refine be (jf U h) λo L=>?_;subst q;rw[show u.heap.get? a=am from B] at L;exact aE L
 have S:=J3 (λa m q=>no a q m) _ _ _ _ _ _ U S2;have aaK:GV (cD w.params) g O H (Z::M) Z _ _ e m2 ns2 (ac d2) s₂.heap:=⟨je,S,T2,ke2,KB,λd hd=>by obtain rfl:=al hd;exact⟨kd2,P⟩,λa h=>⟨hne a h,λd hd q=>no a h (by obtain rfl:=al hd;simp[q])⟩⟩;refine ak<|y0 (i:=1) (p:=p) aaK T.fe rfl rfl rfl rfl (by decide) (by decide) (FR _) (by exact aN (by assumption)<|by decide) λx r v3 hv3 Wd S3 G3 ip=>?_
 refine av ?_
 have hd:r=d2:=by
  rcases G3 with q|⟨q,_⟩
  ·obtain rfl:=al q;rfl
  ·cases q
 subst hd;exact hq x g r _ _ v3 ((c.mono<|by simp).trans<|S2.trans S3) Wd.iv.pop Wd.ts hv3 ke2 kd2 P (c.none B) ((l.trans so2).trans ip)
end
theorem tcw (v):(xK "type.__call__" ⟨[.ref 71,v],[]⟩).weight=1:=rfl
theorem aaF (I:kA (n+1) A fs):kA n (ut A v) fs:=by
 obtain⟨J,R,y,X,Q⟩:=I;refine⟨J,?_,?_,X,zA Q rfl⟩
 ·show A.depth+(xK "type.__call__" ⟨[.ref 71,v],[]⟩).weight+n<_;exact(tcw ..)▸cQ (bk [A.depth,n,nA] [] [(1,xi<|.a aK<|xi bg,cu),(1,xi cu,xi<|.a (xi aK) bg)] rfl<|cl R)
 ·show A.units+1+10*n+20<_;exact cQ<|bk [A.units,n,yy] [] [(1,xi<|.a (.a aK<|.m 10<|xi bg)<|.n 20,cu),(1,xi cu,xi<|.a (.a (xi aK)<|.m 10 bg)<|.n 20)] rfl<|cl y
section
variable {K:aO}
theorem ER (I:kA (n+3) A M) (iv:Inv (cD w.params) K O H M s.heap) (hv:VR K O p v) (hg:∀a,s.heap.get? a=am->g.get? a=am)
 (hq:∀e F j,Step [] K O s.heap j O F.heap->Inv (cD w.params) j O H M F.heap->DX g p (.ref e) j O F.heap->aW s F->Q (.ref e) F):
 aD (MM w) A (call (.ref 71) [v] []) Q E s:=by
 obtain⟨r,W,d,t,os⟩:=s;have X:=zu λa o q=>iv.sub _ _ (iv.stat _ _ q);refine aaq X λh' e x k U J=>?_;have l:=iv.cO U;have me:=iv.dY U;have kp:de r h':=λb o q=>⟨o.slots,k b o q,.inl rfl⟩;refine ZE (aaF I) (iv.keep kp) J l me hv λF j N D i G S2 c T2 R C m P B T=>⟨rfl,?_⟩;refine lm T2.get λt0 sl he2=>?_;refine i8 T2.dict λS V hne=>aeA S λod u ep L hd Z _ Y=>?_;refine aI V λod' y z=>?_;rw[L] at y;obtain rfl:=al y;have nf:¬b5 od:=λf=>by rw[f.1] at z;exact absurd z<|by decide
 have h:r.get? N=none:=by
  cases q:r.get? N with
  |none=>rfl
  |some o=>exact absurd (k _ _ q)<|by exact(show h'.get? N=am from B)▸nofun
 have S1:Step [] K O r K O h':=kp.step
 have S3:=S1.hide S2 λa q=>.inr (by
  simp only[eW,Lm,aM,aZ,or_false] at q;rcases q with rfl|rfl
  ·exact U
  ·exact h)
 have kle:∀a o,j a=ac o->gk j N od a=ac o:=λa o q=>by
  rw[db]
  ·exact q
  ·rintro rfl;rw[m] at q;exact aE q
 refine hq e F (gk j N od) (S3.gk h m) (c.freeze L m P nf) ?_ ⟨T.1,T.2⟩;refine .mk e _ N od u ep G t0 rfl (hg _ U) he2 rfl rfl rfl ?_ me (fv _ _ _) hd Z ?_ ?_
 ·exact ah (db<|js hne)<|C
 ·refine ah (Y ..) ?_;simp
 ·have:=Om (K:=j) (K':=gk j N od) (Q:=[]) rfl kle p G R;simpa using this
end
noncomputable def ab4 (s:rL):Option Expr:=if h:s.ctorIdx=3 then ajI s h λe _=>e else am
def XK (l:List rL):Expr:=(((one l).bind ab4).bind λe=>(BR e).bind λc=>one c.2.1).getD<|.Constant .none 0 default
def I4 (m:IM PV):IM PV:=λH=>match m H with
 |.ok p H'=>if cZ (H'.take<|aa H)&&jd p then .ok p (H'.take<|aa H) else .stuck
 |.exc _ _=>.stuck
 |.stuck=>.stuck
theorem Vs (e:m H=.ok p H') (h:(cZ (H'.take<|aa H)&&jd p)=aq):I4 m H=.ok p (H'.take<|aa H):=by unfold I4;exact e▸if_pos h
theorem RC (h:I4 m H≠.stuck):∃p H',m H=.ok p H'/\(cZ (H'.take<|aa H)&&jd p)=true:=by
 unfold I4 at h
 cases e:m H with
 |ok p H'=>
  rw[e] at h;by_cases q:(cZ (H'.take<|aa H)&&jd p)=aq
  ·exact⟨p,H',rfl,q⟩
  ·exact absurd (if_neg q) h
 |exc p H'=>rw[e] at h;exact absurd rfl h
 |stuck=>rw[e] at h;exact absurd rfl h
def LL (B:on) (k:Nat) (z:List PV):IM PV:=
 if aa z=(bH k).1.args.length then I4 (bp B (bR (aan k []) ai<|XK (bH k).2.1)<|fE (bH k).2.2.names.length z) else aQ
theorem QI (X:(k0 w.params).In h):wW (MM w) h (nE<|.ref 71) .machine:=λA Q E s k V=>by obtain⟨r,g,d,t,os⟩:=s;exact wpAny_keeperOf_exc (Bv<|X.keeps k) V
theorem Bg (hf:FnAt (cD w.params) a (bH k).1 (bH k).2.1 (bH k).2.2 []) (hb:(bH k).2.1=[.Return (ac<|.Call (.Name "Thrown" xp) [inner] [] cp) rp])
 (hgi:(bH k).2.2.names.lookup ("Thrown":an)=ac .globalImplicit) (hst:isStarred inner=ai) (j:bK w (cD w.params) (n+3) B inner) (g) (args) (vs):
 aj w (cD w.params) [] (n+4) (λK O h=>tU g K O h/\bV K O args vs) (LL B k args) (DX g) (call (.ref a) vs []):=by
 intro A s K O H M I N Yz L;refine bD Yz λgr F=>?_;unfold LL at L|-
 by_cases hl:aa args=(bH k).1.args.length
 case neg=>rw[if_neg hl] at L;exact absurd rfl L
 rw[if_pos hl] at L|-
 have ea:XK (bH k).2.1=inner:=by refine hb▸?_;rfl
 rw[ea] at L|-
 refine iI (RC L) λp H' eM hon=>?_;have eE:=Vs eM hon;have z:=(ia hon).1;have hnp:=(ia hon).2;have hvl:=F.length;refine jZ hf (jR _) I N F hl (λo fd Q' G hd W hdf V E'=>?_) λZ u K₁ T hA hfw c fL U l hfl=>?_
 ·have Y:∃D,j9 s.heap fd.defaults D:=by
   rcases hdf with ⟨q,_⟩|⟨d,od,m,Go,J,R,h3,X⟩
   ·exact⟨[],.inl ⟨q,rfl⟩⟩
   ·exact⟨Go,.inr ⟨d,od,m,J,N.sub _ _ (N.stat _ _ R),h3⟩⟩
  refine be Y λD Y=>?_;refine iK (by refine W▸?_;exact hf.par) Y (by refine W▸?_;simp[hvl,hl]) (by exact W▸hf.nodup) ?_;exact W▸V
 refine hb▸?_;show aD _ _ (exec _ Z>>=_) _ _ _;refine(af0 ..)▸?_;refine ak<|ak<|cf<|ak ?_
 refine kW (dN ..) ?_;show aD (MM w) _ (eval (.Name "Thrown" xp) Z>>=λf=>iL cp f [] (D9 cp<|rl [inner] Z) []) _ _ _;refine(dD cp Z [inner]<|by simp[hst])▸?_;refine f6 (λ_ _ h=>ir T.fe (by decide) (T.gi _ hgi) fL (Ga _) h) ?_;have hin:=j (aan k []) Z (fE (bH k).2.2.names.length args) ai T (A.deeper Z) u K₁ O H (Z::M) hA fL U<|by exact eM▸xd
 refine iA<|yS<|a0 hin (λv C z2=>zd.casesOn z2 λp' P K₂ E i lz y hv jH=>⟨.inr<|.inr<|QI<|zu λa o q=>y.sub _ _ (y.stat _ _ q),?_⟩) λx C Ym=>yq.casesOn Ym λp' P K₂ E i _ _ _ _=>by rw[eM] at i;cases i
 rw[eM] at i;cases i;refine ER (g:=g) hA y hv (λb q=>?_) λe s₃ kz EV jx hT ip=>?_
 ·cases r:g.get? b with
  |none=>rfl
  |some o=>refine be (gr b o r) λo1 q1=>be (c.there b o1 q1) λo2 q2=>be (lz.there b o2 q2) λo3 q3=>?_;rw[q] at q3;exact aE q3
 ·refine av (av ?_);refine eE▸?_;have hml:=N.kM.len;refine aI lz.pre λQ S hν=>?_;subst S;have lO:=jx.pop.mz<|by exact hml▸z
  rw[hml] at lO;refine⟨p,_,kz,O,rfl,(c.trans<|lz.trans EV).mz,lO,?_,l.trans<|jH.trans ip⟩;obtain⟨a',oe,d,od,es,m,x,t,q1,q2,q3,q4,q5,q6,q7,q8,q9,q10,q11,q12,q13⟩:=hT;exact .mk a' oe d od es m x t q1 q2 q3 q4 q5 q6 q7 (λq=>q8<|kk _ q) q9 q10 q11 q12<|am4 p x hnp q13
def f5:on:=λ_ _=>aQ
def sb:on:=iq f5 f5 Ni
def dF:on:=λa z=>if a=119 then LL sb 14 z else if a=126 then LL sb 15 z else aQ
theorem XD (P):XT (cD P) uU:=⟨_,_,70,[.ref 39],Nk,aq,[],[],ai,am,am,_,_,_,_,_,_,(by kernel_rfl:cD P 71=ac (Eu "Thrown" "Thrown" 71 70 [.ref 39] Nk aq [] [] ai am am (ac<|.ref 55) am (ac<|.str (fw "Thrown") 243) (ac<|.str (fw "Thrown") 251) (ac<|.bool aq) "Exception.__new__")),by decide+kernel⟩
theorem qd:j2 w (cD w.params) n f5:=⟨λ_=>.inr λ_=>rfl,λ_ _ _=>bf⟩
theorem wb:tR w (cD w.params) n f5:=⟨XD _,λ_=>.inr λ_=>rfl,λ_ _ _ _=>bf⟩
theorem Kt (s:∀k B,j2 w (cD w.params) k B->sS w (cD w.params) k B):j2 w (cD w.params) 3 sb:=
 Fv rfl (jR _) qd wb s Ni (Vk _)
theorem aen (P):FnAt (cD P) 119 (bH 14).1 (bH 14).2.1 (bH 14).2.2 []:=my rfl
theorem aem (P):FnAt (cD P) 126 (bH 15).1 (bH 15).2.1 (bH 15).2.2 []:=my rfl
theorem abX (s:∀k B,j2 w (cD w.params) k B->sS w (cD w.params) k B):tR w (cD w.params) 4 dF:=by
 have L:=Kt s;have N:∀e,bK w (cD w.params) 3 sb e:=λe=>(jU rfl L (s _ _ L) e).1.1;refine⟨XD _,λa=>?_,λg a D U=>?_⟩
 ·by_cases J:a=119
  ·subst J;exact cN ((aen w.params).ex) λo fd c E _=>.inl ⟨o,fd,c,E⟩
  ·by_cases R:a=126
   ·subst R;exact cN ((aem w.params).ex) λo fd c E _=>.inl ⟨o,fd,c,E⟩
   ·exact .inr λz=>by unfold dF;(refine ah (if_neg J) ?_;rw[if_neg R])
 ·unfold dF;by_cases J:a=119
  ·subst J;refine(if_pos rfl)▸?_;exact Bg (aen _) rfl rfl rfl (N _) g D U
  ·refine(if_neg J)▸?_;by_cases R:a=126
   ·subst R;refine(if_pos rfl)▸?_;exact Bg (aem _) rfl rfl rfl (N _) g D U
   ·exact(if_neg R)▸bf
def k1 (P:cG):Frag:=[(369,H.Qi P),(368,H.Qj P)]
theorem FQ (x:∀a o,cD P a=ac o->h.get? a=ac o):(k1 P).In h:=by
 intro a o e;refine x a o ?_;unfold k1 at e;simp only[bt,Ay] at e
 repeat' split at e
 all_goals first
  |(cases e;rename_i q;rw[beq_iff_eq] at q;subst q;kernel_rfl)
  |(exact aE e)
theorem adu (P):oZ (k1 P) (.ref 369) "__getattribute__"=ac (ac<|.builtin "object.__getattribute__"):=rfl
theorem UL (P):oZ (k1 P) (.ref 369) "heap"=ac none:=rfl
theorem UM (P):hasDictIn (k1 P) 369=true:=rfl
theorem KC (g:o.data=.dict u n) (f:lf u x=ac v):lookIn x o=ac (ac v):=by
 unfold lookIn;refine g▸?_;simp only[lf,wQ,ba] at f;refine aI f λa J R=>?_;rw[<-Array.find?_toList] at J;simp only[]
 (refine(show(λ(z:cF)=>z.key.isStr x)=(λz=>Value.isStr z.key x) from rfl)▸J▸?_)
 simp[R]
theorem U1 (Y Z V o G) (T:dk (cD w.params) Y Z) (F:Dh o=aq) (S:bK w (cD w.params) n B o):
 aj w (cD w.params) [] n (aT Z Y.ns V) (ax (bp B (bR Y ai o) V) Q7) fi (eval (.Attribute o "heap" G) Z):=by
 rcases o<;>try (cases F)
 rename_i x W;refine(aaZ ..)▸?_;show aj w (cD w.params) [] n _ _ _ (eval (.Name x W) Z>>=λov=>f7 G.atName>>=λ_=>dK [ov] (abw ov "heap" aq)>>=λr=>JK (.Name x W) ov r>>=λ_=>pure r);refine cw (S Y Z V ai T) dw λp v=>bA ?_;cases p
 case uo=>
  refine bE λA s K O Q E _ _ _ b c sub h=>?_;obtain⟨a,ob,d,z,u,m,rfl,C,P,i,e,R,g,J,f⟩:=(c.2);have X:=FQ λa o q=>sub _ _ (b _ _ q);have I:InstAt s.heap a ob 369 (ac z):=⟨sub _ _ C,P,by unfold notCls;rw[e],by exact i▸sub _ _ R⟩;have U:findObj (k1 w.params) 369 (ac z) "heap"=ac (.value<|.ref a):=findObj_own (UM _) (UL _) rfl<|KC g f
  refine ak<|a9<|get_value X I (adu _) U rfl ?_
  exact pe<|av<|h _ _ _ (.refl _) c.2
 all_goals exact bf
theorem yg:Wr "bytes" "__hash__" "bytes.__hash__":=
 .of (owner:="bytes") (n:="__hash__") (by(refine ah (l9 ..)<|(af iQ)▸?_);kernel_rfl) (by decide+kernel) (by decide+kernel) (by decide+kernel)
  (by first|exact .inl (by decide+kernel)|exact .inr<|by decide+kernel) (by refine ah (nG ..) ?_;kernel_rfl)
theorem RB:A3 table "bytes.__hash__"=ac mi.«bytes.__hash__»:=ln rfl
theorem V7 (a):lW "bytes.__hash__" ⟨[a],[]⟩:=by unfold lW;kernel_rfl
theorem YZ (b) (t:GY):mi.«bytes.__hash__» ⟨[.bytes b t],[]⟩=(strHash ⟨b.map (·.toNat)⟩>>=λi=>retInt i):=rfl
noncomputable def Y6 (i:Int):Int:=if(-(2^63:Int)<=i&&i<2^63)=aq then(if(i==-1)=aq then -2 else i) else
 (if((if i<0 then -((i.natAbs:Int)%(2^61-1)) else(i.natAbs:Int)%(2^61-1))==-1)=aq then -2 else(if i<0 then -((i.natAbs:Int)%(2^61-1)) else(i.natAbs:Int)%(2^61-1)))
theorem Lw {i:Int} (h:Q (Y6 i) s):aD (Ox Z w) A (vT i) Q E s:=by
 unfold vT;unfold Y6 at h;split
 ·rename_i q;rw[if_pos q] at h;exact av h
 ·rename_i q;rw[if_neg q] at h;exact ak<|mH<|av h
noncomputable def Xo (w:dG) (b:List UInt8):Int:=Y6 (hashStr w ⟨b.toArray.map (·.toNat)⟩)
theorem CP (h:Q (Xo w b) {s with toks:=s.toks+1}):aD (Ox Z w) A (pyHash<|.bytes (ag b) t) Q E s:=by
 have u:s.TypeIs (.bytes b.toArray t) "bytes":=rfl;unfold pyHash;show aD _ _ (agU _) _ _ _;unfold agU;have Y:[JO b.toArray t].any Value.onHeap=false:=rfl;refine ak ?_
 (rewrite[cRoomFor];refine kW (if_neg<|by rw[Y];exact bq) ?_);refine av ?_
 refine ak<|uM u yg.lookup ?_
 rw[if_neg<|by decide+kernel];refine ak<|uM u yg.lookup ?_
 show aD _ _ (callSpecialIfBoundUnlessNone? (.bytes (ag b) t) "__hash__" _>>=_) Q E s;refine ak<|wpAny_callSpecialIfBoundUnlessNone?_slot u yg<|D6 yg u RB ?_ (V7 _)
 rw[YZ];unfold strHash;refine ak<|f6 (λ_ _ h=>afT h)<|av<|wpAny_ret_mkInt ?_
 exact Lw h
noncomputable def Value.BH (x:List UInt8) (v:Value):Bool:=by
 cases v
 case bytes y _=>exact y.toList==x
 all_goals exact ai
theorem il (h:Value.BH x v=aq):∃t,v=.bytes (ag x) t:=by
 rcases v<;>first|exact absurd h bq|skip
 rename_i a t;exact⟨t,by rw[<-eq_of_beq h]⟩
noncomputable def bytesKind (Z:Program) (w:dG):KeyKind Z w (List UInt8) where
 is:=Value.BH
 hash:=Xo w
 inj:=λv a b I B=>by
  refine be (il I) λt S=>?_;subst S;refine be (il B) λu h=>?_;injection h with h
  exact congrArg o6 h
 byValue:=λk v h=>by refine be (il h) λt S=>?_;subst S;rfl
 pyHash:=λY h=>by refine be (il Y) λt S=>?_;subst S;exact CP h
 eqBool:=λ{A E s a b u v Q} T Y h=>by
  refine be (il T) λt S=>?_;subst S;refine be (il Y) λu S=>?_;subst S;refine zM (ag a) t (ag b) u _ _ _ _ ?_;have:(a.toArray.toList==b.toArray.toList)=decide (a=b):=by simp[Bool.beq_eq_decide_eq]
  rw[this];exact h
 «strs»:=λk x t v h=>absurd h bq
def CV (p:PV) (v:Value):Prop:=∀K O,VR K O p v
inductive XU:List PV->List Value->Prop
 |nil:XU [] []
 |cons {p:PV} {v:Value} {l:List PV} {r:List Value}:CV p v->XU l r->XU (p::l) (v::r)
theorem XU.length {l:List PV} {r:List Value} (h:XU l r):aa l=aa r:=by
 induction h with
 |nil=>rfl
 |cons _ _ o=>exact congrArg aa0 o
section
variable {w:dG} {A:iN} {E:Value->bj->Prop} {s:bj} {env:mh}
theorem Gu {c:Const} {p:PV} {k:Nat} {G:oq} {Q:Value->bj->Prop} (h:wD c=ac p) (V:∀v tk,CV p v->Q v {s with toks:=tk}):aD (MM w) A (eval (.Constant c k G) env) Q E s:=by
 show aD _ _ (constValue env c) _ _ _
 induction c with
 |none=>rw[<-al h] at V;exact av<|V _ s.toks λ_ _=>rh
 |bool b=>rw[<-al h] at V;exact av<|V _ s.toks λ_ _=>tx
 |int i=>rw[<-al h] at V;exact Eo<|V _ _ λ_ _=>fC
 |str x=>rw[<-al h] at V;exactλd q a=>V (.str x s.toks) (s.toks+1) λ_ _=>qv
 |bytes b=>rw[<-al h] at V;exactλd q a=>V (.bytes _ s.toks) (s.toks+1) λ_ _=>j0
 |_=>exact aE h
theorem vH {o:bL} {p:PV} (h:oN o=ac p):∃c k G,o=.Constant c k G/\wD c=ac p:=by exact aI (bind_some h) λx T h=>⟨x.1,x.2.1,x.2.2,BQ T,h⟩
theorem vI {o:Option bL} {p:PV} (h:oO o=ac p):∃c k G,o=ac (.Constant c k G)/\wD c=ac p:=by refine aI (bind_some h) λe S U=>?_;subst S;refine sF (vH U) λc k G S J=>?_;subst S;exact⟨c,k,G,rfl,J⟩
theorem iF {Z u:Type} {f:Z->Option u} {a:Z} {l:List Z} {r:List u} (h:(a::l).mapM f=ac r):∃b bs,r=b::bs/\f a=ac b/\l.mapM f=ac bs:=by
 rw[Cg] at h
 cases I:f a with
 |none=>rw[I] at h;exact aE h
 |some b=>
  rw[I] at h
  cases B:l.mapM f with
  |none=>rw[B] at h;exact aE h
  |some bs=>rw[B] at h;obtain rfl:=al h;exact⟨b,bs,rfl,rfl,rfl⟩
theorem lM {Z u:Type} {f:Z->Option u} {r:List u} (h:([]:List Z).mapM f=ac r):r=[]:=by rw[List.mapM_nil] at h;obtain rfl:=al h;rfl
theorem vg {Z u:Type} {f:Z->Option u}:∀{l:List Z} {r:List u},l.mapM f=ac r->aa l=aa r
 |[],r,h=>by refine(lM h)▸?_;rfl
 |a::l,r,h=>by refine cN (iF h) λb I S _ R=>?_;subst S;simp[vg R]
variable {K':Type} [DecidableEq K'] {knd:KeyKind bS w K'} {f:PV->Option K'}
theorem PZ (Y:∀p k v,f p=ac k->CV p v->knd.is k v=aq) {G:oq} (j:List (Option bL)):∀(U:List bL) (r H:List PV) (t:List K') (s:bj) (Q:List (Value×Value)->bj->Prop),
 j.mapM oO=ac r->U.mapM oN=ac H->r.mapM f=ac t->aa j=aa U->(∀l lv tk,Carries knd l (t.zip lv)->XU H lv->Q l {s with toks:=tk})->aD (MM w) A (evalPairs<|pairTrees j U env G) Q E s:=by
 induction j with
 |nil=>intro U r H t s Q J R y C V;obtain rfl:=cy.mp C.symm;have m:=lM J;subst m;have i:=lM R;subst i;have W:=lM y;subst W;exact evalPairs_nil<|V [] [] s.toks trivial .nil
 |cons k j o=>
  intro U r H t s Q J R y C V;cases U with|nil=>cases C|cons v U=>?_
  refine cN (iF J) λb I S B u=>?_;subst S;refine cN (iF R) λc D S P Z=>?_;subst S;refine cN (iF y) λd n S g a=>?_;subst S;refine sF (vI B) λc1 k1 M S B=>?_;subst S;refine sF (vH P) λc2 N L S P=>?_;subst S;refine ajF<|Gu B λO t1 X=>?_
  refine ak<|Gu P λz t2 T=>ak<|cf<|av ?_
  exact o U I D n _ _ u Z a (nR C) λl lv tk e x=>V ((O,z)::l) (z::lv) tk ⟨Y _ _ _ g X,rfl,e⟩<|.cons T x
end
section
variable [DecidableEq K']
theorem Ir (more):∀(S:List (K'×Value)),(more.map (·.1)).Nodup->(∀k∈more.map (·.1),k∉S.map (·.1))->aaT S more=S++more:=by
 induction more with
 |nil=>exactλS _ _=>af<|fq S
 |cons y r o=>
  intro S F g;have F:=ls.mp F;have U:=mf.mpr λx T q=>g y.1 bd<|b3.mpr ⟨x,T,of_decide_eq_true q⟩
  have e:aaT S (y::r)=aaT (S++[(y.1,y.2)]) r:=by show aaT (stored S y.1 y.2) r=_;unfold stored;rw[U];rfl
  rw[e,o (S++[(y.1,y.2)]) F.2 λH f q=>?_,fc]
  ·rfl
  ·rw[b4] at q;refine(eG.mp q).elim (g H<|bc _ f) λq=>F.1<|(aV.mp q)▸f
theorem YL {K:aO} (g:VR K O d P) (k:K') (h:XU H lv):∀(t:List K'),VR K O (((t.zip H).lookup k).getD d) ((valueAt (t.zip lv) k).getD P):=by
 induction h with
 |nil=>intro t;rcases t<;>exact g
 |cons J R o=>
  intro t;cases t with|nil=>exact g|cons a t=>?_
  rw[pI,pI,bt];unfold valueAt;rw[Wv];by_cases q:a=k
  ·rw[q,beq_self_eq_true,decide_eq_true rfl];exact J K O
  ·rw[beq_false_of_ne<|js q,decide_eq_false q];exact o t
end
def Sx (a:bn) (o:uO):xz:=λ_ O h=>h.get? a=ac o/\a∉O
theorem Sx.stable (Y:¬b5 o):fI [] (Sx a o):=λ_ _ _ _ _ _ c st=>⟨st.same c.1 c.2 (by simp) Y,st.lG c.2 c.1⟩
section
variable [DecidableEq K'] {knd:KeyKind bS w K'}
theorem M5 (T:dk X Y Z) (gx:bK w X n B x) (gd:bK w X n B i)
 (hd:(d==oY)=ai) (z:∀h:eK,h.get? d=ac o->h.MapOf knd d (valueAt<|t.zip lv)) (hf:¬b5 o) (hcv:XU vp lv)
 (Rb:∀p q:PV,nN r vp p q=aQ\/∃k,nN r vp p q=ay (KY t vp k q)/\∀K O v,VR K O p v->knd.is k v=aq):
 aj w X [] n (λK O h=>aT Z Y.ns V K O h/\Sx d o K O h) (ax (bp B (bR Y ai x) V) λp=>ax (bp B (bR Y ai i) V) λq=>nN r vp p q) fi
  (iL pos (.builtin "dict.get") [.ref d] [(ai,eval x Z),(ai,eval i Z)] []):=by
 intro A s K O H M I N c L;have b:=(dw (Z:=Z) (U:=Y.ns) (V:=V)).and<|Sx.stable (a:=d) hf
 have m:=f0 (bp B (bR Y ai x) V) (λp=>ax (bp B (bR Y ai i) V) λq=>nN r vp p q) H;have h1:bp B (bR Y ai x) V H≠.stuck:=λq=>L<|by(refine ah m ?_;rw[q])
 have s1:=(gx Y Z V ai T).weak (λ_ _ _ c=>c.1) |>.keep b
 refine wpAny_dict_get2 (knd:=knd) hd<|a0 (s1 A s K O H M I N c h1) (λv u YC=>zd.casesOn YC λp H₁ K₁ J Q dL fL zq1 l=>bD zq1 λj hv=>?_) λe u YB=>yq.casesOn YB λp H₁ K₁ J Q dL fL hex l=>⟨p,H₁,K₁,J,by(refine ah m ?_;rw[Q]),dL,fL,hex,l⟩
 rw[Q] at m;have e1':(ax (bp B (bR Y ai x) V) λp=>ax (bp B (bR Y ai i) V) λq=>nN r vp p q) H=(ax (bp B (bR Y ai i) V) λq=>nN r vp p q) H₁:=m;rw[e1'] at L|-
 have e2:=f0 (bp B (bR Y ai i) V) (λq=>nN r vp p q) H₁;have R:bp B (bR Y ai i) V H₁≠.stuck:=λq=>L<|by(refine ah e2 ?_;rw[q])
 have F:=(gd Y Z V ai T).weak (C:=λK O h=>(aT Z Y.ns V K O h/\Sx d o K O h)/\VR K O p v) (λ_ _ _ c=>c.1.1) |>.keep (b.and<|cb p v)
 refine a0 (F A u K₁ J H₁ M I fL ⟨j,hv⟩ R) (λdv s₂ Yw=>zd.casesOn Yw λq H₂ g E P D y zq2 f=>bD zq2 λW hdv=>bD W λS hv₂=>?_) λe s₂ Yv=>yq.casesOn Yv λq H₂ g E P D y hex f=>⟨q,H₂,g,E,by(refine ah e2 ?_;rw[P]),dL.trans D,y,hex.back dL,l.trans f⟩;have e2':(ax (bp B (bR Y ai i) V) λq=>nN r vp p q) H₁=nN r vp p q H₂:=by(refine ah e2 ?_;rw[P])
 rw[e2'] at L|-
 rcases Rb p q with hs|⟨k,G,hkey⟩
 ·rw[hs] at L;exact absurd rfl L
 ·refine⟨k,_,hkey _ _ _ hv₂,z _ S.2.1,?_⟩;refine(af G)▸?_;exact⟨_,H₂,g,E,rfl,dL.trans D,y,YL hdv k hcv t,l.trans f⟩
theorem Sr {j:List (Option bL)} (h:j.mapM oO=ac r):j.all (·.isSome)=true:=by
 induction j generalizing r with
 |nil=>rfl
 |cons a l o=>refine cN (iF h) λb I S J R=>?_;subst S;refine sF (vI J) λc k G S _=>?_;subst S;simpa using o R
theorem BV (y:∃o,X 3=ac o) (T:dk X Y Z) (G:j.mapM oO=ac r) (hv:vs.mapM oN=ac vp)
 (a:r.mapM f=ac keys) (z:zr keys vp=aq) (hf:∀p k v,f p=ac k->CV p v->knd.is k v=aq)
 (Rb:∀p q:PV,nN r vp p q=aQ\/∃k,nN r vp p q=ay (KY keys vp k q)/\∀K O v,VR K O p v->knd.is k v=aq)
 (d:isStarred x=ai) (hsd:isStarred i=ai) (u:(g.endLine==p3.line)=aq) (E:bK w X n B x) (gd:bK w X n B i):
 aj w X [] n (aT Z Y.ns V) (bp B (.xV r vp (bR Y ai x)<|bR Y ai i) V) fi (eval (.Call (.Attribute (.Dict j vs m) "get" g) [x,i] [] p3) Z):=by
 intro A s K O H M ha N fr L;simp only[zr,decide_eq_true_eq] at z;refine vD z λhnd hne J hlv=>?_;have D:=vg G;have l2:=vg hv;have l3:=vg a;have I:=Sr G;have ZJ:aa j=aa vs:=by exact cg (cQ<|bk [aa keys,aa vp,aa j,aa r,aa vs] [] [(1,aK,bg),(1,cu,io),(1,bg,.v 4),(1,io,aK),(1,xi<|.v 4,cu)] rfl (cl<|ao hlv) (cl<|ao D) (cl<|ao<|af l2)<|cl<|ao l3)<|cQ<|bk [aa vp,aa keys,aa r,aa j,aa vs] [] [(1,aK,bg),(1,cu,io),(1,.v 4,aK),(1,bg,cu),(1,xi io,.v 4)] rfl (cl<|ao<|af hlv) (cl<|ao<|af D) (cl<|ao l2)<|cl<|ao<|af l3
 have t:=pairTrees_length j vs Z m I ZJ;have htr:=dD p3 Z [x,i]<|by simp[d,hsd]
 refine wpAny_Call_method2_late (rf rfl) u htr<|wpAny_Dict_pairs (zip_pairTrees j vs Z m I ZJ) (λq=>?_) (by exact cQ<|bk [aa keys,aa j,aa r,aa<|pairTrees j vs Z m] [] [(1,aK,.n 15),(1,bg,cu),(1,cu,aK),(1,io,bg),(1,xi<|.n 15,io)] rfl (cl J) (cl<|ao D) (cl<|ao l3)<|cl<|ao t)<|PZ hf j vs r vp keys _ _ G hv a ZJ λl lv tk aiy hcv=>⟨keys.zip lv,aiy,?_,λh' U P=>?_⟩
 ·have:=congrArg aa q;rw[t,d8] at this;apply hne;apply Am;exact cg (cQ<|bk [aa r,aa j,aa keys] [] [(1,aK,bg),(1,cu,aK),(1,bg,ei),(1,xi ei,cu)] rfl (cl<|ao<|af D) (cl<|ao<|af l3)<|cl<|ao this)<|cQ<|bk [aa keys] [] [(1,xi aK,ei)] rfl
 ·exact⟨_,#[],0,SV rfl rfl,⟨rfl,rfl,rfl⟩,rfl,λe he=>absurd he (by simp),by first|exact trivial|exact .nil|(unfold Pairs;simp),by simp⟩
 ·have kpa:de s.heap h':=λb o q=>⟨o.slots,ah (P.2 b<|eU<|dS q)<|aR _ q,.inl rfl⟩;have hlc:=hcv.length;have hmap:(keys.zip lv).map (·.1)=keys:=by rw[rD];exact cQ<|bk [aa keys,aa vp,aa lv] [] [(1,aK,bg),(1,bg,cu),(1,xi cu,aK)] rfl (cl<|ao hlv)<|cl<|ao hlc
  rw[Ir (keys.zip lv) [] (by exact(af hmap)▸hnd) (by simp),gK] at U;have hMO:=U.mapOf;refine wB (id hMO) λo es Q C hex S=>?_;have nf:¬b5 o:=λq=>by have c:=q.1;rw[hex.1] at c;exact absurd c<|by decide
  have hsys:(s.heap.objs.size==oY)=false:=by
   refine be y λo3 W=>?_;have:=dS<|N.sub _ _ (N.stat _ _ W)
   rw[beq_eq_false_iff_ne];exact pg<|JR (by decide:1<3) this
  refine⟨"dict","dict.get",Ce,PySem.F.slot_dict_get,PySem.F.type_dict_get,hMO.typeIs,hMO.noDict,?_⟩;have R:=M5 (V:=V) (pos:=p3) T E gd hsys (λh q=>⟨o,es,Q,q,hex,S⟩) nf hcv Rb;exact(R A _ K O H M ha (N.keep kpa) ⟨dw _ _ _ _ _ _ fr kpa.step,C,N.dY<|bX _⟩).step kpa.step ⟨rfl,rfl⟩ L
end
theorem z0 (h:bytesOf p=ac b):p=.bytes b:=qh h
theorem Pl (h:uf p=ac b):∃s,p=.str s/\b=⟨ag s⟩:=aI (map_some h) λs e f=>⟨s,pr e,f.symm⟩
theorem B2 (w p k v) (h:bytesOf p=ac k) (c:∃K O,VR K O p v):(bytesKind bS w).is k v=true:=by refine lm c λK O c=>?_;rw[z0 h] at c;exact be c λt e=>(show v=_ from e)▸beq_self_eq_true k
theorem Kf (w p k v) (h:uf p=ac k) (c:∃K O,VR K O p v):(XY bS w).is k v=true:=by
 refine lm c λK O c=>aI (Pl h) λs m i=>?_;rw[m] at c;refine be c λt e=>?_
 (refine(show v=_ from e)▸i▸?_);exact beq_self_eq_true _
theorem i5:sS w (cD w.params) n jI:=by
 refine⟨λY Z V o G T F N=>U1 Y Z V o G T F N,λY Z V j U Q H x d m g e T P t f W X u E gd=>?_⟩;have y:∃o,cD w.params 3=ac o:=by exact iI (n4<|ti w.params) λo n J _=>⟨o,J⟩
 have i:=cD w.params
 cases C:Q.mapM bytesOf with
 |some l=>
  refine BV y T P t C (by unfold Ja at f;rw[C] at f;exact f) (λp k v h c=>B2 w p k v h ⟨i,[],c _ _⟩) (λp q=>?_) W X u E gd
  have R:Q.mapM uf=none:=by
   induction Q with
   |nil=>unfold Ja at f;rw[C,lM C] at f;exact absurd rfl (of_decide_eq_true<|show zr ([]:List (List UInt8)) H=aq from f).2.1
   |cons a r=>
    refine cN (iF C) λb I _ J _=>?_
    cases q:(a::r).mapM uf with
    |none=>rfl
    |some z=>refine cN (iF q) λc D _ R _=>?_;rw[z0 J] at R;exact aE R
  cases p with
  |bytes b=>exact .inr ⟨b,by unfold nN;refine C▸?_;rfl,λK O v t=>B2 w _ _ _ rfl ⟨K,O,t⟩⟩
  |str s=>left;unfold nN;refine R▸?_;rfl
  |_=>exact .inl rfl
 |none=>
  cases S:Q.mapM uf with
  |none=>unfold Ja at f;rw[C,S] at f;exact ku f
  |some l=>
   refine BV y T P t S (by unfold Ja at f;rw[C,S] at f;exact f) (λp k v h c=>Kf w p k v h ⟨i,[],c _ _⟩) (λp q=>?_) W X u E gd
   cases p with
   |str s=>exact .inr ⟨⟨ag s⟩,by unfold nN;refine S▸?_;rfl,λK O v t=>Kf w _ _ _ rfl ⟨K,O,t⟩⟩
   |bytes b=>left;unfold nN;refine C▸?_;rfl
   |_=>exact .inl rfl
theorem Mo:j2 w (cD w.params) 3 sb:=Kt λ_ _ _=>i5
theorem wa:tR w (cD w.params) 4 dF:=abX λ_ _ _=>i5
def b7:on:=iq sb dF sx
theorem yj:j2 w (cD w.params) (4+aa sx) b7:=
 Fv rfl (jR _) (Mo.more<|ej _) wa (λ_ _ _=>i5) sx (Vj _)
end
section
open PySem PySem.W PySem.Calls PyProof.Rows PySem.SeqAt
theorem VF:dX.name="law":=rfl
theorem Zu (P):Oo (vh P) "law"=ac (.ref 1119):=rfl
theorem UU {K:aO} (h:abD vs j):bV K O (j.map .int) vs:=by
 induction h with
 |nil=>exact eA
 |cons n t h o=>exact b8 (fC) o
theorem Z8 (P):FnAt (cD P) 986 (bH 161).1 (bH 161).2.1 (bH 161).2.2 []:=my rfl
theorem Rw (P):FnAt (cD P) 1114 (bH 182).1 (bH 182).2.1 (bH 182).2.2 []:=my rfl
theorem adg:aa sx=73:=by decide+kernel
theorem ah1:aa rI<=40:=by decide+kernel
def km (lo D:PV) (u:an) (b:Bool):PV:=.tup [lo,D,(yn u).getD .none,.AM,.bool b]
noncomputable def cH:List (List Nat):=[("text_length":an).cps.toList,("text_size":an).cps.toList,("text_octet":an).cps.toList,("text_at":an).cps.toList,("text_next":an).cps.toList,("text_prev":an).cps.toList,("text_last":an).cps.toList,("text_is_start":an).cps.toList,("text_is_valid":an).cps.toList,("text_sub":an).cps.toList,("text_repeated":an).cps.toList,("text_reversed":an).cps.toList,("text_replaced":an).cps.toList,("text_strip":an).cps.toList,("text_upper":an).cps.toList,("text_lower":an).cps.toList,("text_of_number":an).cps.toList,("text_joined":an).cps.toList,("text_written":an).cps.toList,("text_find":an).cps.toList,("text_find_last":an).cps.toList,("text_compare":an).cps.toList,("text_starts":an).cps.toList,("text_ends":an).cps.toList,("text_number":an).cps.toList,("text_split":an).cps.toList,("text_indices":an).cps.toList,("char_code":an).cps.toList,("char_of":an).cps.toList,("char_upper":an).cps.toList,("char_lower":an).cps.toList,("symbol_of":an).cps.toList,("symbol_text":an).cps.toList]
def d6:List PV:=[
 km (.int 1) (.int 1) "deed_length" aq,
 km (.int 1) (.int 1) "deed_size" aq,
 km (.int 2) (.int 2) "deed_octet" aq,
 km (.int 2) (.int 2) "deed_at" aq,
 km (.int 2) (.int 2) "deed_next" aq,
 km (.int 2) (.int 2) "deed_prev" aq,
 km (.int 1) (.int 1) "deed_last" aq,
 km (.int 2) (.int 2) "deed_is_start" aq,
 km (.int 1) (.int 1) "deed_is_valid" aq,
 km (.int 3) (.int 3) "deed_sub" aq,
 km (.int 2) (.int 2) "deed_repeated" aq,
 km (.int 1) (.int 1) "deed_reversed" aq,
 km (.int 3) (.int 3) "deed_replaced" aq,
 km (.int 1) (.int 1) "deed_strip" aq,
 km (.int 1) (.int 1) "deed_upper" aq,
 km (.int 1) (.int 1) "deed_lower" aq,
 km (.int 1) (.int 2) "deed_number_text" aq,
 km (.int 0) .none "deed_joined" ai,
 km (.int 1) (.int 1) "deed_written" ai,
 km (.int 2) (.int 3) "deed_find" aq,
 km (.int 2) (.int 2) "deed_find_last" aq,
 km (.int 2) (.int 2) "deed_compare" aq,
 km (.int 2) (.int 2) "deed_starts" aq,
 km (.int 2) (.int 2) "deed_ends" aq,
 km (.int 1) (.int 2) "deed_number_in" aq,
 km (.int 2) (.int 2) "deed_split" ai,
 km (.int 1) (.int 1) "deed_indices" ai,
 km (.int 1) (.int 1) "deed_code" aq,
 km (.int 1) (.int 1) "deed_sign" aq,
 km (.int 1) (.int 1) "deed_raised_sign" aq,
 km (.int 1) (.int 1) "deed_lowered_sign" aq,
 km (.int 1) (.int 1) "deed_symbol" aq,
 km (.int 1) (.int 1) "deed_symbol_text" aq]
noncomputable def gz:List Nat:=("BoundsError":an).cps.toList
noncomputable def ls3 (k:Z->Z->Z->Option u):List Z->Option u
 |[a,b,c]=>k a b c
 |_=>am
theorem FJ {Z u:Type} {k:Z->Z->Z->Option u} {l:List Z} {r:u} (h:ls3 k l=ac r):∃a b c,l=[a,b,c]/\k a b c=ac r:=by
 cases l with|nil=>exact aE h|cons a l=>?_
 cases l with|nil=>exact aE h|cons b l=>?_
 cases l with|nil=>exact aE h|cons c l=>?_
 cases l with|nil=>exact⟨a,b,c,rfl,h⟩|cons d l=>exact aE h
noncomputable def pr2 (k:Z->Z->Option u):List Z->Option u
 |a::b::_=>k a b
 |_=>am
theorem PT {Z u:Type} {k:Z->Z->Option u} {l:List Z} {r:u} (h:pr2 k l=ac r):∃a b G,l=a::b::G/\k a b=ac r:=by
 cases l with|nil=>exact aE h|cons a l=>?_
 cases l with|nil=>exact aE h|cons b l=>exact⟨a,b,l,rfl,h⟩
noncomputable def pr3 (k:Z->Z->Z->Option u):List Z->Option u
 |a::b::c::_=>k a b c
 |_=>am
theorem Fo {Z u:Type} {k:Z->Z->Z->Option u} {l:List Z} {r:u} (h:pr3 k l=ac r):∃a b c G,l=a::b::c::G/\k a b c=ac r:=by
 cases l with|nil=>exact aE h|cons a l=>?_
 cases l with|nil=>exact aE h|cons b l=>?_
 cases l with|nil=>exact aE h|cons c l=>exact⟨a,b,c,l,rfl,h⟩
def l6 (p:PV):Option PV:=(AK p).bind<|ls3 λ_ y c=>(AK y).bind<|pr2 λ_ s=>(AL s).bind λx=>ac<|if x=gz then .tup [.str x,c] else .tup [.str x]
def XC (p:PV):Option Addr:=(AK p).bind<|pr3 λ_ _ d=>P1 d
def wu (z:List PV):Option (bn×List PV):=(two z).bind λx=>(XC x.1).bind λd=>(AK x.2).map λD=>(d,D)
def oH (n:Nat):kg PV->kg PV
 |.ok p H'=>if cZ (H'.take n)&&jd p then .ok p (H'.take n) else .stuck
 |.exc p H'=>if cZ (H'.take n)&&jd p then(match l6 p with
  |some q=>.ok q (H'.take n)
  |none=>.stuck) else .stuck
 |.stuck=>.stuck
def pU (z:List PV):IM PV:=match wu z with
 |some x=>λH=>if aa x.2<=16777216 then oH (aa H) (b7 x.1 [.uo,.lst x.2] H) else .stuck
 |none=>aQ
end
section
open PySem PySem.W PySem.Calls PyProof.Rows PySem.SeqAt Builtin Builtin.ObjectAttr
theorem FP (P):makesIn (k1 P) 369=true:=rfl
theorem UK (P):oZ (k1 P) (.ref 369) "__init__"=ac (ac<|.ref 331):=rfl
theorem adt (P):oZ (k1 P) (.ref 369) "__setattr__"=ac (ac<|.builtin "object.__setattr__"):=rfl
theorem Z0 (P):jL (cD P) "Heap" (.ref 369):=oK rfl
theorem aek (P):FnAt (cD P) 331 (tC 53 0).1 (tC 53 0).2.1 (tC 53 0).2.2 []:=
 Vc rfl rfl rfl (.inl ⟨rfl,rfl⟩)
theorem ZA (P):takerIn (k1 P) 369 "heap"=ac none:=rfl
theorem Zz (P):takerIn (k1 P) 369 "things"=ac none:=rfl
theorem UJ (P):plainOver (k1 P) 369=true:=rfl
theorem UI (P):∃cd,clsIn (k1 P) 369=ac cd/\cd.hasDict=true:=⟨_,rfl,rfl⟩
structure HI (x dx:bn) (es:List cF) (h:eK):Prop where
 ne:x≠dx
 ob:h.get? x=ac ⟨.ref 369,ac dx,.plain,#[]⟩
 di:∃n,h.get? dx=ac (aaW es n)
section
variable {es':GY->List cF}
theorem WO (X:(k1 w.params).In s.heap) (I:HI x i u s.heap) (U:takerIn (k1 w.params) 369 name=ac am) (G:∀e∈u,∃k t,e.key=.str k t)
 (Y:∀t,putL name (gq w.params name) (.str name t) v u=es' t) (N:∀t,aa (es' t)<=10)
 (h:∀f t k,HI x i (es' t) f->(∀b,b≠i->f.get? b=s.heap.get? b)->Q () {s with heap:=f,toks:=k}):
 aD (MM w) A (setAttr (.ref x) name v) Q E s:=by
 obtain⟨r,g,d,t,os⟩:=s;obtain⟨L,T,n,Z⟩:=I;replace T:r.get? x=_:=T;replace Z:r.get? i=_:=Z;have J:InstAt r x ⟨.ref 369,ac i,.plain,#[]⟩ 369 (ac<|aaW u n):=⟨T,rfl,rfl,Z⟩;refine set_plain X J (adt _)<|osa_open X J (UJ _) U λb=>?_
 refine aI (UI w.params) λcd P l=>pe<|ak<|f6 (λ_ _ h=>JE T h)<|f6 (λ_ _ h=>(Et X P).here (s:=⟨r,g,d,t+1,os⟩) h) ?_
 refine(af l)▸?_;refine av<|pe<|ak ?_
 unfold nsSet;refine ak<|f6 (λ_ _ h=>afT h)<|av<|f6 (λ_ _ h=>SI h)<|f6 (λ_ _ h=>JE Z h) ?_
 have c:(!u.toArray.any (·.key.isStr name)&&u.toArray.any (·.refKey))=false:=by
  have:u.toArray.any (·.refKey)=false:=by rw[Ls];intro e z;refine lm (G e<|by simpa using z) λk t q=>?_;simp[JY,q]
  (refine(af this)▸?_;rw[ic])
 dsimp only
 (refine(af (aRefKeyMayBeTheName_at ..))▸?_;refine(af c)▸?_)
 refine wpAny_updatePart Z ?_;have a:=ek (N8 name (gq w.params name) (.str name<|t+1) v) Z<|by refine(af (putName_dict ..))▸?_;rfl
 rw[putName_dict] at a;refine ak<|D4 a (D8 (by rw[aS,bh];refine(af (Y ..))▸?_;have:=N<|t+1;exact aN (by assumption)<|by decide)) ?_
 refine av<|h _ (t+1) _ ⟨L,ah (gQ _ _ _ _ L) T,_,by rw[<-Y];exact a⟩ λb B=>gQ _ _ _ _ B
end
theorem VQ:∃p1 g e G a,(tC 53 0).2.1=[.Assign [.Attribute (.Name "self" p1) "things" g] (.List [] G) a]/\e=p1:=⟨_,_,_,_,_,rfl,rfl⟩
section
variable {KF K:aO}
theorem HI.step (I':HI x d r h') (k:∀b,b≠d->h'.get? b=h.get? b):Step [d] K μ h K μ h':=
 ⟨rfl,λ_ _ e=>e,λ_ _ e=>.inl e,⟨[],by simp,by simp⟩,λb o B=>by
     by_cases q:b=d
     ·subst q;exact be I'.di λn e=>⟨_,e⟩
     ·exact⟨o,ah (k b q) B⟩,
  λb o B _ F=>⟨o.slots,ah (k b λq=>F<|by simp[q]) B,.inl rfl⟩,λ_ q=>.inl q⟩
theorem HI.inv (I:HI x d u h) (N:Inv KF K O H M h) (Y:K d=am) (md:d∉O) (k:∀b,b≠d->h'.get? b=h.get? b):Inv KF K O H M h':=by refine N.kO (S:=[d]) (λb B=>?_) λb o B i=>⟨o.slots,ah (k b λq=>B<|by simp[q]) i,.inl rfl⟩;rw[aV] at B;subst B;refine⟨Y,md,λo L fo=>?_⟩;refine be I.di λn e=>?_;rw[e] at L;obtain rfl:=al L;exact absurd (show nh "dict"=.type "frame" from fo.1)<|by decide
theorem HI.keep (I:HI x d u h) (st:Step [] K O h j l h') (P:x∉O) (md:d∉O):HI x d u h':=by exact be I.di λn e=>⟨I.ne,st.same I.ob P (by simp) (λf=>by cases f.1),n,st.same e md (by simp) λf=>absurd (show nh "dict"=.type "frame" from f.1)<|by decide⟩
end
section
variable {K:aO}
theorem zC (e):bK w (cD w.params) n f5 e:=(jU rfl qd (i5) e).1.1
theorem UX (ha:kA (n+1) A M) (N:Inv (cD w.params) K O H M s.heap) (I:HI x d [] s.heap) (kx:K x=am) (kd:K d=am) (mx:x∉O) (md:d∉O)
 (hq:∀F j v t hs,Step [d] K O s.heap j O F.heap->Inv (cD w.params) j O H M F.heap->HI x d [⟨hs,.str "things" t,v⟩] F.heap->j x=am->j d=am->aW s F->R (.ok<|.ret .none) F):
 nJ (MM w) A (.call (.ref 331) ⟨[.ref x],[]⟩) R s:=by
 refine wF (aek _) (jR _) ha N (g:=[.ref x]) (b8 rfl eA) rfl (λo fd Q' hk hd W e V E'=>?_) λZ u k T hA hfw dL h U l hfl _=>?_
 ·have Y:j9 s.heap fd.defaults []:=by
   rcases e with ⟨q,_⟩|⟨d,z,m,Go,J,h2,h3,h4⟩
   ·exact .inl ⟨q,rfl⟩
   ·have:=h4.length
    induction Go with
    |nil=>exact .inr ⟨d,z,m,J,N.sub _ _ (N.stat _ _ h2),h3⟩
    |cons a b=>simp at this
  refine iK (by refine W▸?_;exact(aek w.params).par) Y (by refine W▸?_;rfl) (by refine W▸?_;decide+kernel) ?_;refine W▸?_;exact V
 refine RJ VQ λp1 p2 p3 G p5 B _=>B▸?_;refine ak<|n7 ?_
 refine a0 (zC (.List [] G) ⟨_,yn,[]⟩ Z _ ai T (A.deeper Z) u k O H (Z::M) hA h U nofun) (λv C Yr=>zd.casesOn Yr λp P K₂ E e2 D je hv f=>?_) λy C Yq=>yq.casesOn Yq λp P K₂ E e2 _ _ _ _=>by cases e2
 cases e2;refine aI (id D.pre) λQ c _=>?_;have hl:=je.kM.len;have hl1:=h.kM.len;rw[c,aJ] at hl;have:=cy.mp<|by exact cg (cQ<|bk [aa O,aa Q,aa H] [] [(1,.a aK bg,cu),(1,cu,aK),(1,xi ei,bg)] rfl (cl<|ao hl)<|cl<|ao<|af hl1)<|cQ<|bk [aa Q] [] [(1,xi aK,ei)] rfl
 subst this;rw[fq] at c;subst c;have St:=dL.trans D;have S:=dw _ _ _ _ _ _ U D;have Sz:=I.keep St mx md;refine be I.di λm0 hd0=>?_;have adp:=St.lH kx I.ob;have Xi:=St.lH kd hd0;refine gM (i:=0) T.fe (by decide) (by decide) rfl rfl S λo L=>?_;replace L:_=_:=L;subst L;obtain⟨r,g,dd,t,os⟩:=C;have X:=FQ λa o q=>je.sub _ _ (je.stat _ _ q);refine WO X Sz (Zz _) (by simp) (λt=>rfl) (λt=>by simp[putL]) λh' t' k' I' kb=>pe<|av ?_
 exact hq _ K₂ v t' _ ((St.mono<|by simp).trans<|I'.step kb) (Sz.inv je Xi md kb).pop I' adp Xi (l.trans<|f.trans ⟨rfl,rfl⟩)
end
theorem ah7 (P):∃o fd,cD P 331=ac o/\o.data=.func fd/\typeIn [(331,o)] (.ref 331)=ac (.type "function"):=⟨_,_,(by kernel_rfl:cD P 331=ac (H.Zj P)),rfl,by kernel_rfl⟩
noncomputable abbrev uh (A:iN):Around:=A.under<|.builtin "type.__call__" ⟨[.ref 369],[]⟩
theorem uhw:(xK "type.__call__" ⟨[.ref 369],[]⟩).weight=1:=rfl
theorem aaG (I:kA (n+1) A fs):kA n (uh A) fs:=by
 obtain⟨J,R,y,X,Q⟩:=I;refine⟨J,?_,?_,X,zA Q rfl⟩
 ·show A.depth+(xK "type.__call__" ⟨[.ref 369],[]⟩).weight+n<_;exact uhw▸cQ (bk [A.depth,n,nA] [] [(1,xi<|.a aK<|xi bg,cu),(1,xi cu,xi<|.a (xi aK) bg)] rfl<|cl R)
 ·show A.units+1+10*n+20<_;exact cQ<|bk [A.units,n,yy] [] [(1,xi<|.a (.a aK<|.m 10<|xi bg)<|.n 20,cu),(1,xi cu,xi<|.a (.a (xi aK)<|.m 10 bg)<|.n 20)] rfl<|cl y
section
variable {K:aO}
theorem M3 (W:kA (n+2) A M) (N:Inv (cD w.params) K O H M s.heap)
 (L:∀x d F j v t Z,s.heap.get? x=am->s.heap.get? d=am->Step [] K O s.heap j O F.heap->Inv (cD w.params) j O H M F.heap->HI x d [⟨Z,.str "things" t,v⟩] F.heap->j x=am->j d=am->x∉O->d∉O->aW s F->Q (.ref x) F):
 aD (MM w) A (call (.ref 369) [] []) Q E s:=by
 obtain⟨hh,g,dd,t,os⟩:=s;have X:=FQ λa o q=>N.sub _ _ (N.stat _ _ q);refine cN (ah7 w.params) λo fd J R y=>?_
 have l:Frag.In [(331,o)] hh:=λa B e=>by
  simp only[bt,Ay] at e;split at e
  ·rename_i q;rw[beq_iff_eq] at q;subst q;obtain rfl:=al e;exact N.sub _ _ (N.stat _ _ J)
  ·exact aE e
 refine oW<|make_core (makes_of X<|FP _) (nC X<|UK _) (λf=>bind_fn l f y) (.inl rfl) ?_
 have k:de hh ((hh.push emptyDict).push<|instObj 369 hh.objs.size):=λb o q=>⟨o.slots,aR _ (aR _ q),.inl rfl⟩;have h:=bX hh;have i:hh.get? (hh.objs.size+1)=none:=iS<|ej _
 have I:HI (hh.objs.size+1) hh.objs.size [] ((hh.push emptyDict).push<|instObj 369 hh.objs.size):=⟨rM _,by heap_get,0,by heap_get⟩;refine UX (aaG W) (N.keep k) I (N.cO i) (N.cO h) (N.dY i) (N.dY h) λF j v m Z st P c p Y S=>⟨rfl,?_⟩;exact L _ _ F j v m Z i h (k.step.hide st λa q=>.inr<|by rw[aV] at q;subst q;exact h) P c p Y (N.dY i) (N.dY h) ⟨S.1,S.2⟩
end
theorem adx (P):oZ (k0 P) (.ref 71) "__getattribute__"=ac (ac<|.builtin "BaseException.__getattribute__"):=rfl
theorem QM (P):oZ (k0 P) (.ref 71) "__getattr__"=ac none:=rfl
theorem UR (P):hasDictIn (k0 P) 71=true:=rfl
theorem US (P):mroIn (k0 P) 71 (.type "BaseException")=ac true:=rfl
theorem IU (X:(k0 w.params).In s.heap) (I:InstAt s.heap a P 71 (ac z)) (Y:findObj (k0 w.params) 71 (ac z) "value"=ac (.value v)) (r:handedIn v=aq) (h:Q v {s with toks:=s.toks+1}):
 aD (MM w) A (abw (.ref a) "value" expr) Q E s:=by
 obtain⟨b,g,d,t,os⟩:=s;have S:=PySem.F.attr_Exception.ga;have L0:=I.type (M:=MM w);have L1:=nC (M:=MM w) X<|adx _
 have L2:=nC (M:=MM w) X<|QM _
 have L3:=looks_find (M:=MM w) X I Y;unfold abw getAttrBy;refine f6 (λ_ _ h=>SI h)<|a9<|f6 (λ_ _ h=>L0.at h)<|f6 (λ_ _ h=>L1.at h) ?_
 have c:(onTheHeap (ge 71)&&Ea "BaseException.__getattribute__"==Ea "object.__getattribute__")=false:=by decide+kernel
 dsimp only
 (refine(af c)▸kW (if_neg<|by decide) ?_)
 unfold getAttrByItsOwn;refine f6 (λ_ _ h=>L2.at h)<|ak ?_
 refine wpAny_attempt<|a9 ?_
 show aD _ _ (af1 _ _ _ _) _ _ _;unfold af1
 (refine(show(expr&&onTheHeap (Ea "BaseException.__getattribute__"))=ai by rcases expr<;>rfl)▸?_;refine kW (if_neg<|by decide) ?_)
 unfold boundAndCalled;refine(af (S.bind ..))▸?_;refine pe<|oW ?_
 have sub:wW (MM w) b (JL (.ref a)<|.type "BaseException") true:=L0.andThen<|Es X<|US _
 refine wR S.plain PySem.F.entry_bexc_ga<|@check_slot (MM w) _ _ ⟨b,g,d,t+1,os⟩ "BaseException.__getattribute__" "BaseException" "__getattribute__" (.ref a) [.str "value" t] [] _ (by decide+kernel) (by decide+kernel) sub (PySem.F.args_bexc_ga _ _) ?_
 unfold mi.«object.__getattribute__» slotArgs;refine pe ?_;refine pe<|f6 (λ_ _ h=>L0.at h)<|f6 (λ_ _ h=>L3.at h) ?_
 refine av ?_;show aD _ _ (handedOut v) _ _ _;exact kW (handedOut_of r)<|av h
section
variable {KF K gF:aO}
theorem Dr (iv:Inv KF K O H fs s.heap) (x:kh g K O p e s.heap) (st:Step W gF i g K O s.heap)
 (V:∀L,Inv KF K O H fs L.heap->Step W gF i g K O L.heap->kh g K O p e L.heap->aW s L->Q () L):aD M A (xA e am) Q E s:=by
 obtain⟨a,P,d,U,z,u,n,v,rfl,j,I,c,w,D,C,ma,Y,m,F,R,t,htb⟩:=x;rcases htb with J|⟨T,r,G,J,gT,Z,q,X,hT,l,y⟩
 ·unfold xA;exact f6 (λ_ _ h=>lb I D J h)<|kW (if_neg<|by decide)<|av<|V s iv st ⟨a,P,d,U,z,u,n,v,rfl,j,I,c,w,D,C,ma,Y,m,F,R,t,.no J⟩<|.refl s
 ·have N:=(fK.mp y).1;refine wpAny_setFlight_none I D J hT l N ?_;have k:jp K.fr [T] s.heap (s.heap.update T (nQ (·.setIfInBounds 3 gf))):=oE s.heap T _
  have hS:∀b∈[T],K b=am/\b∉O/\∀o,s.heap.get? b=ac o->¬b5 o:=λb B=>by simp only[aV] at B;subst B;refine⟨q,X,λo e f=>?_⟩;rw[hT] at e;obtain rfl:=al e;refine bD f λ_ S=>lm S λu n d=>?_;rw[l] at d;cases d
  have hd:=ig l (·.setIfInBounds 3 gf)
  refine V _ (iv.kO hS k) (st.kO (λb B=>by simp only[aV] at B;subst B;exact gT) k) ⟨a,P,d,U,z,u,n,v,rfl,j,?_,c,w,D,C,ma,Y,m,F,R,t,
   .at T _ _ J gT Z q X (ek _ hT (j4 hd)) hd (by refine ah Ap ?_;simp only[if_true,if_pos N])⟩ ⟨rfl,rfl⟩
  show(s.heap.update T _).get? a=_;refine ah (fP _ _ Z) ?_;exact I
theorem kh.step (x:kh g K μ p e h) (st:Step W' K μ h O Q h') (Z:∀b∈W',∃o,g.get? b=ac o):kh g O Q p e h':=by
 obtain⟨a,P,d,U,z,u,n,v,rfl,j,I,c,w,D,C,k,Y,m,F,R,t,V⟩:=x;have L:∀b,g.get? b=am->b∉W':=λb B q=>by refine be (Z b q) λo e=>?_;rw[B] at e;exact aE e
 have i:=st.same I k (L a j) λf=>by refine bD f λ_ S=>lm S λu n d=>?_;rw[D] at d;cases d
 refine⟨a,P,d,U,z,u,n,v,rfl,j,i,c,w,D,st.lH C I,st.lG k I,st.kle _ _ Y,m,F,R,fD st t,?_⟩;rcases V with J|⟨T,r,G,J,gT,s,N,X,W,l,y⟩
 ·exact .no J
 ·exact .at T r G J gT s (st.lH N W) (st.lG X W) (st.same W X (L T gT) λf=>by refine bD f λ_ S=>lm S λu n d=>?_;rw[l] at d;cases d) l y
end
noncomputable def U2:List Stmt:=[
 .Assign [.Name "word" ⟨731,8,731,12⟩] (.Subscript (.Subscript (.Attribute (.Name "thrown_here" ⟨731,15,731,26⟩) "value" ⟨731,15,731,32⟩) (.Constant (.int 1) 0 ⟨731,33,731,34⟩) ⟨731,15,731,35⟩) (.Constant (.int 1) 0 ⟨731,36,731,37⟩) ⟨731,15,731,38⟩) ⟨731,8,731,38⟩,
 .Return (ac (.IfExp (.Compare (.Name "word" ⟨732,47,732,51⟩) [.Eq] [.Constant (.str "BoundsError") 0 ⟨732,55,732,68⟩] ⟨732,47,732,68⟩)
  (.Tuple [.Name "word" ⟨732,16,732,20⟩,.Subscript (.Attribute (.Name "thrown_here" ⟨732,22,732,33⟩) "value" ⟨732,22,732,39⟩) (.Constant (.int 2) 0 ⟨732,40,732,41⟩) ⟨732,22,732,42⟩] 0 ⟨732,15,732,43⟩)
  (.Tuple [.Name "word" ⟨732,75,732,79⟩] 0 ⟨732,74,732,81⟩) ⟨732,15,732,81⟩)) ⟨732,8,732,81⟩]
theorem VT:(bH 182).2.1=[
 .Assign [.Name "image" ⟨726,4,726,9⟩] (.Call (.Name "Heap" ⟨726,12,726,16⟩) [] [] ⟨726,12,726,18⟩) ⟨726,4,726,18⟩,
 .Assign [.Attribute (.Name "image" ⟨727,4,727,9⟩) "heap" ⟨727,4,727,14⟩] (.Name "image" ⟨727,17,727,22⟩) ⟨727,4,727,22⟩,
 .Try [.Return (ac<|.Call (.Subscript (.Name "row" ⟨729,15,729,18⟩) (.Constant (.int 2) 0 ⟨729,19,729,20⟩) ⟨729,15,729,21⟩) [.Name "image" ⟨729,22,729,27⟩,.Call (.Name "list" ⟨729,29,729,33⟩) [.Name "given" ⟨729,34,729,39⟩] [] ⟨729,29,729,40⟩] [] ⟨729,15,729,41⟩) ⟨729,8,729,41⟩]
  [.ExceptHandler (ac<|.Name "Thrown" ⟨730,11,730,17⟩) (ac "thrown_here") U2 ⟨730,4,732,81⟩] [] [] ⟨728,4,732,81⟩]:=rfl
section
variable {K:aO}
theorem tc {k:Nat}
 (h:aD (MM w) A (eval e Z) (λo u=>∃l q,VR K O (.tup l) o/\(∀a ob,K a=ac ob->u.heap.get? a=ac ob)/\l[k]?=ac q/\k<100/\∀v m,VR K O q v->Q v {u with toks:=m}) E s):
 aD (MM w) A (eval (.Subscript e (.Constant (.int (k:Int)) 0 p) N) Z) Q E s:=by
 refine kW (JM ..)<|ak<|a0 h (λo u b=>aai b λl q t S L G V=>f6 (λ_ _ h=>a9<|wpAny_Constant_int h)<|ak<|cf ?_) λ_ _ x=>x
 obtain⟨a,ob,n,U,rfl,C,P,g,d⟩:=t;refine aI (d.get L) λv t X=>?_;have W:=(aB.mp t).1;have T:IsTup u.heap a (ag U):=⟨ob,S _ _ C,P,n,g⟩;have J:¬(k:Int)<0:=by exactλM=>bk [k] [] [(1,xi aK,ei)] rfl M
 have R:(k:Int)<((aa U):Int):=by exact cK.mpr<|by assumption
 have y:(0:Int)<=k:=by exact bC _
 refine ak<|kW (getitemInPython_of_ne T.typeIs.not_modules)<|f6 (λ_ _ h=>uM (aa2 T) aaS.lookup h) ?_
 have F:aD (MM w) A (operate [.ref a,.int (k:Int) u.toks]<|getItem (.ref a)<|.int (k:Int) u.toks) (λr Y=>aD (MM w) A (JK e (.ref a) r>>=λ_=>pure r) Q E Y) E {u with toks:=u.toks+1}:=
  wpAny_operating (getItem_tuple T (j:=k) (fW (by decide)<|bC _) (kH (cK.mpr G)<|by decide)
   (by simp only[Ov,aS,if_neg J,decide_eq_true R,decide_eq_true y,abd,if_true,et]) (by simpa using t) (ak<|wpAny_letTemporaryGo<|av<|V v _ X))
 first
  |exact av (ak F)
  |exact ak (av (ak F))
  |exact ak F
theorem Aa {i:Nat} (k:vN Z) (T:U[i]?=ac ("thrown_here":an)) (hs:V[i]?=ac (ac<|.ref a))
 (N:Inv (cD w.params) K O H M s.heap) (fr:aT Z U V K O s.heap) (x:kh g K O p (.ref a) s.heap) (hp:p=.tup l) (h:∀v,VR K O p v->Q v {s with toks:=s.toks+1}):
 aD (MM w) A (eval (.Attribute (.Name "thrown_here" W) "value" G) Z) Q E s:=by
 subst hp;refine kW (aaZ ..) ?_;show aD (MM w) A (eval (.Name "thrown_here" W) Z>>=λov=>f7 G.atName>>=λ_=>dK [ov] (abw ov "value" aq)>>=λr=>JK (.Name "thrown_here" W) ov r>>=λ_=>pure r) _ _ _;refine ak<|gM k (by decide) (by decide) T hs fr λov L=>?_
 replace L:_=_:=L;subst L;obtain⟨B,P,d,vs,z,u,n,v,J,j,y,c,S,D,C,ma,kd,m,F,R,t,e⟩:=x;cases J;have X:=zu λa o q=>N.sub _ _ (N.stat _ _ q);have I:InstAt s.heap a P 71 (ac z):=⟨y,c,by unfold notCls;rw[D],by exact S▸N.sub _ _ kd⟩;have Y:findObj (k0 w.params) 71 (ac z) "value"=ac (.value v):=findObj_own (UR _) (FR _) rfl<|KC m R
 have f:handedIn v=true:=by obtain⟨b,_,_,_,rfl,_⟩:=t;rfl
 refine f6 (λ_ _ h=>cf h)<|ak<|a9<|IU X I Y f ?_
 exact pe<|av<|h v t
end
abbrev tD:List an:=(bH 182).2.2.names.map (·.1)
section
variable {s:bj} {KF K:aO}
theorem qI (N:Inv KF K O H M s.heap) (d:bV K O l U):
 ∃j,Inv KF j O H M (s.heap.push {cls:=.type "tuple",data:=.seq (ag U)})/\(∀W,Step W K O s.heap j O<|s.heap.push {cls:=.type "tuple",data:=.seq (ag U)})/\VR j O (.tup l) (.ref s.heap.objs.size):=by
 refine bD (N.Fm (o:={cls:=.type "tuple",data:=.seq (ag U)}) rfl λf=>absurd (show nh "tuple"=.type "frame" from f.1)<|by decide) λP st=>⟨_,P,st,?_⟩;refine⟨_,_,0,U,rfl,fv _ _ _,rfl,rfl,?_⟩;have:=rH (K:=K) (K':=gk K s.heap.objs.size {cls:=.type "tuple",data:=.seq (ag U)}) (Q:=[]) rfl (st []).kle l U d;simpa using this
theorem Lx (h:Q (.bool<|decide<|x=gz) s):aD (MM w) A (i7 .Eq (.str ⟨ag x⟩ t)<|.str "BoundsError" u) Q E s:=by
 refine PySem.P.eq_str ?_
 rw[show((⟨ag x⟩:an).cps.toList==("BoundsError":an).cps.toList)=decide (x=gz) from by
  rw[iM,beq_iff_eq,decide_eq_true_iff];rfl]
 exact h
theorem ab0 (T:dk (cD w.params) ⟨(bH 182).2.2.names,yn,[]⟩ Z) (hl:aa σ=aa tD) (d:σ[3]?=ac (ac<|.ref a))
 (N:Inv (cD w.params) K O H M s.heap) (fr:aT Z tD σ K O s.heap) (L:kh g K O (.tup [U,.tup<|I::.str x::r,c]) (.ref a) s.heap) (hg:∀b∈aY Z,∃o,g.get? b=ac o)
 (V:∀v s' j G,VR j O (if x=gz then .tup [.str x,c] else .tup [.str x]) v->Step (aY Z) K O s.heap j O s'.heap->Inv (cD w.params) j O H M s'.heap->aT Z tD G j O s'.heap->aW s s'->Q (.ret v) s'):
 aD (MM w) A (kr U2 Z) Q E s:=by
 unfold U2;refine ak<|rS<|tc (K:=K) (O:=O)<|tc (K:=K) (O:=O)<|Aa T.fe rfl d N fr L rfl λv t=>?_
 refine⟨_,_,t,λa o q=>N.sub _ _ q,rfl,by decide,λv1 t1 X=>⟨_,_,X,λa o q=>N.sub _ _ q,rfl,by decide,λv2 t2 R=>?_⟩⟩;refine a0 (lg (W:=aY Z) (i:=4) (p:=.str x) T.fe rfl (by decide+kernel) (by rw[hl];decide) (.inl<|T.lc _ rfl) (hV Z) N ⟨fr,R⟩) (λ_ C Yx=>vD Yx λD y S f=>?_) λ_ _ (z:False)=>z.elim;have u:=L.step D hg;have hs₂:(σ.set 4<|ac<|.str x)[3]?=ac (ac<|.ref a):=by rw[dQ<|by decide];exact d
 have m:(σ.set 4<|ac<|.str x)[4]?=ac (ac<|.str x):=cJ<|by rw[hl];decide
 refine ak<|gS<|wpAny_IfExp<|wpAny_isTrue_Compare1 ?_
 refine gM T.fe (by decide) (by decide) (show tD[4]?=_ from rfl) m S λv3 l=>qr ?_;refine be l λt3 PM=>?_;obtain rfl:=PM;refine Lx<|i9 ?_
 have n:Inv (cD w.params) K O H M {C with toks:=C.toks+1}.heap:=y;by_cases B:x=gz
 ·rw[if_pos<|decide_eq_true B];rw[if_pos B] at V;refine mX<|yR ?_
  refine gM T.fe (by decide) (by decide) (show tD[4]?=_ from rfl) m S λY J=>tc (k:=2) (K:=K) (O:=O)<|Aa (s:={C with toks:=C.toks+1}) T.fe rfl hs₂ n S u rfl λv5 hv5=>?_
  refine⟨_,_,hv5,λa o q=>n.sub _ _ q,rfl,by decide,λv6 t6 hv6=>⟨by rw[bh,bN];simp,?_⟩⟩;refine gN (qI n<|b8 J<|b8 hv6 eA) λj P e h=>?_;have F:=dw K O C.heap j O _ S (e []);refine av ?_;apply V _ _ j _ h
  ·exact D.trans<|e _
  ·exact P
  ·exact F
  ·exact f.trans ⟨rfl,rfl⟩
 ·rw[if_neg<|by simpa using B];rw[if_neg B] at V;refine mX<|yS ?_
  refine gM T.fe (by decide) (by decide) (show tD[4]?=_ from rfl) m S λY J=>⟨by rw[bh,bN];simp,?_⟩;refine gN (qI n<|b8 J eA) λj P e h=>?_;have F:=dw K O C.heap j O _ S (e []);refine av ?_;apply V _ _ j _ h
  ·exact D.trans<|e _
  ·exact P
  ·exact F
  ·exact f.trans ⟨rfl,rfl⟩
end
section
variable {KF K:aO}
theorem Inv.Y9 (N:Inv KF K O H M h) (g:K a=am) (z:a∉O) (d:fQ a h h') (Y:∀Z∈M,Z.frame≠ac a):Inv KF K O H M h':=
 ⟨N.par,N.stat,λb o e=>by
    refine ah (d.2 b<|by rintro rfl;rw[g] at e;exact aE e) ?_;exact N.sub b o e,N.kf,
  ⟨N.kM.len,N.kM.nodup,λi b l D C=>by
   obtain⟨k,o,n,U,e,s,u,j⟩:=N.kM.at_ i b l D C
   exact⟨k,o,n,U,by refine ah (d.2 b<|by rintro rfl;exact z<|br D) ?_;exact e,s,u,j⟩⟩,
  ⟨λZ J=>by
   obtain⟨k,L,o,f,v,m,e,fo,fr⟩:=N.stk.all Z J
   exact⟨k,L,o,f,v,m,by refine ah (d.2 L<|by rintro rfl;exact Y Z J f) ?_;exact e,fo,fr⟩⟩⟩
end
section
variable {K:aO}
theorem U6 (T:dk (cD w.params) ⟨(bH 182).2.2.names,yn,[]⟩ Z) (hl:aa σ=aa tD) (hfr:A.frames=ac (Z::M)) (B:∃L,Z.frame=ac L)
 (iv:Inv (cD w.params) K μ H (Z::M) s.heap) (fr:aT Z tD σ f tH g) (ex:kh g K μ (.tup [U,.tup<|I::.str x::r,abY]) e s.heap) (hg:∀b∈aY Z,∃o,g.get? b=ac o) (hne:∀e∈M,e.frame≠ac Z.locals)
 (st:Step [] f tH g K μ s.heap)
 (V:∀v F j,VR j μ (if x=gz then .tup [.str x,abY] else .tup [.str x]) v->Step (aY Z) f tH g j μ F.heap->Inv (cD w.params) j μ H M F.heap->aW s F->Q (.ret v) F):
 aD (MM w) A (Ow e Z) (λ_ C=>aD (MM w) A (xA e am) (λ_ s₃=>
  aD (MM w) A (handleBy e Z [.ExceptHandler (ac<|.Name "Thrown" p1) (ac "thrown_here") U2 p2]) Q E s₃) E C) E s:=by
 refine be B λL B=>?_;refine zf hfr iv ex B st λs₁ h c XB l=>?_;obtain⟨a,hea⟩:∃a,e=.ref a:=by obtain⟨a,_,_,_,_,_,_,_,q,_⟩:=ex;exact⟨a,q⟩
 subst hea;refine wpAny_handleBy_cons (codeAny_handlers_test ?_)<|by intro q;cases q
 refine ir T.fe (by decide) (T.gi _ rfl) h (Ga _) ?_;obtain⟨hh,gn,d,t,os⟩:=s₁;have X:=zu λa o q=>h.sub _ _ (h.stat _ _ q);obtain⟨P,J,hc⟩:∃P,hh.get? a=ac P/\P.cls=.ref 71:=by obtain⟨a',P,_,_,_,_,_,_,q,_,q2,k,_⟩:=XB;cases q;exact⟨P,q2,k⟩
 refine wpAny_excMatches_sub_self (Bv X) J hc (by decide+kernel)<|codeAny_handlers_suite_as<|Dr h XB c λC y D u jH=>?_
 have S:=dw _ _ _ _ _ _ fr D;refine a0 (lg (i:=3) (p:=.ref a) T.fe rfl (by decide+kernel) (by refine hl▸?_;decide) (.inl<|T.lc _ rfl) (hV Z) y ⟨S,show _=_ from rfl⟩) (λ_ s₃ Yt=>vD Yt λY n W ip=>?_) λ_ _ (z:False)=>z.elim;refine ab0 T (by refine ah d7 ?_;exact hl) (cJ<|by refine hl▸?_;decide) n W (u.step Y hg) hg λv s₄ G σ₄ O pn lO R N=>?_;obtain⟨m,hn,hk,hm,_,_⟩:=R;refine wpAny_nameGoes (T.lc _ rfl) hn (by refine T.fe.kind▸?_;rfl) λh₅ alD adO Xk=>?_;refine sF (id adO) λahA akB akD e₅ _=>?_;refine V v _ G O ?_ (lO.pop.Y9 hk hm Xk hne) ?_
 ·exact(D.mono<|by simp).trans<|Y.trans<|pn.trans<|jz Xk (hV Z) ⟨ahA,e₅⟩
 ·exact l.trans<|jH.trans<|ip.trans<|N.trans ⟨rfl,rfl⟩
end
section
variable {s:bj}
theorem MK (X:(k1 w.params).In s.heap):wW (MM w) s.heap (nE<|.ref 369) .machine:=λA Q E F k V=>by
 have Y:=makes_of (M:=MM w) X<|FP _
 refine Vw Y.obj λb z cd p l _=>?_;unfold nE;refine f6 (λ_ _ h=>uE (k _ _ l) h)<|ak<|Y.call A _ E F k ?_
 exact av V
theorem AY (G:wW (MM w) s.heap (nE f) .machine) (y:aD (MM w) A (call f [] []) Q E s):
 aD (MM w) A (iL Z f [] [] []) Q E s:=by
 unfold iL;refine ak<|a9 ?_
 have e:Wm f aq [] []=(pure ⟨[],[]⟩:jN Args):=by rfl
 refine kW e<|av<|f6 (λ_ _ h=>cf h) ?_
 exact ak<|G.here<|ak<|a0 y (λr C d=>ak<|a9<|mW<|av d) λ_ _ x=>x
theorem DR (o i p D G Z):eval (.Call (.Subscript o i p) D [] G) Z=(do
 iL G (<-eval (.Subscript o i p) Z) [] (D9 G<|rl D Z) []):=rfl
theorem aT.Y7 {K:aO} (fr:aT Z U V K O h) (D:V[i]?=ac (ac<|.ref a)) (L:VR K O q (.ref a)):aT Z U (V.set i<|ac q) K O h:=by
 obtain⟨m,F,G,z,n,t⟩:=fr;refine⟨m,F,G,z,n,λj x p T W=>?_⟩;by_cases Y:i=j
 ·subst Y;rw[cJ (aB.mp D).1] at W;cases W;rcases t i x (.ref a) T D with ⟨b,v,c,d⟩|⟨b,c,v,d,e,f⟩
  ·replace d:_=_:=d;subst d;exact .inl ⟨b,_,c,L⟩
  ·replace f:_=_:=f;subst f;exact .inr ⟨b,c,_,d,e,L⟩
 ·rw[dQ Y] at W;exact t j x p T W
theorem aT.Qw {K K':aO} (fr:aT Z U V K O h) (X:K'.P=K.P) (E:∀a o,K a=ac o->K' a=ac o) (Y:∀a∈aY Z,K' a=fS):aT Z U V K' O h:=by
 obtain⟨m,F,G,z,n,t⟩:=fr;have A:∀p v,VR K O p v->VR K' O p v:=λp v r=>by simpa using Om (Q:=[]) X E p v r
 refine⟨m,F,Y _ (hV Z),z,λy c q=>?_,λj x p T W=>?_⟩
 ·obtain⟨_,b,L,u,S⟩:=n y c q;exact⟨Y _ (bc _ (b3.mpr ⟨(y,c),q,rfl⟩)),b,L,u,S⟩
 ·rcases t j x p T W with ⟨b,v,c,d⟩|⟨b,c,v,d,e,f⟩
  ·exact .inl ⟨b,v,c,A _ _ d⟩
  ·exact .inr ⟨b,c,v,d,e,A _ _ f⟩
theorem aT.Kw {K:aO} (fr:aT Z U V K O h) (I:a∈aY Z):K a=fS:=by
 obtain⟨m,F,G,z,n,t⟩:=fr;simp only[aY,aM,b3] at I;rcases I with rfl|⟨⟨y,c⟩,q,rfl⟩
 ·exact G
 ·exact(n y c q).k0
end
section
variable {K:aO}
theorem IR (T:dk (cD w.params) ⟨(bH 182).2.2.names,yn,[]⟩ env) (hl:aa V=aa tD) (I:kA (n+2) A M)
 (N:Inv (cD w.params) K O H M s.heap) (fr:aT env tD V K O s.heap)
 (hQ:∀s' j,Step (aY env) K O s.heap j O s'.heap->Inv (cD w.params) j O H M s'.heap->aT env tD (V.set 2<|ac .uo) j O s'.heap->aW s s'->aD (MM w) A (kr F env) Q E s'):
 aD (MM w) A (kr (.Assign [.Name "image" p1] (.Call (.Name "Heap" p2) [] [] p3) G::.Assign [.Attribute (.Name "image" q1) "heap" q2] (.Name "image" q3) q4::F) env) Q E s:=by
 have X:=FQ λa o q=>N.sub _ _ (N.stat _ _ q);refine ak<|rS ?_
 refine kW (dN ..)<|f6 (λ_ _ h=>ir T.fe (by decide) (T.gi _ rfl) N (Z0 _) h) ?_
 refine AY (MK X)<|M3 I N λx d u k v t hs fx fd c fL aaL kx kd P md l=>?_
 have U:=dw _ _ _ _ _ _ fr c;refine a0 (lg (i:=2) (p:=.ref x) T.fe rfl (by decide+kernel) (by refine(af hl)▸?_;decide) (.inl<|T.lc _ rfl) (hV env) fL ⟨U,show _=_ from rfl⟩) (λ_ C YD=>vD YD λD y S jH=>?_) λ_ _ (z:False)=>z.elim;have h2:(V.set 2<|ac<|.ref x)[2]?=ac (ac<|.ref x):=cJ<|by refine(af hl)▸?_;decide
 have L:∀b,s.heap.get? b=am->b∉aY env:=λb B q=>by refine be (jf fr q) λo e=>?_;rw[B] at e;exact aE e
 have Sz:HI x d [⟨hs,.str "things" t,v⟩] C.heap:=by refine be aaL.di λm e=>?_;exact⟨aaL.ne,D.same aaL.ob P (L x fx) (λf=>by cases f.1),m,D.same e md (L d fd) λf=>absurd (show nh "dict"=.type "frame" from f.1)<|by decide⟩
 refine ak<|n7<|gM T.fe (by decide) (by decide) (show tD[2]?=_ from rfl) h2 S λv1 hv1=>gM T.fe (by decide) (by decide) (show tD[2]?=_ from rfl) h2 S λv2 hv2=>?_
 replace hv1:_=_:=hv1;replace hv2:_=_:=hv2;subst hv1 hv2;obtain⟨hh,gn,dd,tk,os⟩:=C;have ajm:(k1 w.params).In hh:=FQ λa o q=>y.sub _ _ (y.stat _ _ q);refine WO ajm Sz (ZA _) (by simp) (es':=λt'=>[⟨hs,.str "things" t,v⟩,⟨gq w.params "heap",.str "heap" t',.ref x⟩]) (λt=>rfl) (λt=>by simp) λh' t' k' I' kb=>?_;have jx:=Sz.inv y kd md kb;refine be I'.di λm g=>?_;have Z:=jx.freeze g kd md λf=>absurd (show nh "dict"=.type "frame" from f.1)<|by decide
 have Xg:gk k d (aaW [⟨hs,.str "things" t,v⟩,⟨gq w.params "heap",.str "heap" t',.ref x⟩] m) x=none:=by exact ah (db I'.ne)<|kx
 have FW:=Z.freeze I'.ob Xg P λf=>by cases f.1
 have Y:Step [d] k O hh k O h':=I'.step kb;have Sa:Step (aY env) K O s.heap k O h':=((c.mono<|by simp).trans D).hide Y λa q=>.inr<|by rw[aV] at q;subst q;exact fd
 have Sb:=Step.gk (o:=⟨.ref 369,ac d,.plain,#[]⟩) (Sa.gk fd kd) fx Xg;have Xv:aT env tD (V.set 2<|ac<|.ref x) k O h':=J3 (W:=[d]) (u4<|L d fd) _ _ _ _ _ _ S Y;have nx:∀a∈aY env,a≠x/\a≠d:=λa I=>⟨λq=>L x fx<|q▸I,λq=>L d fd<|q▸I⟩
 have R:=Xv.Qw (K':=gk (gk k d<|aaW [⟨hs,.str "things" t,v⟩,⟨gq w.params "heap",.str "heap" t',.ref x⟩] m) x ⟨.ref 369,ac d,.plain,#[]⟩) rfl (λa o q=>by
  (refine ah (db<|by rintro rfl;rw[kx] at q;cases q) ?_;refine ah (db<|by rintro rfl;rw[kd] at q;cases q) ?_);exact q) λa I=>by(refine ah (db (nx a I).1)<|ah (db (nx a I).2) ?_);exact Xv.Kw I
 have KP:=R.Y7 h2 (q:=.uo) (by
  refine⟨x,_,d,aaW [⟨hs,.str "things" t,v⟩,⟨gq w.params "heap",.str "heap" t',.ref x⟩] m,_,m,rfl,fv _ _ _,rfl,rfl,rfl,?_,rfl,?_,?_⟩
  ·exact ah (db<|js I'.ne)<|fv _ _ _
  ·intro e J;simp only[Td,aM,aZ,or_false] at J;rcases J with rfl|rfl<;>exact⟨_,_,rfl⟩
  ·rfl)
 rw[abz] at KP;exact hQ ⟨h',gn,dd,k',os⟩ _ Sb FW KP (l.trans<|jH.trans ⟨rfl,rfl⟩)
end
end
section
open PySem PySem.W
theorem kN {a b c:Nat} (h:a<=b) (k:b.ble c=aq):a<=c:=aN h<|Nat.le_of_ble_eq_true k
theorem vS {a b c d:Nat} (h:a<=b) (g:b<=c) (k:c.ble d=aq):a<=d:=aN h<|kN g k
noncomputable abbrev cI (i:Int):CE:=.const<|.int i
noncomputable abbrev cS (l:List Nat):CE:=.const<|.str l
noncomputable abbrev cB (l:List UInt8):CE:=.const<|.bytes l
noncomputable abbrev cz:CE:=.loc 0
noncomputable abbrev cm:CE:=.loc 1
noncomputable abbrev dE:CE:=.loc 2
noncomputable abbrev jc:CE:=.loc 3
noncomputable abbrev lk:CE:=.loc 4
noncomputable abbrev pM:CE:=.loc 5
noncomputable abbrev qb:CE:=.loc 6
noncomputable abbrev Ti:CE:=.loc 7
noncomputable abbrev xO:CE:=.loc 8
noncomputable abbrev Cp:CE:=.loc 9
noncomputable abbrev kv:CE:=cS [116,101,120,116]
noncomputable abbrev w0:CE:=cS [105,110,116]
noncomputable abbrev En:CE:=cS [98,111,111,108]
noncomputable abbrev EE:CE:=cS [65,114,103,117,109,101,110,116,69,114,114,111,114]
noncomputable abbrev ED:CE:=cS [66,105,103,73,110,116]
noncomputable abbrev YF:CE:=cS [66,111,117,110,100,115,69,114,114,111,114]
noncomputable abbrev YE:CE:=cS [110,111,116,104,105,110,103]
noncomputable abbrev xs7:CE:=cS [79,118,101,114,102,108,111,119,69,114,114,111,114]
noncomputable abbrev xs8:CE:=cS [84,121,112,101,69,114,114,111,114]
noncomputable abbrev xs9:CE:=cS [116,101,120,116,95,114,101,112,101,97,116,101,100]
noncomputable abbrev YG:CE:=cS [116,101,120,116,95,102,105,110,100]
theorem fh (h:m H=.ok a g) (k:f a g=r):ax m f H=r:=by(refine ah (f0 ..)<|(af h)▸?_);exact k
theorem wH (h:m H=.exc p H₁):ax m f H=.exc p H₁:=by(refine ah (f0 ..) ?_;rw[h])
theorem gu (h:ol B D V H=.ok l g) (k:B a l g=r):bp B (.aA a D) V H=r:=fh h k
theorem dJ (h:ol B D V H=.ok l g) (k:f l g=r):bp B (.bw f D) V H=r:=fh h k
theorem bo (h:bp B x V H=.ok a g) (f:bp B y V g=.ok b P) (k:C0 F I a b P=r):bp B (.bin F I x y) V H=r:=fh h<|fh f k
theorem bz (h:bp B x V H=.ok a g) (f:bp B y V g=.ok b P) (k:uW a b P=r):bp B (.sub x y) V H=r:=fh h<|fh f k
theorem iw (h:bp B x V H=.ok a H) (J:bp B lo V H=.ok l H) (R:bp B D V H=.ok u H) (y:bp B st V H=.ok s H) (k:mq F a l u s H=r):bp B (.slice F x lo D st) V H=r:=fh h<|fh J<|fh R<|fh y k
theorem bx (h:ol B u V H=.ok l H₁) (z:aa l<=16777216):bp B (.tup u) V H=.ok (.tup l) H₁:=fh h<|by refine(af<|if_pos z)▸?_;rfl
theorem iH (h:ol B u V H=.ok l H₁) (z:aa l<=16777216):bp B (.list ai u) V H=.ok (.lst l) H₁:=fh h<|by refine(af<|if_pos z)▸?_;rfl
theorem ar:ol B [] V H=.ok [] H:=rfl
theorem ae (h:bp B e V H=.ok a g) (k:ol B r V g=.ok l H₂):ol B (e::r) V H=.ok (a::l) H₂:=fh h<|fh k rfl
theorem fb (h:j6 B t V (bp B t V) H=.ok aq g) (k:bp B a V g=r):bp B (.fm t a b) V H=r:=fh h k
theorem dZ (h:j6 B t V (bp B t V) H=.ok ai g) (k:bp B b V g=r):bp B (.fm t a b) V H=r:=fh h k
theorem oM (h:bp B l V H=.ok a g) (f:bp B r V g=.ok b P) (k:lS I a b P=.ok c D0):bp B (.cmp l [I] [r]) V H=.ok (.bool c) D0:=fh h<|fh (fh f k) rfl
theorem a8 (h:bp B l V H=.ok a g) (f:bp B r V g=.ok b P) (k:lS I a b P=.ok c D0):j6 B (.cmp l [I] [r]) V (bp B (.cmp l [I] [r]) V) H=.ok c D0:=fh h<|fh f k
theorem gP (h:j6 B x V (bp B x V) H=.ok c H₁):j6 B (.not x) V (bp B (.not x) V) H=.ok (!c) H₁:=fh h rfl
theorem mn (h:j6 B x V (bp B x V) H=.ok ai H₁):j6 B (.bool aq<|x::r) V (bp B (.bool aq<|x::r) V) H=.ok ai H₁:=fh h rfl
theorem kl (h:j6 B x V (bp B x V) H=.ok aq g) (k:pA B aq r V g=.ok c H₂):j6 B (.bool aq<|x::r) V (bp B (.bool aq<|x::r) V) H=.ok c H₂:=fh h k
theorem Bj (h:j6 B x V (bp B x V) H=.ok aq H₁):j6 B (.bool ai<|x::r) V (bp B (.bool ai<|x::r) V) H=.ok aq H₁:=fh h rfl
theorem tL (h:j6 B x V (bp B x V) H=.ok ai g) (k:pA B ai r V g=.ok c H₂):j6 B (.bool ai<|x::r) V (bp B (.bool ai<|x::r) V) H=.ok c H₂:=fh h k
theorem jg (h:j6 B x V (bp B x V) H=.ok c H₁):pA B i [x] V H=.ok c H₁:=fh h<|by rcases c<;>rcases i<;>rfl
theorem RH (h:bp B o V H=.ok p g) (k:Bz O p (ol B D V) g=r):bp B (.gj O o D) V H=r:=fh h k
theorem bJ:fY B E [] V H=.ok (.next,V) H:=rfl
theorem bU (h:bp B e V H=.ok p g) (k:fY B E l (V.set i<|ac p) g=r):fY B E (.assign i e::l) V H=r:=fh (fh h rfl) k
theorem yE (U:IA V i H=.ok a H) (h:bp B e V H=.ok b g) (W:aaC I a b g=.ok p g) (k:fY B E l (V.set i<|ac p) g=r):fY B E (.aug i I e::l) V H=r:=fh (fh U<|fh h<|fh W rfl) k
theorem bI (h:bp B e V H=.ok p H₁):fY B E (.ret e::l) V H=.ok (.ret p,V) H₁:=fh (fh h rfl) rfl
theorem ie (h:bp B e V H=.ok p g) (k:fY B E l V g=r):fY B E (.expr e::l) V H=r:=fh (fh h rfl) k
theorem s6 (h:bp B e V H=.exc p H₁):fY B E (.expr e::l) V H=.exc p H₁:=wH<|wH h
theorem i0 (h:ol B u V H=.ok Z g) (z:aa Z=aa f/\aa Z<=16777216) (k:fY B E l (fR V f Z) g=r):fY B E (.mZ f u::l) V H=r:=fh (a:=(.next,fR V f Z)) (fh h<|by refine(af<|if_pos z)▸?_;rfl) k
theorem EF (h:bp B e V H=.ok p g) (z:yJ (aa f) p g=.ok Z g) (k:fY B E l (fR V f Z) g=r):fY B E (.unpack f e::l) V H=r:=fh (fh h<|fh z rfl) k
theorem eS (h:j6 B t V (bp B t V) H=.ok c g) (I:fY B E (if c then a else b) V g=.ok (.next,Q) P) (k:fY B E l Q P=r):fY B E (.fm t a b::l) V H=r:=fh (a:=(.next,Q)) (fh h<|by rcases c<;>exact I) k
theorem ky (h:j6 B t V (bp B t V) H=.ok c g) (I:fY B E (if c then a else b) V g=.ok (.ret p,Q) H₂):fY B E (.fm t a b::l) V H=.ok (.ret p,Q) H₂:=fh (fh h<|by rcases c<;>exact I) rfl
theorem tI (h:j6 B t V (bp B t V) H=.ok c g) (I:fY B E (if c then a else b) V g=.exc p H₂):fY B E (.fm t a b::l) V H=.exc p H₂:=wH<|fh h<|by rcases c<;>exact I
theorem mO (h:ol B D V H=.ok z g) (k:E a z g=.ok p H₂):fY B E (.raise a D::l) V H=.exc p H₂:=wH<|fh h<|fh k rfl
theorem zZ (h:m H=.ok p H') (A:cZ (H'.take<|aa H)=aq) (W:jd p=aq):iO ai m H=.ok p (H'.take<|aa H):=by
 unfold iO;refine(af h)▸?_;dsimp only;unfold callEnd
 (refine ah (if_neg<|by decide)<|ah (if_pos A) ?_)
 refine(af (show xc p=am by rcases p<;>first|rfl|cases W))▸?_;exact if_pos W
theorem NL (h:m H=.exc p H') (A:cZ (H'.take<|aa H)=aq) (W:jd p=aq):iO f m H=.exc p (H'.take<|aa H):=by unfold iO;refine(af h)▸?_;dsimp only;exact if_pos<|by(refine(af A)▸ah W ?_);rfl
theorem GC (h:m H=.ok (.dR i) H') (A:cZ (H'.take<|aa H)=aq) (D:aa H<=i) (C:H'[i]?=ac l) (F:gY l=aq):iO ai m H=.ok (.lst l) (H'.take<|aa H):=by
 unfold iO;refine(af h)▸?_;dsimp only;unfold callEnd
 (refine ah (if_neg<|by decide)<|ah (if_pos A) ?_)
 exact ah (if_pos D)<|by exact(af C)▸if_pos F
theorem aL (h:fY B E body (D.map ac++aX (n-aa D) am) H=.ok (.ret p,V) H'):kX B E n body D H=.ok p H':=fh h rfl
theorem wd (h:fY B E body (D.map ac++aX (n-aa D) am) H=.ok (.next,V) H'):kX B E n body D H=.ok .none H':=fh h rfl
theorem cY (h:fY B E body (D.map ac++aX (n-aa D) am) H=.exc p H'):kX B E n body D H=.exc p H':=wH h
theorem qi:∀{l r},(l.all λf=>decide<|a≠f.addr)=aq->iq v E (l++r) a=iq v E r a
 |[],r,_=>rfl
 |f::l,r,h=>by
  rw[nK,bu,decide_eq_true_eq] at h;funext z;show(if a=f.addr then _ else iq v E (l++r) a z)=_
  (refine ah (if_neg h.1) ?_;rw[qi h.2])
end
section
open PySem PySem.W PySem.Calls PyProof.Rows PySem.SeqAt Builtin Builtin.ObjectAttr
theorem EG (h:l6 p=ac q):∃U I x r c,p=.tup [U,.tup<|I::.str x::r,c]/\q=if x=gz then .tup [.str x,c] else .tup [.str x]:=by
 refine aI (bind_some h) λl e h=>sF (FJ h) λU y c g h=>aI (bind_some h) λm v h=>sF (PT h) λI s r em h=>?_;refine aI (bind_some h) λx L h=>?_
 (refine(af<|pq e)▸g▸(pq v)▸em▸?_;refine(pr L)▸?_)
 exact⟨U,I,x,r,c,rfl,af<|al h⟩
section
variable {K:aO}
theorem LI (T:dk (cD w.params) ⟨(bH 182).2.2.names,yn,[]⟩ Z) (hl:aa V=aa tD) (I:kA 77 A (Z::M))
 (iv:Inv (cD w.params) K O H (Z::M) s.heap) (fr:aT Z tD V K O s.heap) (X:∀e∈M,e.frame≠ac Z.locals)
 (U:V[0]?=ac (ac<|.tup<|r0::r1::.ref u::rest)) (J:V[1]?=ac (ac<|.tup D)) (h2:V[2]?=ac (ac .uo)) (hsz:aa D<=16777216)
 (hns:b7 u [.uo,.lst D] H≠.stuck) (hw:∀p i,b7 u [.uo,.lst D] H=.exc p i->∃q,l6 p=ac q)
 (z:∀p i v F j l,b7 u [.uo,.lst D] H=.ok p i->Step (aY Z) K O s.heap j l F.heap->Inv (cD w.params) j l i M F.heap->VR j l p v->aW s F->Q (.ret v) F)
 (hex:∀p i q v F j l,b7 u [.uo,.lst D] H=.exc p i->l6 p=ac q->Step (aY Z) K O s.heap j l F.heap->Inv (cD w.params) j l i M F.heap->VR j l q v->aW s F->Q (.ret v) F):
 aD (MM w) A (exec (.Try [.Return (ac<|.Call (.Subscript (.Name "row" c1) (.Constant (.int 2) 0 c2) d) [.Name "image" c4,.Call (.Name "list" c5) [.Name "given" c6] [] c7] [] c8) c9]
  [.ExceptHandler (ac<|.Name "Thrown" m) (ac "thrown_here") U2 p2] [] [] p3) Z) Q E s:=by
 have hn:(∃o fd,cD w.params u=ac o/\o.data=.func fd):=by
  rcases yj |>.fn u with h|h
  ·exact h
  ·exact absurd (by refine(h ..)▸?_;rfl) hns
 refine iI hn λod fd hd1 hd2=>?_;refine wpAny_Try_except<|ak<|gS ?_
 refine kW (DR ..)<|ak<|tc<|gM T.fe (by decide) (by decide) rfl U fr λv0 hv0=>⟨_,_,hv0,λa o q=>iv.sub _ _ q,rfl,by decide,λf tk hf=>?_⟩
 replace hf:_=_:=hf;subst hf;rw[dD c8 Z _ (by rfl)];refine iA<|yR<|gM T.fe (by decide) (by decide) rfl h2 fr λvi hvi=>?_
 have Q2:bp f5 (bR ⟨(bH 182).2.2.names,yn,[]⟩ ai<|.Call (.Name "list" c5) [.Name "given" c6] [] c7) V H=.ok (.lst D) H:=by refine(show bR ⟨(bH 182).2.2.names,yn,[]⟩ ai (.Call (.Name "list" c5) [.Name "given" c6] [] c7)=.bw QE [.loc 1] from rfl)▸?_;exact dJ (ae (show IA V 1 H=.ok (.tup D) H by unfold IA;refine(af J)▸?_;rfl) ar)<|congrFun (if_pos hsz) H
 refine a0 (zC (.Call (.Name "list" c5) [.Name "given" c6] [] c7) ⟨(bH 182).2.2.names,yn,[]⟩ Z V ai T A {s with toks:=tk} K O H (Z::M) I iv fr<|by refine Q2▸?_;exact xd) (λvl C Yo=>zd.casesOn Yo λp P g Be e2 lz je hvl jH=>?_) λy C Yn=>yq.casesOn Yn λp P g Be e2 _ _ _ _=>by rw[Q2] at e2;cases e2
 rw[Q2] at e2;cases e2;have ZI:=fD lz hvi;refine⟨.inr<|.inl ⟨u,od,fd,rfl,je.sub _ _ (je.stat _ _ hd1),hd2⟩,?_⟩;have hcall:=(yj).call u [.uo,.lst D] [vi,vl] A C g Be H (Z::M) (I.mono<|by refine adg▸?_;decide) je (b8 ZI<|b8 hvl eA) hns;refine a0 hcall (λv s₃ ⟨p,k,kz,t,W,Y,n,hv,ip⟩=>?_) λx s₃ Yl=>yq.casesOn Yl λp k kz t W Y n ais ip=>?_
 ·refine av ?_;have St:=lz.trans Y;exact z p k v s₃ kz t W (St.mono<|by simp) n.pop hv<|jH.trans ip
 ·refine nu ?_;intro P43;refine be (hw p k W) λq hq=>?_;refine RJ (EG hq) λb0 b1 x r c S Y8=>?_;subst S;subst Y8;obtain⟨L,B⟩:∃L,Z.frame=ac L:=by obtain⟨_,L,_,f,_⟩:=iv.stk.all Z (by simp);exact⟨L,f⟩
  refine U6 T hl I.fr ⟨L,B⟩ n (dw _ _ _ _ _ _ fr lz) ais (λb hb=>?_) X Y λv s₄ G hv pn lO N=>?_
  ·exact be (jf fr hb) λo e=>be (lz.there b o e) λo' R=>⟨o',R⟩
  ·exact hex _ k _ v s₄ G t W hq ((lz.mono<|by simp).trans pn) lO hv (jH.trans<|ip.trans N)
end
theorem F3 (h:oH n (.ok p H')≠.stuck):cZ (H'.take n)=aq/\jd p=aq/\oH n (.ok p H')=.ok p (H'.take n):=by
 cases e:cZ (H'.take n)&&jd p with
 |false=>exact absurd (if_neg<|by exact e▸bq) h
 |true=>have q:=(bu _ _).mp e;exact⟨q.1,q.2,if_pos e⟩
theorem F4 (h:oH n (.exc p H')≠.stuck):∃q,cZ (H'.take n)=aq/\jd p=aq/\l6 p=ac q/\oH n (.exc p H')=.ok q (H'.take n):=by
 cases e:cZ (H'.take n)&&jd p with
 |false=>exact absurd (if_neg<|by exact e▸bq) h
 |true=>
  have q:=(bu _ _).mp e;have f:oH n (.exc p H')=(match l6 p with|some q=>dt q (H'.take n)|none=>.stuck):=if_pos e
  cases a:l6 p with
  |none=>rw[a] at f;exact absurd f h
  |some r=>rw[a] at f;exact⟨r,q.1,q.2,rfl,f⟩
theorem Q6 (h:aa D<=16777216):pU [.tup<|E::s::.ref u::F,.tup D] H=oH (aa H) (b7 u [.uo,.lst D] H):=if_pos h
structure aaM (Nv:bn) (args:List PV) (H:Hp) (o:kg PV):Prop where
 sz:aa args<=16777216
 ne:b7 Nv [.uo,.lst args] H≠.stuck
 ok:∀p H',b7 Nv [.uo,.lst args] H=.ok p H'->cZ (H'.take<|aa H)=aq/\jd p=aq/\o=.ok p (H'.take<|aa H)
 ex:∀p H',b7 Nv [.uo,.lst args] H=.exc p H'->∃q,cZ (H'.take<|aa H)=aq/\jd p=aq/\l6 p=ac q/\o=.ok q (H'.take<|aa H)
theorem M2 (h:pU [.tup<|E::s::.ref u::F,.tup D] H≠.stuck):aaM u D H (pU [.tup<|E::s::.ref u::F,.tup D] H):=by
 by_cases d:aa D<=16777216
 case neg=>exact absurd (if_neg d) h
 rw[Q6 d] at h|-
 exact⟨d,λq=>h (by refine(af q)▸?_;rfl),λp i e=>by rw[e] at h|-;exact F3 h,λp i e=>by rw[e] at h|-;exact F4 h⟩
theorem KX {X K a:aO} (St:Step [] K O h a t h') (N:Inv X a t H' M h') (d:aa O=n) (z:cZ (H'.take n)=aq):Step [] K O h a O h'/\Inv X a O (H'.take n) M h':=by refine aI St.pre λQ e _=>?_;subst e d;exact⟨St.mz,N.mz z⟩
theorem IT (h:wu z=ac x):∃E s F,z=[.tup<|E::s::.ref x.1::F,.tup x.2]:=by
 refine aI (bind_some h) λa e h=>aI (bind_some h) λd b h=>aI (map_some h) λl g h=>aI (bind_some b) λm em b=>?_;refine Vw (Fo b) λE s c F f b=>?_
 (refine(af<|Ht e)▸(h)▸(pq g)▸(pq em)▸?_;refine f▸(u3 b)▸?_)
 exact⟨E,s,F,rfl⟩
theorem F2 (h:pU z H≠.stuck):∃E s F D u,z=[.tup<|E::s::.ref u::F,.tup D]:=by
 unfold pU at h
 cases e:wu z with
 |none=>rw[e] at h;exact absurd rfl h
 |some x=>exact DD (IT e) λE s F q=>⟨E,s,F,_,_,q⟩
theorem ON (h:l6 p=ac q) (F:jd p=aq):jd q=true:=by
 refine RJ (EG h) λU I x r c S V=>?_;subst S;subst V;have y:=((bu _ _).mp ((bu _ _).mp ((bu _ _).mp F).2).2).1;by_cases q:x=gz
 ·refine(if_pos q)▸?_;show(aq&&(Internal.jd c&&aq))=aq;refine(af y)▸?_;rfl
 ·refine(if_neg q)▸?_;rfl
theorem Q4 (ps:List PV) (vs:List Value):aj w (cD w.params) [] 100 (kq ps vs) (pU ps) fi (call (.ref 1114) vs []):=by
 intro A s K O H M I N F ho;refine aex (F2 ho) λE r1 rest args u PM=>?_;subst PM;have Q:=M2 ho;generalize pU [.tup<|E::r1::.ref u::rest,.tup args] H=B at Q|-
 have hvl:=vX F;refine jZ (Rw _) (jR _) I N F rfl (λo fd Q' G hd W hdf hQ E'=>?_) λZ s₁ k T P hfw c h U l V=>?_
 ·have hde:j9 s.heap fd.defaults []:=by
   rcases hdf with ⟨q,_⟩|⟨d,od,m,j,J,h2,h3,h4⟩
   ·exact .inl ⟨q,rfl⟩
   ·have:=h4.length
    induction j with
    |nil=>exact .inr ⟨d,od,m,J,N.sub _ _ (N.stat _ _ h2),h3⟩
    |cons a b=>simp at this
  refine iK (by refine W▸?_;exact(Rw w.params).par) hde (by(refine W▸hvl▸?_);rfl) (by refine W▸?_;decide+kernel) ?_;refine W▸?_;exact hQ
 refine VT▸?_;refine IR (n:=90) T V (P.mono<|by decide) h U λC g D y S jH=>?_
 have X:∀e∈M,e.frame≠ac Z.locals:=λe he q=>by
  obtain⟨_,L,o,f,_,_,R,_⟩:=N.stk.all e he;rw[f] at q;obtain rfl:=al q;have:=hfw Z.locals<|hV Z
  rw[R] at this;cases this
 have hml:=N.kM.len;refine ak<|LI T (by refine ah d7 ?_;exact V) (P.mono<|by decide) y S X rfl rfl rfl Q.sz Q.ne (λp i e=>be (Q.ex p i e) λq z=>⟨q,z.2.2.1⟩) (λp i v x kz t e Y jx hv ip=>?_) λp i q v x kz t e ew Y jx hv ip=>?_
 ·have z:=Q.ok p i e;have d:=KX (c.hide (D.trans Y) λa q=>.inr<|hfw a q) jx hml z.1;exact av ⟨p,_,kz,O,z.2.2,d.1,d.2,am4 p v z.2.1 hv,l.trans<|jH.trans ip⟩
 ·refine be (Q.ex p i e) λr z=>?_;have d:=KX (c.hide (D.trans Y) λa q=>.inr<|hfw a q) jx hml z.1;exact av ⟨r,_,kz,O,z.2.2.2,d.1,d.2,am4 r v (ON z.2.2.1 z.2.1) (by rw[al<|ah z.2.2.1.symm ew];exact hv),l.trans<|jH.trans ip⟩
inductive T3:List Value->Prop
 |nil:T3 []
 |cons (a:Int) (t:GY) (b:Int) (u:GY) (c:Value) (l:List Value) (h:T3 l):T3 (.int a t::.int b u::c::l)
theorem T3.ok (h:T3 l):TriplesOk l:=by
 induction h with
 |nil=>exact trivial
 |cons _ _ _ _ _ _ _ o=>exact o
def TT:xz:=λK O h=>K 939=am/\939∉O/\∃z,h.get? 939=ac (tabObj z)/\T3 z.toList
theorem TT.step {K j:aO} (t:TT K μ h) (st:Step W K μ h j l h') (Z:939∉W):TT j l h':=by refine i8 t λk m S=>aI S λz e g=>?_;exact⟨st.lH k e,st.lG m e,z,st.same e m Z (λf=>by cases f.1),g⟩
theorem T3.snoc (h:T3 l) (a b:Int) (t u:GY) (c):T3 (l++[.int a t,.int b u,c]):=by
 induction h with
 |nil=>exact .cons _ _ _ _ _ _ .nil
 |cons _ _ _ _ _ _ _ o=>exact .cons _ _ _ _ _ _ o
theorem Pm {K:aO} (x:tX P h h') (U:∃o,h'.get? P=ac o):Step [P] K O h K O h':=
 ⟨rfl,λ_ _ e=>e,λ_ _ e=>.inl e,⟨[],by simp,by simp⟩,λb o B=>by
     by_cases q:b=P
     ·subst q;exact U
     ·exact⟨o,x b o q B⟩,
  λb o B _ F=>⟨o.slots,x b o (λq=>F<|by simp[q]) B,.inl rfl⟩,λ_ q=>.inl q⟩
theorem Inv.ext {X K:aO} (N:Inv X K O H M h) (t:TT K O h) (x:tX 939 h h'):Inv X K O H M h':=by refine i8 t λk m Z=>aI Z λz e g=>?_;refine N.kO (S:=[939]) (λb B=>?_) λb o B i=>⟨o.slots,x b o (λq=>B<|by simp[q]) i,.inl rfl⟩;rw[aV] at B;subst B;refine⟨k,m,λo L fo=>?_⟩;rw[e] at L;obtain rfl:=al L;cases fo.1
noncomputable def ah2:Expr:=.Lambda ⟨[],[⟨"kinds",am,⟨594,18,594,23⟩⟩,⟨"parts",am,⟨594,25,594,30⟩⟩],am,[],[],am,[]⟩ (.Name "kind" ⟨594,32,594,36⟩)
 ⟨.function,[("kinds",.local),("parts",.local),("kind",.free)],ai,ai,[]⟩ ⟨594,11,594,36⟩
theorem V0:(bH 155).2.1=[.Return (ac ah2) ⟨594,4,594,36⟩]:=rfl
theorem aaa (P):FnAt (cD P) 944 (bH 155).1 (bH 155).2.1 (bH 155).2.2 []:=my rfl
theorem VK (h:cD P 944=ac o) (g:o.data=.func fd):fd.code=.ref 943:=by rw[(by kernel_rfl:cD P 944=ac (H.Qg P))] at h;obtain rfl:=al h;cases g;rfl
theorem adX (x:∀a o,cD P a=ac o->h.get? a=ac o):CodeHd h 943 939:=
 ⟨_,_,_,_,_,_,_,_,_,x 943 _ (by kernel_rfl:cD P 943=ac (H.C4 P)),rfl,rfl,rfl,rfl,rfl,rfl,rfl,rfl,by decide⟩
theorem Uu (P):Oo (vh P) "__builtins__"=ac (.ref 4):=rfl
theorem afB {h:eK} (x:∀a o,cD P a=ac o->h.get? a=ac o):∃A,h.Ns Er A/\h.BuiltinsAt A 939:=by exact iI (n4<|ti P) λo n y b=>⟨lf<|ag<|vh P,⟨o,_,n,x _ _ y,b,jQ<|qn P,λ_=>rfl⟩,4,_,ah (qQ _ _)<|Uu P,by decide,by decide,by decide,x 4 _ (by kernel_rfl:cD P 4=ac (boot_o_4 P)),rfl,rfl,rfl⟩
section
variable {K:aO}
theorem NT {p:PV} (I:kA (n+1) A M) (N:Inv (cD w.params) K O H M s.heap) (t:VR K O p v) (tt:TT K O s.heap)
 (L:∀r s' j,Step [939] K O s.heap j O s'.heap->Inv (cD w.params) j O H M s'.heap->TT j O s'.heap->aW s s'->Q r s'):aD (MM w) A (call (.ref 944) [v] []) Q E s:=by
 refine oW<|wF (aaa _) (jR _) I N (b8 t eA) rfl (λo fd Q' G g W hdf V E'=>?_) λenv u k T hA hfw c h U l hfl he=>?_
 ·have Y:j9 s.heap fd.defaults []:=by
   rcases hdf with ⟨q,_⟩|⟨d,od,m,Go,J,R,y,X⟩
   ·exact .inl ⟨q,rfl⟩
   ·have:=X.length
    induction Go with
    |nil=>exact .inr ⟨d,od,m,J,N.sub _ _ (N.stat _ _ R),y⟩
    |cons a b=>simp at this
  refine iK (by refine(af W)▸?_;exact(aaa w.params).par) Y (by refine(af W)▸?_;rfl) (by refine(af W)▸?_;decide+kernel) ?_;refine(af W)▸?_;exact V
 refine wB he λo fd q G g Z=>?_;rw[VK G g] at Z;refine(af V0)▸?_;refine aI (afB λa o q=>h.sub _ _ (h.stat _ _ q)) λmg hg hb=>?_;have C:=adX λa o q=>h.sub _ _ (h.stat _ _ q);have WI:=tt.step c<|by simp
 refine i8 (id WI) λk9 m9 S=>aI S λz e9 ok9=>?_;have hcl:∃cl,closureFor ⟨.function,[("kinds",.local),("parts",.local),("kind",.free)],ai,ai,[]⟩ env=(pure cl:jN _):=⟨[("kind",s.heap.objs.size+1)],by refine(af Z)▸?_;rfl⟩;refine be hcl λcl hcl=>?_
 have F:∀(f:eK) (B:uO) (tk:GY) (r:Value),tX 939 u.heap f->(∃ps',f.get? 939=ac (tabObj ps')/\T3 ps'.toList)->Q r {u with heap:=f.push B,toks:=tk}:=λf B tk r x Yk=>aI Yk λps' e' ok'=>by have x':tX 939 u.heap (f.push B):=λb o q e=>aR _ (x b o q e);have i:=aR B e';refine L r _ k ?_ (h.ext WI x').pop ⟨k9,m9,ps',i,ok'⟩ (l.trans ⟨rfl,rfl⟩);exact(c.mono<|by simp).trans<|Pm x' ⟨_,i⟩
 refine ak<|gS<|kla_eval (by rfl) ?_
 cases P:codeAmong ⟨594,11,594,36⟩ z.toList with
 |none=>
  refine kla_makeFunction hcl T.fe.glob hg (by refine(af Z)▸?_;rfl) C e9 ok9.ok P (by decide) hb λD ctv f tk x J R y X=>?_;refine av<|F f _ tk _ x ⟨_,X,?_⟩
  refine(af Array.toList_append)▸?_;exact ok9.snoc _ _ _ _ _
 |some cv=>refine kla_makeFunctionHit hcl T.fe.glob hg (by refine(af Z)▸?_;rfl) C e9 ok9.ok P hb λctv f tk x J=>?_;exact av<|F f _ tk _ (λb o _ e=>x b o e) ⟨z,x _ _ e9,ok9⟩
end
structure RS (P:cG) (env:mh) (ns:List an) (σ:bO) (μ:List bn) (H:Hp) (fs:List mh) (K:aO) (h:eK):Prop where
 iv:Inv (cD P) K μ H fs h
 fr:aT env ns σ K μ h
 tt:TT K μ h
theorem Qk {X K j:aO} (N:Inv X K μ H M h) (P:Inv X j l H k f) (st:Step W K μ g j l f):l=μ:=by
 refine aI st.pre λQ S _=>?_;subst S;have J:=N.kM.len;have R:=P.kM.len;rw[aJ] at R
 (refine(cy.mp<|by exact cg (cQ<|bk [aa H,aa μ,aa Q] [] [(1,aK,bg),(1,.a bg cu,aK),(1,xi ei,cu)] rfl (cl<|ao<|af J)<|cl<|ao R)<|cQ<|bk [aa Q] [] [(1,xi aK,ei)] rfl)▸?_;rw[fq])
theorem spliced_cons
 (h:aD M A t (λv q=>aD M A (gG<|G.map λt=>(ai,t)) (λU F=>Q (v::U) F) E q) E s):aD M A (gG<|(t::G).map λt=>(ai,t)) Q E s:=by
 (refine bv▸?_;rw[gG])
 refine ak<|a0 h (λB q J=>?_) λ_ _ x=>x
 simp only[bP,if_false];refine pe<|ak<|a9<|a0 J (λz F R=>?_) λ_ _ x=>x
 exact av R
theorem fH (h:Q [] s):aD M A (gG<|([]:List (jN Value)).map λt=>(ai,t)) Q E s:=by(refine(af rV)▸?_;rw[gG]);exact av h
section
variable {K:aO}
abbrev kn (b:List (an×f8)):Cx:=⟨b,yn,[]⟩
theorem evG (T:dk (cD w.params) (kn b) Z) (Y:bK w (cD w.params) n B e) (I:kA n A M) (N:Inv (cD w.params) K O H M s.heap) (fr:aT Z (b.map (·.1)) V K O s.heap)
 (J:bp B (bR (kn b) ai e) V H=.ok p H) (L:∀v F j,VR j O p v->Inv (cD w.params) j O H M F.heap->aT Z (b.map (·.1)) V j O F.heap->Step [] K O s.heap j O F.heap->aW s F->Q v F):aD (MM w) A (eval e Z) Q E s:=by
 refine a0 (Y (kn b) Z V ai T A s K O H M I N fr<|by refine J▸?_;exact xd) (λv F a=>zd.casesOn a λq i j l R st P t S=>?_) λx F c=>yq.casesOn c λq i j l R _ _ _ _=>by rw[J] at R;cases R
 rw[J] at R;cases R;have W:=Qk N P st;subst W;exact L v F j t P (dw _ _ _ _ _ _ fr st) st S
theorem sA (T:dk (cD w.params) (kn b) Z) (N:bK w (cD w.params) n B e) (I:kA n A M) (R:RS w.params Z (b.map (·.1)) V O H M K s.heap)
 (J:bp B (bR (kn b) ai e) V H=.ok p H) (L:∀v F j,VR j O p v->RS w.params Z (b.map (·.1)) V O H M j F.heap->Step [] K O s.heap j O F.heap->aW s F->Q v F):aD (MM w) A (eval e Z) Q E s:=
 evG T N I R.iv R.fr J λv F j t P Y st S=>L v F j t ⟨P,Y,R.tt.step st<|by simp⟩ st S
theorem aac (T:dk (cD w.params) (kn b) Z) (N:∀e,bK w (cD w.params) n B e) (I:kA n A M) (R:RS w.params Z (b.map (·.1)) V O H M K s.heap) (d:u.any isStarred=ai)
 (J:ol B (pN (kn b) u) V H=.ok z H) (L:∀U F j,bV j O z U->RS w.params Z (b.map (·.1)) V O H M j F.heap->Step [] K O s.heap j O F.heap->aW s F->Q U F):aD (MM w) A (gG<|D9 G<|rl u Z) Q E s:=by
 refine a0 (qq T d (λe _=>N e) A s K O H M I R.iv R.fr<|by refine J▸?_;exact xd) (λv F a=>zd.casesOn a λq i j l Y st P t S=>?_) λx F c=>yq.casesOn c λq i j l Y _ _ _ _=>by rw[J] at Y;cases Y
 rw[J] at Y;cases Y;have W:=Qk R.iv P st;subst W;exact L v F j t ⟨P,dw _ _ _ _ _ _ R.fr st,R.tt.step st<|by simp⟩ st S
theorem Rk (P):jL (cD P) "always" (.ref 944):=oK rfl
theorem ZZ (P):jL (cD P) "pure" (.ref 951):=oK rfl
theorem Xy (Y:FnAt X a params body scope e) (N:Inv X K O H M h):∃o fd,h.get? a=ac o/\o.data=.func fd:=by exact cN Y.ex λo fd c E _=>⟨o,fd,N.sub _ _ (N.stat _ _ c),E⟩
theorem B8 (T:dk (cD w.params) (kn b) Z) (W:b.lookup ("always":an)=ac .globalImplicit) (N:bK w (cD w.params) n B Y) (I:kA (n+1) A M) (X:939∉aY Z) (R:RS w.params Z (b.map (·.1)) V O H M K s.heap) (U:isStarred Y=ai)
 (z:bp B (bR (kn b) ai Y) V H=.ok p H) (L:∀v F j,RS w.params Z (b.map (·.1)) V O H M j F.heap->Step [939] K O s.heap j O F.heap->aW s F->Q v F):
 aD (MM w) A (eval (.Call (.Name "always" d) [Y] [] G) Z) Q E s:=by
 (refine kW (dN ..)<|(dD G Z [Y]<|by simp[U])▸?_)
 refine f6 (λ_ _ h=>ir T.fe (by decide) (T.gi _ W) R.iv (Rk _) h)<|iA<|spliced_cons<|sA T N (I.mono<|ej _) R z λv u k t jM c l=>fH ?_
 refine iI (Xy (aaa w.params) jM.iv) λo fd J P=>⟨.inr<|.inl ⟨_,o,fd,rfl,J,P⟩,NT I jM.iv t jM.tt λr C g D y x f=>?_⟩;have S:=J3 (u4 X) _ _ _ _ _ _ jM.fr D;exact L r C g ⟨y,S,x⟩ ((c.mono<|by simp).trans D)<|l.trans f
end
theorem BA (h:aa l=3):∃a b c,l=[a,b,c]:=by
 cases l with|nil=>cases h|cons a l=>?_
 cases l with|nil=>cases h|cons b l=>?_
 cases l with|nil=>cases h|cons c l=>?_
 cases l with|nil=>exact⟨a,b,c,rfl⟩|cons d l=>cases h
theorem VZ:(bH 156).2.1=[.Return (ac<|.Tuple [.Name "many" ⟨596,12,596,16⟩,.Name "many" ⟨596,18,596,22⟩,.Name "deed" ⟨596,24,596,28⟩,.Call (.Name "always" ⟨596,30,596,36⟩) [.Name "kind" ⟨596,37,596,41⟩] [] ⟨596,30,596,42⟩,.Constant (.bool aq) 0 ⟨596,44,596,48⟩] 0 ⟨596,11,596,49⟩) ⟨596,4,596,49⟩]:=rfl
theorem Z9 (P):FnAt (cD P) 951 (bH 156).1 (bH 156).2.1 (bH 156).2.2 []:=my rfl
section
variable {K:aO} {A:iN}
theorem RS.ne (C:TT f O g) (m:∀a∈aY env',g.get? a=am):939∉aY env':=λq=>by refine i8 C λ_ _ S=>aI S λz e _=>?_;rw[m _ q] at e;exact aE e
theorem z8 (Z:FnAt (cD P) a params body scope []) (r:(params.args.map (·.arg)).Nodup) (C:aa B=aa params.args) (N:Inv (cD P) K O H M s.heap):
 ∀(o) (fd:wY) (Q),cD P a=ac o->o.data=.func fd->fd.params=params->((fd.defaults=.none/\([]:List PV)=[])\/∃d z n j,fd.defaults=.ref d/\cD P d=ac z/\z.data=.seq (ag j) n/\bV (cD P) [] [] j)->
  Q ((params.args.map (·.arg)).zip B) s->∀E,aD (MM w) A.in1 (rn fd ⟨B,[]⟩) Q E s:=λo fd c G g W e V f=>by
 have Y:j9 s.heap fd.defaults []:=by
  rcases e with ⟨q,_⟩|⟨d,z,m,j,J,R,y,X⟩
  ·exact .inl ⟨q,rfl⟩
  ·have:=X.length
   induction j with
   |nil=>exact .inr ⟨d,z,m,J,N.sub _ _ (N.stat _ _ R),y⟩
   |cons a b=>simp at this
 refine iK (by refine(af W)▸?_;exact Z.par) Y (by(refine(af W)▸ah (aC ..) ?_);exact af C) (by exact(af W)▸r) ?_;exact(af W)▸V
theorem T6 {k:Int} (I:kA (n+2) A M) (iv:Inv (cD w.params) K O H M s.heap) (hv:bV K O [.int k,.ref d,p] [B,v2,v3]) (tt:TT K O s.heap)
 (L:∀r F j,VR j O (.tup [.int k,.int k,.ref d,.AM,.bool aq]) r->Step [939] K O s.heap j O F.heap->Inv (cD w.params) j O H M F.heap->TT j O F.heap->aW s F->Q r F):aD (MM w) A (call (.ref 951) [B,v2,v3] []) Q E s:=by
 refine jZ (Z9 _) (jR _) I iv hv rfl (z8 (Z9 _) (by decide+kernel) rfl iv) λZ u K₁ T P m c h U eX V=>?_;have v:RS w.params Z _ _ O H (Z::M) K₁ u.heap:=⟨h,U,tt.step c<|by simp⟩;have X:=RS.ne tt m;refine(af VZ)▸?_;refine ak<|gS<|mX ?_
 rw[dD _ Z _ (by rfl)];refine spliced_cons<|sA T (zC _) (P.mono<|ej _) v rfl λW C g J z D f=>?_
 refine spliced_cons<|sA T (zC _) (P.mono<|ej _) z rfl λa2 x kz R wM Y o=>?_
 refine spliced_cons<|sA T (zC _) (P.mono<|ej _) wM rfl λa3 t G y ri b N=>?_
 refine spliced_cons<|B8 T rfl (zC _) P X ri rfl rfl λa4 s₅ q GU e a=>?_
 refine spliced_cons<|sA T (zC _) (P.mono<|ej _) GU rfl λa5 s₆ Jy h5 GT i yT=>?_
 refine fH ⟨by refine(af bh)▸?_;simp,?_⟩;have S45:=e.trans<|i.mono<|by simp
 refine gN (qI (l:=[.int k,.int k,.ref d,.AM,.bool aq]) GT.iv<|b8 (fD (Y.trans b) J |>fD S45)<|b8 (fD b R |>fD S45)<|b8 (fD S45 y)<|b8 (show VR Jy O .AM a4 from trivial)<|b8 h5 eA) λj At st' hv'=>av ?_;have S:=((c.trans<|D.trans<|Y.trans b).mono<|by simp).trans S45;exact L _ _ j hv' (S.trans<|st' _) At.pop (GT.tt.step (st' [])<|by simp) (eX.trans<|f.trans<|o.trans<|N.trans<|a.trans<|yT.trans ⟨rfl,rfl⟩)
theorem PA {k:Int} (T:dk (cD w.params) (kn P) Z) (W:P.lookup ("pure":an)=ac .globalImplicit) (N:∀e,bK w (cD w.params) n B e) (I:kA (n+2) A M) (X:939∉aY Z) (R:RS w.params Z (P.map (·.1)) V O H M K s.heap)
 (hs:D.any isStarred=ai) (hl:D≠[]) (he:ol B (pN (kn P) D) V H=.ok [.int k,.ref d,p] H)
 (L:∀v F K',VR K' O (.tup [.int k,.int k,.ref d,.AM,.bool aq]) v->RS w.params Z (P.map (·.1)) V O H M K' F.heap->Step [939] K O s.heap K' O F.heap->aW s F->Q v F):
 aD (MM w) A (eval (.Call (.Name "pure" fp) D [] G) Z) Q E s:=by
 refine kW (dN ..)<|f6 (λ_ _ h=>ir T.fe (by decide) (T.gi _ W) R.iv (ZZ _) h) ?_
 obtain⟨m,es,rfl⟩:∃m es,D=m::es:=by cases D with|nil=>exact absurd rfl hl|cons a b=>exact⟨a,b,rfl⟩
 have j:=aac (E:=E) (G:=G) T N (I.mono<|co _ _) R hs he (Q:=λU q=>((∃id,ge 951=.builtin id)\/(∃a o fd,ge 951=.ref a/\q.heap.get? a=ac o/\o.data=.func fd)\/wW (MM w) q.heap (nE<|.ref 951) .machine)/\aD (MM w) A (call (.ref 951) U []) Q E q) λU u K₁ t jM c l=>?_
 ·rw[dD G Z (m::es) hs] at j|-
  exact iA j
 ·refine iI (Xy (Z9 w.params) jM.iv) λo fd J h2=>?_
  obtain⟨v1,z,i,rfl⟩:∃v1 z i,U=[v1,z,i]:=by exact BA t.length
  refine⟨.inr<|.inl ⟨_,o,fd,rfl,J,h2⟩,T6 I jM.iv t jM.tt λr C g hr Y y x f=>?_⟩;have S:=J3 (u4 X) _ _ _ _ _ _ jM.fr Y;exact L r C g hr ⟨y,S,x⟩ ((c.mono<|by simp).trans Y)<|l.trans f
theorem TU (T:dk (cD w.params) (kn sc) Z) (W:sc.lookup ("always":an)=ac .globalImplicit) (hE:∀e,bK w (cD w.params) n B e) (I:kA (n+1) A M) (X:939∉aY Z) (R:RS w.params Z (sc.map (·.1)) V O H M K s.heap)
 (d:[m,e2,e3,C,kd].any isStarred=ai)
 (J:bp B (bR (kn sc) ai m) V H=.ok c H) (h2:bp B (bR (kn sc) ai e2) V H=.ok q2 H) (y:bp B (bR (kn sc) ai e3) V H=.ok k H) (h4:bp B (bR (kn sc) ai kd) V H=.ok q4 H) (h5:bp B (bR (kn sc) ai C) V H=.ok q5 H)
 (L:∀v F j,VR j O (.tup [c,q2,k,.AM,q5]) v->RS w.params Z (sc.map (·.1)) V O H M j F.heap->Step [939] K O s.heap j O F.heap->aW s F->Q v F):
 aD (MM w) A (eval (.Tuple [m,e2,e3,.Call (.Name "always" fp) [kd] [] l,C] 0 pos) Z) Q E s:=by
 simp only[vP,abA,abb,nV] at d;refine DE d λs1 s2 s3 s5 s4=>?_;refine mX ?_;rw[dD _ Z _ (by simp[s1,s2,s3,s5];rfl)];refine spliced_cons<|sA T (hE _) (I.mono<|ej _) R J λa1 s₂ g u z D f=>?_
 refine spliced_cons<|sA T (hE _) (I.mono<|ej _) z h2 λa2 x kz g2 wM Y o=>?_
 refine spliced_cons<|sA T (hE _) (I.mono<|ej _) wM y λU t G g3 ri b N=>?_
 refine spliced_cons<|B8 T W (hE _) I X ri s4 h4 λa4 p q GU EU a=>?_
 refine spliced_cons<|sA T (hE _) (I.mono<|ej _) GU h5 λa5 s₆ Jy g5 GT i yT=>?_
 refine fH ⟨by refine(af bh)▸?_;simp,?_⟩;have r:=EU.trans<|i.mono<|by simp
 refine gN (qI GT.iv<|b8 (fD (Y.trans b) u |>fD r)<|b8 (fD b g2 |>fD r)<|b8 (fD r g3)<|b8 (show VR Jy O .AM a4 from trivial)<|b8 g5 eA) λj P st' h=>?_;have S:=((D.trans<|Y.trans b).mono<|by simp).trans r;exact L _ _ j h ⟨P,dw _ _ _ _ _ _ GT.fr (st' []),GT.tt.step (st' [])<|by simp⟩ (S.trans<|st' _) (f.trans<|o.trans<|N.trans<|a.trans<|yT.trans ⟨rfl,rfl⟩)
end
open RS renaming ne->akV
noncomputable abbrev m4 (w:dG):=XY bS w
structure DS (w:dG) (d:bn) (names:List an) (ps:List PV) (K:aO) (μ:List bn) (h:eK):Prop where
 kvs:∃kvs,h.DictOf (m4 w) d kvs/\kvs.map (·.1)=names/\bV K μ ps (kvs.map (·.2))
 kd:K d=am
 md:d∉μ
theorem n0 {h:eK} (x:h.DictOf (m4 w) d kvs):∃o,h.get? d=ac o/\¬b5 o/\∀Z:eK,Z.get? d=ac o->Z.DictOf (m4 w) d kvs:=by refine wB x λo u Q L P r=>?_;exact⟨o,L,λf=>by have:=P.1;rw[f.1] at this;exact absurd this (by decide),λZ e=>⟨o,u,Q,e,P,r⟩⟩
theorem DS.step {K j:aO} (x:DS w d U X K μ h) (st:Step W K μ h j Z h') (g:d∉W):DS w d U X j Z h':=by
 obtain⟨⟨p,z,m,i⟩,Y,md⟩:=x
 exact gN (n0 z) λo L n A=>⟨⟨p,A _ (st.same L md g n),m,by
  have:∀l vs,bV K μ l vs->bV j Z l vs:=λl vs r=>by refine aI st.pre λQ S _=>?_;subst S;exact rH st.par st.kle l vs r
  exact this _ _ i⟩,st.lH Y L,st.lG md L⟩
theorem pairs_len (h:Pairs (m4 w) u p):u.map (·.val)=p.map (·.2)/\∀(i:Nat) (k) (e:cF),(p.map (·.1))[i]?=ac k->u[i]?=ac e->∃t,e.key=.str k t:=by
 induction h with
 |nil=>exact⟨rfl,λi k e h=>aE h⟩
 |cons J R r o=>
  refine⟨by rw[bv,bv,o.1,R],λi k e h g=>?_⟩
  induction i with
  |zero=>(refine((al h))▸((al g))▸?_);exact Lj J
  |succ i=>exact o.2 i k e h g
theorem DS.freeze {w:dG} {d:bn} {U:List (List Nat)} {X K:aO} (x:DS w d (U.map λl=>⟨ag l⟩) I K O h) (N:Inv X K O H M h) (hP:K.P=w.params) (g:d≠1):
 ∃o,h.get? d=ac o/\Inv X (gk K d o) O H M h/\VR (gk K d o) O (.dct U I) (.ref d):=by
 obtain⟨⟨p,z,m,A⟩,Y,md⟩:=x;refine gN (n0 z) λo₁ y n _=>?_;refine I6 z λo Z Q L hc b G W F=>?_;obtain rfl:o=o₁:=al<|ah L.symm y
 refine⟨o,L,N.freeze L Y md n,?_⟩;refine bD (pairs_len W) λc E=>?_;have C:=congrArg aa c;have S:=congrArg aa m;simp only[aC,uL] at C S;refine⟨d,o,Q,Z,rfl,fv _ _ _,hc,g,b,by exact cg (cQ<|bk [aa p,Z.size,aa U] [] [(1,aK,bg),(1,cu,aK),(1,xi bg,cu)] rfl (cl<|ao<|af C)<|cl<|ao<|af S)<|cQ<|bk [Z.size,aa p,aa U] [] [(1,aK,bg),(1,bg,cu),(1,xi cu,aK)] rfl (cl<|ao C)<|cl<|ao S,λi k e D J=>?_,?_⟩
 ·have v:(p.map (·.1))[i]?=ac (⟨ag k⟩:an):=by(refine m▸ah bZ ?_;refine D▸?_);rfl
  refine be (E i _ e v J) λt V=>aI (G e<|by rw[<-J2];exact br J) λR f r=>?_;refine⟨?_,t,V⟩;have s:fJ R e.key=true:=f;rw[V] at s;have:R=⟨ag k⟩:=by refine be (Lj s) λu T=>?_;injection T with T;exact af T
  subst this;refine ah r ?_;show hashStr w _=gq (gk K d o).P _;refine hP▸?_;rfl
 ·rw[c];have:=rH (K:=K) (K':=gk K d o) (Q:=[]) rfl (λa B q=>by refine ah (db<|by rintro rfl;rw[Y] at q;exact aE q) ?_;exact q) I _ A;simpa using this
def Gives (w:dG) (Z:mh) (b:List (an×f8)) (V:bO) (O:List bn) (H:Hp) (M:List mh) (A:iN) (E:Value->bj->Prop) (e:bL) (p:PV):Prop:=
 ∀(K:aO) (s:bj) (Q:Value->bj->Prop),RS w.params Z (b.map (·.1)) V O H M K s.heap->
  (∀v F j,VR j O p v->RS w.params Z (b.map (·.1)) V O H M j F.heap->Step [939] K O s.heap j O F.heap->aW s F->Q v F)->aD (MM w) A (eval e Z) Q E s
abbrev afP:=an×oq×bL×PV
noncomputable def As (Z:mh) (G:oq) (l:List afP):List (jN Value×jN Value):=l.map λx=>(eval (.Constant (.str x.1) 0 x.2.1) Z,(do let v <-eval x.2.2.1 Z;f7 G;pure v))
theorem PY (l):∀K s Q,(∀x∈l,Gives w Z b V O H M A E x.2.2.1 x.2.2.2)->RS w.params Z (b.map (·.1)) V O H M K s.heap->
 (∀U F j p,Carries (m4 w) U p->p.map (·.1)=l.map (·.1)->bV j O (l.map (·.2.2.2)) (p.map (·.2))->RS w.params Z (b.map (·.1)) V O H M j F.heap->Step [939] K O s.heap j O F.heap->aW s F->Q U F)->
 aD (MM w) A (evalPairs<|As Z G l) Q E s:=by
 induction l with
 |nil=>exactλK s Q _ R L=>evalPairs_nil<|L [] s K [] trivial rfl eA R (iT ..)<|.refl s
 |cons x l o=>
  intro K s Q S R L;refine ajF<|qr<|ak<|S x bd K _ _ R λv u k t X c Y=>f6 (λ_ _ h=>cf h)<|av ?_
  refine o k u _ (λy W=>S y<|bc _ W) X λU C g p P m i z D f=>L _ C g ((x.1,v)::p) ⟨by show fJ x.1 (.str x.1 s.toks)=aq;simp[fJ],rfl,P⟩ (by rw[bv,bv,m]) (b8 (fD D t) i) z (c.trans D) (jy ⟨rfl,rfl⟩<|Y.trans f)
theorem IW (m) (f:(Option (jN Value)×jN Value)->(Option bn×List (jN Value×jN Value))->jN (ForInStep<|Option bn×List (jN Value×jN Value)))
 (Y:∀(p:jN Value×jN Value) (run:List (jN Value×jN Value)),aa run+1<17->f (ac p.1,p.2) (m,run)=pure (.yield (m,run++[p]))):
 ∀u F run,aa run+aa u<17->forIn ((u++F).map λp=>(ac p.1,p.2)) (m,run) f=forIn (F.map λp=>(ac p.1,p.2)) (m,run++u) f
 |[],F,run,_=>by simp
 |p::r,F,run,h=>by
  (refine(af Tf)▸bv▸ah (cC ..)<|(Y p run<|by simp at h;exact cQ<|bk [aa run,aa r] [] [(1,xi<|.a aK<|xi bg,.n 17),(1,xi<|.n 17,xi<|xi aK)] rfl<|cl h)▸?_;refine ah (pure_bind ..) ?_)
  have:=IW m f Y r F (run++[p])<|by simp at h|-;exact cQ<|bk [aa run,aa r] [] [(1,xi<|.a aK<|xi bg,.n 17),(1,xi<|.n 17,xi<|.a (xi aK) bg)] rfl<|cl h
  simpa using this
theorem U8 (m) (f:(Option (jN Value)×jN Value)->(Option bn×List (jN Value×jN Value))->jN (ForInStep<|Option bn×List (jN Value×jN Value)))
 (Y:∀(p:jN Value×jN Value) (run:List (jN Value×jN Value)),aa run+1<17->f (ac p.1,p.2) (m,run)=pure (.yield (m,run++[p])))
 (u) (h:aa u<17):forIn (u.map λp=>(ac p.1,p.2)) (m,([]:List (jN Value×jN Value))) f=pure (m,u):=by
 have:=IW m f Y u [] []<|by simpa using h
 simpa using this
theorem DF (a) (b:jN Value×jN Value) (c) (I:aa a=16) (f:c≠[]) (P:aa c<17):
 dictDisplay ((a++b::c).map λp=>(ac p.1,p.2))=(do
  let d <-SJ (a++[b]);let sub <-holding [.ref d] (SJ c)
  (holding [.ref d,.ref sub]<|mergeMapping d (.ref sub) ai).onRaise λx=>do let _ <-holding [.ref d,x] (runValue<|.builtin "proto.let_go" {})
  pure (.ref d)):=by
 have L:∀(run:List (jN Value×jN Value)) (p:jN Value×jN Value),aa run+1<17->(aa (run++[(p.1,p.2)])==17)=false:=λrun p h=>by simp;exactλM=>bk [aa run] [] [(1,xi<|xi aK,.n 17),(1,.n 16,aK)] rfl (cl h)<|cl<|ao<|af M
 have e:(aa (a++[(b.1,b.2)])==17)=true:=by simp[I]
 have g:((a++[(b.1,b.2)]).isEmpty)=false:=by simp
 unfold dictDisplay;dsimp only;rw[IW am _ (λp run h=>by simp only[L run p h,bP,if_false]) a (b::c) [] (by simp[I])]
 (refine(gK ..)▸bv▸?_;rw[cC])
 simp only[e,if_true,g,bP,if_false,bind_assoc,pure_bind];congr 1;funext d;rw[U8 (ac d) _ (λp run h=>by simp only[L run p h,bP,if_false]) c P];have i:c.isEmpty=false:=by cases c with|nil=>exact absurd rfl f|cons _ _=>rfl
 simp only[pure_bind,i,bP,if_false,bind_assoc]
theorem Mi (n:(m4 w).is k key=aq) (z:s.heap.DictOf (m4 w) d p) (Y:k∉p.map (·.1)) (N:aa p<=1000)
 (V:∀f,f.DictOf (m4 w) d (p++[(k,v)])->fQ d s.heap f->Q () {s with heap:=f}):aD (MM w) A (dictPut d ((m4 w).hash k) key v) Q E s:=by
 refine I6 z λo u Z L P g G W F=>?_;have m:=W.length;have i:aa u.toList=u.size:=by simp
 have h:(u.findIdx? λe=>(m4 w).is k e.key)=p.findIdx? λX=>decide (X.1=k):=by refine((W.findIdx k))▸?_;obtain⟨l⟩:=u;simp
 have c:(p.findIdx? λX=>decide<|X.1=k)=none:=by rw[Eh];intro x T;rw[decide_eq_false_iff_not];rintro rfl;exact Y<|List.mem_map_of_mem T
 unfold dictPut;refine ak<|wpAny_dictFind_of n L g G ?_
 (refine h▸c▸?_)
 refine wpAny_updateDictKeys L g<|V _ ⟨_,_,Z+1,ek _ L (Obj.isFreed_of_dict<|N9 g _),P.mapDictKeys _,N9 g _,G.push n _,?_,?_⟩ (ds ..)
 ·have:=W.append n ((m4 w).hash k) v;obtain⟨l⟩:=u;simpa using this
 ·(refine b4▸?_;rw[fO])
  refine⟨F,by simp,?_⟩;intro a I b B;simp only[bv,rV,aV] at B;subst B
  exactλe=>Y<|e▸I
theorem OY {k1 j:an} (g:s.heap.DictOf (m4 w) d p) (L:s.heap.get? o=ac h)
 (Y:((p++[(k1,B),(j,z)]).map (·.1)).Nodup) (N:aa p<=900)
 (step:∀(i:Nat) (k:an) (v:Value) (S:List (an×Value)) (T:eK) (R:ForInStep PUnit->bj->Prop),([(k1,B),(j,z)]:List (an×Value))[i]?=ac (k,v)->T.DictOf (m4 w) d S->T.get? o=ac h->k∉S.map (·.1)->aa S<=1000->
  (∀Z,Z.DictOf (m4 w) d (S++[(k,v)])->Z.get? o=ac h->fQ d T Z->R (.yield lp) {s with heap:=Z})->aD (MM w) A (f i lp) R E {s with heap:=T})
 (V:∀Z,Z.DictOf (m4 w) d (p++[(k1,B),(j,z)])->fQ d s.heap Z->Q lp {s with heap:=Z}):aD (MM w) A (forIn (dg 2) lp f) Q E s:=by
 rw[b4,fO] at Y;refine i8 Y λ_ c e=>?_;have n:k1∉p.map (·.1):=λq=>e _ q k1 bd rfl
 have J:j∉(p++[(k1,B)]).map (·.1):=λq=>by
  rw[b4,eG] at q;rcases q with q|q
  ·exact e _ q j (bc _ bd) rfl
  ·exact(ls.mp c).1<|aV.mp q▸bd
 (refine(show dg 2=[0,1] from rfl)▸kW (cC ..) ?_)
 refine ak<|step 0 k1 B p s.heap _ rfl g L n (aN N<|by decide) λT I x y=>?_
 show aD _ _ (forIn [1] lp f) _ _ _;refine kW (cC ..)<|ak<|step 1 j z _ T _ rfl I x J (by refine aJ▸?_;exact aN (Al N)<|by decide) λt b l a=>?_
 rw[fc] at b;exact av<|V t b<|y.trans a
theorem Mw {k1 j:an} (O:d≠o) (hoS:(o==oY)=ai) (g:s.heap.DictOf (m4 w) d p) (L:s.heap.DictOf (m4 w) o [(k1,B),(j,z)])
 (Y:((p++[(k1,B),(j,z)]).map (·.1)).Nodup) (U:p≠[]) (N:aa p<=900)
 (V:∀f,f.DictOf (m4 w) d (p++[(k1,B),(j,z)])->fQ d s.heap f->Q () {s with heap:=f}):aD (MM w) A (mergeMapping d (.ref o) ai) Q E s:=by
 have u:=L.typeIs;refine I6 (id g) λod esd epd m hcd hdd hkd hpd r=>I6 (id L) λoo G epo M hco y l hpo C=>?_;have J:G.size=2:=hpo.length
 have X:esd.isEmpty=false:=by
  have:=hpd.length
  cases q:esd.isEmpty with
  |false=>rfl
  |true=>rw[OK.mp q] at this;exact absurd (cy.mp this.symm) U
 refine ak<|wpAny_isInstance u isSubtype_dict_dict ?_
 refine f6 (λ_ _ h=>uM u F.slot_dict_iter.lookup h)<|pe ?_
 rw[beq_self_eq_true];refine s0 (by refine hoS▸?_;exact bq)<|ak<|A2 m hdd ?_
 refine(af X)▸?_;refine s0 bq<|ak<|A2 M y<|f6 (λ_ _ h=>agT M y h) ?_
 refine J▸?_;refine ak<|OY g M Y N (λi k v S T R D I x adU adE c=>?_) λf a b=>av<|V f a b
 have t:i<G.size:=J.symm▸(aB.mp D).1;refine ak<|A2 x y ?_
 refine(Co t)▸?_;refine bD (hpo.get? (e:=G[i]) (by simp[t]) D) λn hval=>?_;refine aI (l G[i]<|OL t) λH adS adT=>?_;obtain rfl:H=k:=(m4 w).inj _ _ _ adS n;dsimp only
 (refine(af adT)▸?_;refine(af hval)▸?_)
 refine ak<|a9<|s0 bq<|Mi (s:={s with heap:=T}) n I adU adE λW aix Z=>?_
 have P:W.get? o=ac oo:=ah (Z.2 o<|js O) x;refine ak<|agT (s:={s with heap:=W}) P y ?_
 exact s0 (λq=>absurd q<|by rw[bne_self_eq_false];exact bq)<|av<|c W aix P Z
section
variable {K:aO} {s:bj}
abbrev qy (w:dG) (Z:mh) (b:List (an×f8)) (V:bO) (O:List bn) (H:Hp) (M:List mh):=RS w.params Z (b.map (·.1)) V O H M
theorem RS.Sl (R:qy w Z b V O H M K h) (n:∃o,h.get? d=ac o/\¬b5 o) (Y:K d=am) (md:d∉O) (T:d∉aY Z) (W:d≠939) (X:fQ d h h') (U:∃o,h'.get? d=ac o):qy w Z b V O H M K h':=by
 refine aI n λo L n=>?_;have st:Step [d] K O h K O h':=jz X (by simp) U;refine⟨R.iv.H9 Y md X λB e f=>?_,J3 (u4 T) _ _ _ _ _ _ R.fr st,R.tt.step st<|by simp[js W]⟩
 ·rw[L] at e;obtain rfl:=al e;exact absurd f n
theorem zk (R:qy w Z b V O H M K s.heap):qy w Z b V O H M K (s.heap.push {cls:=.type "dict",data:=.dict #[]})/\DS w s.heap.objs.size [] [] K O (s.heap.push {cls:=.type "dict",data:=.dict #[]})/\
 Step [939] K O s.heap K O (s.heap.push {cls:=.type "dict",data:=.dict #[]})/\s.heap.objs.size∉aY Z/\s.heap.objs.size≠939:=by
 have r:=Ar s.heap {cls:=.type "dict",data:=.dict #[]};have a:=bX s.heap;refine⟨⟨R.iv.keep r,dw _ _ _ _ _ _ R.fr r.step,R.tt.step (r.step (W:=[]))<|by simp⟩,⟨⟨[],ajM _,rfl,eA⟩,R.iv.cO a,R.iv.dY a⟩,r.step,λq=>?_,λq=>?_⟩
 ·refine be (jf R.fr q) λo e=>?_;rw[a] at e;exact aE e
 ·refine i8 R.tt λ_ _ S=>aI S λz e _=>?_;rw[<-q,a] at e;exact aE e
theorem bV.app:∀{z g U B},bV K O z U->bV K O g B->bV K O (z++g) (U++B)
 |[],_,_,_,J,R=>by subst J;exact R
 |p::z,g,U,B,J,R=>by refine cN J λv r S t d=>?_;subst S;exact b8 t<|bV.app d R
theorem k4 (x:DS w d U Z K O h):∃o,h.get? d=ac o/\¬b5 o:=by refine nu ?_;intro a;obtain⟨⟨p,z,_⟩,_⟩:=x;exact gN (n0 z) λo L n _=>⟨o,L,n⟩
theorem sub_short (C:aa l<=15) (r:(l.map (·.1)).Nodup) (S:∀x∈l,Gives w Z b V O H M A E x.2.2.1 x.2.2.2) (R:qy w Z b V O H M K s.heap)
 (L:∀d F j,DS w d (l.map (·.1)) (l.map (·.2.2.2)) j O F.heap->s.heap.get? d=am->d∉aY Z->d≠939->qy w Z b V O H M j F.heap->Step [939] K O s.heap j O F.heap->aW s F->Q d F):
 aD (MM w) A (SJ<|As Z G l) Q E s:=by
 refine DE (zk R) λt D₀ g J N=>wpAny_subDict (knd:=m4 w) (by unfold As;exact(af (aC ..))▸C)<|PY l K _ _ S t λvs u k p hc m i jM c X=>?_
 have e:=D₀.step c<|by simp[N]
 refine nu ?_;intro v;obtain⟨⟨n,I,T,o⟩,Y,md⟩:=id e;obtain rfl:n=[]:=List.map_eq_nil_iff.mp T;refine⟨p,hc,I,λf U P=>?_⟩;rw[merged_nil_of_nodup p<|by exact m▸r] at U;refine gN (n0 U) λB y h _=>?_;have z:=jM.Sl (k4 e) Y md J N P ⟨B,y⟩;refine L _ _ k ⟨⟨p,U,m,i⟩,Y,md⟩ (bX _) J N z ((g.trans c).hide (jz (W:=[s.heap.objs.size]) P (by simp) ⟨B,y⟩) λa q=>.inr ?_) (jy ⟨rfl,rfl⟩<|X.trans ⟨rfl,rfl⟩);rw[aV] at q;subst q;exact bX _
theorem Vv (gd:g.get? d=am) (J:d∉aY Z) (h9:d≠939) (l):∀(K) (s) (Q:PUnit->bj->Prop) (names) (ps),(∀x∈l,Gives w Z b V O H M A E x.2.2.1 x.2.2.2)->
 (names++l.map (·.1)).Nodup->aa names+aa l<=900->qy w Z b V O H M K s.heap->DS w d names ps K O s.heap->Step [939] f O g K O s.heap->
 (∀F j,DS w d (names++l.map (·.1)) (ps++l.map (·.2.2.2)) j O F.heap->qy w Z b V O H M j F.heap->Step [939] f O g j O F.heap->aW s F->Q lp F)->
 aD (MM w) A (forIn (As Z G l) lp λ(x) (_:PUnit)=>(do
  let X <-x.1;let vv <-holding [X] x.2
  holding [X,vv] (dictSet d X vv)
  pure (fg lp):jN (ForInStep PUnit))) Q E s:=by
 induction l with
 |nil=>intro K s Q names ps _ _ _ R D st L;show aD _ _ (forIn [] _ _) _ _ _;exact kW X1<|av<|L s K (by simpa using D) R st<|.refl s
 |cons x l o=>
  intro K s Q names ps S r N R D st L;show aD _ _ (forIn ((eval (.Constant (.str x.1) 0 x.2.1) Z,(do let v <-eval x.2.2.1 Z;f7 G;pure v))::As Z G l) _ _) _ _ _;refine kW (cC ..)<|ak<|f6 (λ_ _ h=>qr (Z:=Z) (k:=0) (G:=x.2.1) h)<|ak<|a9<|ak<|S x (by simp) K _ _ R λv u K₁ t jM c eX=>f6 (λ_ _ h=>cf h)<|av ?_
  have e:=D.step c<|by simp[h9]
  obtain⟨⟨p,hm,m,i⟩,Y,md⟩:=id e;have hkl:aa p=aa names:=by(refine(m)▸?_;rw[aC])
  have C:aa names+(aa l+1)<=900:=by simpa using N
  refine ak<|a9<|wpAny_dictSet_pairs (by show fJ x.1 (.str x.1 s.toks)=aq;simp[fJ]) hm λh' U P=>av ?_
  have hst:stored p x.1 v=p++[(x.1,v)]:=by
   have:=SL p [(x.1,v)] (by
    (refine(af b4)▸(af m)▸?_)
    rw[bv,<-JS,<-fc] at r
    exact(fO.mp r).1)
   simpa[aaT] using this
  rw[hst] at U;refine gN (n0 U) λB ho' nf' _=>?_;have z:=jM.Sl (k4 e) Y md J h9 P ⟨B,ho'⟩;have T:DS w d (names++[x.1]) (ps++[x.2.2.2]) K₁ O h':=⟨⟨_,U,by simp[m],by refine(af b4)▸?_;exact bV.app i<|b8 t eA⟩,Y,md⟩;have lz:Step [939] f O g K₁ O h':=(st.trans c).hide (jz (W:=[d]) P (by simp) ⟨B,ho'⟩) λa q=>.inr<|by rw[aV] at q;subst q;exact gd
  refine o K₁ {u with heap:=h',toks:=u.toks+1} Q _ _ (λy hy=>S y<|by simp[hy]) (by simpa using r) (by simp;exact cQ<|bk [aa names,aa l] [] [(1,.a aK<|xi bg,.n 900),(1,xi<|.n 900,.a (xi aK) bg)] rfl<|cl C) z T lz λF j D' I st' so'=>?_;exact L F j (by simpa using D') I st'<|jy ⟨rfl,rfl⟩<|eX.trans<|jy ⟨rfl,rfl⟩ so'
end
theorem UC (h:aa (l.map f)=2):∃a b,l=[a,b]:=by
 refine nu ?_;intro d;cases l with|nil=>cases h|cons a l=>?_
 cases l with|nil=>cases h|cons b l=>?_
 cases l with|nil=>exact⟨a,b,rfl⟩|cons c l=>cases h
section
variable {K:aO}
theorem Pf (C:15<aa l) (N:aa l<=900) (r:(l.map (·.1)).Nodup) (S:∀x∈l,Gives w Z b V O H M A E x.2.2.1 x.2.2.2) (R:qy w Z b V O H M K s.heap)
 (L:∀d F j,DS w d (l.map (·.1)) (l.map (·.2.2.2)) j O F.heap->s.heap.get? d=am->d∉aY Z->d≠939->qy w Z b V O H M j F.heap->Step [939] K O s.heap j O F.heap->aW s F->Q d F):
 aD (MM w) A (SJ<|As Z G l) Q E s:=by
 refine DE (zk R) λt c g J Y=>?_;unfold SJ;refine f6 (λ_ _ h=>wpAny_alloc h)<|ak<|a9 ?_
 refine kW (if_neg<|by unfold As;rw[aC];exactλX=>bk [aa l] [] [(1,xi<|.n 15,aK),(1,aK,.n 15)] rfl (cl C)<|cl X) ?_;refine f6 (λ_ _ h=>mH h) ?_;refine ak<|Vv (bX _) J Y l K _ _ [] [] S (by simpa using r) (by simpa using N) t c g λF j a I e P=>av ?_
 exact av<|L _ F j (by simpa using a) (bX _) J Y I e (jy ⟨rfl,rfl⟩ P)
theorem I9 (a:(Ev t Z).zip ((tE c Z).map λv=>do let x <-v;f7 G;pure x)=(As Z G l).map λp=>(ac p.1,p.2))
 (U:l≠[]) (C:aa l<=15) (r:(l.map (·.1)).Nodup) (S:∀x∈l,Gives w Z b V O H M A E x.2.2.1 x.2.2.2) (R:qy w Z b V O H M K s.heap)
 (L:∀d F j,DS w d (l.map (·.1)) (l.map (·.2.2.2)) j O F.heap->s.heap.get? d=am->qy w Z b V O H M j F.heap->Step [939] K O s.heap j O F.heap->aW s F->Q (.ref d) F):
 aD (MM w) A (eval (.Dict t c G) Z) Q E s:=by
 (refine kW (arm_eval_Dict ..)<|a▸?_;rw[dictDisplay_pairs _ (by unfold As;simpa using U) (by unfold As;rw[aC];exact bY (by assumption)<|by decide)])
 exact ak<|cf<|ak<|sub_short C r S R λd F j D fd _ _ I st Y=>av<|L d F j D fd I st Y
theorem Nu (hshape:(Ev t Z).zip ((tE c Z).map λv=>do let x <-v;f7 G;pure x)=(As Z G<|a++b::[c1,c2]).map λp=>(ac p.1,p.2))
 (I:aa a=16) (r:((a++b::[c1,c2]).map (·.1)).Nodup) (S:∀x∈a++b::[c1,c2],Gives w Z sc V O H M A E x.2.2.1 x.2.2.2) (R:qy w Z sc V O H M K s.heap)
 (L:∀d F j,DS w d ((a++b::[c1,c2]).map (·.1)) ((a++b::[c1,c2]).map (·.2.2.2)) j O F.heap->s.heap.get? d=am->qy w Z sc V O H M j F.heap->Step [939] K O s.heap j O F.heap->aW s F->Q (.ref d) F):
 aD (MM w) A (eval (.Dict t c G) Z) Q E s:=by
 have N:a++b::[c1,c2]=(a++[b])++[c1,c2]:=by simp
 have hp:As Z G (a++b::[c1,c2])=As Z G a++(eval (.Constant (.str b.1) 0 b.2.1) Z,(do let v <-eval b.2.2.1 Z;f7 G;pure v))::As Z G [c1,c2]:=by unfold As;simp
 have hp2:As Z G a++[(eval (.Constant (.str b.1) 0 b.2.1) Z,(do let v <-eval b.2.2.1 Z;f7 G;pure v))]=As Z G (a++[b]):=by unfold As;simp
 (refine kW (arm_eval_Dict ..)<|hshape▸hp▸?_;rewrite[DF _ _ _ (by unfold As;rw[aC];exact I) (by unfold As;simp) (by unfold As;simp)];refine hp2▸?_)
 have hnd':=r;rw[N,b4,fO] at hnd';refine i8 hnd' λX n2 n3=>?_;refine f6 (λ_ _ h=>cf h)<|ak<|Pf (by simp[I]) (by simp[I]) X (λx hx=>S x<|by rw[N];exact kk _ hx) R λd u k D₁ Xx adF Xq jM dL l=>?_
 refine ak<|a9<|sub_short (by simp) n2 (λx hx=>S x<|by rw[N];exact List.mem_append_right _ hx) jM λo C g T ad8 akg akt sQ D f=>?_
 have XR:=D₁.step D<|by simp[Xq]
 refine nu ?_;intro P37;obtain⟨⟨kvs,hm,m,i⟩,Y,md⟩:=id XR;obtain⟨⟨more,hmo,f1,J⟩,ko,mo⟩:=id T
 obtain⟨k1,v1,k2,z,rfl⟩:∃k1 v1 k2 z,more=[(k1,v1),(k2,z)]:=by exact lm (UC<|congrArg aa f1) λx y e=>⟨x.1,x.2,y.1,y.2,e⟩
 have hdo:d≠o:=λq=>by refine aI (k4 D₁) λB e _=>?_;rw[q,ad8] at e;exact aE e
 have ho1:(o==oY)=false:=by rw[beq_eq_false_iff_ne];rintro rfl;have:=sQ.iv.stat 1 _ (by kernel_rfl:cD w.params 1=ac (Wo w.params));rw[show g 1=am from ko] at this;exact aE this
 refine ak<|wpAny_onRaise<|a9<|Mw hdo ho1 hm hmo ?_ ?_ ?_ λh' U P=>?_
 ·rw[b4,m,f1,<-b4,<-N];exact r
 ·rintro rfl;have:=congrArg aa m;simp at this
 ·have:=congrArg aa m;simp[I] at this;exact cQ<|bk [aa kvs] [] [(1,aK,.n 17),(1,xi<|.n 900,aK)] rfl<|cl<|ao this
 ·refine gN (n0 U) λB ho' nf' _=>?_;have wM:=sQ.Sl (k4 XR) Y md adF Xq P ⟨B,ho'⟩;refine av<|L d _ g ⟨⟨_,U,by rw[b4,m,f1,<-b4,<-N],?_⟩,Y,md⟩ Xx wM ((dL.trans D).hide (jz (W:=[d]) P (by simp) ⟨B,ho'⟩) λa q=>.inr<|by rw[aV] at q;subst q;exact Xx) (l.trans<|f.trans ⟨rfl,rfl⟩)
  have:=bV.app i J;rw[<-b4,<-b4,<-N] at this;exact this
end
noncomputable def afw (c:Const):Option an:=c.casesOn am (λ_=>am) (λ_=>am) (λ_=>am) (λ_ _=>am) (λs=>ac s) (λ_=>am) am
theorem VP (h:afw c=ac s):c=.str s:=vw (λv=>by rcases v<;>rfl) h
def aeE (e:bL):Option (an×Nat×oq):=(I8 e).bind λx=>(afw x.1).map λs=>(s,x.2)
theorem Vy (h:aeE e=ac x):e=.Constant (.str x.1) x.2.1 x.2.2:=by refine aI (bind_some h) λc P h=>aI (map_some h) λs d q=>?_;subst q;exact ah (BQ P) (congrArg (aa7 · c.2.1 c.2.2)<|VP d)
def Jk (f:an) (e:bL):Option (List bL):=(BR e).bind λc=>(xv c.1).bind λn=>if n.1=f/\aa c.2.2.1=0 then ac c.2.1 else am
theorem B1 (h:Jk f e=ac D):∃d pos,e=.Call (.Name f d) D [] pos:=by
 refine aI (bind_some h) λc J h=>aI (bind_some h) λn R h=>?_;by_cases q:n.1=f/\aa c.2.2.1=0
 ·rw[if_pos q] at h;exact⟨n.2,c.2.2.2,by(refine ah (zQ J)<|(af<|vE R)▸(af q.1)▸(af<|cy.mp q.2)▸?_;rw[al h])⟩
 ·rw[if_neg q] at h;exact aE h
def m7 (e:bL):Option (List bL):=(Jk "pure" e).filter λl=>!l.isEmpty
noncomputable def aee:List bL->Option (bL×bL×bL×bL×bL)
 |[m,i,W,R,C]=>ac (m,i,W,R,C)
 |_=>am
theorem Vf (h:aee l=ac x):l=[x.1,x.2.1,x.2.2.1,x.2.2.2.1,x.2.2.2.2]:=by
 cases l with|nil=>exact aE h|cons a l=>?_
 cases l with|nil=>exact aE h|cons b l=>?_
 cases l with|nil=>exact aE h|cons c l=>?_
 cases l with|nil=>exact aE h|cons d l=>?_
 cases l with|nil=>exact aE h|cons e l=>?_
 induction l with
 |nil=>rw[<-al h]
 |cons f l=>exact aE h
def qJ (e:bL):Option ((bL×bL×bL×bL×bL)×bL):=(RL e).bind λt=>(aee t.1).bind λx=>(Jk "always" x.2.2.2.1).bind λa=>(one a).bind λY=>gd (decide<|t.2.1=0)<|ac (x,Y)
theorem AJ (h:m7 e=ac D):D≠[]/\∃d pos,e=.Call (.Name "pure" d) D [] pos:=by exact bD (pH.mp h) λJ R=>⟨by simpa using R,B1 J⟩
theorem Cu (h:qJ e=ac y):∃d l pos,e=.Tuple [y.1.1,y.1.2.1,y.1.2.2.1,.Call (.Name "always" d) [y.2] [] l,y.1.2.2.2.2] 0 pos:=by refine aI (bind_some h) λt J h=>aI (bind_some h) λx R h=>aI (bind_some h) λa Z h=>aI (bind_some h) λk X h=>bD (cL h) λq h=>lm (B1 Z) λd l Q=>((al h))▸?_;exact⟨d,l,t.2.2,by(refine ah (yr J)<|(af<|Vf R)▸(af<|of_decide_eq_true q)▸((uk X))▸?_;rw[<-Q])⟩
noncomputable def WJ:List PV->Option (PV×PV×PV)
 |[a,b,c]=>ac (a,b,c)
 |_=>am
theorem O8 (h:WJ l=ac x):l=[x.1,x.2.1,x.2.2]:=by
 cases l with|nil=>exact aE h|cons a l=>?_
 cases l with|nil=>exact aE h|cons b l=>?_
 cases l with|nil=>exact aE h|cons c l=>?_
 induction l with
 |nil=>rw[<-al h]
 |cons f l=>exact aE h
noncomputable def okV:kg Z->Option Z
 |.ok q []=>ac q
 |_=>am
theorem Ic (h:okV o=ac a):o=.ok a []:=by
 induction o with
 |ok q H=>cases H with
  |nil=>rw[al h]
  |cons _ _=>exact aE h
 |_=>exact aE h
def evV (B:on) (Y:Cx) (V:bO) (e:bL):Option PV:=okV<|bp B (bR Y ai e) V []
theorem sC (h:evV B Y V e=ac q):bp B (bR Y ai e) V []=.ok q []:=Ic h
def evP (B:on) (Y:Cx) (V:bO) (D:List bL):Option (Int×bn×PV):=(okV<|ol B (pN Y D) V []).bind λl=>(WJ l).bind λx=>(Uc x.1).bind λk=>(P1 x.2.1).bind λd=>ac (k,d,x.2.2)
theorem Rx {k:Int} (h:evP B Y V D=ac (k,d,p)):ol B (pN Y D) V []=.ok [.int k,.ref d,p] []:=by
 refine aI (bind_some h) λl J h=>aI (bind_some h) λx R h=>aI (bind_some h) λH y h=>aI (bind_some h) λN X h=>?_;cases h
 (refine ah (Ic J)<|(af<|O8 R)▸(af<|CR y)▸?_;rw[u3 X])
def rwP (B:on) (Y:Cx) (V:bO) (D:List bL):Option PV:=gd (!D.any isStarred)<|(evP B Y V D).map λx=>.tup [.int x.1,.int x.1,.ref x.2.1,.AM,.bool aq]
def rwT (B:on) (Y:Cx) (V:bO) (y:(bL×bL×bL×bL×bL)×bL):Option PV:=gd (![y.1.1,y.1.2.1,y.1.2.2.1,y.1.2.2.2.2,y.2].any isStarred)
 ((evV B Y V y.1.1).bind λc=>(evV B Y V y.1.2.1).bind λE=>(evV B Y V y.1.2.2.1).bind λk=>(evV B Y V y.2).bind λ_=>(evV B Y V y.1.2.2.2.2).bind λS=>ac<|.tup [c,E,k,.AM,S])
def TV (B:on) (Y:Cx) (V:bO) (e:bL):Option PV:=(m7 e).elim ((qJ e).bind<|rwT B Y V)<|rwP B Y V
def Xh (e:Option bL):Option (an×oq):=e.bind λx=>(aeE x).bind λy=>if y.2.1=0 then ac (y.1,y.2.2) else am
theorem IF (h:Xh e=ac (k,p)):e=ac (.Constant (.str k) 0 p):=by
 refine aI (bind_some h) λx J h=>aI (bind_some h) λy R h=>?_;by_cases q:y.2.1=0
 ·rw[if_pos q] at h;cases h
  (refine ah J<|(af<|Vy R)▸?_;rw[q])
 ·rw[if_neg q] at h;exact aE h
noncomputable def Dd (B:on) (Y:Cx) (V:bO):List (Option bL)->List bL->Option (List afP)
 |[],[]=>ac []
 |k::j,v::U=>(Xh k).bind λx=>(TV B Y V v).bind λq=>(Dd B Y V j U).bind λl=>ac<|(x.1,x.2,v,q)::l
 |_,_=>am
theorem M4 (T:dk (cD w.params) (kn b) Z) (J:b.lookup ("pure":an)=ac .globalImplicit\/∀x,m7 e≠ac x) (F:b.lookup ("always":an)=ac .globalImplicit\/∀x,qJ e≠ac x) (N:∀e,bK w (cD w.params) n B e) (I:kA (n+2) A M) (X:939∉aY Z)
 (h:TV B (kn b) V e=ac p):Gives w Z b V O [] M A E e p:=λK s Q R L=>by
 unfold TV at h
 cases W:m7 e with
 |some D=>rw[W] at h;refine bD (cL h) λd h=>aI (map_some h) λx j m=>?_;rw[<-m] at L;refine bD (AJ W) λC y=>lm y λP G i=>(af i)▸?_;exact PA T (J.resolve_right λq=>q _ W) N I X R (j5 _▸d) C (Rx j) L
 |none=>rw[W] at h;refine aI (bind_some h) λy U h=>DD (Cu U) λP l G i=>bD (cL h) λd h=>aI (bind_some h) λc u h=>aI (bind_some h) λz H h=>aI (bind_some h) λk a h=>aI (bind_some h) λv Y h=>aI (bind_some h) λS f h=>?_;rw[<-al h] at L;refine(af i)▸?_;exact TU T (F.resolve_right λq=>q _ U) N (I.mono<|ej _) X R (j5 _▸d) (sC u) (sC H) (sC a) (sC Y) (sC f) L
theorem IJ:∀{vs l},Dd B (kn b) V j vs=ac l->
 (Ev j Z).zip ((tE vs Z).map λv=>do let x <-v;f7 G;pure x)=(As Z G l).map (λp=>(ac p.1,p.2))/\∀x∈l,TV B (kn b) V x.2.2.1=ac x.2.2.2/\x.2.2.1∈vs:=by
 induction j with
 |nil=>
  intro vs l h;cases vs with|cons _ _=>exact aE h|nil=>?_
  exact((al h))▸⟨rfl,nofun⟩
 |cons k j o=>
  intro vs l h;cases vs with|nil=>exact aE h|cons v vs=>?_
  refine aI (bind_some h) λy Y h=>aI (bind_some h) λq L h=>aI (bind_some h) λX C h=>?_
  (refine((al h))▸(af<|IF Y)▸?_)
  have c:=o C;refine⟨?_,λx T=>(aM.mp T).elim (λe=>by refine(af e)▸?_;exact⟨L,bd⟩) λT=>⟨(c.2 x T).1,bc _ (c.2 x T).2⟩⟩;show(ac<|eval (.Constant (.str y.1) 0 y.2) Z,_)::(Ev j Z).zip ((tE vs Z).map _)=_;refine(af c.1)▸?_;rfl
noncomputable def Ky:List Nat:=("name":an).cps.toList
noncomputable def fk (x:List Nat):PV:=.tup [.str Ky,.str x,.tup []]
def vk (p:PV):Option (List Nat):=(AK p).bind<|ls3 λa b c=>(AL a).bind λn=>(AL b).bind λx=>(AK c).bind λl=>gd (decide (n=Ky)&&l.isEmpty)<|ac x
theorem AR (h:vk p=ac x):p=fk x:=by
 refine aI (bind_some h) λm em h=>sF (FJ h) λa b c g h=>aI (bind_some h) λn e h=>aI (bind_some h) λy v h=>?_;refine aI (bind_some h) λl j h=>bD (cL h) λP h=>?_;have q:=(bu _ _).mp P
 (refine ah (pq em)<|(af g)▸(pr e)▸(pr v)▸(pq j)▸?_;refine(af<|of_decide_eq_true q.1)▸(af<|kt.mp q.2)▸(al h)▸?_);rfl
noncomputable def gE:List Nat:=("Int64":an).cps.toList
noncomputable def wI:List Nat:=("BigInt":an).cps.toList
noncomputable def dW:List Nat:=("Nothing":an).cps.toList
def wC:Cx:=⟨(bH 20).2.2.names,yn,["left","found"]⟩
def Kp:List Stmt:=(bH 20).2.1.take 4
noncomputable def w5:Expr:=.Compare (.Call (.Name "len" ⟨53,23,53,26⟩) [.Name "found" ⟨53,27,53,32⟩] [] ⟨53,23,53,33⟩) [.Eq] [.Constant (.int 1) 0 ⟨53,37,53,38⟩] ⟨53,23,53,38⟩
def ah8 (V:bO):Bool:=decide<|((V[2]?).bind λo=>o.bind xc)=ac 1
def C9 (f:List PV):Bool:=(f.mapM vk).elim ai λj=>decide (j=[gE,dW])||decide (j=[gE,wI,dW])
noncomputable def okN:kg (gm×bO)->Option (bO×Hp)
 |.ok (.next,V) H=>ac (V,H)
 |_=>am
theorem Zd (h:okN o=ac a):o=.ok (.next,a.1) a.2:=by
 induction o with
 |ok x H=>
  induction x with
  |mk f V=>rcases f<;>first|exact aE h|(rw[<-al h])
 |exc p H=>exact aE h
 |stuck=>exact aE h
def okF:kg Bool->Option (List PV)
 |.ok ai H=>(two H).bind λx=>gd x.1.isEmpty<|ac x.2
 |_=>am
theorem Ze (h:okF o=ac f):o=.ok ai [[],f]:=by
 induction o with
 |ok c H=>
  induction c with
  |true=>exact aE h
  |false=>
   refine aI (bind_some h) λx e h=>bD (cL h) λP h=>?_
   (refine(Ht e)▸(kt.mp P)▸?_;rw[al h])
 |exc p H=>exact aE h
 |stuck=>exact aE h
def uS (l:List PV):Option (bO×Hp×List PV):=(okN<|fY f5 f5 (mm wC Kp) (fE (bH 20).2.2.names.length [.lst l]) []).bind λa=>(okF<|j6 f5 (bR wC ai w5) a.1 (bp f5 (bR wC ai w5) a.1) a.2).bind λf=>gd (ah8 a.1&&C9 f)<|ac (a.1,a.2,f)
def v9:List PV->IM PV
 |[.lst l]=>λH=>match H with
  |[]=>(match uS l with
   |some _=>.ok .AM []
   |none=>.stuck)
  |_=>.stuck
 |_=>aQ
noncomputable def Z7:List FE:=[⟨380,54,ai,[],[]⟩,⟨183,26,ai,[],[]⟩,⟨176,25,ai,[],[]⟩,⟨152,21,ai,[],[]⟩,⟨138,19,ai,[],[.tup []]⟩]
def CX:on:=iq f5 f5 Z7
def Mn:on:=λa z=>if a=145 then v9 z else CX a z
def jo (k:Nat):List (Option bL)×List Expr:=((((bH k).2.1.getLast?).bind ab4).bind RN).elim ([],[]) λd=>(d.1,d.2.1)
def rowsOf (k:Nat) (V:bO):Option (List an×List PV):=(Dd Mn (kn (bH k).2.2.names) V (jo k).1 (jo k).2).map λl=>(l.map (·.1),l.map (·.2.2.2))
noncomputable def qR (l:List (List Nat)):List an:=l.map λx=>⟨ag x⟩
theorem Md:rowsOf 157 (fE (bH 157).2.2.names.length [])=ac (qR<|cH.drop 27,d6.drop 27):=rfl
theorem E6:rowsOf 158 ((fE (bH 158).2.2.names.length []).set 0<|ac .AM)=ac (qR<|(cH.drop 19).take 6,(d6.drop 19).take 6):=rfl
theorem HP:rowsOf 159 (fE (bH 159).2.2.names.length [])=ac (qR<|(cH.drop 25).take 2,(d6.drop 25).take 2):=rfl
theorem Mc:rowsOf 160 (fE (bH 160).2.2.names.length [])=ac (qR<|cH.take 19,d6.take 19):=rfl
theorem Vh (P):∀f∈Z7,SA (cD P) f:=Gg P rfl
theorem aej (P):FnAt (cD P) 958 (bH 157).1 (bH 157).2.1 (bH 157).2.2 []:=my rfl
theorem aei (P):FnAt (cD P) 965 (bH 158).1 (bH 158).2.1 (bH 158).2.2 []:=my rfl
theorem aeh (P):FnAt (cD P) 972 (bH 159).1 (bH 159).2.1 (bH 159).2.2 []:=my rfl
theorem aeg (P):FnAt (cD P) 979 (bH 160).1 (bH 160).2.1 (bH 160).2.2 []:=my rfl
abbrev lU (w:dG):Prop:=∀z U,aj w (cD w.params) [] 60 (kq z U) (v9 z) fi (call (.ref 145) U [])
section
variable {K:aO}
theorem CW:j2 w (cD w.params) 5 CX:=Fv rfl (jR _) qd wb (λ_ _ _=>i5) Z7<|Vh _
theorem aab (P):FnAt (cD P) 145 (bH 20).1 (bH 20).2.1 (bH 20).2.2 []:=my rfl
theorem Uf (y:lU w):j2 w (cD w.params) 60 Mn:=by
 refine⟨λa=>?_,λa z U=>?_⟩
 ·by_cases J:a=145
  ·subst J;exact cN ((aab w.params).ex) λo fd c E _=>.inl ⟨o,fd,c,E⟩
  ·rcases(CW).fn a with h|h
   ·exact .inl h
   ·exact .inr λz=>by unfold Mn;exact ah (if_neg J)<|h z
 ·unfold Mn;by_cases J:a=145
  ·subst J;exact(if_pos rfl)▸y z U
  ·exact(if_neg J)▸(CW.call a z U).more (ch _ _)
theorem Xr (y:lU w) (e):bK w (cD w.params) 60 Mn e:=(jU rfl (Uf y) i5 e).1.1
theorem Ff (hU:lU w) (T:dk (cD w.params) (kn (bH k).2.2.names) Z) (hg:(bH k).2.2.names.lookup ("pure":an)=ac .globalImplicit\/∀e∈(jo k).2,∀x,m7 e≠ac x)
 (hg2:(bH k).2.2.names.lookup ("always":an)=ac .globalImplicit\/∀e∈(jo k).2,∀x,qJ e≠ac x) (hr:rowsOf k V=ac (qR names,ps)) (r:(qR names).Nodup) (J:(0<aa names/\aa names<=15)\/aa names=19)
 (I:kA 62 A M) (X:939∉aY Z) (R:qy w Z (bH k).2.2.names V [] [] M K s.heap)
 (L:∀d s' j,VR j [] (.dct names ps) (.ref d)->qy w Z (bH k).2.2.names V [] [] M j s'.heap->Step [939] K [] s.heap j [] s'.heap->aW s s'->Q (.ret<|.ref d) s'):
 aD (MM w) A (kr [.Return (ac<|.Dict (jo k).1 (jo k).2 H) p] Z) Q E s:=by
 unfold rowsOf at hr;rw[ba] at hr;refine aI hr λl C e=>?_;refine bD (Prod.mk.inj e) λm e2=>bD (IJ (G:=H) (Z:=Z) C) λU adM=>?_;have g:∀x∈l,x.2.2.1∈(jo k).2:=λx T=>(adM x T).2;have hgv:∀x∈l,Gives w Z (bH k).2.2.names V [] [] M A E x.2.2.1 x.2.2.2:=λx N=>M4 T (hg.imp id λq=>q _ (g x N)) (hg2.imp id λq=>q _ (g x N)) (Xr hU) I X (adM x N).1
 have F:∀d s' j,DS w d (l.map (·.1)) (l.map (·.2.2.2)) j [] s'.heap->s.heap.get? d=am->qy w Z (bH k).2.2.names V [] [] M j s'.heap->Step [939] K [] s.heap j [] s'.heap->aW s s'->Q (.ret<|.ref d) s':=λd s' j D fd R' st so=>by
  rw[m,e2] at D
  have W:d≠1:=by rintro rfl;have:=R'.iv.stat 1 _ (by kernel_rfl:cD w.params 1=ac (Wo w.params));rw[show j 1=am from D.kd] at this;exact aE this
  refine gN (D.freeze R'.iv R'.iv.par W) λo ho P t=>?_;have kle:∀a o',j a=ac o'->gk j d o a=ac o':=λa o' q=>by refine ah (db<|by rintro rfl;rw[D.kd] at q;exact aE q) ?_;exact q
  have nw:∀a∈aY Z,a≠d:=λa i q=>by refine be (jf R.fr i) λf Y=>?_;rw[q,fd] at Y;exact aE Y
  have O:(939:Nat)≠d:=λq=>by refine i8 R.tt λ_ _ PM=>aI PM λB c _=>?_;rw[q,fd] at c;exact aE c
  refine i8 R'.tt λu v PM=>aI PM λB c okz=>?_;refine L d s' (gk j d o) t ⟨P,R'.fr.Qw rfl kle λa i=>by refine ah (db<|nw a i) ?_;exact R'.fr.Kw i,⟨by exact ah (db O)<|u,v,B,c,okz⟩⟩ (st.gk fd D.kd) so
 have S:aa l=aa names:=by have:=congrArg aa m;simpa[qR] using this
 have h:(l.map (·.1)).Nodup:=by exact m▸r
 refine ak<|gS ?_
 rcases J with ⟨h1,h2⟩|h19
 ·refine I9 U (by rintro rfl;simp at S;exact bk [aa names] [] [(1,xi ei,aK),(1,aK,ei)] rfl (cl h1)<|cl<|ao<|af S) (by exact cQ<|bk [aa l,aa names] [] [(1,aK,bg),(1,bg,.n 15),(1,xi<|.n 15,aK)] rfl (cl<|ao S)<|cl h2) h hgv R λd s' j D fd R' st so=>av<|F d s' j D fd R' st so
 ·obtain⟨a,b,c1,c2,rfl,aiA⟩:∃a b c1 c2,l=a++b::[c1,c2]/\aa a=16:=by
   have y:aa (l.drop 16)=3:=by exact ah hY<|cg (cQ<|bk [aa l,aa names,aa l-16] [] [(1,aK,bg),(1,bg,.n 19),(1,.a cu<|.n 16,aK),(1,xi<|.n 3,cu)] rfl (cl<|ao S) (cl<|ao h19)<|cl<|ao<|bQ<|cQ<|bk [aa names,aa l] [] [(1,aK,bg),(1,.n 19,aK),(1,xi bg,.n 16)] rfl (cl<|ao<|af S)<|cl<|ao<|af h19)<|cQ<|bk [aa names,aa l,aa l-16] [] [(1,aK,bg),(1,.n 19,aK),(1,bg,.a cu<|.n 16),(1,xi cu,.n 3)] rfl (cl<|ao<|af S) (cl<|ao<|af h19)<|cl<|ao<|af<|bQ<|cQ<|bk [aa names,aa l] [] [(1,aK,bg),(1,.n 19,aK),(1,xi bg,.n 16)] rfl (cl<|ao<|af S)<|cl<|ao<|af h19
   exact DD (BA y) λb c1 c2 z=>⟨l.take 16,b,c1,c2,by(refine(z)▸?_;rw[fj]),by exact ah rF<|cg (cQ<|bk [Min.min 16<|aa l] [] [(1,aK,.n 16),(1,xi<|.n 16,aK)] rfl<|cl<|ao<|eN<|cQ<|bk [aa names,aa l] [] [(1,aK,bg),(1,.n 19,aK),(1,xi bg,.n 16)] rfl (cl<|ao<|af S)<|cl<|ao<|af h19)<|cQ<|bk [Min.min 16<|aa l] [] [(1,.n 16,aK),(1,xi aK,.n 16)] rfl<|cl<|ao<|af<|eN<|cQ<|bk [aa names,aa l] [] [(1,aK,bg),(1,.n 19,aK),(1,xi bg,.n 16)] rfl (cl<|ao<|af S)<|cl<|ao<|af h19⟩
  refine Nu U aiA h hgv R λd s' j D fd R' st so=>av<|F d s' j D fd R' st so
end
theorem VY:∃H p,(bH 157).2.1=[.Return (ac<|.Dict (jo 157).1 (jo 157).2 H) p]:=⟨_,_,rfl⟩
theorem VW:∃H p,(bH 159).2.1=[.Return (ac<|.Dict (jo 159).1 (jo 159).2 H) p]:=⟨_,_,rfl⟩
theorem VV:∃H p,(bH 160).2.1=[.Return (ac<|.Dict (jo 160).1 (jo 160).2 H) p]:=⟨_,_,rfl⟩
def SG (k:Nat):Prop:=∃x e m g H p,(bH k).2.1=.Assign [.Name x m] e g::[.Return (ac<|.Dict (jo k).1 (jo k).2 H) p]/\(bH k).2.2.names.map (·.1)=x::((bH k).2.2.names.map (·.1)).tail/\(bH k).2.2.names.lookup x=ac .local/\
    (∀Z,Ou e (ac<|.Name x m) g.line Z=pure ai)/\bp Mn (bR (kn (bH k).2.2.names) ai e) (fE (bH k).2.2.names.length []) []=.ok .AM []
theorem VX:SG 158:=⟨_,_,_,_,_,_,rfl,rfl,rfl,λ_=>rfl,by kernel_rfl⟩
theorem FH:(qR cH).Nodup:=by decide+kernel
theorem ve (i j):(qR<|(cH.drop i).take j).Nodup:=by
 unfold qR
 (refine aa1▸List.map_drop▸?_)
 exact((FH.sublist<|List.drop_sublist i _).sublist<|List.take_sublist j _)
theorem Zk {l:List bL} (h:l.all (λe=>(qJ e).isNone)=aq):∀e∈l,∀x,qJ e≠ac x:=λe J x q=>by have:=cn.mp h e J;rw[q] at this;cases this
theorem Ul {l:List bL} (h:l.all (λe=>(m7 e).isNone)=aq):∀e∈l,∀x,m7 e≠ac x:=λe J x q=>by have:=cn.mp h e J;rw[q] at this;cases this
abbrev oV (w:dG) (a:bn) (U:List (List Nat)) (z:List PV):Prop:=∀{A:iN} {E:Value->bj->Prop} {s:bj} {K:aO} {M:List mh} {Q:Value->bj->Prop},kA 64 A M->Inv (cD w.params) K [] [] M s.heap->TT K [] s.heap->
 (∀r F j,VR j [] (.dct U z) r->Step [939] K [] s.heap j [] F.heap->Inv (cD w.params) j [] [] M F.heap->TT j [] F.heap->aW s F->Q r F)->aD (MM w) A (call (.ref a) [] []) Q E s
theorem we (y:lU w) (Y:FnAt (cD w.params) a (bH k).1 (bH k).2.1 (bH k).2.2 []) (W:(bH k).1.args=[]) (B:∃H p,(bH k).2.1=[.Return (ac<|.Dict (jo k).1 (jo k).2 H) p])
 (S:(bH k).2.2.names.lookup ("pure":an)=ac .globalImplicit\/∀e∈(jo k).2,∀x,m7 e≠ac x) (R:(bH k).2.2.names.lookup ("always":an)=ac .globalImplicit\/∀e∈(jo k).2,∀x,qJ e≠ac x)
 (N:rowsOf k (fE (bH k).2.2.names.length [])=ac (qR names,ps)) (r:(qR names).Nodup) (J:(0<aa names/\aa names<=15)\/aa names=19):oV w a names ps:=by
 intro A E s K M Q I iv tt L;refine jZ Y (jR _) I iv eA (by refine W▸?_;rfl) (z8 Y (by exact W▸X0) (by refine W▸?_;rfl) iv) λZ u O T P m c h U l V=>?_;have X:=akV tt m;refine lm B λH p B=>?_;refine B▸?_;refine Ff y T S R N r J (P.mono<|ej _) X ⟨h,U,tt.step c<|by simp⟩ λd C g t sQ D f=>?_;exact L _ C g t ((c.mono<|by simp).trans D) sQ.iv.pop sQ.tt (l.trans f)
theorem TM (y:lU w):oV w 958 (cH.drop 27) (d6.drop 27):=
 we y (aej _) rfl VY (.inl rfl) (.inr<|Zk rfl) Md (by have:=ve 27 6;exact this) (.inl<|by decide)
theorem Sn (y:lU w):oV w 972 ((cH.drop 25).take 2) ((d6.drop 25).take 2):=
 we y (aeh _) rfl VW (.inr<|Ul rfl) (.inl rfl) HP (ve 25 2) (.inl<|by decide)
theorem TC (y:lU w):oV w 979 (cH.take 19) (d6.take 19):=
 we y (aeg _) rfl VV (.inl rfl) (.inl rfl) Mc (by have:=ve 0 19;exact this) (.inr<|by decide)
set_option maxHeartbeats 2000000 in
theorem E4 (y:lU w) (hf:FnAt (cD w.params) a (bH k).1 (bH k).2.1 (bH k).2.2 []) (hp:(bH k).1.args=[]) (B:SG k)
 (S:(bH k).2.2.names.lookup ("pure":an)=ac .globalImplicit) (R:(bH k).2.2.names.lookup ("always":an)=ac .globalImplicit)
 (hr:rowsOf k ((fE (bH k).2.2.names.length []).set 0<|ac .AM)=ac (qR names,ps)) (r:(qR names).Nodup) (J:(0<aa names/\aa names<=15)\/aa names=19):oV w a names ps:=by
 intro A E s K M Q I iv tt L;refine jZ hf (jR _) I iv eA (by refine hp▸?_;rfl) (z8 hf (by exact hp▸X0) (by refine hp▸?_;rfl) iv) λZ u K₁ T P m c h U l V=>?_;have X:=akV tt m;refine aes B λx e p1 p2 H p B F hlc hsw j=>?_;refine B▸?_;have jM:qy w Z (bH k).2.2.names _ [] [] (Z::M) K₁ u.heap:=⟨h,U,tt.step c<|by simp⟩;refine ak<|rS (sA T (Xr y _) (P.mono<|ch _ _) jM j λv C g hv sQ D f=>?_)<|hsw Z
 refine a0 (lg (i:=0) T.fe (by refine F▸?_;rfl) T.nd (by(refine(af V)▸?_;rewrite[<-aC (·.1)];refine(af F)▸?_);exact mK _) (.inl<|T.lc _ hlc) (hV Z) sQ.iv ⟨sQ.fr,hv⟩) (λ_ s₃ Yi=>vD Yi λY n W o=>?_) λ_ _ (z:False)=>z.elim;refine Ff y T (.inl S) (.inl R) hr r J (P.mono<|by exact ej _) X ⟨n,W,sQ.tt.step Y X⟩ λd t G O ri b N=>?_;have aaJ:Step [939] K [] s.heap g [] s₃.heap:=((c.trans D).mono<|by simp).hide Y λa q=>.inr<|m a q
 exact L _ t G O (aaJ.trans b) ri.iv.pop ri.tt (l.trans<|f.trans<|o.trans N)
theorem Mb (y:lU w):oV w 965 ((cH.drop 19).take 6) ((d6.drop 19).take 6):=
 E4 y (aei _) rfl VX rfl rfl E6 (ve 19 6) (.inl<|by decide+kernel)
theorem RU {K:aO} {h:eK} (x:VR K O (.dct U z) v) (y:K.P=w.params) (sub:∀a o,K a=ac o->h.get? a=ac o) (r:(qR U).Nodup):
 ∃a o p,v=.ref a/\K a=ac o/\a≠1/\h.DictOf (m4 w) a p/\p.map (·.1)=qR U/\bV K O z (p.map (·.2)):=by
 obtain⟨a,o,n,u,rfl,Z,T,L,g,E,G,d⟩:=x
 have key:∀(j:List (List Nat)) (l:List cF),aa j=aa l->(∀(i:Nat) (k:List Nat) (e:cF),j[i]?=ac k->l[i]?=ac e->e.hash=gq K.P ⟨ag k⟩/\∃t,e.key=.str ⟨ag k⟩ t)->
  Pairs (m4 w) l ((qR j).zip (l.map (·.val)))/\∀e∈l,∃k,(m4 w).is k e.key=aq/\e.hash=(m4 w).hash k:=by
  intro j
  induction j with
  |nil=>intro l C _;cases l with|nil=>exact⟨.nil,λ_ h=>absurd h aZ⟩|cons _ _=>cases C
  |cons k j W=>
   intro l C G
   induction l with
   |nil=>cases C
   |cons e l=>
    refine bD (W l (by simpa using C) λi H R a b=>G (i+1) H R (by simpa using a)<|by simpa using b) λc q=>?_;refine bD (G 0 k e rfl rfl) λJ S=>be S λt Y=>?_;have f:(m4 w).is ⟨ag k⟩ e.key=true:=by refine Y▸?_;show fJ ⟨ag k⟩ (.str ⟨ag k⟩ t)=aq;simp[fJ]
    refine⟨.cons f rfl c,λR he'=>?_⟩;rcases aM.mp he' with rfl|he'
    ·refine⟨_,f,?_⟩
     (refine ah J<|y▸?_);rfl
    ·exact q R he'
 refine bD (key U u.toList (by simpa using E) G) λm V=>?_;have C:aa (qR U)=aa (u.toList.map (·.val)):=by simp[qR,E]
 refine⟨a,o,_,rfl,Z,L,⟨o,u,n,sub _ _ Z,T,g,λe X=>V e<|J2.mpr X,m,?_⟩,?_,?_⟩
 ·exact(af<|rD<|ao C)▸r
 ·exact rD<|ao C
 ·exact(af<|rC<|ao C.symm)▸d
section
variable {K:aO}
theorem YM (R:qy w Z b V [] [] M K s.heap) (D:DS w d names x K [] s.heap) (J:d∉aY Z) (O:d≠939) (t:VR K [] (.dct n2 g) v) (r:(names++qR n2).Nodup) (N:aa names+aa n2<=900)
 (L:∀T,DS w d (names++qR n2) (x++g) K [] T.heap->qy w Z b V [] [] M K T.heap->Step [d] K [] s.heap K [] T.heap->aW s T->Q .none T):aD (MM w) A (call (.builtin "dict.update") [.ref d,v] []) Q E s:=by
 refine I6 (RU t R.iv.par (λa o q=>R.iv.sub _ _ q) (fO.mp r).2.1) λa o c S C j e W G=>?_;subst S;obtain⟨⟨p,z,m,i⟩,Y,md⟩:=id D;have X:d≠a:=by rintro rfl;rw[Y] at C;exact aE C
 have I:aa p=aa names:=by(refine(m)▸?_;rw[aC])
 have H:aa c=aa n2:=by have:=congrArg aa W;simpa[qR] using this
 refine call_meetsIn A5 z.typeIs PySem.F.entry_dict_update (PySem.F.args_dict_update_2 _ _) (meets_dict_update (m4 w) d a X<|by rw[beq_eq_false_iff_ne];exact j) ⟨p,c,z,e,by exact bh▸cQ (bk [aa names,aa n2,aa p,aa c] [] [(1,.a aK bg,.n 900),(1,cu,aK),(1,io,bg),(1,xi<|.n 16777216,.a cu io)] rfl (cl N) (cl<|ao I)<|cl<|ao H),λf U _ P=>?_⟩;rw[SL p c<|by(refine(af b4)▸m▸W▸?_);exact r] at U;exact gN (n0 U) λB y h _=>L _ ⟨⟨_,U,by(refine ah b4<|m▸?_;rw[W]),by exact b4▸bV.app i G⟩,Y,md⟩ (R.Sl (k4 D) Y md J O P ⟨B,y⟩) (jz P (by simp) ⟨B,y⟩) ⟨rfl,rfl⟩
theorem OV {i j:Nat} (T:dk (cD w.params) (kn b) Z) (o:(C==("__debug__":an))=ai) (h:(C==("__classdict__":an))=ai) (x:(X==("__debug__":an))=ai) (q:(X==("__classdict__":an))=ai)
 (u:(k.endLine==pos.line)=aq) (J:(b.map (·.1))[i]?=ac C) (B:V[i]?=ac (ac<|.ref d)) (y:(b.map (·.1))[j]?=ac X) (h4:V[j]?=ac (ac<|.dct c g))
 (R:qy w Z b V [] [] M K s.heap) (D:DS w d U ps K [] s.heap) (hdw:d∉aY Z) (O:d≠939) (r:(U++qR c).Nodup) (N:aa U+aa c<=900)
 (hq:∀H,DS w d (U++qR c) (ps++g) K [] H.heap->qy w Z b V [] [] M K H.heap->Step [d] K [] s.heap K [] H.heap->aW s H->Q .next H):
 aD (MM w) A (exec (.Expr (.Call (.Attribute (.Name C l) "update" k) [.Name X W] [] pos) p) Z) Q E s:=by
 refine kW (Ak _ _ _ (nr T.fe.kind) (yk rfl))<|ak<|cf ?_
 (refine(N4 ..)▸?_;rewrite[rf rfl];refine(dD pos Z [.Name X W]<|by rfl)▸?_)
 refine ak<|ak<|gM T.fe o h J B R.fr λov L=>?_
 replace L:_=_:=L;subst L;refine ak<|cf ?_
 have f:∀(n:Nat) (G:List (jN Value)),n=1->aa G=1->nB n (G.map λt=>(ai,t)) ([]:List (Option an×jN Value))=true:=λn G J B=>by unfold nB;simp[J,B]
 have S:o8 aq (.Name C l) Z k pos=pure pos:=by unfold o8;simp[u]
 show aD (MM w) A (uF (.Name C l) "update" k pos Z (.ref d) 1 ([eval (.Name X W) Z].map λt=>(ai,t)) []) _ _ _;unfold uF
 (refine(f 1 [eval (.Name X W) Z] rfl rfl)▸S▸?_)
 obtain⟨⟨kvs,z,m,e2⟩,Y,md⟩:=id D;refine ak<|a9<|rT z.typeIs Ce A5 PySem.F.type_dict_update z.mapOf.noDict ?_
 refine pe<|tP<|spliced_cons<|gM T.fe x q y h4 R.fr λv hv=>fH ⟨.inl ⟨_,rfl⟩,?_⟩
 exact YM R D hdw O hv r N λH a I e P=>GW<|hq H a I e P
end
section
variable {K:aO}
abbrev Dct:=List (List Nat)×List PV
noncomputable def Zn (U:List (List Nat)) (l:List Dct):List (List Nat):=U++l.flatMap (·.1)
noncomputable def psU (z:List PV) (l:List Dct):List PV:=z++l.flatMap (·.2)
theorem Bh {l:List Z} (h:l[j]?=ac x):l.take (j+1)=l.take j++[x]:=by(refine ah mc<|h▸?_);rfl
theorem zi {l:List Dct} (h:l[j]?=ac x):qR (Zn U<|l.take j)++qR x.1=qR (Zn U<|l.take<|j+1):=by
 unfold Zn
 (refine(af<|Bh h)▸uP▸(Hb ..)▸((fc ..))▸?_);exact af (b4 ..)
theorem PP {l:List Dct} (h:l[j]?=ac x):psU z (l.take j)++x.2=psU z (l.take<|j+1):=by
 unfold psU
 (refine(af<|Bh h)▸uP▸(Hb ..)▸?_;rw[fc])
theorem Kx (U l j):Zn U (l.take j) <+: Zn U l:=by
 refine(List.prefix_append_right_inj _).mpr ?_
 conv=>rhs;rw[<-fj j l,uP]
 exact List.prefix_append _ _
theorem KA (l):aa (qR l)=aa l:=aC ..
inductive ajo (w:dG) (env:mh) (sc:List (an×f8)) (fs:List mh) (d:bn) (names:List (List Nat)) (ps:List PV) (l7:List Dct) (I:bn) (fp:List bn) (P:Nat->Value->Prop) (J:Nat->eK->Prop) (gF:aO) (g:eK) (s:bj) (m:Nat) (s₁:bj):Prop
 |mk (j:Nat) (σ₁:bO) (K₁:aO) (hm:m=aa l7+1-j) (hj:j<=aa l7) (st:Step [939] gF [] g K₁ [] s₁.heap) (so:aW s s₁) (R:qy w env sc σ₁ [] [] fs K₁ s₁.heap) (hl:2<=aa σ₁) (h2:σ₁[0]?=ac (ac (.ref d)))
  (D:DS w d (qR<|Zn names<|l7.take j) (psU ps<|l7.take j) K₁ [] s₁.heap) (ci:jK I fp P J (l7.map λx=>.dct x.1 x.2) j K₁ [] s₁.heap)
theorem OW {l7:List Dct}
 (hx0:dk (cD w.params) (kn sc) Z) (hCd:(C==("__debug__":an))=ai) (h:(C==("__classdict__":an))=ai) (hXd:(X==("__debug__":an))=ai) (hXc:(X==("__classdict__":an))=ai) (u:(ap.endLine==pos.line)=aq)
 (h1:(sc.map (·.1))[0]?=ac C) (h3:(sc.map (·.1))[1]?=ac X) (hlk:Z.kindOf X=ac .local) (hnd:(qR (U++l7.flatMap (·.1))).Nodup) (hz:aa (U++l7.flatMap (·.1))<=900)
 (hw:sP w I fp (aa<|l7.map λx=>PV.dct x.1 x.2) P J) (ha:kA n A M) (hdw:d∉aY Z) (h9:d≠939) (h99:939∉aY Z) (Q:I∉aY Z) (hI9:I≠939) (hId:I≠d) (hfp:∀a∈fp,a∉aY Z) (gd:g.get? d=am) (gI:g.get? I=am) (gw:∀a∈aY Z,g.get? a=am)
 (t:qy w Z sc V [] [] M K s.heap) (hl:2<=aa V) (h2:V[0]?=ac (ac<|.ref d)) (D₀:DS w d (qR U) ps K [] s.heap) (ci:jK I fp P J (l7.map λx=>.dct x.1 x.2) 0 K [] s.heap) (st:Step [939] f [] g K [] s.heap)
 (hR:∀F K' G,qy w Z sc G [] [] M K' F.heap->G[0]?=ac (ac<|.ref d)->DS w d (qR (U++l7.flatMap (·.1))) (ps++l7.flatMap (·.2)) K' [] F.heap->Step [939] f [] g K' [] F.heap->aW s F->R (.ok .next) F):
 nJ (MM w) A (.forLoop (.Name X xp) (.ref I) [.Expr (.Call (.Attribute (.Name C cp) "update" ap) [.Name X xp2] [] pos) p] [] Z) R s:=by
 refine Z3 (ajo w Z sc M d U ps l7 I fp P J f g s) (aa l7+1) ⟨0,V,K,rfl,hX _,st,.refl s,t,hl,h2,by simpa[Zn,psU] using D₀,ci⟩ ?_;intro m s₁ hi N B E hN hS hB hk' hr;cases hi with|mk j O k hm hj c l jM S Rd D₁ rx=>?_
 subst hm;refine wn hw ha.hd jM.iv rx (by refine(af (aC ..))▸?_;exact hj) (λq v h' tk W je D RZ hv=>?_) λh' tk hend je hk=>?_
 ·rw[bZ] at W;refine aI (map_some W) λx T e=>?_;rw[<-e] at hv;have hjl:=(aB.mp T).1;have ad7:=J3 (u4 Q) _ _ _ _ _ _ jM.fr D;have abW:=jM.tt.step D<|AO<|js hI9
  refine hS _ _ (av<|wpAny_assign_Name ?_);refine a0 (lg hx0.fe h3 hx0.nd S (.inl hlk) (hV Z) je ⟨ad7,hv⟩) (λ_ s₃ z=>?_) λ_ _ (z:False)=>z.elim;have Y:=z.1;have K7:=jK.stable hw Q hfp _ _ _ _ _ _ RZ Y;have NZ:=(D₁.step D<|AO<|js hId).step Y hdw;have hlen:=aN (Kx U l7<|j+1).length_le hz;refine ak<|OV hx0 hCd h hXd hXc u h1 (by refine ah (dQ<|by decide) ?_;exact Rd) h3 (cJ S) ⟨z.2.1,z.2.2.1,abW.step Y h99⟩ NZ hdw h9 ?_ ?_ λs₄ NY ri b E1=>av ?_
  ·refine(zi T)▸?_;exact hnd.sublist<|((Kx U l7<|j+1).sublist).map _
  ·rw[<-KA,<-zi T,aJ,KA x.1] at hlen;exact hlen
  ·rw[zi T,PP T] at NY;have xw:=jK.stable hw (AO hId) (λa i=>AO λq=>(K7.2.2.2.1 a i).elim (λr=>hId<|ah r.symm q) λy=>aI y λo' H _=>aE<|ah NZ.kd.symm<|q▸H) _ _ _ _ _ _ K7 b;refine(hB _ _ (pa (iV hjl)<|kG j) ⟨j+1,_,k,rfl,hjl,?_,l.trans<|jy ⟨rfl,rfl⟩<|z.2.2.2.trans E1,ri,by refine(af d7)▸?_;exact S,by refine ah (dQ<|by decide) ?_;exact Rd,NY,xw⟩).1;exact((c.hide D<|u4<|.inr gI).hide Y λa q=>.inr<|gw a q).hide b<|u4<|.inr gd
 ·have hje:j=aa l7:=ah hend (aC ..);rw[hje,fF] at D₁;refine i8 jM.tt λk9 m9 y=>aI y λpz ez okz=>?_;have sQ:qy w Z sc O [] [] M k h':=⟨je,jM.fr.but hk Q,k9,m9,pz,hk _ _ (js hI9) ez,okz⟩;obtain⟨⟨kvs,hm,e1,e2⟩,kd,md⟩:=D₁;refine gN (n0 hm) λo L _ up=>?_;exact hN _ (av (a:=l0)<|hR {s₁ with heap:=h',toks:=tk} k O sQ Rd ⟨⟨kvs,up _ (hk _ _ (js hId) L),e1,e2⟩,kd,md⟩ (c.sN gI hk)<|l.trans ⟨rfl,rfl⟩)
end
theorem VU:(bH 161).2.1=[
 .Assign [.Name "found" ⟨607,4,607,9⟩] (.Call (.Name "dict" ⟨607,12,607,16⟩) [.Call (.Name "text_rows" ⟨607,17,607,26⟩) [] [] ⟨607,17,607,28⟩] [] ⟨607,12,607,29⟩) ⟨607,4,607,29⟩,
 .For (.Name "rows" ⟨608,8,608,12⟩) (.Tuple [.Call (.Name "search_rows" ⟨608,17,608,28⟩) [] [] ⟨608,17,608,30⟩,.Call (.Name "array_rows" ⟨608,32,608,42⟩) [] [] ⟨608,32,608,44⟩,.Call (.Name "sign_rows" ⟨608,46,608,55⟩) [] [] ⟨608,46,608,57⟩] 0 ⟨608,16,608,58⟩)
  [.Expr (.Call (.Attribute (.Name "found" ⟨609,8,609,13⟩) "update" ⟨609,8,609,20⟩) [.Name "rows" ⟨609,21,609,25⟩] [] ⟨609,8,609,26⟩) ⟨609,8,609,26⟩] [] ⟨608,4,609,26⟩,
 .Return (ac<|.Name "found" ⟨610,11,610,16⟩) ⟨610,4,610,16⟩]:=rfl
theorem Z1 (P):jL (cD P) "dict" (.type "dict"):=zE rfl rfl
theorem ZV (P):jL (cD P) "text_rows" (.ref 979):=oK rfl
theorem Rj (P):jL (cD P) "search_rows" (.ref 965):=oK rfl
theorem Va (P):jL (cD P) "array_rows" (.ref 972):=oK rfl
theorem ZW (P):jL (cD P) "sign_rows" (.ref 958):=oK rfl
section
variable {K:aO}
theorem sL (L:s.heap.get? a=ac o) (g:o.data=.func fd) (y:aD (MM w) A (call (.ref a) [] []) Q E s):
 aD (MM w) A (iL G (.ref a) [] [] []) Q E s:=by
 unfold iL;refine ak<|a9 ?_
 have e:Wm (.ref a) aq [] []=(pure ⟨[],[]⟩:jN Args):=by rfl
 refine kW e<|av<|f6 (λ_ _ h=>cf h) ?_
 refine ak ?_;unfold nE;refine f6 (λ_ _ h=>uE L h)<|g▸?_
 refine av<|s0 (by decide) ?_
 unfold aaX;exact ak<|a0 (yd y) (λr C d=>ak<|a9<|mW<|av d) λ_ _ x=>x
theorem yh (h:oV w a U z) (Y:∃o fd,cD w.params a=ac o/\o.data=.func fd) (S:jL (cD w.params) x (.ref a)) (c:(x==("__debug__":an))=ai) (T:dk (cD w.params) (kn b) Z)
 (W:b.lookup x=ac .globalImplicit) (I:kA 64 A M) (X:939∉aY Z) (R:qy w Z b V [] [] M K s.heap)
 (L:∀v F j,VR j [] (.dct U z) v->qy w Z b V [] [] M j F.heap->Step [939] K [] s.heap j [] F.heap->aW s F->Q v F):aD (MM w) A (eval (.Call (.Name x d) [] [] G) Z) Q E s:=by
 refine kW (dN ..)<|f6 (λ_ _ h=>ir T.fe c (T.gi _ W) R.iv S h) ?_
 refine iI Y λo fd J O=>?_;refine sL (R.iv.sub _ _ (R.iv.stat _ _ J)) O<|h I R.iv R.tt λr F j t st P e N=>?_
 exact L r F j t ⟨P,J3 (u4 X) _ _ _ _ _ _ R.fr st,e⟩ st N
theorem VD (h:oV w a names ps) (Y:∃o fd,cD w.params a=ac o/\o.data=.func fd) (hg:jL (cD w.params) x (.ref a)) (hxd:(x==("__debug__":an))=ai) (T:dk (cD w.params) (kn b) Z)
 (hgi:b.lookup x=ac .globalImplicit) (G:b.lookup ("dict":an)=ac .globalImplicit) (I:kA 64 A M) (X:939∉aY Z) (r:(qR names).Nodup) (N:aa names<=900) (R:qy w Z b V [] [] M K s.heap)
 (L:∀d F j,DS w d (qR names) ps j [] F.heap->s.heap.get? d=am->d∉aY Z->d≠939->qy w Z b V [] [] M j F.heap->Step [939] K [] s.heap j [] F.heap->aW s F->Q (.ref d) F):
 aD (MM w) A (eval (.Call (.Name "dict" p1) [.Call (.Name x g) [] [] e] [] p4) Z) Q E s:=by
 (refine kW (dN ..) ?_;rw[dD p4 Z _ (by rfl)])
 refine f6 (λ_ _ h=>ir T.fe (by decide) (T.gi _ G) R.iv (Z1 _) h)<|iA<|spliced_cons<|yh h Y hg hxd T hgi I X R λv u k t jM c l=>fH ⟨.inr<|.inr<|np rfl,?_⟩
 refine I6 (RU t jM.iv.par (λa o q=>jM.iv.sub _ _ q) r) λo ob p S ko no1 z m i=>?_;subst S;have C:aa p=aa names:=by have:=congrArg aa m;simpa[qR] using this
 refine DE (zk jM) λsQ D₂ D J O=>kt_call_dict (by rw[beq_eq_false_iff_ne];exact no1) z (by exact bh▸cQ (bk [aa names,aa p] [] [(1,aK,.n 900),(1,bg,aK),(1,xi<|.n 16777216,bg)] rfl (cl N)<|cl<|ao C)) λf U P=>?_;refine gN (n0 U) λB y nf' _=>?_;have H:=sQ.Sl (k4 D₂) D₂.kd D₂.md J O P ⟨B,y⟩;have gd:=c.none<|bX _
 refine L _ {u with heap:=f} k ⟨⟨p,U,m,i⟩,D₂.kd,D₂.md⟩ gd J O H ((c.trans D).hide (jz (W:=[u.heap.objs.size]) P (by simp) ⟨B,y⟩) λa q=>.inr<|by rw[aV] at q;subst q;exact gd) (l.trans ⟨rfl,rfl⟩)
end
section
variable {K:aO}
theorem fnK (Y:FnAt X a params body scope e):∃o fd,X a=ac o/\o.data=.func fd:=by exact cN Y.ex λo fd c E _=>⟨o,fd,c,E⟩
theorem To
 (h1:oV w a1 n1 q1) (h2:oV w a2 n2 q2) (h3:oV w a3 n3 q3) (n:∃o fd,cD w.params a1=ac o/\o.data=.func fd) (f2:∃o fd,cD w.params a2=ac o/\o.data=.func fd) (f3:∃o fd,cD w.params a3=ac o/\o.data=.func fd)
 (g1:jL (cD w.params) x1 (.ref a1)) (Z:jL (cD w.params) x2 (.ref a2)) (g3:jL (cD w.params) k (.ref a3)) (d1:(x1==("__debug__":an))=ai) (d2:(x2==("__debug__":an))=ai) (d3:(k==("__debug__":an))=ai)
 (T:dk (cD w.params) (kn b) env) (i1:b.lookup x1=ac .globalImplicit) (i2:b.lookup x2=ac .globalImplicit) (i3:b.lookup k=ac .globalImplicit) (hCd:(C==("__debug__":an))=ai) (hCc:(C==("__classdict__":an))=ai) (hXd:(X==("__debug__":an))=ai) (hXc:(X==("__classdict__":an))=ai) (u:(ap.endLine==pos.line)=aq)
 (l1:(b.map (·.1))[0]?=ac C) (t:(b.map (·.1))[1]?=ac X) (hlk:env.kindOf X=ac .local) (hnd:(qR<|U++(n1++(n2++n3))).Nodup) (N:aa (U++(n1++(n2++n3)))<=900) (I:kA 64 A M) (h99:939∉aY env) (hdw:d∉aY env) (O:d≠939)
 (gd:g.get? d=am) (gw:∀a∈aY env,g.get? a=am) (R:qy w env b V [] [] M K s.heap) (hl:2<=aa V) (hs0:V[0]?=ac (ac<|.ref d)) (D:DS w d (qR U) ps K [] s.heap) (st:Step [939] f [] g K [] s.heap)
 (L:∀F j G,qy w env b G [] [] M j F.heap->G[0]?=ac (ac<|.ref d)->DS w d (qR<|U++(n1++(n2++n3))) (ps++(q1++(q2++q3))) j [] F.heap->Step [939] f [] g j [] F.heap->aW s F->Q .next F):
 aD (MM w) A (exec (.For (.Name X xp) (.Tuple [.Call (.Name x1 m) [] [] p2,.Call (.Name x2 p3) [] [] p4,.Call (.Name k p5) [] [] p6] 0 p7) [.Expr (.Call (.Attribute (.Name C cp) "update" ap) [.Name X xp2] [] pos) p] [] p8) env) Q E s:=by
 refine afU<|mX ?_
 rw[dD _ env _ (by rfl)];refine spliced_cons<|yh h1 n g1 d1 T i1 I h99 R λB s₁ K₁ hv1 v c l=>?_
 refine spliced_cons<|yh h2 f2 Z d2 T i2 I h99 v λv2 s₂ K₂ hv2 z lz jH=>?_
 refine spliced_cons<|yh h3 f3 g3 d3 T i3 I h99 z λv3 x kz hv3 wM Y ip=>?_
 refine fH ⟨by rw[bh];simp,?_⟩;have NZ:=((D.step c<|by simp[O]).step lz<|by simp[O]).step Y<|by simp[O]
 refine gN (qI wM.iv<|b8 (fD (lz.trans Y) hv1)<|b8 (fD Y hv2)<|b8 hv3 eA) λj At e h=>?_;have ri:qy w env b V [] [] M j (x.heap.push {cls:=.type "tuple",data:=.seq [B,v2,v3].toArray}):=⟨At,dw _ _ _ _ _ _ wM.fr (e []),wM.tt.step (e [])<|by simp⟩;have NY:=NZ.step (e [])<|by simp
 have St:=((st.trans c).trans<|lz.trans Y).trans<|e [939]
 generalize hsh:(x.heap.push {cls:=.type "tuple",data:=.seq [B,v2,v3].toArray})=h4 at ri NY St At h;refine wo At h rfl λfp P J o hw ci hfr=>?_;have r:=Ar h4 o;have Rg:=St.none<|bX _
 have hI:h4.objs.size∉aY env:=λq=>by refine be (jf ri.fr q) λoa ea=>?_;rw[bX] at ea;exact aE ea
 have hI9:h4.objs.size≠939:=λq=>by refine i8 ri.tt λ_ _ S=>aI S λpz ez _=>?_;rw[<-q,bX] at ez;exact aE ez
 have hId:h4.objs.size≠d:=λq=>by refine aI (k4 NY) λod ed _=>?_;rw[<-q,bX] at ed;exact aE ed
 have GU:qy w env b V [] [] M j (h4.push o):=⟨At.keep r,dw _ _ _ _ _ _ ri.fr r.step,ri.tt.step (r.step (W:=[]))<|by simp⟩;refine OW (l7:=[(n1,q1),(n2,q2),(n3,q3)]) (f:=f) (g:=g) T hCd hCc hXd hXc u l1 t hlk (by simpa[xJ] using hnd) (by simpa[xJ] using N) hw I hdw O h99 hI hI9 hId (λa ha' q=>?_) gd Rg gw GU hl hs0 (NY.step (r.step (W:=[]))<|by simp) ci (St.trans<|r.step (W:=[939])) λF Jy G GT y ajy i yT=>?_
 ·refine be (jf ri.fr q) λoa ea=>?_;rcases ci.2.2.2.1 a ha' with rfl|⟨o',H,_⟩
  ·exact hI q
  ·rw[ri.fr.Kw q] at H;exact aE H
 ·exact L F Jy G GT y (by simpa[xJ] using ajy) i<|l.trans<|jH.trans<|ip.trans<|jy ⟨rfl,rfl⟩ yT
end
theorem sh:cH.take 19++((cH.drop 19).take 6++((cH.drop 25).take 2++cH.drop 27))=cH:=rfl
theorem IB:d6.take 19++((d6.drop 19).take 6++((d6.drop 25).take 2++d6.drop 27))=d6:=rfl
abbrev Su:List (an×f8):=(bH 161).2.2.names
theorem M7 {K:aO} (R:qy w Z b V [] [] M K h) (D:DS w d (qR U) z K [] h) (gd:g.get? d=am) (J:d∉aY Z) (O:d≠939) (st:Step [939] f [] g K [] h):
 ∃j,VR j [] (.dct U z) (.ref d)/\qy w Z b V [] [] M j h/\Step [939] f [] g j [] h:=by
 have W:d≠1:=by rintro rfl;have:=R.iv.stat 1 _ (by kernel_rfl:cD w.params 1=ac (Wo w.params));rw[show K 1=am from D.kd] at this;exact aE this
 refine gN (D.freeze R.iv R.iv.par W) λo L P t=>?_;have kle:∀a o',K a=ac o'->gk K d o a=ac o':=λa o' q=>by refine ah (db<|by rintro rfl;rw[D.kd] at q;exact aE q) ?_;exact q
 refine i8 R.tt λu v S=>aI S λB c e=>?_;exact⟨gk K d o,t,⟨P,R.fr.Qw rfl kle λa i=>by exact ah (db λq=>J<|q▸i)<|R.fr.Kw i,⟨by exact ah (db<|js O)<|u,v,B,c,e⟩⟩,st.gk gd D.kd⟩
theorem HE (y:lU w) {K:aO} (I:kA 70 A M) (iv:Inv (cD w.params) K [] [] M s.heap) (tt:TT K [] s.heap)
 (L:∀r F j,VR j [] (.dct cH d6) r->Step [939] K [] s.heap j [] F.heap->Inv (cD w.params) j [] [] M F.heap->TT j [] F.heap->aW s F->Q r F):aD (MM w) A (call (.ref 986) [] []) Q E s:=by
 refine jZ (Z8 _) (jR _) I iv eA rfl (z8 (Z8 _) (by decide+kernel) rfl iv) λZ u k T P m c h U l V=>?_;have X:=akV tt m;have jM:qy w Z Su _ [] [] (Z::M) k u.heap:=⟨h,U,tt.step c<|by simp⟩;have S:=P.mono<|show 64<=69 by exact ch _ _
 refine VU▸?_;refine ak<|rS<|VD (TC y) (fnK<|aeg w.params) (ZV _) (by decide) T rfl rfl S X (by have:=ve 0 19;exact this) (by decide+kernel) jM λd C g D₂ fd J O sQ D f=>?_
 have gd:=c.none fd;refine a0 (lg (i:=0) (p:=.ref d) T.fe (show(Su.map (·.1))[0]?=ac ("found":an) from by kernel_rfl) T.nd (by refine(af V)▸?_;decide+kernel) (.inl<|T.lc _ (by kernel_rfl)) (hV Z) sQ.iv ⟨sQ.fr,show _=_ from rfl⟩) (λ_ x Yu=>vD Yu λY n W o=>?_) λ_ _ (z:False)=>z.elim;have H:qy w Z Su ((fE (aa Su) []).set 0<|ac<|.ref d) [] [] (Z::M) g x.heap:=⟨n,W,sQ.tt.step Y X⟩;have NZ:=D₂.step Y J;have aaJ:Step [939] K [] s.heap g [] x.heap:=((c.mono<|by simp).trans D).hide Y λa q=>.inr<|m a q
 refine ak (To (Mb y) (Sn y) (TM y) (fnK<|aei w.params) (fnK<|aeh w.params) (fnK<|aej w.params) (Rj _) (Va _) (ZW _) (by decide) (by decide) (by decide) T (by kernel_rfl) (by kernel_rfl) (by kernel_rfl) (by decide) (by decide) (by decide) (by decide) rfl (by kernel_rfl) (by kernel_rfl) (T.lc _ (by kernel_rfl))
  (by refine(af sh)▸?_;exact FH) (by refine(af sh)▸?_;decide+kernel) S X J O gd m H (by(refine(af d7)▸?_;refine(af V)▸?_);decide+kernel) (cJ<|by refine(af V)▸?_;decide+kernel) NZ aaJ λt G σ₄ ri R B b N=>?_)
 rw[sh,IB] at B;refine ak (gS (gM T.fe (by decide) (by decide) (show(Su.map (·.1))[0]?=ac ("found":an) from by kernel_rfl) R ri.fr λv hv=>?_));replace hv:_=_:=hv;subst hv;refine gN (M7 ri B gd J O b) λJz adI GU e=>?_;exact av<|L _ t Jz adI e GU.iv.pop GU.tt (l.trans<|f.trans<|o.trans N)
abbrev BE (x:List Nat):PyData:=.tuple [.str ⟨ag Ky⟩,.str ⟨ag x⟩,.tuple []]
theorem HW {K:aO} (W:VR K O (fk x) v) (sub:∀a o,K a=ac o->h.get? a=ac o):∃a as,v=.ref a/\Reads h (.ref a) (BE x) as:=by
 unfold fk at W;obtain⟨a,o,n,U,rfl,C,P,g,d⟩:=W;refine cN d λB s S J V=>?_;subst S;refine cN V λz T Z R H=>?_;subst Z;refine cN H λi j G y k=>?_;subst G;subst k;refine be J λt S=>?_;subst S;refine be R λu S=>?_;subst S;obtain⟨b,ob,m,Y,rfl,c,f,l,e⟩:=y;replace e:_=_:=e;subst e;have X:Reads h (.ref b) (.tuple []) []:=.tuple (sub _ _ c) f l .nil;have I:=Aw (agY ⟨ag Ky⟩ t)<|Aw (agY ⟨ag x⟩ u)<|Aw X ReadsAll.nil
 exact⟨a,_,rfl,Reads.tuple (sub _ _ C) P g I⟩
theorem aaw:(bH 27).2.1=[.Return (ac (.Tuple [.Call (.Name "kind_text" ⟨99,12,99,21⟩) [.Name "kind" ⟨99,22,99,26⟩] [] ⟨99,12,99,27⟩,.Call (.Name "written_kind" ⟨99,29,99,41⟩) [.Name "kind" ⟨99,42,99,46⟩,.Constant (.bool aq) 0 ⟨99,48,99,52⟩] [] ⟨99,29,99,53⟩,
 .Call (.Name "repr" ⟨99,55,99,59⟩) [.Name "kind" ⟨99,60,99,64⟩] [] ⟨99,55,99,65⟩] 0 ⟨99,11,99,66⟩)) ⟨99,4,99,66⟩]:=rfl
theorem ael (P):FnAt (cD P) 190 (bH 27).1 (bH 27).2.1 (bH 27).2.2 []:=my rfl
theorem ZY (P):jL (cD P) "repr" (.builtin "repr"):=zE rfl rfl
section
variable {K:aO}
theorem Xs (e):bK w (cD w.params) 5 CX e:=(jU rfl CW i5 e).1.1
def tS (K:aO) (O:List bn) (r:Value):Prop:=∃a b c,VR K O (.tup [.str a,.str b,.str c]) r
theorem Zx {x a b:List Nat} (I:kA 20 A M) (N:Inv (cD w.params) K O H M s.heap) (hv:VR K O (fk x) v) (hsz:(BE x).shown.length<=jb)
 (e1:CX 183 [fk x] H=.ok (.str a) H) (e2:CX 176 [fk x,.bool aq] H=.ok (.str b) H)
 (L:∀r F j,tS j O r->Step [] K O s.heap j O F.heap->Inv (cD w.params) j O H M F.heap->aW s F->Q r F):aD (MM w) A (call (.ref 190) [v] []) Q E s:=by
 refine jZ (ael _) (jR _) I N (b8 hv eA) rfl (z8 (ael _) (by decide+kernel) rfl N) λZ s₁ k T P hfw c h U eX V=>aaw▸?_;refine ak<|gS<|mX ?_
 rw[dD _ Z _ (by rfl)]
 have J:bp CX (bR (kn (bH 27).2.2.names) ai<|.Call (.Name "kind_text" ⟨99,12,99,21⟩) [.Name "kind" ⟨99,22,99,26⟩] [] ⟨99,12,99,27⟩) (fE (bH 27).2.2.names.length [fk x]) H=.ok (.str a) H:=by refine(show bR (kn (bH 27).2.2.names) ai (.Call (.Name "kind_text" ⟨99,12,99,21⟩) [.Name "kind" ⟨99,22,99,26⟩] [] ⟨99,12,99,27⟩)=.aA 183 [.loc 0] from by kernel_rfl)▸?_;exact e1
 have d:bp CX (bR (kn (bH 27).2.2.names) ai<|.Call (.Name "written_kind" ⟨99,29,99,41⟩) [.Name "kind" ⟨99,42,99,46⟩,.Constant (.bool aq) 0 ⟨99,48,99,52⟩] [] ⟨99,29,99,53⟩) (fE (bH 27).2.2.names.length [fk x]) H=.ok (.str b) H:=by refine(show bR (kn (bH 27).2.2.names) ai (.Call (.Name "written_kind" ⟨99,29,99,41⟩) [.Name "kind" ⟨99,42,99,46⟩,.Constant (.bool aq) 0 ⟨99,48,99,52⟩] [] ⟨99,29,99,53⟩)=.aA 176 [.loc 0,.const<|.bool aq] from by kernel_rfl)▸?_;exact e2
 refine spliced_cons<|evG T (Xs _) (P.mono<|ch _ _) h U J λB C g X y S D f=>?_
 refine spliced_cons<|evG T (Xs _) (P.mono<|ch _ _) y S d λz s₃ kz R jx W Y ip=>?_
 refine spliced_cons ?_;dsimp only
 (refine kW (dN ..) ?_;rw[dD _ Z _ (by rfl)])
 refine ak<|ir T.fe (by decide) (T.gi _ rfl) jx (ZY _) ?_
 refine iA<|spliced_cons<|gM (i:=0) T.fe (by decide) (by decide) rfl rfl W λu hu=>fH ⟨.inl ⟨_,rfl⟩,?_⟩
 refine iI (HW hu λa o q=>jx.sub _ _ q) λau as PM p=>?_;subst PM;refine repr_of_reads' p (by rfl) (λq=>by cases q) P.gd ?_ (λ_ _ e=>e) (λh' t tk G=>fH ⟨by refine bh▸?_;simp,?_⟩) hsz
 ·have:=P.un;have hd:(BE x).depth=2:=rfl;exact cQ<|bk [(A.deeper Z).units,yy,(BE x).depth] [] [(1,xi<|.a (.a aK<|.m 10<|.n 19)<|.n 20,bg),(1,cu,.n 2),(1,xi bg,xi<|.a aK<|xi cu)] rfl (cl this)<|cl<|ao hd
 have kp:de s₃.heap h':=.of_keeps G;have lO:=jx.keep kp;have pn:Step [] kz O s₃.heap kz O h':=kp.step;refine gN (qI (s:={s₃ with heap:=h',toks:=tk}) (l:=[.str a,.str b,.str (BE x).shown.cps.toList]) lO<|b8 (fD (Y.trans pn) X)<|b8 (fD pn R)<|b8 (by exact⟨t,by rw[J1]⟩) eA) λj At st' hv'=>?_;refine av<|L _ _ j ⟨_,_,_,hv'⟩ ((c.trans<|D.trans<|Y.trans pn).trans<|st' _) At.pop (eX.trans<|f.trans<|ip.trans ⟨rfl,rfl⟩)
end
theorem kA.in1 (x:kA (n+1) A fs):kA n A.in1 fs:=
 ⟨x.hd,by have:=x.dp;show A.depth+n<_;exact cQ<|bk [A.depth,n,nA] [] [(1,xi<|.a aK<|xi bg,cu),(1,xi cu,xi<|.a aK bg)] rfl<|cl this,by have:=x.un;show A.units+1+10*n+20<_;exact cQ<|bk [A.units,n,yy] [] [(1,xi<|.a (.a aK<|.m 10<|xi bg)<|.n 20,cu),(1,xi cu,xi<|.a (.a (xi aK)<|.m 10 bg)<|.n 20)] rfl<|cl this,x.fr,x.gd⟩
noncomputable def pS (n:Nat):KasT Z->Bool
 |.ret _=>aq
 |.ask i j k=>decide (i<n)&&decide (j<n)&&pS n (k aq)&&pS n (k ai)
theorem Db {I:bj->Prop} (P:∀i j s C,i<n->j<n->I s->(∀b F,I F->C b F)->cmp i j C s):∀(t:KasT Z) (s) (Q:Z->bj->Prop),pS n t=aq->I s->(∀a F,I F->Q a F)->t.kasWp cmp Q s
 |.ret a,s,Q,_,h,L=>L a s h
 |.ask i j k,s,Q,Y,h,L=>by
  have J:=ia Y;have R:=ia J.1;have y:=ia R.1;refine P i j s _ (of_decide_eq_true y.1) (of_decide_eq_true y.2) h λb F f=>?_
  induction b with
  |true=>exact Db P (k aq) F Q R.2 f L
  |false=>exact Db P (k ai) F Q J.2 f L
theorem afF:pS 2 (wP 2)=true:=rfl
theorem afE:pS 3 (wP 3)=true:=rfl
structure SO (P:cG) (gF:aO) (μ:List bn) (H:Hp) (fs:List mh) (g:eK) (K:aO) (h:eK):Prop where
 iv:Inv (cD P) K μ H fs h
 st:Step [] gF μ g K μ h
structure yv (μ:List bn) (g:eK) (d:bn) (xs:Array Value) (K:aO) (h:eK):Prop where
 gd:g.get? d=am
 kd:K d=am
 md:d∉μ
 at_:∃n,h.get? d=ac (nz "list" xs n)
section
variable {w:dG} {gF K:aO}
theorem C7:¬b5 (nz "list" xs n):=λf=>absurd (show nh "list"=.type "frame" from f.1)<|by decide
theorem SO.push (x:SO w.params gF O H M g K h) (o):SO w.params gF O H M g K (h.push o):=⟨x.iv.keep<|Ar h o,x.st.trans (Ar h o).step⟩
theorem SO.upd (x:SO w.params gF O H M g K h) (o:yv O g d xs K h) (f):SO w.params gF O H M g K (h.update d<|fU f)/\yv O g d (f xs) K (h.update d<|fU f):=by
 refine be o.at_ λn L=>?_;have Z:=ds h d<|fU f
 have F:=get?_update_seq L f;refine⟨⟨x.iv.H9 o.kd o.md Z λB e fo=>?_,x.st.hide (jz (W:=[d]) Z (by simp) ⟨_,F⟩) λa q=>.inr<|by rw[aV] at q;subst q;exact o.gd⟩,o.gd,o.kd,o.md,_,F⟩;rw[L] at e;obtain rfl:=al e;exact absurd fo C7
theorem yv.step (o:yv μ g d xs K h) (st:Step [] K μ h j μ h'):yv μ g d xs j h':=by exact be o.at_ λn L=>⟨o.gd,st.lH o.kd L,o.md,n,st.same L o.md (by simp) C7⟩
theorem yv.keep (o:yv O g d xs K h) (e:h'.get? d=h.get? d):yv O g d xs K h':=⟨o.gd,o.kd,o.md,by exact e▸o.at_⟩
theorem SO.fresh (x:SO w.params gF μ H M g K h) (e:h.get? d=am):g.get? d=am/\K d=am/\d∉μ:=⟨x.st.none e,x.iv.cO e,x.iv.dY e⟩
theorem Iw (l:∀r,C r s):aD (MM w) A (oneLt' c (.str a t)<|.str b u) C E s:=by
 induction c with
 |true=>exact oneLt_str<|l _
 |false=>exact kat_one _ _ (PySem.P.lt_str<|l _)
theorem Zy (sub:∀a o,K a=ac o->s.heap.get? a=ac o) (J:tS K O r) (R:tS K O q) (l:∀b,C b s):aD (MM w) A (keyLt' (tuples' aq) r q) C E s:=by refine DD J λW I c1 J=>?_;refine DD R λf v c2 R=>?_;obtain⟨x,P,n,U,rfl,p,_,i,g⟩:=J;obtain⟨y,L,m,B,rfl,D,_,z,F⟩:=R;refine cN g λ_ _ S V H=>?_;subst S;refine be V λt1 Z=>?_;subst Z;refine cN H λ_ _ G k N=>?_;subst G;refine be k λt2 M=>?_;subst M;refine cN N λ_ _ u h t=>?_;subst u;refine be h λt3 j=>?_;subst j;subst t;refine cN F λ_ _ S V H=>?_;subst S;refine be V λd Z=>?_;subst Z;refine cN H λ_ _ G k N=>?_;subst G;refine be k λc M=>?_;subst M;refine cN N λ_ _ u h t=>?_;subst u;refine be h λe j=>?_;subst j;subst t;refine kat_lt (sub _ _ p) i (sub _ _ D) z ?_;show KatLex _ _ _ _ _ _ [(.str _ t1,.str _ d),(.str _ t2,.str _ c),(.str _ t3,.str _ e)] 0 s;refine kat_cons<|D5<|kat_go (λ_=>kat_yes<|kat_cons<|D5<|kat_go (λ_=>kat_yes<|kat_cons<|D5<|kat_go (λ_=>kat_yes<|kat_nil<|l _) λ_=>kat_no<|Iw l) λ_=>kat_no<|Iw l) λ_=>kat_no<|Iw l
end
section
variable {gF K:aO}
theorem J8 (sub:∀a o,K a=ac o->h.get? a=ac o):∀{j},(∀r∈j,tS K O r)->∃M,aa M=aa j/\KatTups h j M/\∀v∈M,∃x t,v=.str x t
 |[],_=>⟨[],rfl,trivial,λ_ h=>absurd h aZ⟩
 |r::j,G=>by
  refine gN (J8 sub (j:=j) λq L=>G q<|by simp[L]) λM C U X=>DD (G r<|by simp) λa b c d=>?_;obtain⟨x,P,n,W,rfl,p,Y,i,g⟩:=d;refine cN g λ_ _ S V _=>?_;subst S;refine be V λt Z=>?_;subst Z
  exact⟨.str ⟨ag a⟩ t::M,by simp[C],KatTups.cons (sub _ _ p) Y i rfl U,λv hv=>by
   rcases aM.mp hv with rfl|hv
   ·exact⟨_,_,rfl⟩
   ·exact X v hv⟩
theorem TE {st:SortSt} (b:(arrOf st).map (·.2)=ag z) (N:aa z<64) (k:aa j<64) (Y:failedOf st=am) (x:SO w.params gF O H M g K s.heap) (W:yv O g p (ag j) K s.heap) (a:yv O g D #[] K s.heap)
 (u:s.heap.get? D=ac (nz "list" #[] m)) (X:D≠p) (L:∀F,SO w.params gF O H M g K F.heap->yv O g D (ag z) K F.heap->aW s F->P (.done<|.ret .none) F):
 aD (MM w) A (ksk_tail D ai m (.ref p) st) P E s:=by
 refine be W.at_ λn G=>?_;unfold ksk_tail
 try dsimp only
 refine b▸?_;simp only[bP,if_false];refine bD (x.upd W λ_=>#[]) λc i=>ak<|yx G rfl ?_ (by(refine aS▸?_;refine bh▸?_);exact aN (eV<|by assumption)<|by decide) (hX _)
 refine ak<|wpAny_letGo ?_
 have f:=ah (gQ s.heap D p (fU λ_=>(#[]:Array Value)) X) u;refine f6 (λ_ _ h=>seqEpoch_at f rfl h)<|ak<|yx f rfl ?_ (hX _) (by show(ag z).size<=_;(refine aS▸bh▸?_);exact aN (eV<|by assumption)<|by decide)
 refine bD (c.upd (a.keep<|gQ s.heap D p (fU λ_=>(#[]:Array Value)) X) λ_=>ag z) λd e=>?_;refine Y▸?_;simp only[bne_self_eq_false,bP,if_false];exact av<|L _ d e ⟨rfl,rfl⟩
theorem aaf {U ks:List Value} (hl:aa ks=aa U) (R:2<=aa U) (h64:aa U<64) (aiz:pS (aa U) (wP<|aa U)=aq) (G:∀r∈ks,tS K O r) (x:SO w.params gF O H M g K s.heap) (oS:yv O g kS (ag ks) K s.heap) (oD:yv O g D #[] K s.heap)
 (u:s.heap.get? D=ac (nz "list" #[] m)) (X:D≠kS) (L:∀F z,SO w.params gF O H M g K F.heap->yv O g D (ag z) K F.heap->aa z<64->aW s F->P (.done<|.ret .none) F):
 aD (MM w) A (ksk_end D ai (ag U) m (.ref kS)<|ag ks) P E s:=by
 have sub:∀a o,K a=ac o->s.heap.get? a=ac o:=λa o q=>x.iv.sub _ _ q;have c:¬U.toArray.size<2:=by exact aS▸λq0=>bk [aa U] [] [(1,.n 2,aK),(1,xi aK,.n 2)] rfl (cl R)<|cl q0
 refine gN (J8 sub G) λk V ht Z=>?_;unfold ksk_end
 try dsimp only
 simp only[bP,if_false]
 (refine kW (if_neg c)<|(if_neg c)▸?_)
 refine ak<|kat_kind (T:=.type "str") ht (by exact cQ<|bk [aa U,aa ks,aa k] [] [(1,aK,bg),(1,.n 2,aK),(1,bg,cu),(1,xi cu,xi ei)] rfl (cl<|ao<|af hl) (cl R)<|cl<|ao<|af V) (λv hv=>?_) (by decide) ?_
 ·refine lm (Z v hv) λy t S=>?_;subst S;exact np rfl
 refine(show(nh "str"!=nh "tuple")=aq from by decide)▸?_;refine ak<|a0 (kat_run (Q:=λe F=>F=s/\∃p:Array Nat,p.size=aa U/\arrOf e=p.map (kas_item<|ks.toArray.zip<|ag U)/\failedOf e=am) hl R h64 (λp e F a1 f a3 h=>⟨h,p,a1,f,a3⟩) ?_) ?_ λ_ _ y=>y
 ·refine Db (I:=λF=>F=s) (λi j F C hi hj d l=>?_) _ s _ aiz rfl λ_ _ y=>y;subst d;show aD (MM w) A (keyLt' _ _ _) _ _ _
  have N:∀i,i<aa U->tS K O (ks.getD i gf):=λi hi=>by
   have:i<aa ks:=by exact cQ<|bk [aa U,aa ks,i] [] [(1,aK,bg),(1,xi cu,aK),(1,xi bg,xi cu)] rfl (cl<|ao<|af hl)<|cl hi
   (refine(af eB)▸?_;refine(af<|aP this)▸?_)
   exact G _ (hZ this)
  exact Zy sub (N i hi) (N j hj) λb=>l b F rfl
 ·rintro ⟨⟨⟩,e⟩ F ⟨rfl,p,W,har,Y⟩
  try dsimp only
  have hsn:=kat_snds hl har;exact TE hsn (by(refine(af (aC ..))▸?_;refine(af uL)▸?_;refine(af W)▸?_);exact h64) (by exact cQ<|bk [aa ks,aa U] [] [(1,aK,bg),(1,xi bg,.n 64),(1,xi<|.n 64,xi aK)] rfl (cl<|ao hl)<|cl h64) Y x oS oD u X λs'' J B so=>L s'' _ J B (by(refine(af (aC ..))▸?_;refine(af uL)▸?_;refine(af W)▸?_);exact h64) so
end
def pX (H:Hp) (x:List Nat):Prop:=(BE x).shown.length<=jb/\(∃a,CX 183 [fk x] H=.ok (.str a) H)/\∃b,CX 176 [fk x,.bool aq] H=.ok (.str b) H
def Ae (H:Hp) (K:aO) (O:List bn) (v:Value):Prop:=∃x,pX H x/\VR K O (fk x) v
section
variable {gF K:aO}
theorem MJ (I:kA 20 A M) (X:D≠p)
 (B:∀(x:Value) (s:bj) (C:ForInStep PUnit->bj->Prop),aD (MM w) A (call (.ref 190) [x] []) (λk F=>aD (MM w) A (ahf (.ref p) (·.push k)) (λ_ s''=>C (.yield ⟨⟩) s'') E F) (λ_ _=>False) s->aD (MM w) A (body x ⟨⟩) C E s):
 ∀(r:List Value),∀(j) (K) (s) (Q:PUnit->bj->Prop),aa j+aa r<64->(∀v∈r,Ae H K O v)->(∀q∈j,tS K O q)->SO w.params gF O H M g K s.heap->yv O g p (ag j) K s.heap->yv O g D #[] K s.heap->s.heap.get? D=ac (nz "list" #[] m)->
  (∀F K' d,aa d=aa j+aa r->(∀q∈d,tS K' O q)->SO w.params gF O H M g K' F.heap->yv O g p (ag d) K' F.heap->yv O g D #[] K' F.heap->F.heap.get? D=ac (nz "list" #[] m)->aW s F->Q ⟨⟩ F)->
  aD (MM w) A (forIn r lp body) Q E s:=by
 intro r
 induction r with
 |nil=>intro j K s Q _ _ G x W oD hD L;exact kW X1<|av<|L s K j (by simp) G x W oD hD<|.refl s
 |cons v r ih=>
  intro j K s Q N t G x W oD hD L;refine kW (cC ..) ?_;rw[bN] at N;refine aI (t v<|by simp) λy S hy=>i8 S λhsz V Z=>?_;refine be V λa Y=>be Z λb U=>?_;refine ak<|B v s _ (Zx I x.iv hy hsz Y U λk s₁ K₁ R dL fL l=>?_)
  have x₁:SO w.params gF O H M g K₁ s₁.heap:=⟨fL,x.st.trans dL⟩;have WZ:=W.step dL;have acZ:=oD.step dL;have adY:=dL.same hD oD.md (by simp) C7;refine be WZ.at_ λn hn=>yx hn rfl ?_ (by(refine aS▸?_;refine bh▸?_);exact cQ<|bk [aa j,aa r] [] [(1,xi<|.a aK<|xi bg,.n 64),(1,xi<|.n 16777216,aK)] rfl<|cl N) (aN (ao (Array.size_push ..))<|by(refine aS▸bh▸?_);exact cQ<|bk [aa j,aa r] [] [(1,xi<|.a aK<|xi bg,.n 64),(1,xi<|xi<|.n 16777216,xi aK)] rfl<|cl N);refine bD (x₁.upd WZ (·.push k)) λx₂ WY=>?_;rw[show(ag j).push k=ag (j++[k]) by simp] at WY;have e2:=gQ s₁.heap D p (fU (·.push k)) X;have stepK:∀q,tS K O q->tS K₁ O q:=λq Ys=>DD Ys λa b c h=>⟨a,b,c,fD dL h⟩;refine ih (j++[k]) K₁ {s₁ with heap:=s₁.heap.update p (fU (·.push k))} Q (by simp;exact cQ<|bk [aa j,aa r] [] [(1,xi<|.a aK<|xi bg,.n 64),(1,xi<|.n 64,xi<|.a (xi aK) bg)] rfl<|cl N) (λu T=>?_) (λq hq'=>?_) x₂ WY (acZ.keep e2) (ah e2 adY) λF K' d hl f J i o hD' P=>?_
  ·exact aI (t u<|by simp[T]) λz e hz2=>⟨z,e,fD dL hz2⟩
  ·rcases eG.mp hq' with hq'|hq'
   ·exact stepK q<|G q hq'
   ·simp at hq';subst hq';exact R
  ·exact L F K' d (by refine ah hl ?_;simp;exact cg (cQ<|bk [aa j,aa r] [] [(1,xi<|.a aK<|xi bg,.a (xi aK) bg)] rfl)<|cQ<|bk [aa j,aa r] [] [(1,xi<|.a (xi aK) bg,.a aK<|xi bg)] rfl) f J i o hD'<|l.trans<|jy ⟨rfl,rfl⟩ P
theorem TW {U:List Value} (I:kA 20 A M) (R:2<=aa U) (b:aa U<64) (r:pS (aa U) (wP<|aa U)=aq) (t:∀v∈U,Ae H K O v) (x:SO w.params gF O H M g K s.heap) (W:yv O g p #[] K s.heap) (a:yv O g D #[] K s.heap)
 (u:s.heap.get? D=ac (nz "list" #[] m)) (X:D≠p) (L:∀F j Z,SO w.params gF O H M g j F.heap->yv O g D (ag Z) j F.heap->aa Z<64->aW s F->P (.done<|.ret .none) F):
 aD (MM w) A (ksk_rest D (.ref 190) ai (ag U) m<|.ref p) P E s:=by
 unfold ksk_rest;refine f6 (λ_ _ h=>mH h) ?_
 first
  |rw[List.forIn_toArray]
  |(rw[<-Ok];simp only[List.toList_toArray])
  |rw[<-Ok]
 refine ak<|MJ I X (λy F C T=>?_) U [] K s _ (by simpa using b) t (λ_ h=>absurd h aZ) x W a u λF j d S f J i o l Y=>?_
 ·refine ak<|wpAny_attempt<|a0 T (λk c G=>ak<|a0 G (λ_ _ h=>av h) λ_ _ z=>z) λe c V=>V.elim
 ·try dsimp only
  exact be i.at_ λn hn=>f6 (λ_ _ h=>listItems_at hn rfl h)<|aaf (by simpa using S) R b r f J i o l X λc Z Q B N q=>L c j Z Q B N<|Y.trans q
theorem Tw {U:List Value} (I:kA 20 A M) (R:2<=aa U) (b:aa U<64) (r:pS (aa U) (wP<|aa U)=aq) (t:∀v∈U,Ae H K O v) (x:SO w.params gF O H M g K s.heap) (a:yv O g D (ag U) K s.heap)
 (X:∀F j z,SO w.params gF O H M g j F.heap->yv O g D (ag z) j F.heap->aa z<64->aW s F->P (.done<|.ret .none) F):
 aD (MM w) A (ksk_tree D (.ref 190) ai) P E s:=by
 refine be a.at_ λn L=>bD (x.upd a λ_=>#[]) λc i=>be (id i.at_) λm e=>?_;unfold ksk_tree;refine f6 (λ_ _ h=>listItems_at L rfl h)<|ak<|yx L rfl ?_ (by(refine aS▸?_;refine bh▸?_);exact aN (eV<|by assumption)<|by decide) (hX _)
 refine f6 (λ_ _ h=>seqEpoch_at e rfl h)<|ak<|ajA ?_ (by show aa U<=_;exact bh▸aN (eV<|by assumption) (by decide))
 refine ak<|yw ?_ (hX _)
 refine a9 ?_;have d:=c.push {cls:=.type "tuple",data:=.seq (ag U).toList.toArray};have k:=d.push {cls:=.type "list",data:=.seq (ag ([]:List Value))};have Z:=aR {cls:=.type "list",data:=.seq (ag ([]:List Value))}<|aR {cls:=.type "tuple",data:=.seq (ag U).toList.toArray} e
 refine i8 (d.fresh<|bX _) λY J S=>?_;refine TW I R b r t k ⟨Y,J,S,0,b6 _ rfl⟩ ⟨i.gd,i.kd,i.md,m,Z⟩ Z (eU<|dS<|aR {cls:=.type "tuple",data:=.seq (ag U).toList.toArray} e) X
end
section
variable {gF K:aO}
theorem L6 {U:List Value} (I:kA 22 A M) (C:s.heap.IsList l (ag U)) (R:2<=aa U) (b:aa U<64) (r:pS (aa U) (wP<|aa U)=aq) (t:∀v∈U,Ae H K O v) (x:SO w.params gF O H M g K s.heap)
 (L:∀F j D z,SO w.params gF O H M g j F.heap->yv O g D (ag z) j F.heap->aa z<64->aW s F->Q (.ref D) F):
 aD (MM w) A (call (.builtin "sorted") [.ref l] [(fw "key",.ref 190)]) Q E s:=by
 refine call_function_entry_kw kind_sorted plain_sorted entry_sorted (ksk_s1 _ _) ?_;unfold mi.«sorted»;refine ak<|av ?_
 refine ak<|collect_list C ?_ (by refine bh▸?_;exact aN (eV<|by assumption)<|by decide)
 refine ak<|yw ?_ (by refine bh▸?_;exact aN (eV<|by assumption)<|by decide)
 have f:((s.heap.push<|nz "list" #[] 0).update s.heap.objs.size (fU (· ++ag U))).objs.size=s.heap.objs.size+1:=by(refine ah (Heap.size_update ..) ?_;rw[size_push'])
 have h:(((s.heap.push<|nz "list" #[] 0).update s.heap.objs.size (fU (· ++ag U))).push<|nz "list" (ag U) 0).get? (s.heap.objs.size+1)=ac (nz "list" (ag U) 0):=by exact(f)▸b6 _ rfl
 refine i8 (x.fresh<|bX s.heap) λn J S=>?_;have c:=x.push<|nz "list" #[] 0
 refine bD (c.upd ⟨n,J,S,0,b6 _ rfl⟩ (· ++ag U)) λd e=>?_;have i:((s.heap.push<|nz "list" #[] 0).update s.heap.objs.size (fU (· ++ag U))).get? (s.heap.objs.size+1)=none:=by exact(f)▸bX _
 refine i8 (d.fresh i) λu Z a=>?_;have k:=d.push<|nz "list" (ag U) 0
 show aD _ _ _ _ _ {s with heap:=((s.heap.push<|nz "list" #[] 0).update s.heap.objs.size (fU (· ++ag U))).push (nz "list" (ag U) 0)};refine f▸?_;refine ak<|a9<|wpAny_call_entry_kw slot_list_sort ⟨_,h,rfl⟩ entry_list_sort ?body<|ksk_l1 _ _
 case body=>show aD (MM w) A.in1.in1 (mi.«list.sort» ⟨[.ref<|s.heap.objs.size+1],[(fw "key",.ref 190)]⟩) _ _ _;refine kW (ksk_t1 ..)<|Tw I.in1.in1 R b r t k ⟨u,Z,a,0,h⟩ λF j z Y B N P=>⟨_,rfl,av ⟨_,rfl,L F j _ z Y B N (jy ⟨rfl,rfl⟩ P)⟩⟩
end
set_option backward.match.sparseCases true in
theorem wz (Z):∀l r,kr (l++r) Z=(kr l Z>>=λf=>match f with|.next=>kr r Z|f=>pure f:jN Ej)
 |[],r=>by show kr r Z=(pure l0>>=_);rw[pure_bind]
 |s::l,r=>by show(exec s Z>>=λf=>match f with|.next=>kr (l++r) Z|f=>pure f:jN Ej)=((exec s Z>>=λf=>match f with|.next=>kr l Z|f=>pure f)>>=_);rw[bind_assoc];congr 1;funext f;rcases f<;>first|exact wz Z l r|rw[pure_bind]
theorem zq:∀(f) (j:List (List Nat)),f.mapM vk=ac j->f=j.map fk
 |[],j,h=>by refine((al h))▸?_;rfl
 |p::f,j,h=>by
  rw[Cg] at h;refine aI (bind_some h) λa I h=>aI (bind_some h) λb B h=>?_
  (refine((al h))▸bv▸((zq f b B))▸?_;rw[<-AR I])
theorem AD {x:bO×Hp×List PV} (h:uS l=ac x):fY f5 f5 (mm wC Kp) (fE (bH 20).2.2.names.length [.lst l]) []=.ok (.next,x.1) x.2.1/\
 j6 f5 (bR wC ai w5) x.1 (bp f5 (bR wC ai w5) x.1) x.2.1=.ok ai [[],x.2.2]/\x.1[2]?=ac (ac<|.dR 1)/\(x.2.2=[fk gE,fk dW]\/x.2.2=[fk gE,fk wI,fk dW]):=by
 refine aI (bind_some h) λa m h=>aI (bind_some h) λf i h=>bD (cL h) λP h=>?_;have q:=(bu _ _).mp P;refine((al h))▸?_;refine⟨Zd m,Ze i,?_,?_⟩
 ·exact aI (bind_some<|of_decide_eq_true q.1) λo W h=>aI (bind_some h) λp R h=>ah W<|by(refine R▸?_;rw[za h])
 ·cases em:f.mapM vk with
  |none=>have E:=q.2;unfold C9 at E;rw[em] at E;exact ku E
  |some j=>have Y:=zq f j em;have E:=q.2;unfold C9 at E;rw[em] at E;refine((gL _ _).mp E).elim (λh=>.inl ?_) λh=>.inr ?_<;>(rw[of_decide_eq_true h] at Y;exact Y)
theorem ads:∀x∈[gE,dW],pX [[],[fk gE,fk dW]] x:=by
 have J:pX [[],[fk gE,fk dW]] gE:=⟨by refine bh▸?_;decide+kernel,⟨gE++("":an).cps.toList,by kernel_rfl⟩,gE++("":an).cps.toList,by kernel_rfl⟩;have R:pX [[],[fk gE,fk dW]] dW:=⟨by refine bh▸?_;decide+kernel,⟨dW++("":an).cps.toList,by kernel_rfl⟩,dW++("":an).cps.toList,by kernel_rfl⟩;intro x hx;rcases aM.mp hx with rfl|hx
 ·exact J
 ·rw[aV] at hx;subst hx;exact R
theorem adq:∀x∈[gE,wI,dW],pX [[],[fk gE,fk wI,fk dW]] x:=by
 have J:pX [[],[fk gE,fk wI,fk dW]] gE:=⟨by refine bh▸?_;decide+kernel,⟨gE++("":an).cps.toList,by kernel_rfl⟩,gE++("":an).cps.toList,by kernel_rfl⟩;have y:pX [[],[fk gE,fk wI,fk dW]] wI:=⟨by refine bh▸?_;decide+kernel,⟨wI++("":an).cps.toList,by kernel_rfl⟩,wI++("":an).cps.toList,by kernel_rfl⟩;have R:pX [[],[fk gE,fk wI,fk dW]] dW:=⟨by refine bh▸?_;decide+kernel,⟨dW++("":an).cps.toList,by kernel_rfl⟩,dW++("":an).cps.toList,by kernel_rfl⟩;intro x T;simp only[aM,aZ,or_false] at T;rcases T with rfl|rfl|rfl
 ·exact J
 ·exact y
 ·exact R
def Y3:Stmt:=.Return (ac (.IfExp w5 (.Subscript (.Name "found" ⟨53,11,53,16⟩) (.Constant (.int 0) 0 ⟨53,17,53,18⟩) ⟨53,11,53,19⟩)
 (.Tuple [.Constant (.str "union") 0 ⟨53,45,53,52⟩,.Call (.Name "tuple" ⟨53,54,53,59⟩) [.Call (.Name "sorted" ⟨53,60,53,66⟩) [.Name "found" ⟨53,67,53,72⟩] [⟨ac "key",.Name "kind_key" ⟨53,78,53,86⟩,⟨53,74,53,86⟩⟩] ⟨53,60,53,87⟩] [] ⟨53,54,53,88⟩] 0 ⟨53,44,53,89⟩) ⟨53,11,53,89⟩)) ⟨53,4,53,89⟩
theorem aax:(bH 20).2.1=Kp++[Y3]:=rfl
theorem U9 (P):jL (cD P) "tuple" (.type "tuple"):=zE rfl rfl
theorem Ri (P):jL (cD P) "sorted" (.builtin "sorted"):=zE rfl rfl
theorem ad2 (P):jL (cD P) "kind_key" (.ref 190):=oK rfl
section
variable {K:aO}
theorem DM {id:String}
 (h:aD (MM w) A t1 (λB q=>aD (MM w) A tk (λa F=>aD (MM w) A (call (.builtin id) [B] [(O,a)]) Q E F) E q) E s):
 aD (MM w) A (iL G (.builtin id) [] [(ai,t1)] [(ac O,tk)]) Q E s:=by
 unfold iL;refine ak<|a9<|evalArgs_kw rfl<|yS<|a0 h (λB q J=>?_) λ_ _ x=>x
 refine wpAny_evalAll_cons<|a0 J (λa F R=>wpAny_evalAll_nil ?_) λ_ _ x=>x
 refine f6 (λ_ _ h=>cf h)<|ak<|av ?_
 exact ak<|a0 R (λr C d=>ak<|a9<|mW<|av d) λ_ _ x=>x
theorem Re (e):iP w (cD w.params) n f5 e:=(jU rfl qd (i5) e).1.2
theorem MI {l:List (List Nat)} (G:∀x∈l,pX H x):∀{U},bV K O (l.map fk) U->∀v∈U,Ae H K O v:=by
 induction l with
 |nil=>intro U h;subst h;exactλ_ h=>absurd h aZ
 |cons x l o=>
  intro U h v hv;rw[bv] at h;refine cN h λu r S J R=>?_;subst S;rcases aM.mp hv with rfl|hv
  ·exact⟨x,G x (by simp),J⟩
  ·exact o (λy j=>G y<|by simp[j]) R v hv
theorem Y1 {l:List (List Nat)} {Q:Ej->bj->Prop} (T:dk (cD w.params) wC Z) (I:kA 50 A M) (C:l=[gE,dW]\/l=[gE,wI,dW]) (ht:j6 f5 (bR wC ai w5) V (bp f5 (bR wC ai w5) V) H=.ok ai [[],l.map fk]) (R:V[2]?=ac (ac<|.dR 1))
 (iv:Inv (cD w.params) K O H M s.heap) (fr:aT Z wC.ns V K O s.heap)
 (L:∀v F j qa,Step [] K O s.heap j qa F.heap->Inv (cD w.params) j qa [[],l.map fk] M F.heap->aW s F->Q (.ret v) F):aD (MM w) A (exec Y3 Z) Q E s:=by
 unfold Y3;refine gS<|wpAny_IfExp ?_
 refine a0 (Re w5 wC Z V ai T A s K O H M I iv fr<|by refine ht▸?_;exact xd) (λb u a=>zd.casesOn a λY g k J m c h hb eX=>?_) λx u Yp=>yq.casesOn Yp λp g k J m _ _ _ _=>by rw[ht] at m;cases m
 rw[ht] at m;cases m;obtain rfl:b=false:=af hb;simp only[bP,if_false];have U:=dw _ _ _ _ _ _ fr c;refine mX ?_;rw[dD _ Z _ (by rfl)];refine spliced_cons<|qr<|spliced_cons ?_
 dsimp only
 (refine kW (dN ..) ?_;rw[dD _ Z _ (by rfl)])
 have y:=h;refine ak<|ir T.fe (by decide) (T.gi _ rfl) y (U9 _) ?_
 refine iA<|spliced_cons ?_
 dsimp only
 (refine kW (dN ..) ?_;rw[dD _ Z _ (by rfl)])
 refine ak<|ir T.fe (by decide) (T.gi _ rfl) y (Ri _) ?_
 refine DM<|gM T.fe (by decide) (by decide) rfl R U λv t=>?_
 refine ak<|ir T.fe (by decide) (T.gi _ rfl) y (ad2 _)<|ak<|cf<|av ?_
 refine aI t λe W S=>?_;subst S;obtain⟨kF,oF,nF,vs,hF,P,hd,d⟩:=h.kM.at_ 1 e (l.map fk) W rfl;have hlen:=d.length;rw[aC] at hlen;have X:aa l=2\/aa l=3:=by rcases C with rfl|rfl<;>simp
 have r:pS (aa vs) (wP<|aa vs)=true:=by
  refine hlen▸?_;rcases X with q|q<;>refine q▸?_
  ·exact afF
  ·exact afE
 have G:∀x∈l,pX [[],l.map fk] x:=by
  rcases C with rfl|rfl
  ·exact ads
  ·exact adq
 have B:({u with toks:=u.toks+1}:bj).heap.IsList e (ag vs):=⟨oF,hF,P.1,nF,hd⟩;refine L6 (I.mono<|ch _ _) B (hlen.symm▸X.elim (λq=>q.symm▸by decide) λq=>q.symm▸by decide) (hlen.symm▸X.elim (λq=>q.symm▸by decide) λq=>q.symm▸by decide) r (MI G d) ⟨h,iT ..⟩ λs₃ kz D z i o₃ N o=>fH ⟨.inr<|.inr<|np rfl,?_⟩;refine be o₃.at_ λnD hD=>call_tuple_list ⟨_,hD,rfl,nD,rfl⟩ (λh' f=>?_)<|by(refine(af aS)▸?_;refine(af bh)▸?_);exact aN (eV<|by assumption)<|by decide
 have ahi:SO w.params k J [[],l.map fk] M u.heap kz h':=⟨i.iv.keep<|.of_keeps f,i.st.trans (de.of_keeps f).step⟩;have ahh:=ahi.push {cls:=.type "tuple",data:=.seq (ag z)};refine fH ⟨by refine(af bh)▸?_;simp,?_⟩;have n:=ahh.push {cls:=.type "tuple",data:=.seq [agX "union" u.toks,.ref h'.objs.size].toArray};exact L _ _ kz J (c.trans n.st) n.iv (eX.trans<|jy ⟨rfl,rfl⟩<|o.trans ⟨rfl,rfl⟩)
end
inductive Wb (ps:List PV) (H:Hp):Prop
 |mk (l:List PV) (x:bO×Hp×List PV) (e:ps=[.lst l]) (eH:H=[]) (ex:uS l=ac x) (er:v9 ps H=.ok .AM [])
theorem EM (h:v9 z H≠.stuck):Wb z H:=by
 rcases z with _|⟨p,_|⟨q,r⟩⟩
 ·exact absurd rfl h
 ·cases p with
  |lst l=>
   induction H with
   |nil=>
    cases e:uS l with
    |none=>exact absurd (by unfold v9;dsimp only;rw[e]) h
    |some x=>exact⟨l,x,rfl,rfl,e,by unfold v9;dsimp only;rw[e]⟩
   |cons a b=>exact absurd rfl h
  |_=>exact absurd rfl h
 ·rcases p<;>exact absurd rfl h
theorem ad0 (l):jq w (cD w.params) 50 f5 f5 l:=pw (λe=>(jU rfl qd i5 e).1.1) (λe=>Re e) wb l
theorem OX:lU w:=by
 intro ps vs A s K O H M I iv F L;obtain⟨l,x,rfl,rfl,J,d⟩:=EM L;refine d▸?_;obtain rfl:O=[]:=Am iv.kM.len;refine vD (AD J) λm i W R=>jZ (aab _) (jR _) I iv F rfl (z8 (aab _) (by decide+kernel) (vX F) iv) λenv u k T P hfw c h U eX V=>?_;have N:dk (cD w.params) wC env:=⟨T.nd,T.gi,T.lc,T.ce,T.fe,T.gl⟩
 (refine aax▸kW (wz ..) ?_)
 refine ak<|a0 (ad0 Kp wC env _ N V _ u k [] [] (env::M) (P.mono<|ch _ _) h U (by refine m▸?_;exact xd)) (λf C ⟨r,H',g,E,e,D,y,⟨S,Q,z⟩,jH⟩=>?_) λx C b=>yq.casesOn b λp H' j qa e _ _ _ _=>by rw[m] at e;cases e
 rw[m] at e;cases e;cases z
 have X:∃G,x.2.2=G.map fk/\(G=[gE,dW]\/G=[gE,wI,dW]):=by
  rcases R with q|q
  ·exact⟨[gE,dW],q,.inl rfl⟩
  ·exact⟨[gE,wI,dW],q,.inr rfl⟩
 refine aI X λG q B=>?_;rw[q] at i;refine ak<|Y1 (T:=N) (P.mono<|ch _ _) B i W y S λv s₃ kz t Y n o=>av ?_
 have St:=c.hide (D.trans<|Y.mono<|by simp) λa q=>.inr<|hfw a q
 have Z:=(Inv.mz (O:=[]) n.pop rfl);exact⟨.AM,[],kz,[],rfl,Step.mz St,Z,trivial,eX.trans<|jH.trans o⟩
def CZ:on:=λa z=>if a=1114 then pU z else b7 a z
def iU:on:=iq CZ dF rI
abbrev Ad:List (an×f8):=(bH 183).2.2.names
def RW:Cx:=⟨Ad,yn,["calls"]⟩
noncomputable def WM:Stmt:=.Assign [.Tuple [.Name "table" ⟨734,4,734,9⟩,.Name "great" ⟨734,11,734,16⟩] 0 ⟨734,4,734,16⟩]
 (.Tuple [.Call (.Name "string_rows" ⟨734,20,734,31⟩) [] [] ⟨734,20,734,33⟩,.Tuple [.Constant (.str "int") 0 ⟨734,36,734,41⟩,.Constant (.str "BigInt") 0 ⟨734,43,734,51⟩,.BinOp (.Constant (.int 2) 0 ⟨734,53,734,54⟩) .Pow (.Constant (.int 64) 0 ⟨734,58,734,60⟩) ⟨734,53,734,60⟩] 0 ⟨734,35,734,61⟩] 0 ⟨734,19,734,62⟩) ⟨734,4,734,62⟩
def xa:List Stmt:=(bH 183).2.1.drop 1
theorem VS:(bH 183).2.1=WM::xa:=rfl
noncomputable def oJ:PV:=.tup [.str ("int":an).cps.toList,.str ("BigInt":an).cps.toList,.int<|2^64]
def Ur:List Stmt:=xa.take 2
def KG:List Stmt:=xa.drop 2
theorem HV:xa=Ur++KG:=af<|fj 2 xa
def sJ (D:List PV):bO:=((aX (aa Ad) am).set 1<|ac<|.dct cH d6).set 3<|ac<|.lst D
inductive Sy (l:List PV):Prop
 |mk (σ₁:bO) (H₁:Hp) (j:Nat) (cs:List PV) (σ₂:bO) (H₂:Hp) (e₁:fY iU dF (mm RW Ur) (fR (fE (aa Ad) [.lst l]) [1,2] [.dct cH d6,oJ]) []=.ok (.next,σ₁) H₁) (t:σ₁[1]?=ac (ac (.dct cH d6))) (c:σ₁[3]?=ac (ac (.dR j)))
  (h:H₁[j]?=ac cs) (n:gY cs=aq) (e₂:fY iU dF (mm RW KG) (sJ cs) []=.ok (.ret<|.bool aq,σ₂) H₂)
theorem XA (P:cG):FnAt (cD P) 1119 (bH 183).1 (bH 183).2.1 (bH 183).2.2 []:=my rfl
theorem M6 (P:cG):jL (cD P) "string_rows" (.ref 986):=oK rfl
theorem R3 {D:List PV} {i:Nat} {p:PV} (h:(sJ D)[i]?=ac (ac p)):(i=1/\p=.dct cH d6)\/(i=3/\p=.lst D):=by
 unfold sJ at h;rw[xH] at h;split at h
 ·rename_i q;split at h
  ·cases h;exact .inr ⟨af q,rfl⟩
  ·cases h
 ·rw[xH] at h;split at h
  ·rename_i q;split at h
   ·cases h;exact .inl ⟨af q,rfl⟩
   ·cases h
  ·rw[G0] at h;split at h<;>cases h
theorem Ji {X K:aO} {μ:List bn} {H:Hp} {M:List mh} {h:eK} {Z:mh} {V:bO} {j:Nat} {D:List PV} (N:Inv X K μ H M h) (fr:aT Z RW.ns V K μ h) (t:V[1]?=ac (ac<|.dct cH d6)) (c:V[3]?=ac (ac<|.dR j)) (F:H[j]?=ac D) (n:gY D=aq):
 ∃P,Inv X P [] [] M h/\aT Z RW.ns (sJ D) P [] h/\∀{W:List bn} {f:aO} {g:eK},Step W f [] g K μ h->Step W f [] g P [] h:=by
 obtain⟨m,hn,G,z,hcs,hv⟩:=fr;have l:j<aa μ:=by rw[N.kM.len];exact(aB.mp F).1
 obtain⟨C,o,k,U,Y,pl,d,r⟩:=N.kM.at_ j μ[j] D (aP l) F;have u:=hZ l;have s:=aP l;generalize μ[j]=a at*;have O:∀b x,K b=ac x->gk K a o b=ac x:=λb x q=>by rw[db<|by rintro rfl;rw[C] at q;cases q];exact q
 have mono:∀p v,jd p=aq->VR K μ p v->VR (gk K a o) [] p v:=λp v q x=>Om (K:=K) (K':=gk K a o) rfl O p v<|am4 (Q:=[]) p v q x
 have e:VR (gk K a o) [] (.lst D) (.ref a):=by exact⟨a,o,k,U,rfl,fv _ _ _,pl,d,rH (K:=K) (K':=gk K a o) rfl O D U<|bV.jd (Q:=[]) D U n r⟩
 refine⟨gk K a o,(Inv.mz (O:=[]) (Q:=μ) N rfl).freeze Y C (by simp) (vb pl.1<|by decide),⟨m,hn,?_,by simp,λx y q=>?_,λi x p T hp=>?_⟩,λst=>Step.Gb (O:=[]) (Q:=μ) st C u⟩
 ·rw[db<|by rintro rfl;exact z u];exact G
 ·obtain⟨q1,E,q3,v,w⟩:=hcs x y q;exact⟨by rw[db<|by rintro rfl;exact E u];exact q1,by simp,q3,v,w⟩
 ·have R:∃I,V[i]?=ac (ac I)/\∀v,VR K μ I v->VR (gk K a o) [] p v:=by
   rcases R3 hp with ⟨rfl,rfl⟩|⟨rfl,rfl⟩
   ·exact⟨_,t,λv q=>mono _ v (by kernel_rfl) q⟩
   ·refine⟨_,c,λv q=>?_⟩;refine aI q λb q1 S=>?_;obtain rfl:=S;rw[s] at q1;cases q1;exact e
  refine aI R λI B A=>?_;rcases hv i x I T B with ⟨k1,v,k2,L⟩|⟨k1,y,v,k2,L,J⟩
  ·exact .inl ⟨k1,v,k2,A v L⟩
  ·exact .inr ⟨k1,y,v,k2,L,A v J⟩
section
variable {KF:aO} {W:List bn} {cx:Cx} {env:mh} {σ τ:bO} {m:IM (gm×bO)} {t:jN Ej} {A:iN} {s:bj} {K:aO} {μ:List bn} {H H':Hp} {fs:List mh} {E:Value->bj->Prop} {Q:Ej->bj->Prop}
theorem E5 {w:dG} {n:Nat} {C:xz} (x:aj w KF W n C m (iB env cx) t) (I:kA n A fs) (N:Inv KF K μ H fs s.heap) (c:C K μ s.heap) (e:m H=.ok (.next,τ) H')
 (h:∀F j Z,Step W K μ s.heap j Z F.heap->Inv KF j Z H' fs F.heap->aT env cx.ns τ j Z F.heap->aa τ=aa cx.names->aW s F->Q .next F):aD (MM w) A t Q E s:=
 x.run I N c e λr F j Z st P d S=>by have Y:=d.f;cases Y;exact h F j Z st P d.c d.l S
theorem TP {w:dG} {n:Nat} {p:PV} (x:aj w KF W n (aT env cx.ns σ) m (iB env cx) t) (I:kA n A fs) (N:Inv KF K μ H fs s.heap) (c:aT env cx.ns σ K μ s.heap) (e:m H=.ok (.ret p,τ) H')
 (h:∀v F j l,Step W K μ s.heap j l F.heap->Inv KF j l H' fs F.heap->VR j l p v->aW s F->Q (.ret v) F):aD (MM w) A t Q E s:=
 x.run I N c e λr F j l st P d S=>by have Y:=d.f;cases Y with|ret Z=>exact h _ F j l st P Z S
end
section
variable {w:dG}
theorem CY:j2 w (cD w.params) 140 iU:=by
 have b:j2 w (cD w.params) 100 CZ:=by
  refine⟨λa=>?_,λa z U=>?_⟩
  ·by_cases R:a=1114
   ·subst R;exact cN ((Rw w.params).ex) λo fd c E _=>.inl ⟨o,fd,c,E⟩
   ·rcases yj.fn a with h|h
    ·exact .inl h
    ·exact .inr λz=>by unfold CZ;rw[if_neg R];exact h z
  ·unfold CZ;by_cases R:a=1114
   ·subst R;rw[if_pos rfl];exact Q4 z U
   ·rw[if_neg R];exact(yj.call a z U).more<|by rw[adg];decide
 have h:=Fv rfl (jR _) b (wa.more<|by decide) (λ_ _ _=>i5) rI<|Vi _
 exact⟨h.fn,λa z U=>(h.call a z U).more<|dH ah1 100⟩
theorem Xu (l:List rL):jq w (cD w.params) 140 iU dF l:=pw (λe=>(jU rfl CY i5 e).1.1) (λe=>(jU rfl CY i5 e).1.2) (wa.more<|by decide) l
theorem ZT (e:bL):bK w (cD w.params) 140 iU e:=(jU rfl CY i5 e).1.1
set_option backward.match.sparseCases true in
set_option maxHeartbeats 2000000 in
theorem Zt {l:List PV} (hm:Sy l) {A:iN} {E:Value->bj->Prop} {s:bj} {K:aO} {M:List mh} {vs:List Value} {Q:Value->bj->Prop} (I:kA 200 A M) (iv:Inv (cD w.params) K [] [] M s.heap) (tt:TT K [] s.heap)
 (t:bV K [] [.lst l] vs) (hq:∀F K' qa,Step [939] K [] s.heap K' qa F.heap->TT K' qa F.heap->aW s F->Q (.bool aq) F):aD (MM w) A (call (.ref 1119) vs []) Q E s:=by
 cases hm with|mk σ₁ H₁ j cs σ₂ P d ht hc hj hn hm2=>?_
 refine jZ (XA _) (jR _) I iv t rfl (z8 (XA _) (by decide+kernel) (vX t) iv) λenv u K₁ T hA m c h U eX V=>?_;have X:=akV tt m;have jM:qy w env Ad _ [] [] (env::M) K₁ u.heap:=⟨h,U,tt.step c<|by simp⟩;have N:dk (cD w.params) RW env:=⟨T.nd,T.gi,T.lc,T.ce,T.fe,T.gl⟩;have hA1:=hA.mono<|show 140<=199 by decide
 rw[VS];unfold WM
 refine aI (Bf (w:=w) (n:=140) (V:=fE Ad.length [.lst l]) (f:=[1,2]) (Y:=RW) (G:=[.Name "table" ⟨734,4,734,9⟩,.Name "great" ⟨734,11,734,16⟩]) (k:=0) (k2:=0) (b:=⟨734,4,734,16⟩) (vp:=⟨734,19,734,62⟩) (p:=⟨734,4,734,62⟩)
  (U:=[.Call (.Name "string_rows" ⟨734,20,734,31⟩) [] [] ⟨734,20,734,33⟩,.Tuple [.Constant (.str "int") 0 ⟨734,36,734,41⟩,.Constant (.str "BigInt") 0 ⟨734,43,734,51⟩,.BinOp (.Constant (.int 2) 0 ⟨734,53,734,54⟩) .Pow (.Constant (.int 64) 0 ⟨734,58,734,60⟩) ⟨734,53,734,60⟩] 0 ⟨734,35,734,61⟩]) N V (by kernel_rfl) (by kernel_rfl) (by decide)) λrest L hr=>?_
 rw[show kr (.Assign [.Tuple [.Name "table" ⟨734,4,734,9⟩,.Name "great" ⟨734,11,734,16⟩] 0 ⟨734,4,734,16⟩] (.Tuple [.Call (.Name "string_rows" ⟨734,20,734,31⟩) [] [] ⟨734,20,734,33⟩,.Tuple [.Constant (.str "int") 0 ⟨734,36,734,41⟩,.Constant (.str "BigInt") 0 ⟨734,43,734,51⟩,.BinOp (.Constant (.int 2) 0 ⟨734,53,734,54⟩) .Pow (.Constant (.int 64) 0 ⟨734,58,734,60⟩) ⟨734,53,734,60⟩] 0 ⟨734,35,734,61⟩] 0 ⟨734,19,734,62⟩) ⟨734,4,734,62⟩::xa) env=(exec _ env>>=λf=>match f with|.next=>kr xa env|f=>pure f:jN Ej) from rfl,L];refine ak<|ak<|cf<|ak<|mX ?_
 rw[dD _ env _ (by rfl)];refine spliced_cons ?_;dsimp only;rw[dN];refine ak<|ir T.fe (by decide) (T.gi _ (by kernel_rfl)) jM.iv (M6 _) ?_
 refine iI (fnK<|Z8 w.params) λo fd J h2=>?_;refine sL (jM.iv.sub _ _ (jM.iv.stat _ _ J)) h2<|HE OX (hA.mono<|by decide) jM.iv jM.tt λr C g hv₂ D y x jH=>?_
 have z:qy w env Ad (fE Ad.length [.lst l]) [] [] (env::M) g C.heap:=⟨y,J3 (W:=[939]) (u4 X) _ _ _ _ _ _ jM.fr D,x⟩;refine spliced_cons<|sA (n:=140) (B:=iU) T (ZT _) hA1 z (p:=oJ) (by kernel_rfl) λv s₃ kz adJ wM Y ip=>?_
 refine fH ⟨by rw[bh];simp,?_⟩;refine gN (qI (l:=[.dct cH d6,oJ]) wM.iv<|b8 (fD Y hv₂)<|b8 adJ eA) λG Z b O=>?_;have R:=dw _ _ _ _ _ _ wM.fr (b []);have em:ax (yJ [1,2].length<|.tup [.dct cH d6,oJ]) (λl'=>ay (gm.next,fR (fE Ad.length [.lst l]) [1,2] l')) ([]:Hp)=.ok (.next,fR (fE Ad.length [.lst l]) [1,2] [.dct cH d6,oJ]) []:=rfl;refine E5 (hr (.tup [.dct cH d6,oJ]) _) hA1 Z ⟨R,O⟩ em λs₅ Jz EB e FW KP adP Pu=>?_;show aD _ _ (kr xa env) _ _ _;rw[HV,wz];generalize Ur=ml at d|-
 generalize KG=ll at hm2|-
 refine ak<|E5 (Xu ml RW env _ N adP) hA1 FW KP d λs₆ Jy abN i QQ ad6 akl yT=>?_
 show aD _ _ (kr ll env) _ _ _;have abV:=wM.tt.step (b [])<|by simp
 have S:Step [939] K [] s.heap Jy abN s₆.heap:=((c.mono<|by simp).trans<|D.trans<|(Y.trans<|b []).mono<|by simp).hide (e.trans i) λa q=>.inr<|m a q
 refine gN (Ji QQ ad6 ht hc hj hn) λafO adz ad5 up=>?_
 have abU:TT afO [] s₆.heap:=by
  have S9:Step (aY env) G [] _ afO [] s₆.heap:=up<|e.trans i
  exact abV.step S9 X
 refine TP (Xu ll RW env _ N (by simp[sJ,RW])) hA1 adz ad5 hm2 λahl s₈ aju abM WK akb adH ab2=>?_;rw[show ahl=_ from adH];exact hq s₈ aju abM ((up S).hide WK λa q=>.inr<|m a q) (abU.step WK X)<|eX.trans<|jH.trans<|ip.trans<|jy ⟨rfl,rfl⟩<|Pu.trans<|yT.trans ab2
end
end
section
open PySem PySem.W PySem.Calls PyProof.Rows PySem.SeqAt
theorem ET (P):(wv P).get? 939=ac (tabObj #[]):=by unfold wv;refine ah (abs_get (o:=H.Qh P) (by decide)<|by kernel_rfl) ?_;rfl
theorem zz (hplain:∀j:List Int,aa j<=63->Sy (j.map .int)):cT.Holds:=by
 refine MZ ?_;intro w s₀ u A mb G Y a o t cd doc dV kV ho hd hcd hD hmg hg D vals k L hpre M p hwl V
 wrow_args hpre M p hwl V
 rename_i j _ _ _ _ _ as1 as2 sa U as3 B ra w1 E hI d P _;have J:aa j<=63:=by exact cQ<|bk [aa j] [] [(1,aK,.n 63),(1,xi<|.n 63,aK)] rfl<|cX.mp P
 have O:s₀.heap=wv w.params:=congrArg Ll Y;have told:∀b o,cD w.params b=ac o->u.heap.get? b=ac o:=λb o e=>FO (λb o q=>L.keeps b o<|by refine(af O)▸?_;exact q) e
 have ea:a=1119:=by refine iI (n4<|ti w.params) λo3 x y d3=>?_;refine I7 G.T.g λo' es ep h1 R h4 Q=>?_;have e3:=told 3 o3 y;rw[show u.heap.get? Er=u.heap.get? 3 from rfl,e3] at h1;obtain rfl:=al h1;rw[d3] at R;cases R;have c:=Q "law";rw[qQ,Zu] at c;rw[VF,<-c] at hmg;cases hmg;rfl
 subst ea;have t9:u.heap.get? 939=ac (tabObj #[]):=L.keeps 939 _ (by refine(af O)▸?_;exact ET _);refine bD (PySem.W.X.script_at L) λhsa _=>?_;have hobj:=PySem.W.X.script_obj L B
 have v:cD w.params sa=none:=by
  cases q:cD w.params sa with
  |none=>rfl
  |some o'=>have:=FO (h:=s₀.heap) (λb o q=>by refine(af O)▸?_;exact q) q;exact absurd (dS this)<|by refine(af hsa)▸?_;exact GZ _
 have n9:939≠sa:=λq=>by
  have:(939:Nat)<s₀.heap.objs.size:=by refine(af O)▸?_;exact dS<|ET _
  rw[q,hsa] at this;exact absurd this<|GZ _
 have iv0:Inv (cD w.params) (cD w.params) [] [] [] u.heap:=⟨rfl,λ_ _ e=>e,told,λ_ _ e=>Zw e,⟨rfl,by simp,λi a l h=>by simp at h⟩,⟨λZ h=>by simp at h⟩⟩;have N:Inv (cD w.params) (gk (cD w.params) sa _) [] [] [] u.heap:=iv0.freeze hobj v (by simp)<|vb rfl<|by decide
 have hvr:bV (gk (cD w.params) sa {cls:=.type "list",data:=.seq (ag U)}) [] [.lst<|j.map .int] [.ref sa]:=b8 (by
  exact⟨sa,_,0,U,rfl,fv _ _ _,⟨rfl,rfl,rfl⟩,rfl,UU hI⟩) eA
 have C:TT (gk (cD w.params) sa {cls:=.type "list",data:=.seq (ag U)}) [] u.heap:=⟨by exact ah (db n9)<|UH _,by simp,#[],t9,.nil⟩;have I:kA 200 callerA []:=⟨rfl,by decide,by decide,rfl,rfl⟩;refine Zt (hplain j J) I N C hvr λF K' qa st tt' so=>?_
 have keep:∀b o,b≠939->u.heap.get? b=ac o->F.heap.get? b=ac o:=λb o n q=>by
  refine aI (st.keep b o q (by simp)<|by simpa using n) λsl m e2=>?_;rcases e2 with rfl|⟨_,f⟩
  ·exact m
  ·exact absurd f id
 refine i8 tt' λ_ _ S=>aI S λz r _=>?_
 have s:OldK u.heap F.heap:=⟨λb o q=>by
  by_cases n:b=939
  ·subst n;rw[t9] at q;obtain rfl:=al q;exact .inr (.inl ⟨⟨943,Internal.H.C4 w.params,_,told 943 _ (by kernel_rfl:cD w.params 943=ac (Internal.H.C4 w.params)),rfl,rfl,rfl⟩,rfl,#[],z,rfl,by refine(af Array.empty_append)▸?_;exact r⟩)
  ·exact .inl<|keep b o n q,λb o q=>by
  by_cases n:b=939
  ·subst n;exact⟨_,r⟩
  ·exact⟨o,keep b o n q⟩⟩
 refine⟨.inl ⟨.bool aq,.bool aq,[],rfl,raisesW_false allW_false_nil,.bool aq,?_,?_⟩,s,so.1,.of_eq<|ah so.2 hg⟩
 ·first|kernel_rfl|wrow_post
 ·exactλ_=>⟨by simp,λa h=>by simp at h⟩
end
section
open PySem PySem.W
def oI (j:Nat):on:=iq sb dF<|sx.drop j
def oQ (j:Nat):on:=iq CZ dF<|rI.drop j
theorem wf {v E:on} {j:List FE} {i n l:Nat} {f:FE} {c:List CS} (Y:(j[i]?).map (λg=>(g.addr,g.k,g.keep,g.muts,g.defs))=ac (f.addr,f.k,f.keep,f.muts,f.defs)) (W:((j.take i).all λg=>decide<|f.addr≠g.addr)=aq) (F:(bH f.k).1.args.length=n) (U:(bH f.k).2.2.names.length=l) (P:DK f.k f.muts=c) {z:List PV} (C:aa z=n):
 iq v E j f.addr z=iO f.keep (kX (iq v E<|j.drop<|i+1) E l c z):=by
 rw[ba] at Y;refine aI Y ?_;clear Y;intro S X e;obtain⟨a,k,r,m,d⟩:=S;obtain⟨q,s,o,t,fd⟩:=f;simp only[A6] at e;refine DE e ?_;clear e;intro S V Z H G;subst S;subst V;subst Z;subst H;subst G;refine be (aB.mp X) λD e=>?_
 have h:j=j.take i++(⟨a,k,r,m,d⟩::j.drop (i+1)):=by rw[<-e,Ha,fj]
 rw[show iq v E j a z=iq v E (j.take i++(⟨a,k,r,m,d⟩::j.drop (i+1))) a z by rw[<-h]];rw[qi W];show(if a=a then _ else _)=_;rw[if_pos rfl];unfold fnOf fnM;rw[F,U,P,if_pos C]
abbrev O1 (a j n l:Nat) (c:List CS):Prop:=∀{z:List PV},aa z=n->b7 a z=iO ai (kX (oI j) dF l c z)
abbrev OQ (a:Nat) (r:Bool) (j n l:Nat) (c:List CS):Prop:=∀{z:List PV},aa z=n->iU a z=iO r (kX (oQ j) dF l c z)
abbrev oC (j:List FE) (f:FE) (i n l:Nat) (c:List CS):Prop:=((j[i]?).map λg=>(g.addr,g.k,g.keep,g.muts,g.defs),(j.take i).all λg=>decide<|f.addr≠g.addr,(bH f.k).1.args.length,(bH f.k).2.2.names.length,DK f.k f.muts)=(ac (f.addr,f.k,f.keep,f.muts,f.defs),aq,n,l,c)
theorem WS {v E:on} {j:List FE} {i n l:Nat} {f:FE} {c:List CS} (e:oC j f i n l c) {z:List PV} (C:aa z=n):iq v E j f.addr z=iO f.keep (kX (iq v E<|j.drop<|i+1) E l c z):=
 wf (congrArg (·.1) e) (congrArg (·.2.1) e) (congrArg (·.2.2.1) e) (congrArg (·.2.2.2.1) e) (congrArg (·.2.2.2.2) e) C
theorem dz {a j n l:Nat} {c:List CS} (k:Nat) (F:List an) (df:List PV) (e:oC sx ⟨a,k,ai,F,df⟩ j n l c):O1 a (j+1) n l c:=WS e
theorem l8 {a j n l:Nat} {r:Bool} {c:List CS} (k:Nat) (F:List an) (df:List PV) (e:oC rI ⟨a,k,r,F,df⟩ j n l c):OQ a r (j+1) n l c:=WS e
theorem c1 {j:Nat} {b:bn} {l:List PV} {H:Hp} {r:kg PV} (d:((sx.take j).all λf=>decide<|b≠f.addr)=aq) (h:b7 b l H=r):oI j b l H=r:=by have e:=qi (v:=sb) (E:=dF) (r:=sx.drop j) d;rw[fj] at e;exact(congrFun (congrFun e l) H).symm.trans h
theorem c2 {j:Nat} {b:bn} {l:List PV} {H:Hp} {r:kg PV} (d:((rI.take j).all λf=>decide<|b≠f.addr)=aq) (h:iU b l H=r):oQ j b l H=r:=by have e:=qi (v:=CZ) (E:=dF) (r:=rI.drop j) d;rw[fj] at e;exact(congrFun (congrFun e l) H).symm.trans h
def afi:List CS:=[.ret<|.tup [kv,.aA 515 [.comp (.aA 707 [jc,cm]) cm [am,am,am,ac 0] [1] aq []]]]
theorem acP:O1 794 1 2 3 afi:=dz 133 [] [] rfl
def afh:List CS:=[.ret<|.tup [kv,.aA 522 [.aA 679 [.sub cm<|cI 0,kv],.aA 686 [.sub cm<|cI 1]]]]
theorem WW:O1 801 9 2 5 afh:=dz 134 [] [] rfl
def ai4:List CS:=[.fm (.cmp cm [.Lt] [cI 0]) [.raise 126 [EE,cS [97,32,116,101,120,116,32,99,97,110,110,111,116,32,115,116,97,110,100,32,108,101,115,115,32,116,104,97,110,32,110,111,32,116,105,109,101,115]]] [],.expr<|.aA 474 [.bin ai .Mult (.bw eP [cz]) cm],.ret<|.fm (.cmp cz [.NotEq] [cB []]) (.bin ai .Mult cz cm)<|cB []]
theorem Uj:O1 522 10 2 5 ai4:=dz 84 [] [] rfl
def ae9:List CS:=[.assign 2<|.aA 679 [.sub cm<|cI 0,kv],.fm (.bool ai [.cmp dE [.Eq] [cB []],.not<|.aA 285 [dE]]) [.raise 126 [EE,cS [110,111,32,110,97,109,101,32,111,102,32,97,32,115,121,109,98,111,108]]] [],.ret<|.tup [cS [115,121,109],.gj MN.decode dE [cS [117,116,102,45,56]]]]
theorem WU:O1 930 11 2 6 ae9:=dz 153 [] [] rfl
def afa:List CS:=[.assign 2<|.sub cm<|cI 0,.fm (.cmp (.sub dE<|cI 0) [.Eq] [kv]) [.ret<|.tup [kv,.aA 515 [.list ai [.aA 649 [.sub dE<|cI 1]]]]] [],.fm (.cmp (.sub dE<|cI 0) [.Eq] [cS [99,104,97,114]]) [.ret<|.tup [kv,.aA 656 [.sub dE<|cI 1]]] [],.fm (.cmp (.sub dE<|cI 0) [.Eq] [w0]) [.ret<|.tup [kv,.aA 623 [.sub dE<|cI 2,cI 10]]] [],.ret<|.tup [kv,.gj abh (.aA 425 [.heap cz,dE,cI 20000]) [cS [117,116,102,45,56],cS [114,101,112,108,97,99,101]]]]
theorem acK:O1 923 12 2 9 afa:=dz 152 [] [] rfl
def afu:List CS:=[.mZ [1,2] [.list aq [],.aA 273 [cz]],.for [3,4] ai (.enum dE) [.fm (.bool aq [.cmp lk [.Eq] [cI 0],.cmp (.bin ai .Add jc<|cI 1) [.Lt] [.bw eP [dE]],.cmp (cI 48) [.LtE,.LtE] [.sub dE<|.bin ai .Add jc<|cI 1,cI 57]]) [.expr<|.gj iZ cm [cB [92,120,48,48]]] [.expr<|.gj iZ cm [.aA 642 [lk]]]],.ret<|.bin ai .Add (.bin ai .Add (cB [34])<|.gj p9 (cB []) [cm])<|cB [34]]
theorem acW:O1 649 13 1 9 afu:=dz 104 ["found"] [] rfl
def afg:List CS:=[.ret<|.tup [kv,.aA 529 [.aA 679 [.sub cm<|cI 0,kv]]]]
theorem acO:O1 808 21 2 4 afg:=dz 135 [] [] rfl
def ai3:List CS:=[.ret<|.aA 290 [.slice ai (.aA 273 [cz]) (.const<|.none) (.const<|.none)<|.neg<|cI 1]]
theorem ahG:O1 529 22 1 3 ai3:=dz 85 [] [] rfl
def ajd:List CS:=[.ret<|.gj p9 (cB []) [.comp (.aA 212 [cm]) cz [am,am,am] [1] aq []]]
theorem ahJ:O1 290 23 1 1 ajd:=dz 47 [] [] rfl
def afj:List CS:=[.ret<|.aA 91 [.aA 285 [.aA 679 [.sub cm<|cI 0,kv]]]]
theorem acQ:O1 777 24 2 5 afj:=dz 130 [] [] rfl
def aje:List CS:=[.ret<|.bw aaH [.comp (.cmp cm [.GtE] [cI 0]) (.aA 273 [cz]) [am,am] [1] aq []]]
theorem ahK:O1 285 25 1 3 aje:=dz 46 [] [] rfl
def afl:List CS:=[.ret<|.aA 84 [.aA 502 [.aA 679 [.sub cm<|cI 0,kv]]]]
theorem acS:O1 763 26 2 5 afl:=dz 128 [] [] rfl
def ai6:List CS:=[.ret<|.aA 495 [cz,.bin ai .Add (.bw eP [cz])<|cI 1]]
theorem ahI:O1 502 27 1 3 ai6:=dz 81 [] [] rfl
def afq:List CS:=[.ret<|.aA 84 [.aA 280 [.aA 679 [.sub cm<|cI 0,kv]]]]
theorem acT:O1 721 28 2 5 afq:=dz 122 [] [] rfl
def ajf:List CS:=[.ret<|.bw eP [.aA 268 [cz]]]
theorem ahL:O1 280 29 1 3 ajf:=dz 45 [] [] rfl
def R7:List CS:=[.unpack [2,3,4]<|.comp (.aA 679 [cm,kv]) cm [am,am,am] [1] aq [],.ret<|.tup [kv,.aA 562 [dE,jc,lk]]]
theorem WV:O1 818 30 2 6 R7:=dz 137 [] [] rfl
def aiY:List CS:=[.fm (.cmp cm [.Eq] [cB []]) [.raise 126 [EE,cS [110,111,116,104,105,110,103,32,99,97,110,110,111,116,32,98,101,32,114,101,112,108,97,99,101,100]]] [],.ret<|.aA 515 [.aA 555 [cz,cm],dE]]
theorem acj:O1 562 31 3 6 aiY:=dz 90 [] [] rfl
def aiZ:List CS:=[.fm (.cmp cm [.Eq] [cB []]) [.ret<|.comp (.aA 212 [cm]) (.aA 273 [cz]) [am,am,am] [1] aq []] [],.mZ [2,3] [.list aq [],cI 1],.while (.const<|.bool aq) [.assign 4<|.aA 543 [cz,cm,jc],.fm (.cmp lk [.Eq] [cI 0]) [.ret<|.bin ai .Add dE<|.list ai [.slice ai cz (.bin ai .Sub jc<|cI 1) (.const<|.none)<|.const<|.none]] [],.expr<|.gj iZ dE [.slice ai cz (.bin ai .Sub jc<|cI 1) (.bin ai .Sub lk<|cI 1)<|.const<|.none],.assign 3<|.bin ai .Add lk<|.bw eP [cm]]]
theorem ahE:O1 555 32 2 8 aiZ:=dz 89 ["found"] [] rfl
def ajg:List CS:=[.ret<|.comp (.sub (.aA 240 [jc,cm])<|cI 0) (.aA 268 [cz]) [am,am,am,ac 0] [1] aq []]
theorem ahM:O1 273 33 1 2 ajg:=dz 44 [] [] rfl
def aeU:List CS:=[.mZ [1,2] [.list aq [],cI 0],.while (.cmp dE [.Lt] [.bw eP [cz]]) [.expr<|.gj iZ cm [dE],.assign 2<|.sub (.aA 240 [cz,dE])<|cI 1],.ret cm]
theorem ahN:O1 268 34 1 5 aeU:=dz 43 ["found"] [] rfl
def aar:List CS:=[.expr<|.aA 474 [.bin ai .Add (.bw LQ [.comp (.bw eP [cm]) cz [am,am,am] [1] aq []])<|.bin ai .Mult (.bw eP [cm])<|.bw xR [cI 0,.bin ai .Sub (.bw eP [cz])<|cI 1]],.ret<|.gj p9 cm [cz]]
theorem ahH:O1 515 36 2 6 aar:=dz 83 [] [.bytes []] rfl
def aja:List CS:=[.fm (.cmp cz [.Gt] [cI 200000]) [.raise 126 [xs7,cS [97,32,116,101,120,116,32,111,102,32,116,111,111,32,109,97,110,121,32,111,99,116,101,116,115]]] []]
theorem acp:O1 474 37 1 3 aja:=dz 77 [] [] rfl
def afb:List CS:=[.ret<|.aA 91 [.aA 583 [.aA 679 [.sub cm<|cI 0,kv],.aA 679 [.sub cm<|cI 1,kv]]]]
theorem acL:O1 853 38 2 5 afb:=dz 142 [] [] rfl
def aiW:List CS:=[.assign 2<|.bin ai .Sub (.bw eP [cz])<|.bw eP [cm],.ret<|.bool aq [.cmp dE [.GtE] [cI 0],.cmp (.slice ai cz dE (.const<|.none)<|.const<|.none) [.Eq] [cm],.bool ai [.cmp cm [.Eq] [cB []],.aA 247 [cz,dE]]]]
theorem aci:O1 583 39 2 5 aiW:=dz 93 [] [] rfl
def afc:List CS:=[.ret<|.aA 91 [.aA 576 [.aA 679 [.sub cm<|cI 0,kv],.aA 679 [.sub cm<|cI 1,kv]]]]
theorem acM:O1 846 40 2 5 afc:=dz 141 [] [] rfl
def aiX:List CS:=[.ret<|.bool aq [.cmp (.slice ai cz (.const<|.none) (.bw eP [cm])<|.const<|.none) [.Eq] [cm],.bool ai [.cmp (.bw eP [cm]) [.Eq] [.bw eP [cz]],.aA 247 [cz,.bw eP [cm]]]]]
theorem ahD:O1 576 41 2 4 aiX:=dz 92 [] [] rfl
def afd:List CS:=[.assign 2<|.aA 550 [.aA 679 [.sub cm<|cI 0,kv],.aA 679 [.sub cm<|cI 1,kv]],.ret<|.fm (.cmp dE [.Gt] [cI 0]) (.aA 84 [dE])<|.const<|.tup [.str [110,111,116,104,105,110,103]]]
theorem acN:O1 832 42 2 7 afd:=dz 139 [] [] rfl
def ai0:List CS:=[.assign 2<|.gj S6 cz [cm],.while (.bool aq [.cmp dE [.GtE] [cI 0],.not<|.aA 536 [cz,dE,.bw eP [cm]]]) [.assign 2<|.gj S6 cz [cm,cI 0,.bin ai .Sub (.bin ai .Add dE<|.bw eP [cm])<|cI 1]],.ret<|.bin ai .Add dE<|cI 1]
theorem ack:O1 550 43 2 5 ai0:=dz 88 [] [] rfl
def afe:List CS:=[.assign 2<|.aA 679 [.sub cm<|cI 0,kv],.assign 3<|.fm (.cmp (.bw eP [cm]) [.Gt] [cI 2]) (.aA 693 [dE,.sub cm<|cI 2])<|cI 1,.assign 4<|.aA 543 [dE,.aA 679 [.sub cm<|cI 1,kv],jc],.ret<|.fm (.cmp lk [.Gt] [cI 0]) (.aA 84 [lk])<|.const<|.tup [.str [110,111,116,104,105,110,103]]]
theorem Kv:O1 825 44 2 11 afe:=dz 138 [] [] rfl
def ai1:List CS:=[.fm (.not<|.cmp (cI 1) [.LtE,.LtE] [dE,.bin ai .Add (.bw eP [cz])<|cI 1]) [.raise 119 [YF,.tup [.tup [kv,cz],.aA 84 [dE]]]] [],.assign 3<|.gj Yc cz [cm,.bin ai .Sub dE<|cI 1],.while (.bool aq [.cmp jc [.GtE] [cI 0],.not<|.aA 536 [cz,jc,.bw eP [cm]]]) [.assign 3<|.gj Yc cz [cm,.bin ai .Add jc<|cI 1]],.ret<|.bin ai .Add jc<|cI 1]
theorem Zg:O1 543 45 3 8 ai1:=dz 87 [] [] rfl
def ai2:List CS:=[.ret<|.bool ai [.cmp dE [.Eq] [cI 0],.bool aq [.aA 247 [cz,cm],.bool ai [.cmp (.bin ai .Add cm dE) [.Eq] [.bw eP [cz]],.aA 247 [cz,.bin ai .Add cm dE]]]]]
theorem ahF:O1 536 46 3 5 ai2:=dz 86 [] [] rfl
def R8:List CS:=[.assign 2<|.aA 679 [.sub cm<|cI 0,kv],.fm (.cmp (.aA 686 [.sub cm<|cI 2]) [.Lt] [.aA 686 [.sub cm<|cI 1]]) [.ret<|.tup [kv,cB []]] [],.ret<|.tup [kv,.aA 509 [dE,.aA 693 [dE,.sub cm<|cI 1],.aA 693 [dE,.sub cm<|cI 2]]]]
theorem Fz:O1 789 47 2 7 R8:=dz 132 [] [] rfl
def ai5:List CS:=[.fm (.cmp dE [.Lt] [cm]) [.ret<|cB []] [],.expr<|.aA 467 [cz,cm],.expr<|.aA 467 [cz,dE],.ret<|.slice ai cz (.bin ai .Sub cm<|cI 1) (.sub (.aA 240 [cz,.bin ai .Sub dE<|cI 1])<|cI 1)<|.const<|.none]
theorem Zh:O1 509 48 3 5 ai5:=dz 82 [] [] rfl
def afk:List CS:=[.ret<|.aA 91 [.aA 247 [.aA 679 [.sub cm<|cI 0,kv],.bin ai .Sub (.aA 686 [.sub cm<|cI 1])<|cI 1]]]
theorem acR:O1 770 49 2 6 afk:=dz 129 [] [] rfl
def ajj:List CS:=[.ret<|.fm cz (.const<|.tup [.str [98,111,111,108],.bool aq])<|.const<|.tup [.str [98,111,111,108],.bool ai]]
theorem ahS:O1 91 50 1 3 ajj:=dz 10 [] [] rfl
def afm:List CS:=[.assign 2<|.aA 679 [.sub cm<|cI 0,kv],.ret<|.aA 84 [.aA 495 [dE,.aA 693 [dE,.sub cm<|cI 1]]]]
theorem Qc:O1 756 51 2 7 afm:=dz 127 [] [] rfl
def ai7:List CS:=[.fm (.not<|.cmp (cI 1) [.LtE,.LtE] [cm,.bin ai .Add (.bw eP [cz])<|cI 1]) [.raise 119 [YF,.tup [.tup [kv,cz],.aA 84 [cm]]]] [],.ret<|.bin ai .Add (.aA 261 [cz,.bin ai .Sub cm<|cI 1])<|cI 1]
theorem acm:O1 495 52 2 6 ai7:=dz 80 [] [] rfl
def ajh:List CS:=[.assign 2<|.bin ai .Sub (.bw C5 [cm,.bw eP [cz]])<|cI 1,.while (.bool aq [.cmp dE [.GtE] [cI 0],.not<|.aA 247 [cz,dE]]) [.aug 2 .Sub<|cI 1],.ret<|.bw xR [dE,.neg<|cI 1]]
theorem ahO:O1 261 53 2 7 ajh:=dz 42 [] [] rfl
def afn:List CS:=[.assign 2<|.aA 679 [.sub cm<|cI 0,kv],.ret<|.aA 84 [.aA 488 [dE,.aA 693 [dE,.sub cm<|cI 1]]]]
theorem Qd:O1 749 54 2 7 afn:=dz 126 [] [] rfl
def ai8:List CS:=[.fm (.not<|.cmp (cI 0) [.LtE,.LtE] [cm,.bw eP [cz]]) [.raise 119 [YF,.tup [.tup [kv,cz],.aA 84 [cm]]]] [],.ret<|.fm (.cmp cm [.Gt] [cI 0]) (.bin ai .Add (.aA 254 [cz,.bin ai .Sub cm<|cI 1])<|cI 1)<|cI 1]
theorem acn:O1 488 55 2 6 ai8:=dz 79 [] [] rfl
def aji:List CS:=[.assign 2<|.bin ai .Add cm<|cI 1,.while (.bool aq [.cmp dE [.Lt] [.bw eP [cz]],.not<|.aA 247 [cz,dE]]) [.aug 2 .Add<|cI 1],.ret<|.bw C5 [dE,.bw eP [cz]]]
theorem ahP:O1 254 56 2 6 aji:=dz 41 [] [] rfl
def afo:List CS:=[.assign 2<|.aA 679 [.sub cm<|cI 0,kv],.ret<|.aA 700 [.aA 481 [dE,.aA 693 [dE,.sub cm<|cI 1]]]]
theorem Qe:O1 742 57 2 7 afo:=dz 125 [] [] rfl
def ai9:List CS:=[.expr<|.aA 467 [cz,cm],.ret<|.sub (.aA 240 [cz,.bin ai .Sub cm<|cI 1])<|cI 0]
theorem aco:O1 481 58 2 4 ai9:=dz 78 [] [] rfl
def aas:List CS:=[.assign 2<|.aA 233 [cz,cm],.fm (.cmp dE [.Is] [.const<|.none]) [.ret<|.tup [.bin ai .Sub (.neg<|cI 1)<|.sub cz cm,.bin ai .Add cm<|cI 1]] [],.ret<|.tup [dE,.bin ai .Add cm<|.aA 205 [dE]]]
theorem ahQ:O1 240 59 2 5 aas:=dz 39 [] [] rfl
def ajb:List CS:=[.expr<|.aA 460 [cz,cm],.fm (.not<|.aA 247 [cz,.bin ai .Sub cm<|cI 1]) [.raise 126 [EE,cS [110,111,32,115,105,103,110,32,98,101,103,105,110,115,32,97,116,32,116,104,105,115,32,105,110,100,101,120]]] []]
theorem Zi:O1 467 60 2 5 ajb:=dz 76 [] [] rfl
def R5:List CS:=[.fm (.not<|.cmp (cI 0) [.LtE,.Lt] [cm,.bw eP [cz]]) [.ret<|.const<|.bool ai] [],.fm (.not<|.aA 226 [.sub cz cm]) [.ret<|.const<|.bool aq] [],.for [2] aq (.bw jT [.bw xR [cI 0,.bin ai .Sub cm<|cI 3],cm]) [.assign 3<|.aA 233 [cz,dE],.fm (.bool aq [.cmp jc [.IsNot] [.const<|.none],.cmp (.bin ai .Add dE<|.aA 205 [jc]) [.Gt] [cm]]) [.ret<|.const<|.bool ai] []],.ret<|.const<|.bool aq]
theorem Uk:O1 247 61 2 10 R5:=dz 40 [] [] rfl
def VO:List CS:=[.assign 2<|.aA 219 [.sub cz cm],.fm (.bool ai [.cmp dE [.Is] [.const<|.none],.cmp (.bin ai .Add cm<|.sub dE<|cI 0) [.GtE] [.bw eP [cz]]]) [.ret<|.const<|.none] [],.unpack [3,4] dE,.for [5] aq (.bw jT [.bin ai .Add cm<|cI 1,.bin ai .Add (.bin ai .Add cm jc)<|cI 1]) [.fm (.not<|.aA 226 [.sub cz pM]) [.ret<|.const<|.none] [],.assign 4<|.bin ai .Sub (.bin ai .Add (.bin ai .Mult lk<|cI 64)<|.sub cz pM)<|cI 128],.fm (.bool ai [.cmp lk [.Gt] [cI 1114111],.aA 198 [lk],.cmp (.aA 205 [lk]) [.NotEq] [.bin ai .Add jc<|cI 1]]) [.ret<|.const<|.none] [],.ret lk]
theorem Qb:O1 233 62 2 13 VO:=dz 38 [] [] rfl
def afp:List CS:=[.assign 2<|.aA 679 [.sub cm<|cI 0,kv],.assign 3<|.aA 693 [dE,.sub cm<|cI 1],.expr<|.aA 460 [dE,jc],.ret<|.aA 84 [.sub dE<|.bin ai .Sub jc<|cI 1,cS [85,73,110,116,56]]]
theorem Qf:O1 735 68 2 8 afp:=dz 124 [] [] rfl
def ajc:List CS:=[.fm (.not<|.cmp (cI 1) [.LtE,.LtE] [cm,.bw eP [cz]]) [.raise 119 [YF,.tup [.tup [kv,cz],.aA 84 [cm]]]] []]
theorem acq:O1 460 69 2 5 ajc:=dz 75 [] [] rfl
def c_9:List CS:=[.ret<|.tup [w0,cm,cz]]
theorem o_9:O1 84 70 2 2 c_9:=dz 9 [] [cV "Int64"] rfl
def afr:List CS:=[.assign 2<|.aA 686 [cm],.fm (.not<|.cmp (.bin ai .Sub (cI 0)<|.bin ai .Pow (cI 2)<|cI 63) [.LtE,.Lt] [dE,.bin ai .Pow (cI 2)<|cI 63]) [.raise 119 [YF,.tup [.tup [kv,cz],cm]]] [],.ret dE]
theorem WX:O1 693 71 2 5 afr:=dz 118 [] [] rfl
def afs:List CS:=[.fm (.cmp (.sub cz<|cI 0) [.Eq] [En]) [.ret<|.bw UV [.sub cz<|cI 1]] [],.fm (.cmp (.sub cz<|cI 0) [.NotEq] [w0]) [.raise 119 [xs8,.tup [.tup [cS [115,121,109],w0],.tup [cS [116,121,112,101],.const<|.tup [.str [110,97,109,101],.str [73,110,116,54,52],.tup []]],cz]]] [],.ret<|.sub cz<|cI 2]
theorem acU:O1 686 72 1 4 afs:=dz 117 [] [] rfl
def aft:List CS:=[.fm (.cmp (.sub cz<|cI 0) [.NotEq] [cm]) [.raise 119 [xs8,.tup [.tup [cS [115,121,109],cm],.tup [cS [116,121,112,101],.aA 138 [.sub (.bad) cm]],cz]]] [],.ret<|.sub cz<|cI 1]
theorem acV:O1 679 73 2 5 aft:=dz 116 [] [] rfl
def GG:List CS:=[.mZ [3,4,5] [.aA 1045 [cm],.aA 1045 [dE],.aA 1017 [cz]],.fm (.cmp lk [.Lt] [jc]) [.ret<|.tup [kv,cB []]] [],.for [6] aq (.tup [cm,dE]) [.fm (.not<|.aA 1052 [qb]) [.ret<|.aA 1059 [cz,qb]] []],.for [6] aq (.tup [cm,dE]) [.fm (.not<|.cmp (cI 1) [.LtE,.LtE] [.aA 1045 [qb],.bw eP [cz]]) [.ret<|.aA 1059 [cz,qb]] [],.fm (.cmp (.aA 1045 [qb]) [.NotIn] [pM]) [.ret<|.tup [EE]] []],.ret<|.tup [kv,.slice ai cz (.bin ai .Sub jc<|cI 1) (.bin ai .Add (.bin ai .Sub lk<|cI 1)<|.bw eP [.sub (.aA 1012 [cz])<|.gj agq pM [lk]])<|.const<|.none]]
theorem acy:OQ 1071 ai 1 3 13 GG:=l8 175 [] [] rfl
def aeW:List CS:=[.mZ [1,2,3] [.tup [kv,cz],.aA 1012 [cz],.aA 1017 [cz]],.assign 4<|.comp (.aA 1024 [cm]) dE [am,am,am] [1] aq [],.assign 5<|.cmp (cI 65533) [.NotIn] [lk],.assign 6<|.gj p9 (cB []) [.comp (.fm (.cmp (.aA 1024 [cm]) [.NotEq] [cI 65533]) cm<|.fm (.cmp cm [.Eq] [cB [195]]) (cB [92,120,99,51])<|cB [92,120,97,57]) dE [am,am,am] [1] aq []],.assign 7<|.fm (.bool aq [pM,.cmp lk [.NotEq] [.list ai []]]) (.tup [cS [115,121,109],.gj p9 (cS []) [.comp (.bw VL [cm]) lk [am,am,am] [1] aq []]])<|.tup [EE],.ret<|.list ai [.tup [cS [116,101,120,116,95,108,101,110,103,116,104],.tup [cm],.aA 1031 [.bw eP [dE]]],.tup [cS [116,101,120,116,95,108,97,115,116],.tup [cm],.aA 1031 [.sub (.bin ai .Add (.list ai [cI 0]) jc)<|.neg<|cI 1]],.tup [cS [116,101,120,116,95,105,115,95,118,97,108,105,100],.tup [cm],.tup [En,pM]],.tup [cS [116,101,120,116,95,114,101,118,101,114,115,101,100],.tup [cm],.tup [kv,.gj p9 (cB []) [.slice ai dE (.const<|.none) (.const<|.none)<|.neg<|cI 1]]],.tup [cS [116,101,120,116,95,119,114,105,116,116,101,110],.tup [cm],.tup [kv,.bin ai .Add (.bin ai .Add (cB [34]) qb)<|cB [34]]],.tup [cS [115,121,109,98,111,108,95,111,102],.tup [cm],Ti]]]
theorem acs:OQ 1093 ai 2 1 12 aeW:=l8 179 [] [] rfl
def ae0:List CS:=[.mZ [2,3,4] [.aA 1045 [cm],.tup [kv,cz],.aA 1017 [cz]],.mZ [5,6,7] [.aA 1059 [cz,cm],.bw eP [cz],.tup [EE]],.fm (.cmp dE [.In] [lk]) [.assign 7<|.tup [cS [99,104,97,114],.aA 1024 [.sub (.aA 1012 [cz])<|.gj agq lk [dE]]]] [],.mZ [8,9] [.bin ai .Add (.comp cm lk [am,am,ac 2] [1] aq [.cmp cm [.Gt] [dE]])<|.list ai [.bin ai .Add qb<|cI 1],.bin ai .Add (.list ai [cI 0])<|.comp cm lk [am,am,ac 2] [1] aq [.cmp cm [.Lt] [dE]]],.ret<|.list ai [.tup [cS [116,101,120,116,95,111,99,116,101,116],.tup [jc,cm],.fm (.cmp (cI 1) [.LtE,.LtE] [dE,qb]) (.tup [w0,cS [85,73,110,116,56],.sub cz<|.bin ai .Sub dE<|cI 1]) pM],.tup [cS [116,101,120,116,95,97,116],.tup [jc,cm],.fm (.cmp (cI 1) [.LtE,.LtE] [dE,qb]) Ti pM],.tup [cS [116,101,120,116,95,110,101,120,116],.tup [jc,cm],.fm (.cmp (cI 0) [.LtE,.LtE] [dE,qb]) (.aA 1031 [.sub xO<|cI 0]) pM],.tup [cS [116,101,120,116,95,112,114,101,118],.tup [jc,cm],.fm (.cmp (cI 1) [.LtE,.LtE] [dE,.bin ai .Add qb<|cI 1]) (.aA 1031 [.sub Cp<|.neg<|cI 1]) pM],.tup [cS [116,101,120,116,95,105,115,95,115,116,97,114,116],.tup [jc,cm],.tup [En,.cmp dE [.In] [lk]]]]]
theorem acz:OQ 1064 ai 3 2 17 ae0:=l8 174 [] [] rfl
def aeV:List CS:=[.assign 3<|.sub (.list ai [.tup [En,.const<|.bool aq],.tup [En,.const<|.bool ai],.aA 1031 [cI 2],.aA 1031 [.neg<|cI 1],.tup [w0,ED,.bin ai .Pow (cI 2)<|cI 64],.tup [w0,ED,.bin ai .Sub (cI 0)<|.bin ai .Pow (cI 2)<|cI 70]])<|.aA 1000 [cz,cI 6],.assign 4<|.aA 1045 [jc],.assign 5<|.tup [kv,.fm (.bool aq [.cmp cm [.NotEq] [cB []],.cmp (cI 0) [.LtE,.Lt] [lk,cI 9]]) (.bin ai .Mult cm lk)<|cB []],.fm (.bool ai [.cmp lk [.Lt] [cI 0],.bool aq [.cmp lk [.Gt] [cI 9],.cmp cm [.NotEq] [cB []]]]) [.assign 5<|.fm (.cmp lk [.Lt] [cI 0]) (.tup [EE])<|.tup [xs7]] [],.assign 6<|.sub (.list ai [.tup [En,.const<|.bool aq],.aA 1031 [cI 55295],.aA 1031 [cI 55296],.aA 1031 [cI 57343],.aA 1031 [cI 57344],.aA 1031 [cI 1114111],.aA 1031 [cI 1114112],.aA 1031 [.neg<|cI 1],.tup [w0,ED,.bin ai .Pow (cI 2)<|cI 64]])<|.aA 1000 [cz,cI 9],.assign 7<|.bool ai [.cmp (cI 0) [.LtE,.Lt] [.aA 1045 [qb],cI 55296],.cmp (cI 57343) [.Lt,.Lt] [.aA 1045 [qb],cI 1114112]],.assign 8<|.sub (.list ai [.tup [En,.const<|.bool aq],.aA 1031 [.neg<|cI 255],.tup [w0,ED,.bin ai .Pow (cI 2)<|cI 63],.tup [w0,ED,.bin ai .Sub (.bin ai .Pow (cI 2)<|cI 63)<|cI 1],.aA 1031 [cI 1295]])<|.aA 1000 [cz,cI 5],.assign 9<|.sub (.list ai [.aA 1031 [cI 2],.tup [w0,cS [85,73,110,116,56],cI 16],.aA 1031 [cI 36],.aA 1031 [cI 37],.tup [En,.const<|.bool aq],.tup [w0,ED,.bin ai .Pow (cI 2)<|cI 64]])<|.aA 1000 [cz,cI 6],.mZ [10,11] [.tup [EE],.tup [EE]],.fm (.cmp (cI 2) [.LtE,.LtE] [.aA 1045 [Cp],cI 36]) [.assign 10<|.aA 1100 [.aA 1045 [xO],.aA 1045 [Cp]],.assign 11<|.tup [w0,.fm (.aA 1052 [xO]) (cS [73,110,116,54,52]) ED,.aA 1045 [xO]]] [],.assign 12<|.gj abh (.xV [.str [84,114,117,101],.str [70,97,108,115,101]] [.str [116,114,117,101],.str [102,97,108,115,101]] (.bw LV [.sub dE<|cI 1])<|.bw LV [.sub dE<|.neg<|cI 1]) [cS [97,115,99,105,105]],.ret<|.list ai [.tup [xs9,.tup [.tup [kv,cm],jc],pM],.tup [cS [99,104,97,114,95,111,102],.tup [qb],.fm Ti (.tup [cS [99,104,97,114],.aA 1045 [qb]])<|.tup [EE]],.tup [cS [116,101,120,116,95,111,102,95,110,117,109,98,101,114],.tup [xO,Cp],.loc 10],.tup [cS [116,101,120,116,95,110,117,109,98,101,114],.tup [.aA 1100 [.aA 1045 [xO],.bw xR [cI 2,.bw C5 [cI 36,.aA 1045 [Cp]]]],Cp],.loc 11],.tup [cS [116,101,120,116,95,106,111,105,110,101,100],.tup [.tup [kv,cm],dE,.tup [cS [115,121,109],cS [233]]],.tup [kv,.bin ai .Add (.bin ai .Add cm<|.loc 12)<|cB [195,169]]]]]
theorem acr:OQ 1107 ai 5 3 21 aeV:=l8 181 [] [] rfl
def aeX:List CS:=[.mZ [3,4,5] [.tup [kv,cz],.tup [kv,cm],.aA 1076 [cz,cm]],.mZ [6,7] [.aA 1045 [dE],.aA 1059 [cz,dE]],.fm (.cmp (cI 1) [.LtE,.LtE] [qb,.bin ai .Add (.bw eP [cz])<|cI 1]) [.assign 8<|.fm (.cmp cm [.NotEq] [cB []]) (.comp cm pM [am,am,ac 6] [1] aq [.cmp cm [.GtE] [dE]])<|.list ai [qb],.assign 7<|.fm (.cmp xO [.NotEq] [.list ai []]) (.aA 1031 [.sub xO<|cI 0])<|.tup [YE]] [],.assign 9<|.fm (.cmp cm [.NotEq] [cB []]) (.tup [kv,.gj p9 (cB [120,121]) [.aA 1083 [cz,cm]]])<|.tup [EE],.ret<|.list ai [.tup [YG,.tup [jc,lk,dE],Ti],.tup [YG,.tup [jc,lk],.fm (.cmp pM [.NotEq] [.list ai []]) (.aA 1031 [.sub pM<|cI 0])<|.tup [YE]],.tup [cS [116,101,120,116,95,102,105,110,100,95,108,97,115,116],.tup [jc,lk],.fm (.cmp pM [.NotEq] [.list ai []]) (.aA 1031 [.sub pM<|.neg<|cI 1])<|.tup [YE]],.tup [cS [116,101,120,116,95,115,116,97,114,116,115],.tup [jc,lk],.tup [En,.cmp (cI 1) [.In] [pM]]],.tup [cS [116,101,120,116,95,101,110,100,115],.tup [jc,lk],.tup [En,.cmp (.bin ai .Add (.bin ai .Sub (.bw eP [cz])<|.bw eP [cm])<|cI 1) [.In] [pM]]],.tup [cS [116,101,120,116,95,114,101,112,108,97,99,101,100],.tup [jc,lk,.tup [kv,cB [120,121]]],Cp]]]
theorem acu:OQ 1088 ai 7 3 16 aeX:=l8 178 [] [] rfl
def aeY:List CS:=[.fm (.cmp cm [.Eq] [cB []]) [.ret<|.aA 1012 [cz]] [],.mZ [2,3] [.list aq [],cI 1],.for [4] aq (.aA 1076 [cz,cm]) [.fm (.cmp lk [.GtE] [jc]) [.expr<|.gj iZ dE [.slice ai cz (.bin ai .Sub jc<|cI 1) (.bin ai .Sub lk<|cI 1)<|.const<|.none],.assign 3<|.bin ai .Add lk<|.bw eP [cm]] []],.ret<|.bin ai .Add dE<|.list ai [.slice ai cz (.bin ai .Sub jc<|cI 1) (.const<|.none)<|.const<|.none]]
theorem acv:OQ 1083 ai 8 2 8 aeY:=l8 177 ["found"] [] rfl
def ae1:List CS:=[.ret<|.tup [YF,.tup [.tup [kv,cz],.fm (.aA 1052 [cm]) (.aA 1031 [.aA 1045 [cm]]) cm]]]
theorem acA:OQ 1059 ai 9 2 5 ae1:=l8 173 [] [] rfl
def ae4:List CS:=[.ret<|.tup [w0,cS [73,110,116,54,52],cz]]
theorem acE:OQ 1031 ai 10 1 1 ae4:=l8 169 [] [] rfl
def ae2:List CS:=[.ret<|.cmp (.bin ai .Sub (cI 0)<|.bin ai .Pow (cI 2)<|cI 63) [.LtE,.Lt] [.aA 1045 [cz],.bin ai .Pow (cI 2)<|cI 63]]
theorem acB:OQ 1052 ai 11 1 2 ae2:=l8 172 [] [] rfl
def ae3:List CS:=[.ret<|.fm (.cmp (.sub cz<|cI 0) [.Eq] [En]) (.bw UV [.sub cz<|cI 1])<|.sub cz<|cI 2]
theorem acC:OQ 1045 ai 12 1 2 ae3:=l8 171 [] [] rfl
def aeZ:List CS:=[.assign 2<|.aA 1017 [cz],.assign 3<|.bin ai .Add dE<|.list ai [.bin ai .Add (.bw eP [cz])<|cI 1],.fm (.cmp cm [.Eq] [cB []]) [.ret jc] [],.ret<|.comp cm dE [am,am,am,ac 3,ac 0,ac 1] [1] aq [.bool aq [.cmp (.slice ai lk (.bin ai .Sub cm<|cI 1) (.bin ai .Add (.bin ai .Sub cm<|cI 1)<|.bw eP [pM])<|.const<|.none) [.Eq] [pM],.cmp (.bin ai .Add cm<|.bw eP [pM]) [.In] [jc]]]]
theorem acw:OQ 1076 ai 13 2 6 aeZ:=l8 176 [] [] rfl
def ae6:List CS:=[.assign 1<|.aA 1012 [cz],.ret<|.comp (.bin ai .Add (cI 1)<|.bw LQ [.comp (.bw eP [cm]) (.slice ai jc (.const<|.none) cm<|.const<|.none) [am,am,am] [1] aq []]) (.bw jT [.bw eP [cm]]) [am,am,am,ac 1] [1] aq []]
theorem acG:OQ 1017 ai 14 1 5 ae6:=l8 167 [] [] rfl
def XI:List CS:=[.mZ [1,2] [.list aq [],cI 0],.while (.cmp dE [.Lt] [.bw eP [cz]]) [.assign 3<|.fm (.cmp (.sub cz dE) [.Eq] [cI 226]) (cI 3)<|.fm (.cmp (.slice ai cz dE (.bin ai .Add dE<|cI 2)<|.const<|.none) [.Eq] [cB [195,169]]) (cI 2)<|cI 1,.expr<|.gj iZ cm [.slice ai cz dE (.bin ai .Add dE jc)<|.const<|.none],.assign 2<|.bin ai .Add dE jc],.ret cm]
theorem acH:OQ 1012 ai 15 1 5 XI:=l8 166 ["found"] [] rfl
def R6:List CS:=[.mZ [2,3] [.bin ai .Sub (.aA 1000 [cz,.bin ai .Add (.bw eP [cm])<|cI 4])<|cI 1,.aA 1000 [cz,cI 6]],.fm (.cmp jc [.Eq] [cI 0]) [.ret<|.tup [En,.cmp (.bin ai .Mod dE<|cI 2) [.Eq] [cI 0]]] [],.fm (.cmp jc [.Eq] [cI 1]) [.ret<|.tup [w0,ED,.sub (.list ai [.bin ai .Pow (cI 2)<|cI 63,.bin ai .Sub (.bin ai .Sub (cI 0)<|.bin ai .Pow (cI 2)<|cI 63)<|cI 1,.bin ai .Add (.bin ai .Pow (cI 2)<|cI 64)<|cI 1,.bin ai .Sub (.bin ai .Pow (cI 2)<|cI 63)<|cI 1,.bin ai .Sub (cI 0)<|.bin ai .Pow (cI 2)<|cI 63])<|.aA 1000 [cz,cI 5]]] [],.ret<|.tup [w0,.fm (.cmp jc [.Eq] [cI 2]) ED<|cS [73,110,116,54,52],dE]]
theorem acD:OQ 1038 ai 16 2 6 R6:=l8 170 [] [] rfl
def ae7:List CS:=[.assign 2<|.list ai [cB [97],cB [195,169],cB [195],cB [169],cB [226,130,172]],.ret<|.gj p9 (cB []) [.comp (.sub jc<|.aA 1000 [lk,cI 5]) (.bw jT [.aA 1000 [cz,.bin ai .Add cm<|cI 1]]) [am,am,am,ac 2,ac 0] [1] aq []]]
theorem acI:OQ 1005 ai 17 2 5 ae7:=l8 165 [] [] rfl
def ae8:List CS:=[.fm (.cmp (.sub cz<|cI 0) [.Gt] [cI 0]) [.assign 2<|.bin ai .Mod (.sub cz<|cI 0) cm,.setItem cz (cI 0)<|.bin ai .FloorDiv (.sub cz<|cI 0) cm,.ret dE] [],.setItem cz (cI 1)<|.bin ai .Mod (.bin ai .Add (.bin ai .Mult (.sub cz<|cI 1)<|cI 239)<|cI 4001)<|cI 65327,.ret<|.bin ai .Mod (.bin ai .FloorDiv (.sub cz<|cI 1)<|cI 7) cm]
theorem WT:OQ 1000 ai 18 2 3 ae8:=l8 164 [] [] rfl
def XJ:List CS:=[.assign 2<|.fm (.cmp cm [.Lt] [.bw eP [cz]]) (.sub cz cm)<|cI 0,.assign 3<|.fm (.cmp dE [.GtE] [cI 0]) dE<|.bin ai .Sub (cI 4) dE,.ret<|.list aq [.fm (.cmp jc [.GtE] [.bin ai .Pow (cI 10)<|cI 15]) jc<|cI 0,.bin ai .Mod (.bin ai .Add (.bin ai .Add (.bin ai .Mult (.bin ai .Mod jc<|cI 999863)<|cI 283)<|.bin ai .Mult (cI 107) cm)<|cI 47)<|cI 65327]]
theorem acJ:OQ 993 aq 19 2 5 XJ:=l8 163 ["return"] [] rfl
theorem r5 {i:Nat} (P:o[i]?=ac c) (N:aa o<=1000):uW (.bytes o) (.int (i:Int)) H=.ok (.int c.toNat) H:=by refine be (aB.mp P) λD S=>?_;subst S;show(if 0<=(i:Int)/\(i:Int)<aa o/\aa o<=1099511627776 then ay (dq (o.getD (i:Int).toNat 0).toNat) else aQ) H=_;rw[if_pos ⟨by exact bC _,by exact cK.mpr (by assumption),kN ‹_› (by rfl)⟩];simp[ay,D]
theorem adf (N:aa o<=1000):eP [.bytes o] H=.ok (.int<|aa o) H:=by show(if aa o<=1099511627776 then ay (dq<|aa o) else aQ) H=_;rw[if_pos<|kN ‹_› (by rfl)];rfl
theorem dy (h:bp B e V H=.ok (.bytes o) H₁) (N:aa o<=1000):bp B (.bw eP [e]) V H=.ok (.int<|aa o) H₁:=dJ (ae h ar)<|adf N
theorem dP {a b:Int} (h:decide (a<b)=c):lS .Lt (.int a) (.int b) H=.ok c H:=by rw[<-h];rfl
theorem zW {a b:Int} (h:decide (a<=b)=c):lS .LtE (.int a) (.int b) H=.ok c H:=by refine(h)▸?_;rfl
theorem jm {a b:Int} (h:decide (b<a)=c):lS .Gt (.int a) (.int b) H=.ok c H:=by refine(h)▸?_;rfl
theorem jB {a b:Int} (h:decide (b<=a)=c):lS .GtE (.int a) (.int b) H=.ok c H:=by refine(h)▸?_;rfl
theorem fA {a b:Int} (h:decide (a=b)=c):lS .Eq (.int a) (.int b) H=.ok c H:=by refine(h)▸?_;rfl
theorem K6 {a b:Int} (h:(!decide (a=b))=c):lS .NotEq (.int a) (.int b) H=.ok c H:=by refine(h)▸?_;rfl
theorem rq {one:Bool} (D:rJ B j V (bp B j V) H=.ok u g) (S:iu (λQ p=>f9 Q R one p) (λQ=>fY B E body Q) u V g=.ok (.next,Q) P) (k:fY B E l Q P=r):fY B E (.for R one j body::l) V H=r:=
 fh (a:=(.next,Q)) (fh D<|by unfold g4;rw[S]) k
theorem r4 {one:Bool} (D:rJ B j V (bp B j V) H=.ok u g) (S:iu (λQ p=>f9 Q R one p) (λQ=>fY B E body Q) u V g=.ok (.ret p,Q) H₂):fY B E (.for R one j body::l) V H=.ok (.ret p,Q) H₂:=
 fh (fh D<|by unfold g4;rw[S]) rfl
theorem nX (S:hO (λQ=>j6 B t Q<|bp B t Q) (λQ=>fY B E body Q) Ld V H=.ok (.next,Q) g) (k:fY B E l Q g=r):fY B E (.while t body::l) V H=r:=
 fh (a:=(.next,Q)) (by show g4 _ H=_;unfold g4;rw[S]) k
theorem OM (S:hO (λQ=>j6 B t Q<|bp B t Q) (λQ=>fY B E body Q) Ld V H=.ok (.ret p,Q) H₁):fY B E (.while t body::l) V H=.ok (.ret p,Q) H₁:=
 fh (by show g4 _ H=_;unfold g4;rw[S]) rfl
theorem iG (B:a V p=ac Q) (h:body Q H=.ok (.next,s) g) (k:iu a body z s g=r):iu a body (p::z) V H=r:=by show bG (a V p) (λQ=>ax (body Q)<|uC<|iu a body z) H=_;exact(af B)▸fh h k
theorem xo (B:a V p=ac Q) (h:body Q H=.ok (.ret q,s) H₁):iu a body (p::z) V H=.ok (.ret q,s) H₁:=by show bG (a V p) (λQ=>ax (body Q)<|uC<|iu a body z) H=_;exact(af B)▸fh h rfl
theorem Xz {P:bO->Prop}:∀(z) {V},(∀p∈z,∀V,P V->∃Q s,a V p=ac Q/\body Q H=.ok (.next,s) H/\P s)->P V->∀{r x},(∀Q,P Q->iu a body r Q H=x)->iu a body (z++r) V H=x
 |[],V,_,h,r,x,k=>k V h
 |p::z,V,d,h,r,x,k=>by exact cN (d p (by simp) V h) λQ s m i W=>iG m i<|Xz z (λq L=>d q<|by simp[L]) W k
theorem ly (h:d V H=.ok ai H₁):hO d body (f+1) V H=.ok (.next,V) H₁:=fh h rfl
theorem qH (h:d V H=.ok aq g) (B:body V g=.ok (.next,Q) P) (k:hO d body f Q P=r):hO d body (f+1) V H=r:=
 fh h (fh B k)
theorem abQ (h:d V H=.ok aq g) (B:body V g=.ok (.ret p,Q) H₂):hO d body (f+1) V H=.ok (.ret p,Q) H₂:=
 fh h (fh B rfl)
theorem aH (h:m H=.ok p H) (A:cZ H=aq) (W:jd p=aq):iO ai m H=.ok p H:=by
 have:=zZ h (by exact(af fF)▸A) W
 rwa [fF] at this
theorem b9 (h:m H=.exc p H) (A:cZ H=aq) (W:jd p=aq):iO ai m H=.exc p H:=by
 have:=NL (f:=ai) h (by exact(af fF)▸A) W
 rwa [fF] at this
inductive Tk where
 |a|e|c|n|u
noncomputable def Tk.b:Tk->List UInt8
 |.a=>[97]
 |.e=>[0xC3,0xA9]
 |.c=>[0xC3]
 |.n=>[0xA9]
 |.u=>[0xE2,0x82,0xAC]
open Tk renaming b->S5
noncomputable def Tk.code:Tk->Int
 |.a=>97
 |.e=>233
 |.c=>-196
 |.n=>-170
 |.u=>8364
noncomputable def aw:List Tk->List UInt8
 |[]=>[]
 |t::r=>t.b++aw r
theorem ql:aw []=[]:=rfl
theorem oi:aw (t::r)=t.b++aw r:=rfl
noncomputable def Ag:List Tk->Prop
 |.c::.n::_=>False
 |_::r=>Ag r
 |[]=>True
theorem pu:∀p q,aw (p++q)=aw p++aw q
 |[],_=>rfl
 |t::p,q=>by
  show t.b++aw (p++q)=(t.b++aw p)++aw q
  (refine(af<|pu p q)▸?_;rw[fc])
theorem Ag.tail (h:Ag (t::r)):Ag r:=by
 rcases t<;>try exact h
 induction r with
 |nil=>trivial
 |cons u r=>rcases u<;>first|exact h|exact h.elim
theorem Ag.drop:∀{p},Ag (p++q)->Ag q
 |[],h=>h
 |_::_,h=>Ag.drop<|Ag.tail h
theorem ow (t:Tk):1<=aa t.b:=by rcases t<;>decide
theorem pV (k) (G:k<aa t.b):(aw<|p++t::q)[aa (aw p)+k]?=t.b[k]?:=by
 (refine(af (pu ..))▸ah (ck<|co _ _) ?_)
 show(t.b++aw q)[_]?=_
 (refine(af (gJ ..))▸?_;rw[dh G])
theorem V5:(aw<|p++t::u::q)[aa (aw p)+aa t.b]?=u.b[0]?:=by
 have:=pV (p:=p++[t]) (q:=q) 0<|ow u
 have i:aa (aw<|p++[t])=aa (aw p)+aa t.b:=by
  (refine(af (pu ..))▸ah aJ ?_)
  show _+aa (t.b++[])=_;rw[fq]
 rwa [show(p++[t])++u::q=p++t::u::q by simp,i,af9] at this
theorem th:aa (aw<|p++t::q)=aa (aw p)+aa t.b+aa (aw q):=by
 (refine(af (pu ..))▸ah aJ ?_)
 show _+aa (t.b++aw q)=_;exact(af aJ)▸af (d9 _ _ _)
theorem qj {f:FE} (Y:(sx[i]?).map (λg=>(g.addr,g.k,g.keep,g.muts,g.defs))=ac (f.addr,f.k,f.keep,f.muts,f.defs)) (d:((sx.take i).all λg=>decide<|f.addr≠g.addr)=aq) (F:(bH f.k).1.args.length=n) (Z:(bH f.k).2.2.names.length=l) (G:f.keep=ai) (C:aa z=n)
 (h:kX (oI<|i+1) dF l (DK f.k f.muts) z H=.ok p H) (A:cZ H=aq) (W:jd p=aq):b7 f.addr z H=.ok p H:=by
 show iq sb dF sx f.addr z H=_;rw[wf Y d F Z rfl C,G];exact aH h A W
noncomputable def W8:Int->PV
 |97=>.tup [.int 0,.int 97]
 |195=>.tup [.int 1,.int 3]
 |226=>.tup [.int 2,.int 2]
 |_=>.none
theorem C8 (A:cZ H=aq) (x:Int) (T:x=97\/x=195\/x=226\/x=169\/x=130\/x=172):b7 219 [.int x] H=.ok (W8 x) H:=
 qj (i:=64) rfl rfl rfl rfl rfl rfl (by rcases T with rfl|rfl|rfl|rfl|rfl|rfl<;>kernel_rfl) A (by rcases T with rfl|rfl|rfl|rfl|rfl|rfl<;>rfl)
theorem wy (A:cZ H=aq) (x:Int) (T:x=97\/x=195\/x=226\/x=169\/x=130\/x=172):b7 226 [.int x] H=.ok (.bool<|decide<|128<=x/\x<192) H:=
 qj (i:=65) rfl rfl rfl rfl rfl rfl (by rcases T with rfl|rfl|rfl|rfl|rfl|rfl<;>kernel_rfl) A rfl
theorem aaB (A:cZ H=aq) (x:Int) (T:x=97\/x=233\/x=8364):b7 198 [.int x] H=.ok (.bool ai) H:=
 qj (i:=63) rfl rfl rfl rfl rfl rfl (by rcases T with rfl|rfl|rfl<;>kernel_rfl) A rfl
noncomputable def w7:Int->Int
 |97=>1
 |233=>2
 |_=>3
theorem qM (A:cZ H=aq) (x:Int) (T:x=97\/x=233\/x=8364):b7 205 [.int x] H=.ok (.int<|w7 x) H:=
 qj (i:=62) rfl rfl rfl rfl rfl rfl (by rcases T with rfl|rfl|rfl<;>kernel_rfl) A rfl
theorem qO {a b:Int} (h:b<=a):eu a b=[]:=by unfold eu;refine(af<|OH<|Od h)▸?_;rfl
theorem Fi (a:Int) (n:Nat):eu a (a+n)=(dg n).map λ(i:Nat)=>.int (a+i):=by unfold eu;(refine(af (yc ..))▸(af (cr ..))▸?_;rw[et])
theorem uV (a:Int) (n:Nat):a+((n+1:Nat):Int)=a+1+n:=by(refine(af (Wy ..))▸(af (ro ..))▸?_;rw[yc 1])
theorem jS {a b:Int} (h:a<b):eu a b=.int a::eu (a+1) b:=by refine be (Int.lt.dest h) λn e=>?_;rw[<-e,show a+((aa0 n:Nat):Int)=a+((n+1:Nat):Int) from rfl,Fi,uV,Fi,G8,bv,gV,Wx,jC];exact congrArg _ (o0 λx _=>congrArg dq<|uV a x)
theorem HY {a b c:Int} (h:a<=b) (f:b<=c):eu a c=eu a b++eu b c:=by
 have R:∀(n:Nat) (a:Int),a+n<=c->eu a c=eu a (a+n)++eu (a+n) c:=λn=>by
  induction n with
  |zero=>intro a _;(refine(af Wx)▸(af (jC ..))▸(af<|qO<|f4 a)▸?_);rfl
  |succ n o=>
   intro a h;have t:=Int.lt_add_of_pos_right a<|Int.natCast_pos.mpr<|mK n
   rw[jS<|lZ t h,jS t,uV,o (a+1)<|uV a n▸h];rfl
 exact be (Int.le.dest h) λn e=>(e)▸R n a (e▸f)
theorem It {a b:Int} (h:p∈eu a b):∃i,p=.int i/\a<=i/\i<b:=by unfold eu at h;exact aI (b3.mp h) λn F e=>⟨_,af e,Int.le_add_of_nonneg_right<|bC n,Int.add_lt_of_lt_sub_left<|agf.mp<|pJ.mp F⟩
theorem si {a b:Int} (h:bp B x V H=.ok (.int a) H) (f:bp B y V H=.ok (.int b) H) (z:-2000<=a/\a<=2000/\-2000<=b/\b<=2000) (e:eu a b=l):rJ B (.bw jT [x,y]) V (bp B (.bw jT [x,y]) V) H=.ok l H:=
 fh (dJ (ae h<|ae f ar) rfl) (by unfold ev;dsimp only;(refine ah (if_pos ⟨by exact dr<|bk [] [a] [(1,.g<|.n 2000,cA),(1,xi cA,.g<|.n 4611686018427387904)] rfl z.1,by exact dr<|bk [] [a] [(1,cA,.n 2000),(1,xi<|.n 4611686018427387904,xi cA)] rfl z.2.1,by exact dr<|bk [] [b] [(1,.g<|.n 2000,cA),(1,xi cA,.g<|.n 4611686018427387904)] rfl z.2.2.1,by exact dr<|bk [] [b] [(1,cA,.n 2000),(1,xi<|.n 4611686018427387904,xi cA)] rfl z.2.2.2⟩) ?_;rw[e]))
theorem jG (h:bp B (.aA a D) V H=.ok (.bool c) H₁):j6 B (.aA a D) V (bp B (.aA a D) V) H=.ok c H₁:=fh h rfl
theorem ajk (h:j6 B x V (bp B x V) H=.ok ai g) (k:pA B ai r V g=.ok c H₂):pA B ai (x::r) V H=.ok c H₂:=fh h k
theorem az (h:ol (oI j) D V H=.ok l g) (d:((sx.take j).all λf=>decide<|a≠f.addr)=aq) (k:b7 a l g=r):bp (oI j) (.aA a D) V H=r:=gu h<|c1 d k
section
variable {i:Nat}
theorem ua {f code:Int} (A:cZ H=aq) (P:code=97\/code=233\/code=8364) (Y:w7 code=f+1):
 fY (oI 62) dF (VO.drop 4) (ac (.bytes o)::ac (.int i)::x::ac (.int f)::ac (.int code)::y::R) H=.ok (.ret<|.int code,ac (.bytes o)::ac (.int i)::x::ac (.int f)::ac (.int code)::y::R) H:=
 eS (c:=ai) (tL (a8 rfl rfl<|jm (by rcases P with rfl|rfl|rfl<;>rfl))<|ajk (jG<|az (ae rfl ar) rfl<|aaB A _ P)<|jg<|a8 (az (ae rfl ar) rfl<|qM A _ P) (bo rfl rfl rfl)<|K6<|by refine(af Y)▸?_;simp) bJ (bI rfl)
theorem qF (D:o[i]?=ac c) (P:c=169\/c=130\/c=172) (N:aa o<=1000) (A:cZ H=aq):b7 233 [.bytes o,.int i] H=.ok .none H:=by
 have B:b7 219 [.int c.toNat] H=.ok .none H:=by rcases P with rfl|rfl|rfl<;>exact C8 A _ (by decide)
 rw[Qb rfl];exact aH (aL<|bU (az (ae (bz rfl rfl<|r5 D N) ar) rfl B)<|ky (Bj<|a8 rfl rfl rfl)<|bI rfl) A rfl
theorem aho:yJ 2 (.tup [a,b]) H=.ok [a,b] H:=rfl
theorem qG {f v:Int} (D:o[i]?=ac c) (C:W8 c.toNat=.tup [.int f,.int v]) (T:(c.toNat:Int)=97\/(c.toNat:Int)=195\/(c.toNat:Int)=226\/(c.toNat:Int)=169\/(c.toNat:Int)=130\/(c.toNat:Int)=172) (Y:i+f<aa o) (N:aa o<=1000) (A:cZ H=aq)
 (k:fY (oI 62) dF (VO.drop 3) [ac<|.bytes o,ac<|.int i,ac<|.tup [.int f,.int v],ac<|.int f,ac<|.int v,am,am,am,am,am,am,am,am] H=r):
 fY (oI 62) dF VO ([.bytes o,.int i].map ac++aX (13-2) am) H=r:=
 bU (az (ae (bz rfl rfl<|r5 D N) ar) rfl<|ah (C8 A _ T)<|by rw[C]) (eS (tL (a8 rfl rfl rfl)<|jg<|a8 (bo rfl (bz rfl rfl rfl) rfl) (dy rfl N)<|jB<|decide_eq_false<|by exactλM=>bk [i,aa o] [f] [(1,xi<|.a aK cA,bg),(1,bg,.a aK cA)] rfl Y M) bJ<|EF rfl aho k)
theorem Tn (D:o[i]?=ac 97) (N:aa o<=1000) (A:cZ H=aq):b7 233 [.bytes o,.int i] H=.ok (.int 97) H:=by have t:=(aB.mp D).1;rw[Qb rfl];refine aH (aL<|qG D rfl (by decide) (by exact dr<|bk [i,aa o] [] [(1,xi aK,bg),(1,xi bg,xi<|.a aK ei)] rfl<|cl t) N A<|rq (si (bo rfl rfl rfl) (bo (bo rfl rfl rfl) rfl rfl) (by exact⟨dr<|bk [i] [] [(1,xi<|xi aK,.g<|.n 2000)] rfl,⟨dr<|bk [aa o,i] [] [(1,aK,.n 1000),(1,xi bg,aK),(1,xi<|.n 2000,xi bg)] rfl (cl N)<|cl t,⟨dr<|bk [i] [] [(1,xi<|xi<|.a aK ei,.g<|.n 2000)] rfl,dr<|bk [aa o,i] [] [(1,aK,.n 1000),(1,xi bg,aK),(1,xi<|.n 2000,xi<|.a bg ei)] rfl (cl N)<|cl t⟩⟩⟩)<|qO<|by exact dr<|bk [i] [] [(1,xi<|xi aK,xi<|.a aK ei)] rfl) rfl<|ua A (.inl rfl) rfl) A rfl
theorem ub {code f:Int} {j:Nat} (F:o[j]?=ac c) (T:(c.toNat:Int)=169\/(c.toNat:Int)=130\/(c.toNat:Int)=172) (d:0<=code/\code<100000) (N:aa o<=1000) (A:cZ H=aq):
 fY (oI 62) dF [.fm (.not<|.aA 226 [.sub cz pM]) [.ret<|.const<|.none] [],.assign 4<|.bin ai .Sub (.bin ai .Add (.bin ai .Mult lk<|cI 64)<|.sub cz pM)<|cI 128] (ac (.bytes o)::ac (.int i)::x::ac (.int f)::ac (.int code)::ac (.int j)::R) H=
  .ok (.next,ac (.bytes o)::ac (.int i)::x::ac (.int f)::ac (.int<|code*64+c.toNat-128)::ac (.int j)::R) H:=
 eS (gP<|jG<|az (ae (bz rfl rfl<|r5 F N) ar) rfl<|ah (wy A _ (.inr<|.inr<|.inr T))<|by rw[decide_eq_true (by rcases T with h|h|h<;>rw[h]<;>decide)]) bJ (bU (bo (bo (bo rfl rfl (by
  show(if(iE code||iE 64)=aq then ay (dq<|code*64) else aQ) H=_
  rw[if_pos<|by rw[show iE 64=aq by decide,He]];rfl)) (bz rfl rfl<|r5 F N) rfl) rfl rfl) bJ)
theorem Tl (D:o[i]?=ac 0xC3) (F:o[i+1]?=ac 0xA9) (N:aa o<=1000) (A:cZ H=aq):b7 233 [.bytes o,.int i] H=.ok (.int 233) H:=by have t:=(aB.mp F).1;rw[Qb rfl];refine aH (aL<|qG D rfl (by decide) (by exact cK.mpr<|by assumption) N A<|rq (si (bo rfl rfl rfl) (bo (bo rfl rfl rfl) rfl rfl) (by exact⟨dr<|bk [i] [] [(1,xi<|xi aK,.g<|.n 2000)] rfl,⟨dr<|bk [aa o,i] [] [(1,aK,.n 1000),(1,xi<|xi bg,aK),(1,xi<|.n 2000,xi bg)] rfl (cl N)<|cl t,⟨dr<|bk [i] [] [(1,xi<|xi<|xi aK,.g<|.n 2000)] rfl,dr<|bk [aa o,i] [] [(1,aK,.n 1000),(1,xi<|xi bg,aK),(1,xi<|.n 2000,xi<|xi bg)] rfl (cl N)<|cl t⟩⟩⟩)<|ah (jS<|by exact dr<|bk [i] [] [(1,xi<|xi<|xi aK,xi<|xi aK)] rfl)<|congrArg _ (qO<|by exact dr<|bk [i] [] [(1,xi<|xi<|xi aK,xi<|xi aK)] rfl)) (iG rfl (ub F (.inl rfl) (by exact⟨dr<|bk [] [] [(1,xi<|.n 3,ei)] rfl,dr<|bk [] [] [(1,xi<|.n 100000,xi<|.n 3)] rfl⟩) N A) rfl)<|ua A (.inr<|.inl rfl) rfl) A rfl
theorem Tj (D:o[i]?=ac 0xE2) (F:o[i+1]?=ac 0x82) (G:o[i+2]?=ac 0xAC) (N:aa o<=1000) (A:cZ H=aq):b7 233 [.bytes o,.int i] H=.ok (.int 8364) H:=by have t:=(aB.mp G).1;rw[Qb rfl];refine aH (aL<|qG D rfl (by decide) (by exact cK.mpr<|by assumption) N A<|rq (si (bo rfl rfl rfl) (bo (bo rfl rfl rfl) rfl rfl) (by exact⟨dr<|bk [i] [] [(1,xi<|xi aK,.g<|.n 2000)] rfl,⟨dr<|bk [aa o,i] [] [(1,aK,.n 1000),(1,xi<|.a bg<|.n 2,aK),(1,xi<|.n 2000,xi bg)] rfl (cl N)<|cl t,⟨dr<|bk [i] [] [(1,xi<|xi<|.a aK<|.n 2,.g<|.n 2000)] rfl,dr<|bk [aa o,i] [] [(1,aK,.n 1000),(1,xi<|.a bg<|.n 2,aK),(1,xi<|.n 2000,xi<|.a bg<|.n 2)] rfl (cl N)<|cl t⟩⟩⟩)<|by rw[jS (by exact dr<|bk [i] [] [(1,xi<|xi<|.a aK<|.n 2,xi<|xi aK)] rfl),jS (by exact dr<|bk [i] [] [(1,xi<|xi<|.a aK<|.n 2,xi<|xi<|xi aK)] rfl),qO (by exact dr<|bk [i] [] [(1,xi<|xi<|xi<|xi aK,xi<|.a aK<|.n 2)] rfl),ro];rfl) (iG rfl (ub F (.inr<|.inl rfl) (by exact⟨dr<|bk [] [] [(1,xi<|.n 2,ei)] rfl,dr<|bk [] [] [(1,xi<|.n 100000,xi<|.n 2)] rfl⟩) N A)<|iG rfl (ub G (.inr<|.inr rfl) (by decide) N A) rfl)<|ua A (.inr<|.inr rfl) rfl) A rfl
theorem Tm (D:o[i]?=ac 0xC3) (F:∀d,o[i+1]?=ac d->d=97\/d=0xC3\/d=0xE2) (N:aa o<=1000) (A:cZ H=aq):b7 233 [.bytes o,.int i] H=.ok .none H:=by
 have t:=(aB.mp D).1;rw[Qb rfl]
 cases Z:o[i+1]? with
 |none=>rw[Eg] at Z;exact aH (aL<|bU (az (ae (bz rfl rfl<|r5 D N) ar) rfl<|C8 A _ (by decide))<|ky (tL (a8 rfl rfl rfl)<|jg<|a8 (bo rfl (bz rfl rfl rfl) rfl) (dy rfl N)<|jB<|decide_eq_true<|by exact dI.mpr<|by assumption)<|bI rfl) A rfl
 |some d=>
  have a:=(aB.mp Z).1;have l:=F d Z
  refine aH (aL (qG D rfl (by decide) (by exact cK.mpr<|by assumption) N A (r4 (si (bo rfl rfl rfl) (bo (bo rfl rfl rfl) rfl rfl) (by exact⟨dr<|bk [i] [] [(1,xi<|xi aK,.g<|.n 2000)] rfl,⟨dr<|bk [aa o,i] [] [(1,aK,.n 1000),(1,xi<|xi bg,aK),(1,xi<|.n 2000,xi bg)] rfl (cl N)<|cl a,⟨dr<|bk [i] [] [(1,xi<|xi<|xi aK,.g<|.n 2000)] rfl,dr<|bk [aa o,i] [] [(1,aK,.n 1000),(1,xi<|xi bg,aK),(1,xi<|.n 2000,xi<|xi bg)] rfl (cl N)<|cl a⟩⟩⟩)<|jS<|by exact dr<|bk [i] [] [(1,xi<|xi<|xi aK,xi<|xi aK)] rfl)
   (xo rfl<|ky (gP (c:=ai)<|jG<|az (ae (bz rfl rfl<|r5 Z N) ar) rfl<|ah (wy A _ ?_) ?_)<|bI rfl)))) A rfl
  ·rcases l with rfl|rfl|rfl<;>decide
  ·rcases l with rfl|rfl|rfl<;>rfl
end
theorem Rv {P:bO->Prop}:∀(z) {V},(∀p∈z,∀V,P V->∃Q s,a V p=ac Q/\body Q H=.ok (.next,s) H/\P s)->P V->∃Q,P Q/\iu a body z V H=.ok (.next,Q) H
 |[],V,_,h=>⟨V,h,rfl⟩
 |p::z,V,d,h=>by exact cN (d p (by simp) V h) λQ s m i W=>aI (Rv z (λq L=>d q<|by simp[L]) W) λb J R=>⟨b,J,iG m i R⟩
noncomputable def dj:Nat->List Tk->List Nat
 |_,[]=>[]
 |k,t::r=>k::dj (k+aa t.b) r
theorem ze:dj k []=[]:=rfl
theorem wj:dj k (t::r)=k::dj (k+aa t.b) r:=rfl
noncomputable def mU (G:List Tk) (i:Int):Bool:=(dj 0 G).any λn=>decide<|(n:Int)=i
theorem qk:∀p q k,dj k (p++q)=dj k p++dj (k+aa (aw p)) q
 |[],q,k=>rfl
 |t::p,q,k=>by
  show k::dj (k+aa t.b) (p++q)=k::(dj (k+aa t.b) p++dj (k+aa (t.b++aw p)) q)
  (refine(af (qk p q ..))▸(af aJ)▸?_;rw[d9])
theorem kK:∀p k n,n∈dj k p->k<=n/\n<k+aa (aw p)
 |t::p,k,n,h=>by
  have W:=ow t;have e:(aw<|t::p).length=t.b.length+(aw p).length:=aJ;rcases aM.mp h with rfl|h
  ·exact⟨cQ<|bk [n] [] [(1,xi aK,aK)] rfl,cQ<|bk [aa t.b,aa<|aw p,aa<|aw<|t::p,n] [] [(1,ik,aK),(1,.a aK bg,cu),(1,xi<|.a io cu,xi io)] rfl (cl W)<|cl<|ao<|af e⟩
  ·have:=kK p _ n h;exact⟨cQ<|bk [aa t.b,k,n] [] [(1,ik,aK),(1,.a bg aK,cu),(1,xi cu,bg)] rfl (cl W)<|cl this.1,cQ<|bk [aa t.b,aa<|aw p,aa<|aw<|t::p,n,k] [] [(1,.a aK bg,cu),(1,xi io,.a (.a (.v 4) aK) bg),(1,xi<|.a (.v 4) cu,xi io)] rfl (cl<|ao<|af e)<|cl this.2⟩
theorem vq (p q t):mU (p++t::q) (aa<|aw p)=true:=by
 unfold mU
 (refine(af (qk ..))▸ah Ww<|(af (gL ..))▸?_)
 exact .inr<|by simp[ze,wj]
theorem QW (p q t) (k:Nat) (U:0<k) (G:k<aa t.b):mU (p++t::q) (aa (aw p)+k:Nat)=false:=by
 unfold mU;rw[mf];intro n hn;rw[qk] at hn;rw[decide_eq_true_eq];rcases eG.mp hn with hn|hn
 ·have:=kK p _ n hn;exactλM=>bk [k,n,aa<|aw p] [] [(1,xi ei,aK),(1,xi bg,.a ei cu),(1,.a cu aK,bg)] rfl (cl U) (cl this.2)<|aU<|af M
 ·rcases aM.mp hn with rfl|hn
  ·exactλM=>bk [k,aa<|aw p] [] [(1,xi ei,aK),(1,.a bg aK,.a ei bg)] rfl (cl U)<|aU<|af M
  ·have:=kK q _ n hn;exactλM=>bk [k,aa t.b,aa<|aw p,n] [] [(1,xi aK,bg),(1,.a (.a ei cu) bg,io),(1,io,.a cu aK)] rfl (cl G) (cl this.1)<|aU M
theorem KJ (G) (i:Int) (h:¬(0<=i/\i<aa (aw G))):mU G i=false:=by
 unfold mU;rw[mf];intro n F;have:=kK G 0 n F;rw[decide_eq_true_eq]
 exactλe=>h<|e▸⟨bC n,cK.mpr<|Nat.lt_of_lt_of_eq this.2<|fV _⟩
theorem tf:∀G i,i<aa (aw G)->∃p t q k,G=p++t::q/\k<aa t.b/\i=aa (aw p)+k
 |t::r,i,h=>by
  by_cases D:i<aa t.b
  ·exact⟨[],t,r,i,rfl,D,by simp[ql,oi]⟩
  ·have e:(aw<|t::r).length=t.b.length+(aw r).length:=aJ;refine RK (tf r (i-aa t.b)<|Nat.sub_lt_left_of_lt_add (cW.mp D)<|e▸h) λp u q k m Z W=>⟨t::p,u,q,k,by refine(af m)▸?_;rfl,Z,?_⟩
   (refine(af<|show(aw<|t::p).length=t.b.length+(aw p).length from aJ)▸(af (d9 ..))▸(W)▸?_;rw[Nat.add_sub_cancel'<|cW.mp D])
noncomputable def B0:Tk->PV
 |.a=>.int 97
 |.e=>.int 233
 |.u=>.int 8364
 |_=>.none
theorem v7 (P:Ag (p++t::q)) (N:aa (aw<|p++t::q)<=1000) (A:cZ H=aq):b7 233 [.bytes<|aw<|p++t::q,.int<|aa<|aw p] H=.ok (B0 t) H:=by
 have U:(aw<|p++t::q)[(aw p).length]?=t.b[0]?:=pV 0<|ow t
 induction t with
 |a=>exact Tn U N A
 |e=>exact Tl U (pV 1<|by decide) N A
 |u=>exact Tj U (pV 1<|by decide) (pV 2<|by decide) N A
 |n=>exact qF U (.inl rfl) N A
 |c=>
  refine Tm U (λd g=>?_) N A
  cases q with
  |nil=>have:=(aB.mp g).1;rw[th] at this;simp[S5,ql,oi] at this
  |cons u r=>rw[show aa (aw p)+1=aa (aw p)+aa Tk.c.b from rfl,V5] at g;have:=Ag.drop P;rcases u<;>first|exact this.elim|(cases g;first|exact .inl rfl|exact .inr (.inl rfl)|exact .inr<|.inr rfl)
theorem OP (k:Nat) (U:0<k) (G:k<aa t.b) (N:aa (aw<|p++t::q)<=1000) (A:cZ H=aq):b7 233 [.bytes<|aw<|p++t::q,.int (aa (aw p)+k:Nat)] H=.ok .none H:=by
 have J:(aw<|p++t::q)[(aw p).length+k]?=t.b[k]?:=pV k G
 induction t with
 |a=>exact absurd G<|cW.mpr U
 |c=>exact absurd G<|cW.mpr U
 |n=>exact absurd G<|cW.mpr U
 |e=>obtain rfl:k=1:=cg (iW G) U;exact qF J (.inl rfl) N A
 |u=>
  rcases Nat.eq_or_lt_of_le (iW G) with q|q
  ·subst q;exact qF J (.inr<|.inr rfl) N A
  ·obtain rfl:k=1:=cg (iW q) U;exact qF J (.inr<|.inl rfl) N A
theorem mQ:bp B (.neg<|.const<|.int 1) V H=.ok (.int (-1)) H:=rfl
theorem pF (P:Ag (p++t::q)) (N:aa (aw<|p++t::q)<=1000) (A:cZ H=aq):b7 240 [.bytes<|aw<|p++t::q,.int<|aa<|aw p] H=.ok (.tup [.int t.code,.int (aa (aw p)+(aa t.b):Nat)]) H:=by
 have U:(aw<|p++t::q)[(aw p).length]?=t.b[0]?:=pV 0<|ow t
 have Z:=v7 P N A;rw[ahQ rfl]
 have jU:∀c:Int,B0 t=.int c->t.code=c->(c=97\/c=233\/c=8364)->w7 c=aa t.b->iO ai (kX (oI 59) dF 5 aas [.bytes<|aw<|p++t::q,.int<|aa<|aw p]) H=.ok (.tup [.int t.code,.int (aa (aw p)+(aa t.b):Nat)]) H:=λc m i W R=>by
  rw[m] at Z
  (refine(af i)▸(af (A9 ..))▸(R)▸?_)
  exact aH (aL<|bU (az (ae rfl<|ae rfl ar) rfl Z)<|eS (a8 rfl rfl rfl) bJ<|bI<|bx (ae rfl<|ae (bo rfl (az (ae rfl ar) rfl<|qM A c W) rfl) ar)<|by simp) A rfl
 have d:∀c:UInt8,B0 t=.none->t.b[0]?=ac c->t.code=-1-c.toNat->aa t.b=1->iO ai (kX (oI 59) dF 5 aas [.bytes<|aw<|p++t::q,.int<|aa<|aw p]) H=.ok (.tup [.int t.code,.int (aa (aw p)+(aa t.b):Nat)]) H:=λc m i W R=>by
  rw[m] at Z
  (refine(af W)▸(af (A9 ..))▸(af R)▸?_)
  exact aH (aL<|bU (az (ae rfl<|ae rfl ar) rfl Z)<|ky (a8 rfl rfl rfl)<|bI<|bx (ae (bo rfl (bz rfl rfl<|r5 (ah U i) N) rfl)<|ae (bo rfl rfl rfl) ar)<|by simp) A rfl
 induction t with
 |a=>exact jU 97 rfl rfl (.inl rfl) rfl
 |e=>exact jU 233 rfl rfl (.inr<|.inl rfl) rfl
 |u=>exact jU 8364 rfl rfl (.inr<|.inr rfl) rfl
 |c=>exact d 0xC3 rfl rfl rfl rfl
 |n=>exact d 0xA9 rfl rfl rfl rfl
theorem Cz (h:bp B l V H=.ok a g) (J:bp B r V g=.ok b P) (k1:lS I a b P=.ok aq P) (R:bp B s V P=.ok c D0) (j:lS d b c D0=.ok x D0):j6 B (.cmp l [I,d] [r,s]) V (bp B (.cmp l [I,d] [r,s]) V) H=.ok x D0:=
 fh h (fh J<|fh k1<|fh R j)
theorem Cy (h:bp B l V H=.ok a g) (J:bp B r V g=.ok b H₂) (k1:lS I a b H₂=.ok ai H₂):j6 B (.cmp l [I,d] [r,s]) V (bp B (.cmp l [I,d] [r,s]) V) H=.ok ai H₂:=
 fh h (fh J<|fh k1 rfl)
theorem Cw {a b c:Int} (h:bp B l V H=.ok (.int a) H) (J:bp B r V H=.ok (.int b) H) (R:bp B s V H=.ok (.int c) H) (e:decide (a<=b/\b<c)=x):j6 B (.cmp l [.LtE,.Lt] [r,s]) V (bp B (.cmp l [.LtE,.Lt] [r,s]) V) H=.ok x H:=by
 subst e;by_cases y:a<=b
 ·exact Cz h J (zW<|decide_eq_true y) R<|dP<|by simp[y]
 ·rw[decide_eq_false λq=>y q.1];exact Cy h J<|zW<|decide_eq_false y
theorem gA {a b c:Int} (h:bp B l V H=.ok (.int a) H) (J:bp B r V H=.ok (.int b) H) (R:bp B s V H=.ok (.int c) H) (e:decide (a<=b/\b<=c)=x):j6 B (.cmp l [.LtE,.LtE] [r,s]) V (bp B (.cmp l [.LtE,.LtE] [r,s]) V) H=.ok x H:=by
 subst e;by_cases y:a<=b
 ·exact Cz h J (zW<|decide_eq_true y) R<|zW<|by simp[y]
 ·rw[decide_eq_false λq=>y q.1];exact Cy h J<|zW<|decide_eq_false y
inductive aaQ (t:Tk):Prop
 |none (e:B0 t=.none) (c:t.code<0) (o:aa t.b=1)
 |int (c:Int) (e:B0 t=.int c) (h:c=97\/c=233\/c=8364) (z:w7 c=aa t.b) (k:t.code=c)
theorem K4 (t):aaQ t:=by
 induction t with
 |a=>exact .int 97 rfl (.inl rfl) rfl rfl
 |e=>exact .int 233 rfl (.inr<|.inl rfl) rfl rfl
 |u=>exact .int 8364 rfl (.inr<|.inr rfl) rfl rfl
 |c=>exact .none rfl (by decide) rfl
 |n=>exact .none rfl (by decide) rfl
section
variable {t:Tk}
def startB:List CS:=[.assign 3<|.aA 233 [cz,dE],.fm (.bool aq [.cmp jc [.IsNot] [.const<|.none],.cmp (.bin ai .Add dE<|.aA 205 [jc]) [.Gt] [cm]]) [.ret<|.const<|.bool ai] []]
theorem HJ {i:Int} {j m:Nat} (A:cZ H=aq) (Z:b7 233 [.bytes o,.int j] H=.ok v H) (Y:v=.none\/∃c,v=.int c/\(c=97\/c=233\/c=8364)/\w7 c=m/\(j+m:Int)<=i):
 fY (oI 61) dF startB (ac (.bytes o)::ac (.int i)::ac (.int j)::y::R) H=.ok (.next,ac (.bytes o)::ac (.int i)::ac (.int j)::ac v::R) H:=by
 rcases Y with rfl|⟨c,rfl,P,d,O⟩
 ·exact bU (az (ae rfl<|ae rfl ar) rfl Z)<|eS (mn<|a8 rfl rfl rfl) bJ bJ
 ·exact bU (az (ae rfl<|ae rfl ar) rfl Z)<|eS (kl (a8 rfl rfl rfl)<|jg<|a8 (bo rfl (az (ae rfl ar) rfl<|qM A c P) rfl) rfl<|jm<|decide_eq_false<|by exactλM=>bk [m,j] [w7 c,i] [(1,cA,aK),(1,.a bg aK,.w 1),(1,xi<|.w 1,.a bg cA)] rfl (aU d) O M) bJ bJ
def StP (o:List UInt8) (i:Int) (V:bO):Prop:=∃x y,V=[ac<|.bytes o,ac<|.int i,x,y,am,am,am,am,am,am]
theorem Bm {i:Int} {a b:Int} (P:Ag (p++t::q)) (N:aa (aw<|p++t::q)<=1000) (A:cZ H=aq) (I:0<=a) (B:b<=aa (aw p)) (D:aa (aw p)<=i):
 ∀v∈eu a b,∀X,StP (aw<|p++t::q) i X->∃Q τ',f9 X [2] aq v=ac Q/\fY (oI 61) dF startB Q H=.ok (.next,τ') H/\StP (aw<|p++t::q) i τ':=by
 rintro v Y X ⟨x,y,rfl⟩;refine gN (It Y) λj S J R=>?_;subst S;obtain⟨j,rfl⟩:∃n:Nat,j=n:=⟨j.toNat,by exact cE (dr<|bk [j.toNat] [j] [(1,cA,aK),(1,xi aK,cA)] rfl<|aU<|af<|bB<|dr<|bk [] [a,j] [(1,ei,cA),(1,cA,.w 1),(1,xi<|.w 1,ei)] rfl I J)<|dr<|bk [j.toNat] [j] [(1,aK,cA),(1,xi cA,aK)] rfl<|aU<|bB<|dr<|bk [] [a,j] [(1,ei,cA),(1,cA,.w 1),(1,xi<|.w 1,ei)] rfl I J⟩;refine RK (tf p j<|by exact cQ<|bk [aa<|aw p,j] [b] [(1,cA,aK),(1,xi bg,cA),(1,xi aK,xi bg)] rfl B R) λm u g k S G V=>?_;subst S;subst V;have e:(m++u::g)++t::q=m++u::(g++t::q):=by simp
 have C:=th (p:=m) (q:=g) (t:=u);rw[e] at P N|-
 obtain⟨w,Z,Y⟩:∃w,b7 233 [.bytes<|aw<|m++u::(g++t::q),.int (aa (aw m)+k:Nat)] H=.ok w H/\(w=.none\/∃c,w=.int c/\(c=97\/c=233\/c=8364)/\w7 c=aa u.b/\((aa (aw m)+k:Nat)+(aa u.b):Int)<=i):=by
  induction k with
  |zero=>
   refine⟨_,v7 P N A,?_⟩;rcases K4 u with ⟨e,_,_⟩|⟨c,e,h,z,_⟩
   ·exact .inl e
   ·exact .inr ⟨c,e,h,z,by exact dr<|bk [aa<|aw<|m++u::g,aa<|aw m,aa u.b,aa<|aw g] [i] [(1,aK,cA),(1,.a (.a bg cu) io,aK),(1,xi cA,.a (.a bg ei) cu)] rfl D<|cl<|ao<|af C⟩
  |succ k=>exact⟨_,OP (k+1) (by exact cQ<|bk [k] [] [(1,xi<|xi aK,xi ei)] rfl) G N A,.inl rfl⟩
 exact⟨_,_,rfl,HJ A Z Y,_,_,rfl⟩
theorem Na (t:Tk) (k:Nat) (c) (h:t.b[k]?=ac c):(c.toNat:Int)=97\/(c.toNat:Int)=195\/(c.toNat:Int)=226\/(c.toNat:Int)=169\/(c.toNat:Int)=130\/(c.toNat:Int)=172:=
 of_decide_eq_true (cn.mp (show(t.b.all λc=>decide<|(c.toNat:Int)=97\/(c.toNat:Int)=195\/(c.toNat:Int)=226\/(c.toNat:Int)=169\/(c.toNat:Int)=130\/(c.toNat:Int)=172)=aq by rcases t<;>rfl) c<|br h)
theorem Nb {k:Nat} (h:t.b[k+1]?=ac c):(128:Int)<=c.toNat/\(c.toNat:Int)<192:=
 of_decide_eq_true (cn.mp (show((t.b.drop 1).all λc=>decide<|(128:Int)<=c.toNat/\(c.toNat:Int)<192)=aq by rcases t<;>rfl) c<|br (i:=k)<|by(refine ah List.getElem?_drop ?_;refine(af (gs ..))▸?_);exact h)
noncomputable def YX (o:List UInt8) (i:Int) (x y:Option PV):bO:=[ac<|.bytes o,ac<|.int i,x,y,am,am,am,am,am,am]
theorem Pq {i:Nat} (P:o[i]?=ac c) (N:aa o<=1000) (k:fY (oI 61) dF (R5.drop 1) (YX o i am am) H=r):fY (oI 61) dF R5 ([.bytes o,.int i].map ac++aX (10-2) am) H=r:=
 eS (gP<|Cw rfl rfl (dy rfl N)<|decide_eq_true ⟨bC i,cK.mpr (aB.mp P).1⟩) bJ k
theorem Pr {i:Nat} (P:o[i]?=ac c) (N:aa o<=1000) (Y:b7 226 [.int c.toNat] H=.ok (.bool b) H):j6 (oI 61) (.not<|.aA 226 [.sub cz cm]) (YX o i am am) (bp (oI 61) (.not<|.aA 226 [.sub cz cm])<|YX o i am am) H=.ok (!b) H:=
 gP (jG<|az (ae (bz rfl rfl<|r5 P N) ar) rfl Y)
theorem HK {i:Nat} (P:o[i]?=ac c) (N:aa o<=1000) (A:cZ H=aq) (Y:b7 226 [.int c.toNat] H=.ok (.bool ai) H):b7 247 [.bytes o,.int i] H=.ok (.bool aq) H:=by rw[Uk rfl];exact aH (aL<|Pq P N<|ky (Pr P N Y)<|bI rfl) A rfl
def itS:CE:=.bw jT [.bw xR [.const<|.int 0,.bin ai .Sub cm<|.const<|.int 3],.loc 1]
theorem WN {i:Nat} (D:i<=1000):rJ (oI 61) itS (YX o i am am) (bp (oI 61) itS<|YX o i am am) H=.ok (eu (i-3:Nat) i) H:=by
 have e:(if((i:Int)-3)>0 then(i:Int)-3 else 0)=(i-3:Nat):=by split;exact(Int.ofNat_sub<|eV<|cK.mp<|Int.lt_of_sub_pos ‹_›).symm;exact(congrArg jP<|Ln<|dI.mp<|Int.le_of_sub_nonpos<|cX.mp ‹_›).symm
 refine si ?_ rfl (by exact⟨dr<|bk [i-3] [] [(1,xi aK,.g<|.n 2000)] rfl,⟨dr<|bk [i,i-3] [] [(1,aK,.n 1000),(1,bg,aK),(1,xi<|.n 2000,bg)] rfl (cl D)<|cl<|sV _ _,⟨dr<|bk [i] [] [(1,xi aK,.g<|.n 2000)] rfl,dr<|bk [i] [] [(1,aK,.n 1000),(1,xi<|.n 2000,aK)] rfl<|cl D⟩⟩⟩) rfl;refine(e)▸?_;exact dJ (ae rfl<|ae (bo rfl rfl rfl) ar) rfl
theorem Pp {i:Nat} (P:o[i]?=ac c) (N:aa o<=1000) (Y:b7 226 [.int c.toNat] H=.ok (.bool aq) H) (k:fY (oI 61) dF (R5.drop 2) (YX o i am am) H=r):
 fY (oI 61) dF R5 ([.bytes o,.int i].map ac++aX (10-2) am) H=r:=
 Pq P N (eS (Pr P N Y) bJ k)
theorem lA (G:List Tk) (i:Int) (P:Ag G) (N:aa (aw G)<=1000) (A:cZ H=aq):b7 247 [.bytes<|aw G,.int i] H=.ok (.bool<|mU G i) H:=by
 by_cases D:0<=i/\i<aa (aw G)
 case neg=>
  (refine(af<|KJ G i D)▸?_;rw[Uk rfl])
  exact aH (aL<|ky (gP<|Cw rfl rfl (dy rfl N)<|decide_eq_false D)<|bI rfl) A rfl
 obtain⟨n,rfl⟩:∃n:Nat,i=n:=⟨i.toNat,af<|bB D.1⟩;refine RK (tf G n<|cK.mp D.2) λp t q k S Z V=>?_;subst S;subst V;have f:(aw<|p++t::q)[(aw p).length+k]?=t.b[k]?:=pV k Z;obtain⟨c,j⟩:∃c,t.b[k]?=ac c:=⟨_,aP Z⟩;rw[j] at f;have g:=wy A _ (Na t k c j);have O:=aN (eV (aB.mp f).1) N
 cases k with
 |zero=>
  have f:=f;show b7 247 [.bytes<|aw<|p++t::q,.int<|aa<|aw p] H=.ok (.bool<|mU (p++t::q)<|aa<|aw p) H;refine(af (vq ..))▸?_;by_cases Y:(128:Int)<=c.toNat/\(c.toNat:Int)<192
  ·rw[decide_eq_true Y] at g;refine aI (Rv (eu (aa (aw p)-3:Nat)<|aa<|aw p) (Bm P N A (bC _) (f4 _)<|f4 _) ⟨am,am,rfl⟩) λQ S F=>?_;refine lm S ?_;clear S;intro x y V;subst V;rw[Uk rfl];exact aH (aL<|Pp f N g<|rq (WN O) F<|bI rfl) A rfl
  ·rw[decide_eq_false Y] at g;exact HK f N A g
 |succ k=>
  rw[decide_eq_true<|Nb j] at g
  (refine(af<|QW p q t (k+1) (mK k) Z)▸?_;rw[Uk rfl])
  have d:=Xz (eu (aa (aw p)+(k+1)-3:Nat) (aw p).length) (Bm (i:=((aw p).length+(k+1):Nat)) P N A (bC _) (f4 _)<|dI.mpr<|co _ _) ⟨am,am,rfl⟩ (r:=eu (aw p).length ((aw p).length+(k+1):Nat))
   (x:=.ok (.ret<|.bool ai,YX (aw<|p++t::q) ((aw p).length+(k+1):Nat) (ac<|.int (aw p).length)<|ac<|B0 t) H) (by
    rintro Q ⟨x,y,rfl⟩;refine(af<|jS<|cK.mpr<|jt<|mK k)▸?_;rcases K4 t with ⟨_,_,e⟩|⟨c,e,h,z,_⟩
    ·exact absurd Z (by refine(af e)▸?_;exact cW.mpr<|ch _ _)
    ·refine(af e)▸?_
     exact xo rfl<|bU (az (ae rfl<|ae rfl ar) (by kernel_rfl)<|(v7 P N A).trans<|by rw[e])<|ky (c:=aq) (kl (a8 rfl rfl rfl)<|jg<|a8 (bo rfl (az (ae rfl ar) (by kernel_rfl)<|qM A c h) rfl) rfl<|jm<|decide_eq_true<|by exact dr<|bk [k,t.b.length,(aw p).length] [w7 c] [(1,xi<|xi aK,bg),(1,bg,cA),(1,xi<|.a cu cA,xi<|.a cu<|xi aK)] rfl (cl Z)<|aU<|af z)<|bI rfl)
  have l:k+1<=3:=by have:t.b.length<=3:=by(rcases t<;>decide)
                    exact cQ<|bk [k,t.b.length] [] [(1,xi<|xi aK,bg),(1,bg,.n 3),(1,xi<|.n 3,xi aK)] rfl (cl Z)<|cl this
  rw[<-HY (dI.mpr<|Nat.sub_le_of_le_add<|dH l _) (dI.mpr<|co _ _)] at d;exact aH (aL<|Pp f N g<|r4 (WN O) d) A rfl
end
theorem FC:∀{a b},gY (a++b)=(gY a&&gY b)
 |[],b=>by simp[ft,gh]
 |p::a,b=>by simp only[Tf,ft,gh,FC,X6]
theorem nY (h:cZ H=aq) (n:gY l=aq):cZ (H++[l])=true:=by unfold cZ at*;simp[List.all_append,h,n]
theorem na {f:Z->PV} (h:∀x,jd (f x)=aq):∀l:List Z,gY (l.map f)=aq
 |[]=>rfl
 |x::l=>by simp[ft,gh,h x,na h l]
theorem yl (h:m H=.ok a H₁):g4 m H=.ok a H₁:=by unfold g4;rw[h]
theorem lj (e:nM H p=ac l):(k l H=r)->gX p k H=r:=λh=>ah (congrArg (λo=>bG o k H) e) h
theorem aaE (e:H[i]?=ac l) (z:aa l<=16777216):DU (.dR i) [p] H=.ok .none (H.set i<|l++[p]):=by show(match H[i]? with|some l=>if aa l<=16777216 then dt PV.none (H.set i<|l++[p]) else .stuck|none=>.stuck)=_;exact(af e)▸if_pos z
theorem jY (h:bp B o V (H++[l])=.ok (.dR<|aa H) (H++[l])) (T:bp B x V (H++[l])=.ok p (H++[l])) (z:aa l<=16777216):bp B (.gj .append o [x]) V (H++[l])=.ok .none (H++[l++[p]]):=
 RH h (fh (ae T ar)<|ah (aaE (by(refine ah (ck<|bT _) ?_;refine(af (kE ..))▸?_);rfl) z)<|by(refine(af<|List.set_append_right _ _ (bT _))▸(af (kE ..))▸?_);rfl)
theorem xu:bp B (.list aq []) V H=.ok (.dR<|aa H) (H++[[]]):=rfl
theorem sD {one:Bool} {l:List Z} (D:rJ B iter V (bp B iter V) H=.ok u H) (e:u=l.map g) (z:aa l<=1000)
 (Y:∀x∈l,∃Q,f9 (rK V k) R one (g x)=ac Q/\bp B A Q H=.ok (f x) H):bp B (.comp A iter k R one []) V H=.ok (.lst<|l.map f) H:=by
 subst e;refine fh D ?_;rw[if_pos<|by rw[aC];exact kN ‹_› (by rfl)];refine fh ?_ rfl
 suffices h:∀(l:List Z) (S:List PV),(∀x∈l,∃Q,f9 (rK V k) R one (g x)=ac Q/\bp B A Q H=.ok (f x) H)->iJ (λp=>match f9 (rK V k) R one p with
  |none=>aQ
  |some Q=>g4<|ax (xq B [] Q) λok=>if ok then ax (bp B A Q) λq=>ay (ac q) else ay am) (l.map g) S H=.ok (S++l.map f) H by
  have:=h l [] Y;rw[gK] at this;exact this
 intro l
 induction l with
 |nil=>intro S _;simp[qY,ay]
 |cons x l o=>
  intro S Y;refine aI (Y x<|by simp) λQ m i=>fh (g:=H) (a:=ac<|f x) ?_ ?_
  ·dsimp only;rw[m];exact yl<|fh rfl<|fh i rfl
  ·dsimp only;rw[o _ λy j=>Y y<|by simp[j]];simp
theorem sE {one:Bool} {l:List Z} (D:rJ B iter V (bp B iter V) H=.ok u H) (e:u=l.map g) (z:aa l<=1000)
 (Y:∀x∈l,∃Q,f9 (rK V k) R one (g x)=ac Q/\j6 B c Q (bp B c Q) H=.ok (P x) H/\(P x=aq->bp B A Q H=.ok (f x) H)):bp B (.comp A iter k R one [c]) V H=.ok (.lst<|(l.filter P).map f) H:=by
 subst e;refine fh D ?_;rw[if_pos<|by rw[aC];exact kN ‹_› (by rfl)];refine fh ?_ rfl
 suffices h:∀(l:List Z) (S:List PV),(∀x∈l,∃Q,f9 (rK V k) R one (g x)=ac Q/\j6 B c Q (bp B c Q) H=.ok (P x) H/\(P x=aq->bp B A Q H=.ok (f x) H))->iJ (λp=>match f9 (rK V k) R one p with
  |none=>aQ
  |some Q=>g4<|ax (xq B [c] Q) λok=>if ok then ax (bp B A Q) λq=>ay (ac q) else ay am) (l.map g) S H=.ok (S++(l.filter P).map f) H by
  have:=h l [] Y;rw[gK] at this;exact this
 intro l
 induction l with
 |nil=>intro S _;simp[qY,ay]
 |cons x l o=>
  intro S Y;refine gN (Y x<|by simp) λQ m i U=>?_;have o:=λS=>o S λy j=>Y y<|by simp[j]
  cases W:P x
  ·rw[W] at i;rw[gH<|by simp[W]];refine fh (a:=am) ?_ (o S);dsimp only;rw[m];exact yl<|fh (fh i rfl) rfl
  ·rw[W] at i;rw[jj W];refine fh (g:=H) (a:=ac<|f x) ?_ ?_
   ·dsimp only;rw[m];exact yl<|fh (fh i rfl)<|fh (U W) rfl
   ·dsimp only;rw[o];simp
theorem IL (h:bp B x V H=.ok (.lst l) H₁) (n:sm x=ai):rJ B x V (bp B x V) H=.ok l H₁:=ah (congrFun (ur n V _) H)<|fh h rfl
theorem De (h:bp B (.aA a D) V H=.ok (.lst l) H₁):rJ B (.aA a D) V (bp B (.aA a D) V) H=.ok l H₁:=IL h rfl
theorem nv (h:bp B (.loc i) V H=.ok (.lst l) H):rJ B (.loc i) V (bp B (.loc i) V) H=.ok l H:=IL h rfl
theorem BB (z:aa l<=1000):eP [.lst l] H=.ok (.int<|aa l) H:=by show(if aa l<=1099511627776 then ay (dq<|aa l) else aQ) H=_;rw[if_pos<|kN ‹_› (by rfl)];rfl
structure dA (ts:List Tk):Prop where
 K8:Ag ts
 len:aa (aw ts)<=100
theorem dA.z (h:dA G):aa (aw G)<=1000:=by have:=h.len;exact kN ‹_› (by rfl)
theorem fX:∀G,aa G<=aa (aw G)
 |[]=>bT _
 |t::r=>by
  have:=fX r;have:=ow t;have e:(aw<|t::r).length=t.b.length+(aw r).length:=aJ
  (refine(af e)▸(af bN)▸?_);exact cQ<|bk [aa r,aa<|aw r,aa t.b] [] [(1,aK,bg),(1,ik,cu),(1,xi<|.a cu bg,xi aK)] rfl (cl<|by assumption)<|cl this
noncomputable def dC (l:List Nat):List PV:=l.map λ(n:Nat)=>.int n
theorem u9 (l:List Nat):gY (dC l)=true:=na (λ_=>rfl) l
theorem eO:∀G k,aa (dj k G)=aa G
 |[],_=>rfl
 |t::r,k=>by simp[ze,wj,eO r]
theorem L4 (h:dA G) (A:cZ H=aq):∀q p,G=p++q->∀f,aa q<f->
 hO (λQ=>j6 (oI 34) (.cmp dE [.Lt] [.bw eP [.loc 0]]) Q<|bp (oI 34) (.cmp dE [.Lt] [.bw eP [.loc 0]]) Q) (λQ=>fY (oI 34) dF [.expr<|.gj .append cm [.loc 2],.assign 2<|.sub (.aA 240 [.loc 0,.loc 2])<|.const<|.int 1] Q) f
  [ac<|.bytes<|aw G,ac<|.dR<|aa H,ac<|.int<|aa<|aw p,am,am] (H++[dC<|dj 0 p])=.ok (.next,[ac<|.bytes<|aw G,ac<|.dR<|aa H,ac<|.int<|aa<|aw G,am,am]) (H++[dC<|dj 0 G]):=by
 intro q
 induction q with
 |nil=>
  intro p e f Y;cases f with|zero=>exact absurd Y (iR _)|succ f=>?_
  rw[fq] at e;subst e;exact ly<|a8 rfl (dy rfl h.z)<|dP<|decide_eq_false<|by exactλM=>bk [aa<|aw G] [] [(1,xi aK,aK)] rfl M
 |cons t q o=>
  intro p e f Y;cases f with|zero=>exact absurd Y (iR _)|succ f=>?_
  have C:aa (aw p)<aa (aw G):=by(refine(af e)▸(af th)▸?_);have:=ow t;exact cQ<|bk [aa t.b,aa<|aw p,aa<|aw q] [] [(1,ik,aK),(1,xi<|.a (.a bg aK) cu,xi bg)] rfl<|cl this
  have g:b7 240 [.bytes<|aw G,.int<|aa<|aw p] (H++[dC (dj 0 p)++[.int<|aa<|aw p]])=.ok (.tup [.int t.code,.int (aa (aw p)+(aa t.b):Nat)]) (H++[dC (dj 0 p)++[.int<|aa<|aw p]]):=by have P:=h.K8;have N:=h.z;subst e;exact pF P N<|nY A<|by(refine ah FC<|(af (u9 ..))▸?_);rfl
  refine qH (a8 rfl (dy rfl h.z)<|dP<|decide_eq_true<|by exact cK.mpr<|by assumption) (ie (jY rfl rfl (by
   have:=fX p;have:=h.len
   simp only[dC,aC,eO];exact cQ<|bk [aa<|aw p,aa<|aw G,aa p] [] [(1,xi aK,bg),(1,cu,aK),(1,bg,.n 100),(1,xi<|.n 16777216,cu)] rfl (cl C) (cl<|by assumption)<|cl this))<|bU (bz (az (ae rfl<|ae rfl ar) rfl g) rfl rfl) bJ) ?_
  have:=o (p++[t]) (by refine ah e ?_;simp) f<|sW Y
  rw[pu,qk] at this;simpa[dC,ze,wj,ql,oi] using this
theorem LY (h:dA G) (A:cZ H=aq):b7 268 [.bytes<|aw G] H=.ok (.lst<|dC<|dj 0 G) H:=by
 have C:=fX G;have:=h.len;have S:=L4 h A G [] rfl 200<|by exact bY (aN (by assumption)<|by assumption)<|by decide
 rw[ahN rfl]
 have:=GC (m:=kX (oI 34) dF 5 aeU [.bytes<|aw G]) (l:=dC<|dj 0 G)
  (aL<|i0 (ae xu<|ae rfl ar) ⟨rfl,by simp⟩<|nX S<|bI rfl)
  (by exact(af<|lq rfl)▸A) (bT _) (by simp) (u9 _)
 rwa [lq rfl] at this
theorem w6 {j:Nat} (d:((sx.take j).all λf=>decide<|(268:bn)≠f.addr)=aq) (h:dA G) (A:cZ H=aq):oI j 268 [.bytes<|aw G] H=.ok (.lst<|dC<|dj 0 G) H:=c1 d<|LY h A
section
variable {l:List Nat}
theorem m8:∀G k,(dj k G).Pairwise (· <·)
 |[],_=>.nil
 |t::r,k=>.cons (λm z=>lY (jt<|ow t) (kK r _ m z).1)<|m8 r _
theorem xm (d:l.Pairwise (· <·)) (F:n∈l) (W:p n=aq) (C:∀m∈l,m<n->p m=ai):(l.filter p).head?=ac n:=by
 refine lm (OG F) λa b S=>?_;subst S;rw[Lq] at d;have:a.filter p=[]:=jA.mpr λm z=>by refine(af<|C m (by simp[z])<|d.2.2 m z n<|by simp)▸?_;decide
 (refine(af (OE ..))▸(af this)▸(af (gK ..))▸(af<|jj W)▸?_);rfl
theorem xg (d:l.Pairwise (· <·)) (F:n∈l) (W:p n=aq) (C:∀m∈l,n<m->p m=ai):(l.filter p).getLast?=ac n:=by
 refine lm (OG F) λa b S=>?_;subst S;rw[Lq] at d;have:b.filter p=[]:=jA.mpr λm z=>by refine(af<|C m (by simp[z])<|(OB.mp d.2.1).1 m z)▸?_;decide
 (refine(af (OE ..))▸(af<|jj W)▸(af this)▸?_);simp
theorem px (h:∀m∈l,p m=ai):l.filter p=[]:=jA.mpr λm z=>by refine(af<|h m z)▸?_;decide
end
theorem tm {i:Int}:mU G i=aq↔∃n∈dj 0 G,(n:Int)=i:=by simp[mU,rG]
theorem tn {n:Nat} (h:mU ts n=ai):n∉dj 0 ts:=λq=>by rw[tm.mpr ⟨n,q,rfl⟩] at h;cases h
theorem Dk {n:Nat} (h:mU ts n=aq):n∈dj 0 ts:=by
 refine aI (tm.mp h) λm z e=>?_
 rwa [show n=m by exact cg (cQ<|bk [n,m] [] [(1,aK,bg),(1,xi bg,aK)] rfl<|aU<|af e)<|cQ<|bk [m,n] [] [(1,aK,bg),(1,xi bg,aK)] rfl<|aU e]
theorem ms:∀G k,dj (k+1) G=(dj k G).map (· +1)
 |[],_=>rfl
 |t::r,k=>by
  show(k+1)::dj (k+1+aa t.b) r=(k+1)::(dj (k+aa t.b) r).map (· +1)
  (refine((ms r ..))▸?_;rw[SP])
theorem BI {n:Nat} (h:mU G n=aq):∃p t q,G=p++t::q/\n=aa (aw p):=by
 have z:=Dk h;have:=kK G 0 n z;refine RK (tf G n<|by exact cQ<|bk [n,aa<|aw G] [] [(1,xi aK,.a ei bg),(1,xi bg,xi aK)] rfl<|cl this.2) λp t q k S Z V=>?_;subst S;subst V
 induction k with
 |zero=>exact⟨p,t,q,rfl,rfl⟩
 |succ k=>rw[QW p q t (k+1) (by exact cQ<|bk [k] [] [(1,xi<|xi aK,xi ei)] rfl) Z] at h;cases h
noncomputable def vc (G:List Tk) (i:Int):Nat:=((dj 0 G).filter λn:Nat=>decide<|i<n).head?.getD<|aa<|aw G
noncomputable def r9 (G:List Tk) (i:Int):Int:=(((dj 0 G).filter λn:Nat=>decide<|(n:Int)<i).getLast?.map λn=>(n:Int)).getD (-1)
theorem FF {r:Nat} {i:Int} (J:i<r) (R:r<=aa (aw G)) (h3:r=aa (aw G)\/mU G r=aq) (X:∀j:Nat,i<j->j<r->mU G j=ai):vc G i=r:=by
 unfold vc;have d:=m8 G 0;by_cases B:mU G r=aq
 ·rw[xm d (Dk B) (by simpa using J) λm z t=>by
   by_cases q:i<m
   ·exact absurd z (tn<|X m q t)
   ·simpa using q]
  rfl
 ·rw[px]
  ·rcases h3 with h3|h3
   ·exact af h3
   ·exact absurd h3 B
  ·intro m z;have:=kK G 0 m z;rcases h3 with h3|h3
   ·by_cases q:i<m
    ·exact absurd z<|tn<|X m q<|by exact cQ<|bk [m,aa<|aw G,r] [] [(1,xi aK,.a ei bg),(1,bg,cu),(1,xi cu,xi aK)] rfl (cl this.2)<|cl<|ao<|af h3
    ·simpa using q
   ·exact absurd h3 B
theorem PS {i r:Int} (J:r<i) (R:-1<=r) (y:r=-1\/mU G r=aq) (X:∀j:Int,r<j->j<i->mU G j=ai):r9 G i=r:=by
 unfold r9;have d:=m8 G 0;rcases y with rfl|hb
 ·rw[px]
  ·rfl
  ·intro m z;by_cases q:(m:Int)<i
   ·exact absurd z<|tn<|X m (by exact dr<|bk [m] [] [(1,xi aK,xi<|.g ik)] rfl) q
   ·simpa using q
 ·refine aI (tm.mp hb) λn F S=>?_;subst S
  rw[xg d F (by simpa using J) λm z t=>by
   by_cases q:(m:Int)<i
   ·exact absurd z (tn<|X m (by exact cK.mpr<|by with_reducible assumption) q)
   ·simpa using q]
  rfl
theorem sI (n i:Nat):uH n (i:Int)=min i n:=by
 unfold uH;refine(af<|if_neg<|cX.mpr<|bC i)▸?_;rcases ya i n with q|q
 ·(refine(af<|Int.min_eq_left<|dI.mpr q)▸(af<|eN q)▸(af<|WA<|bC _)▸?_;rw[et])
 ·(refine(af<|Wz<|dI.mpr q)▸(af<|rN q)▸(af<|WA<|bC _)▸?_;rw[et])
theorem Bi (b:List UInt8) (lo D:Nat):(b.drop lo).take (min D (aa b)-lo)=(b.drop lo).take (D-lo):=by
 rcases ya D (aa b) with q|q
 ·rw[eN q]
 ·(refine(af<|rN q)▸ah (fN<|by rw[hY];exact bT _) ?_;rw[fN<|by rw[hY];exact Nat.sub_le_sub_right q lo])
theorem Nt (b:List UInt8) (lo:Nat):b.drop (min lo<|aa b)=b.drop lo:=by
 rcases ya lo (aa b) with q|q
 ·rw[eN q]
 ·(refine(af<|rN q)▸ah nq ?_;rw[Hc q])
theorem aao (b:List UInt8) (lo D:Nat):Jb b (ac (lo:Int)) (ac (D:Int))=(b.drop lo).take (D-lo):=by
 show(b.drop<|uH (aa b) lo).take (uH (aa b) D-uH (aa b) lo)=_
 (refine(af (sI ..))▸(af (sI ..))▸?_)
 rcases ya lo (aa b) with q|q
 ·(refine(af<|eN q)▸?_;rw[Bi])
 ·(refine(af<|rN q)▸(af nq)▸(af<|Hc q)▸ah Ex ?_;rw[Ex])
theorem aeN (b:List UInt8) (lo:Nat):Jb b (ac (lo:Int)) am=b.drop lo:=by
 show(b.drop<|uH (aa b) lo).take (aa b-uH (aa b) lo)=_
 (refine(af (sI ..))▸ah (fN<|by rw[hY];exact bT _) ?_;rw[Nt])
theorem aeM (b:List UInt8) (hi:Nat):Jb b am (ac (hi:Int))=b.take hi:=by show(b.drop 0).take (uH (aa b) hi-0)=_;rw[sI,Bi,X2,JQ]
section
variable {m n:Nat}
theorem oz (z:aa o<=1000):mq F (.bytes o) (.int m) (.int n) .none H=.ok (.bytes<|(o.drop m).take<|n-m) H:=by show(if aa o<=16777216/\(am:Option Int)=am then ay (qx<|Jb o (ac (m:Int))<|ac (n:Int)) else aQ) H=_;rw[if_pos ⟨kN ‹_› (by rfl),rfl⟩,aao];rfl
theorem CF (z:aa o<=1000):mq F (.bytes o) (.int m) .none .none H=.ok (.bytes<|o.drop m) H:=by show(if aa o<=16777216/\(am:Option Int)=am then ay (qx<|Jb o (ac (m:Int)) am) else aQ) H=_;rw[if_pos ⟨kN ‹_› (by rfl),rfl⟩,aeN];rfl
theorem TK (z:aa o<=1000):mq F (.bytes o) .none (.int n) .none H=.ok (.bytes<|o.take n) H:=by show(if aa o<=16777216/\(am:Option Int)=am then ay (qx<|Jb o am<|ac (n:Int)) else aQ) H=_;rw[if_pos ⟨kN ‹_› (by rfl),rfl⟩,aeM];rfl
end
theorem Fy (p q):(aw<|p++q).drop (aa<|aw p)=aw q:=by rw[pu,List.drop_left]
theorem Tz (p q t):((aw<|p++t::q).drop<|aa<|aw p).take (aa t.b)=t.b:=by rw[Fy];show(t.b++aw q).take _=_;rw[List.take_left]
noncomputable def u6 (o p:List UInt8) (n:Nat):Bool:=decide (n+aa p<=aa o)&&((o.drop n).take (aa p)==p)
theorem zK (o p:List UInt8) (n:Nat):(o.toArray.extract n (n+aa p)==ag p)=((o.drop n).take (aa p)==p):=by(refine(af List.extract_toArray)▸ah (List.beq_toArray ..) ?_;refine(af List.extract_eq_take_drop)▸?_;rw[gJ])
inductive D1 (o p:List UInt8) (lo:Nat):Int->Prop
 |none (h:∀n,lo<=n->u6 o p n=ai):D1 o p lo (-1)
 |some (n:Nat) (h1:lo<=n) (h2:u6 o p n=aq) (h3:∀m,lo<=m->m<n->u6 o p m=ai):D1 o p lo n
inductive Le (o p:List UInt8) (hi:Nat):Int->Prop
 |none (h:∀n,n+aa p<=hi->u6 o p n=ai):Le o p hi (-1)
 |some (n:Nat) (h1:n+aa p<=hi) (h2:u6 o p n=aq) (h3:∀m,m+aa p<=hi->n<m->u6 o p m=ai):Le o p hi n
theorem OO (o p:List UInt8) (st g) (lo D:Nat) (e:eh o.toArray.size st g=((lo:Int),(D:Int))):MB.w2 (ag o) (ag p) st g=if(D:Int)-lo<aa p then am else ac (lo,D):=by unfold MB.w2;refine(af e)▸?_;simp
theorem Dt (o p:List UInt8) (lo:Nat) (st:Option Int) (e:eh o.toArray.size st am=((lo:Int),((aa o):Int))):D1 o p lo (kU ai (ag o) (ag p) st am):=by
 unfold kU;refine(af<|OO o p st am lo (aa o) e)▸?_;by_cases h:((aa o):Int)-lo<aa p
 ·refine(af<|if_pos h)▸?_;exact .none λn F=>by unfold u6;refine(af<|decide_eq_false<|by exactλM=>bk [aa o,lo,aa p,n] [] [(1,xi<|.s aK bg,cu),(1,bg,io),(1,.a io cu,aK)] rfl h (cl F)<|cl M)▸?_;rfl
 ·refine(af<|if_neg h)▸?_;simp only[G7,bP,if_false];unfold ago;simp only[aS,zK];refine(af List.find?_map)▸?_
  cases Y:(dg<|aa o+1-(lo+aa p)).find? ((λi=>(o.drop i).take (aa p)==p)∘(· +lo)) with
  |none=>
   rw[List.find?_range_eq_none] at Y;refine .none λn F=>?_;unfold u6;by_cases q:n+aa p<=aa o
   ·have:=Y (n-lo) (by exact cQ<|bk [n,aa p,aa o,n-lo,lo,aa o+1-(lo+aa p)] [] [(1,.a aK bg,cu),(1,.a io<|.v 4,aK),(1,xi cu,.a (.v 5)<|.a (.v 4) bg),(1,xi<|.v 5,xi io)] rfl (cl q) (cl<|ao<|bQ<|cQ<|bk [lo,n] [] [(1,aK,bg),(1,xi bg,aK)] rfl<|cl F)<|cl<|ao<|af<|bQ<|cQ<|bk [aa p,aa o,lo] [] [(1,aK,.s bg cu),(1,xi<|xi bg,.a cu aK)] rfl<|cX.mp h);simp only[SW,bQ F,j5] at this
    (refine(af this)▸?_;rw[ic])
   ·refine(af<|decide_eq_false q)▸?_;rfl
  |some i=>
   rw[List.find?_range_eq_some] at Y;refine i8 Y λJ R y=>?_;rw[pJ] at R;refine .some (i+lo) (ch _ _) ?_ λm z t=>?_
   ·unfold u6;exact(af<|decide_eq_true<|by exact cQ<|bk [i,aa o+1-(lo+aa p),lo,aa p,aa o] [] [(1,xi aK,bg),(1,.a bg<|.a cu io,xi<|.v 4),(1,xi<|.v 4,.a (.a aK cu) io)] rfl (cl R)<|cl<|ao<|bQ<|cQ<|bk [aa p,aa o,lo] [] [(1,aK,.s bg cu),(1,xi<|xi bg,.a cu aK)] rfl<|cX.mp h)▸J
   ·have:=y (m-lo) (by exact cQ<|bk [m,i,lo,m-lo] [] [(1,xi aK,.a bg cu),(1,.a io cu,aK),(1,xi bg,xi io)] rfl (cl t)<|cl<|ao<|bQ<|cQ<|bk [lo,m] [] [(1,aK,bg),(1,xi bg,aK)] rfl<|cl z);simp only[SW,bQ z,j5] at this;unfold u6;(refine(af this)▸?_;rw[ic])
theorem Fe (p):∀n,((dg n).reverse.find? p=am/\∀i<n,p i=ai)\/∃i<n,(dg n).reverse.find? p=ac i/\p i=aq/\∀j<n,i<j->p j=ai
 |0=>.inl ⟨rfl,by simp⟩
 |n+1=>by
  (refine(af lr)▸(af List.reverse_append)▸(af List.reverse_singleton)▸(af JS)▸?_)
  cases h:p n with
  |true=>exact .inr ⟨n,by exact cQ<|bk [n] [] [(1,xi<|xi aK,xi aK)] rfl,by rw[List.find?_cons_of_pos h],h,λj J R=>(absurd (bY (iW J) R)<|GZ _)⟩
  |false=>
   rw[List.find?_cons_of_neg<|by simp[h]];rcases Fe p n with ⟨J,R⟩|⟨i,D,J,R,y⟩
   ·exact .inl ⟨J,λi D=>by
     by_cases q:i=n
     ·exact(af q)▸h
     ·exact R i<|p0 (iW D) q⟩
   ·exact .inr ⟨i,by exact cQ<|bk [i,n] [] [(1,xi aK,bg),(1,xi<|xi bg,xi aK)] rfl<|cl D,J,R,λj F t=>by
     by_cases q:j=n
     ·exact(af q)▸h
     ·exact y j (p0 (iW F) q) t⟩
theorem y2 (o p:List UInt8) (D:Nat) (r:D<=aa o) (st g:Option Int) (e:eh o.toArray.size st g=(((0:Nat):Int),(D:Int))):Le o p D (kU aq (ag o) (ag p) st g):=by
 unfold kU;refine(af<|OO o p st g 0 D e)▸?_;by_cases h:(D:Int)-(0:Nat)<aa p
 ·refine(af<|if_pos h)▸?_;exact .none λn F=>(absurd (eJ (cl<|aN (ch _ n) F)<|eJ (aU (JW _).symm) h)<|abF _)
 ·refine(af<|if_neg h)▸?_;simp only[G7,if_true];unfold agl;simp only[aS,zK,af9,fV,List.map_id'];rcases Fe (λi=>(o.drop i).take (aa p)==p) (D+1-aa p) with ⟨J,R⟩|⟨i,T,J,R,y⟩
  ·refine(af J)▸?_;exact .none λn F=>by unfold u6;(refine(af<|R n<|by exact cQ<|bk [n,aa p,D,D+1-aa p] [] [(1,.a aK bg,cu),(1,xi cu,.a io bg),(1,xi io,xi aK)] rfl (cl F)<|cl<|ao<|af<|bQ<|cQ<|bk [aa p,D] [] [(1,aK,.s bg ei),(1,xi<|xi bg,aK)] rfl<|cX.mp h)▸?_;rw[ic])
  ·refine(af J)▸?_;refine .some i (by exact cQ<|bk [i,D+1-aa p,aa p,D] [] [(1,xi aK,bg),(1,.a bg cu,xi io),(1,xi io,.a aK cu)] rfl (cl T)<|cl<|ao<|bQ<|cQ<|bk [aa p,D] [] [(1,aK,.s bg ei),(1,xi<|xi bg,aK)] rfl<|cX.mp h) (by unfold u6;(refine(af<|decide_eq_true<|by exact cQ<|bk [D,aa o,i,D+1-aa p,aa p] [] [(1,aK,bg),(1,xi cu,io),(1,.a io<|.v 4,xi aK),(1,xi bg,.a cu<|.v 4)] rfl (cl r) (cl T)<|cl<|ao<|bQ<|cQ<|bk [aa p,D] [] [(1,aK,.s bg ei),(1,xi<|xi bg,aK)] rfl<|cX.mp h)▸ah R ?_);rfl) λm z t=>?_;unfold u6;(refine(af<|y m (by exact cQ<|bk [m,aa p,D,D+1-aa p] [] [(1,.a aK bg,cu),(1,xi cu,.a io bg),(1,xi io,xi aK)] rfl (cl z)<|cl<|ao<|af<|bQ<|cQ<|bk [aa p,D] [] [(1,aK,.s bg ei),(1,xi<|xi bg,aK)] rfl<|cX.mp h) t)▸?_;rw[ic])
def dO (G:List Tk) (p:List UInt8) (n:Nat):Bool:=u6 (aw G) p n&&(mU G n&&(decide (n+aa p=aa (aw G))||mU G (n+(aa p):Nat)))
theorem uc {n:Nat} (h:dO ts p n=aq):n∈dj 0 ts:=by unfold dO at h;simp only[bu] at h;exact Dk h.2.1
def eY (G:List Tk) (p:List UInt8):List Nat:=(dj 0 G).filter<|dO G p
theorem Gf {b n:Nat} (J:b<=n) (R:dO G p n=aq) (y:∀m,b<=m->m<n->dO G p m=ai):((eY G p).filter λn=>decide<|b<=n).head?=ac n:=by
 unfold eY;refine(af OD)▸?_;refine xm (m8 G 0) (uc R) (by simp[J,R]) λm _ t=>?_;by_cases q:b<=m
 ·(refine(af<|y m q t)▸?_;rw[ic])
 ·refine(af<|decide_eq_false q)▸?_;rfl
theorem zI {b:Nat} (h:∀m,b<=m->dO G p m=ai):((eY G p).filter λn=>decide<|b<=n)=[]:=by
 unfold eY;refine ah OD<|px λm _=>?_
 by_cases q:b<=m
 ·(refine(af<|h m q)▸?_;rw[ic])
 ·refine(af<|decide_eq_false q)▸?_;rfl
theorem UE {n:Nat} (R:dO G p n=aq) (y:∀m,n<m->dO G p m=ai):(eY G p).getLast?=ac n:=
 xg (m8 G 0) (uc R) R λm _ t=>y m t
noncomputable def qU (o:List UInt8) (k:Nat):List Nat->Nat->List (List UInt8)
 |[],b=>[o.drop b]
 |n::l,b=>if b<=n then(o.drop b).take (n-b)::qU o k l (n+k) else qU o k l b
theorem Gr:qU o k [] b=[o.drop b]:=rfl
theorem BY:qU o k (n::l) b=if b<=n then(o.drop b).take (n-b)::qU o k l (n+k) else qU o k l b:=rfl
theorem BX {k b:Nat}:∀{l},(l.filter λn=>decide<|b<=n)=[]->qU o k l b=[o.drop b]
 |[],_=>rfl
 |n::l,h=>by
  have F:¬b<=n:=λq=>by rw[jj<|by simpa using q] at h;cases h
  rw[gH<|by simpa using F] at h;show(if b<=n then _ else _)=_;exact ah (if_neg F)<|BX h
theorem BW {k b n:Nat} (G:0<k) (B:b<=n):∀{l},(l.filter λn=>decide<|b<=n).head?=ac n->qU o k l b=(o.drop b).take (n-b)::qU o k l (n+k)
 |[],h=>by exact aE h
 |m::l,h=>by
  show(if b<=m then _ else _)=_::(if n+k<=m then _ else _);by_cases z:b<=m
  ·rw[jj<|by simpa using z] at h;cases h
   (refine ah (if_pos z) ?_;rw[if_neg<|by exactλM=>bk [k,n] [] [(1,xi ei,aK),(1,.a bg aK,bg)] rfl (cl G)<|cl M])
  ·rw[gH<|by simpa using z] at h
   (refine ah (if_neg z)<|(af<|if_neg<|by exactλM=>bk [k,b,n,m] [] [(1,xi ei,aK),(1,bg,cu),(1,xi io,bg),(1,.a cu aK,io)] rfl (cl G) (cl B) (cl<|wU.mp z)<|cl M)▸?_);exact BW G B h
theorem FT (j I):oG j I=(I.zipIdx.flatMap λx=>(if x.2>0 then j else[])++x.1):=by
 unfold oG agm
 have:∀(l:List (List UInt8)) (k:Nat) (S:Array UInt8),((l.map λb=>ag b).zipIdx k).foldl (λz (p,i)=>(if i>0 then z++ag j else z)++p) S=S++ag ((l.zipIdx k).flatMap λx=>(if x.2>0 then j else[])++x.1):=by
  intro l
  induction l with
  |nil=>intro k S;simp
  |cons x l o=>intro k S;simp only[bv,yB,ot,SS];refine ah (o ..) ?_;by_cases G:k>0<;>simp[G]
 have:=this I 0 #[];refine(af this)▸?_;simp
theorem tl (I):oG [] I=I.flatten:=by
 refine ah (FT ..) ?_;simp only[ite_self,gK]
 have:∀(l:List (List UInt8)) (k:Nat),((l.zipIdx k).flatMap λx=>x.1)=l.flatten:=by
  intro l
  induction l with
  |nil=>intro k;rfl
  |cons x l o=>intro k;simp[yB,o]
 exact this I 0
theorem MT (sep I) (m:Nat) (h:∀b∈I,aa b<=m):aa (oG sep I)<=aa I*(aa sep+m):=by
 refine(af (FT ..))▸?_
 have:∀(l:List (List UInt8)) (k:Nat),(∀b∈l,aa b<=m)->aa ((l.zipIdx k).flatMap λx=>(if x.2>0 then sep else[])++x.1)<=aa l*(aa sep+m):=by
  intro l
  induction l with
  |nil=>intro k _;simp
  |cons x l o=>
   intro k h;have J:=o (k+1) λb B=>h b<|by simp[B]
   have R:=h x<|by simp
   have y:aa (if k>0 then sep else[])<=aa sep:=by split<;>simp
   simp only[yB,SS,aJ,bN,ag8,ag6];exact cQ<|bk [aa<|xJ (λx ↦ (if x.snd>0 then sep else[])++x.fst)<|l.zipIdx<|k+1,aa l*(aa sep+m),aa x,m,aa<|if k>0 then sep else[],aa sep] [] [(1,aK,bg),(1,cu,io),(1,.v 4,.v 5),(1,xi<|.a bg<|.a (.v 5) io,.a (.a (.v 4) cu) aK)] rfl (cl J) (cl R)<|cl y
 exact this I 0 h
theorem LP (sep:Nat) (I) (m:Nat) (h:∀b∈I,aa b<=m):yM sep I<=aa I*(sep+m):=by
 unfold yM
 have:∀(l:List (List UInt8)) (S:Nat),(∀b∈l,aa b<=m)->(l.map λb=>ag b).foldl (· +·.size) S<=S+aa l*m:=by
  intro l
  induction l with
  |nil=>intro S _;simp
  |cons x l o=>
   intro S h;have J:=o (S+aa x) λb B=>h b<|by simp[B]
   have R:=h x<|by simp
   simp only[bv,ot,aS,bN,ag8,ag6] at J|-
   exact cQ<|bk [ag9 (λc d ↦ c+d.size) (S+aa x)<|rE (λb ↦ (ag b)) l,S,aa x,aa l*m,m] [] [(1,aK,.a (.a bg cu) io),(1,cu,.v 4),(1,xi<|.a bg<|.a io<|.v 4,aK)] rfl (cl J)<|cl R
 have J:=this I (sep*(aa I-1)) h;refine(af (vU ..))▸?_;have R:sep*(aa I-1)<=aa I*sep:=by exact(af (af8 ..))▸Nat.mul_le_mul_right _ (sV _ _)
 refine(af (Nat.mul_add ..))▸?_;exact cQ<|bk [ag9 (λc d ↦ c+d.size) (sep*(aa I-1))<|rE (λb ↦ (ag b)) I,sep*(aa I-1),aa I*m,aa I*sep] [] [(1,aK,.a bg cu),(1,bg,io),(1,xi<|.a io cu,aK)] rfl (cl J)<|cl R
theorem z1:∀I:List (List UInt8),z6 (I.map .bytes)=ac I
 |[]=>rfl
 |b::I=>by show(z6<|I.map .bytes).map _=_;refine(af<|z1 I)▸?_;rfl
theorem vn (h:∀b∈I,aa b<=1000) (P:aa I<=200) (d:aa j<=10):zw (.bytes j) [.lst<|I.map .bytes] H=.ok (.bytes<|oG j I) H:=by
 have J:=MT j I 1000 h;have R:=LP (aa j) I 1000 h;have y:=Ee P<|by exact cQ<|bk [aa j] [] [(1,aK,.n 10),(1,xi<|.n 1010,.a aK<|.n 1000)] rfl<|cl d
 show bG (z6<|I.map .bytes) (λI=>if aa (oG j I)<=16777216/\yM (aa j) I<=16777216 then ay (qx<|oG j I) else aQ) H=_;refine(af (z1 ..))▸?_;exact congrFun (if_pos ⟨vS ‹_› ‹_› (by rfl),vS ‹_› ‹_› (by rfl)⟩) H
theorem iY (h:bp B e V H=.exc p H₁):ol B (e::r) V H=.exc p H₁:=wH h
theorem jW (h:bp B e V H=.ok a g) (k:ol B r V g=.exc p H₂):ol B (e::r) V H=.exc p H₂:=fh h<|wH k
theorem jX (h:ol B D V H=.exc p H₁):bp B (.aA a D) V H=.exc p H₁:=wH h
theorem zO (h:ol B u V H=.exc p H₁):bp B (.tup u) V H=.exc p H₁:=wH h
theorem iX (h:bp B o V H=.ok q g) (z:(C6 O q).isSome=aq) (I:ol B D V g=.ok l P) (k:W7 O q l P=r):bp B (.gj O o D) V H=r:=
 RH h (by
  unfold Bz
  cases e:C6 O q with
  |none=>rw[e] at z;cases z
  |some _=>exact fh I k)
theorem ou (h:bp B e V H=.exc p H₁):fY B E (.ret e::l) V H=.exc p H₁:=wH<|wH h
theorem Hi (h:bp B e V H=.exc p H₁):fY B E (.assign i e::l) V H=.exc p H₁:=wH<|wH h
theorem KV (h:m H=.ok p H) (A:cZ H=aq) (W:jd p=aq):I4 m H=.ok p H:=by unfold I4;refine(af h)▸?_;dsimp only;(refine(af fF)▸(af A)▸(af W)▸?_);rfl
def Gh (w:List Nat) (c:PV):PV:=.tup [cV "struct",.tup [cV "name",.str w,.tup []],c]
theorem Rz (A:cZ H=aq) (W:gY z=aq):sb 112 [.str w,.tup z] H=.ok (Gh w<|.tup z) H:=by
 refine(af<|show sb 112 [.str w,.tup z]=_ from wf (v:=f5) (E:=f5) (j:=Ni) (f:=⟨112,13,ai,[],[]⟩) (i:=0) (n:=2) (l:=4) (by kernel_rfl) (by kernel_rfl) (by kernel_rfl) (by kernel_rfl) rfl rfl)▸?_;refine aH (aL<|bI<|bx (ae rfl<|ae (gu (ae rfl ar) ?_)<|ae (dJ (ae rfl ar) rfl) ar)<|by simp) A<|by simp[Gh,lI,lJ,i4,lK,ft,gh,cV,W]
 have:sb 105 [.str w] H=.ok (.tup [cV "name",.str w,.tup []]) H:=by refine(af<|show sb 105 [.str w]=_ from wf (v:=f5) (E:=f5) (j:=Ni) (f:=⟨105,12,ai,[],[]⟩) (i:=1) (n:=1) (l:=1) (by kernel_rfl) (by kernel_rfl) (by kernel_rfl) (by kernel_rfl) rfl rfl)▸?_;exact aH (aL<|bI<|bx (ae rfl<|ae rfl<|ae rfl ar)<|by simp) A rfl
 exact this
theorem LK (A:cZ H=aq) (W:gY z=aq):dF 119 [.str w,.tup z] H=.ok (Gh w<|.tup z) H:=by unfold dF;refine(af<|if_pos rfl)▸?_;unfold LL;rw[if_pos<|by kernel_rfl];exact KV (gu (ae rfl<|ae rfl ar)<|Rz A W) A<|by simp[Gh,lI,lJ,i4,lK,ft,gh,cV,W]
theorem ox (A:cZ H=aq) (U:Dz (.str t) [cV "utf-8"] H=.ok (.bytes b) H):dF 126 [.str w,.str t] H=.ok (Gh w<|.tup [.tup [cV "text",.bytes b]]) H:=by
 unfold dF
 (rewrite[if_neg<|by decide];refine(af<|if_pos rfl)▸?_)
 unfold LL;rw[if_pos<|by kernel_rfl]
 have:sb 98 [.str t] H=.ok (.tup [cV "text",.bytes b]) H:=by refine(af<|show sb 98 [.str t]=_ from wf (v:=f5) (E:=f5) (j:=Ni) (f:=⟨98,11,ai,[],[]⟩) (i:=2) (n:=1) (l:=1) (c:=[.ret<|.tup [.const<|cV "text",.gj .encode cz [.const<|cV "utf-8"]]]) (by kernel_rfl) (by kernel_rfl) (by kernel_rfl) (by kernel_rfl) (by kernel_rfl) rfl)▸?_;exact aH (aL<|bI<|bx (ae rfl<|ae (iX rfl rfl (ae rfl ar) U) ar)<|by simp) A rfl
 exact KV (gu (ae rfl<|ae (bx (ae (gu (ae rfl ar) this) ar)<|by simp) ar)<|Rz A rfl) A rfl
theorem Fu {v E:on} {j:List FE} {i l:Nat} {f:FE} {c:List CS} {d:PV} (Y:(j[i]?).map (λg=>(g.addr,g.k,g.keep,g.muts,g.defs))=ac (f.addr,f.k,f.keep,f.muts,f.defs)) (R:((j.take i).all λg=>decide<|f.addr≠g.addr)=aq) (F:(match (bH f.k).1.args with|[a,b]=>b.arg==a.arg|_=>aq)=ai) (W:(bH f.k).2.2.names.length=l) (P:DK f.k f.muts=c) (X:f.defs=[d]) {p:PV}:
 iq v E j f.addr [p]=iO f.keep (kX (iq v E<|j.drop<|i+1) E l c [p,d]):=by
 rw[ba] at Y;refine aI Y ?_;clear Y;intro S T e;obtain⟨a,k,U,m,n⟩:=S;obtain⟨q,s,o,t,fd⟩:=f;simp only[A6] at e;refine DE e ?_;clear e;intro S V Z H G;subst S;subst V;subst Z;subst H;subst G;refine be (aB.mp T) λD e=>?_
 have h:j=j.take i++(⟨a,k,U,m,n⟩::j.drop (i+1)):=by(refine(e)▸(af (Ha ..))▸?_;rw[fj])
 refine ah (show iq v E j a [p]=iq v E (j.take i++(⟨a,k,U,m,n⟩::j.drop (i+1))) a [p] by rw[<-h]) ?_;rw[qi R];show(if a=a then _ else _)=_;rw[if_pos rfl];unfold fnOf fnM;dsimp only at F W P X|-
 cases I:(bH k).1.args with
 |nil=>rw[I] at F;cases F
 |cons x r=>
  cases r with
  |nil=>rw[I] at F;cases F
  |cons y r=>
   induction r with
   |cons _ _=>rw[I] at F;cases F
   |nil=>rw[I] at F;rw[if_neg (by simp),X];refine ah (if_pos F) ?_;rw[W,P]
def a7 (o:List UInt8):PV:=.tup [cV "text",.bytes o]
def mv (n:Int):PV:=.tup [cV "int",cV "Int64",.int n]
def sO (b:Bool):PV:=.tup [cV "bool",.bool b]
def u7:PV:=.tup [cV "nothing"]
set_option genCtorIdx false
inductive Ix where
 |bl (c:Bool)
 |nm (big:Bool) (n:Int)
set_option genCtorIdx true
def Ix.p:Ix->PV
 |.bl c=>sO c
 |.nm aq n=>.tup [cV "int",cV "BigInt",.int n]
 |.nm ai n=>mv n
noncomputable def Ix.w:Ix->Int
 |.bl aq=>1
 |.bl ai=>0
 |.nm _ n=>n
noncomputable def Ix.room (x:Ix):Bool:=decide (-9223372036854775808<=x.w/\x.w<9223372036854775808)
section
variable {H:Hp} {o:List UInt8}
theorem j8 (A:cZ H=aq) (n:Int):b7 84 [.int n] H=.ok (mv n) H:=by refine(af<|show b7 84 [.int n]=_ from Fu (v:=sb) (E:=dF) (j:=sx) (f:=⟨84,9,ai,[],[cV "Int64"]⟩) (i:=69) (l:=2) (c:=c_9) (d:=cV "Int64") (by kernel_rfl) (by kernel_rfl) (by kernel_rfl) (by kernel_rfl) (by kernel_rfl) rfl)▸?_;exact aH (aL<|bI<|bx (ae rfl<|ae rfl<|ae rfl ar)<|by simp) A rfl
theorem IN (A:cZ H=aq) (n:Int) (s:List Nat):b7 84 [.int n,.str s] H=.ok (.tup [cV "int",.str s,.int n]) H:=by rw[o_9 rfl];exact aH (aL<|bI<|bx (ae rfl<|ae rfl<|ae rfl ar)<|by simp) A rfl
theorem qZ (A:cZ H=aq) (b:Bool):b7 91 [.bool b] H=.ok (sO b) H:=by
 rw[ahS rfl];cases b
 ·exact aH (aL<|bI<|dZ rfl rfl) A rfl
 ·exact aH (aL<|bI<|fb rfl rfl) A rfl
theorem cP (A:cZ H=aq):b7 679 [a7 o,cV "text"] H=.ok (.bytes o) H:=by rw[acV rfl];exact aH (aL<|eS (a8 (bz rfl rfl rfl) rfl rfl) bJ<|bI<|bz rfl rfl rfl) A rfl
theorem lx (A:cZ H=aq) (x:Ix):b7 686 [x.p] H=.ok (.int x.w) H:=by
 rw[acU rfl]
 induction x with
 |bl b=>rcases b<;>exact aH (aL<|ky (a8 (bz rfl rfl rfl) rfl rfl)<|bI<|dJ (ae (bz rfl rfl rfl) ar) rfl) A rfl
 |nm g n=>rcases g<;>exact aH (aL<|eS (a8 (bz rfl rfl rfl) rfl rfl) bJ<|eS (a8 (bz rfl rfl rfl) rfl rfl) bJ<|bI<|bz rfl rfl rfl) A rfl
theorem OZ {B:on} {V:bO}:bp B (.bin ai .Pow (cI 2)<|cI 63) V H=.ok (.int 9223372036854775808) H:=rfl
theorem Qr {B:on} {V:bO}:bp B (.bin ai .Sub (cI 0)<|.bin ai .Pow (cI 2)<|cI 63) V H=.ok (.int (-9223372036854775808)) H:=rfl
theorem gZ (x:Ix):jd x.p=true:=by
 induction x with
 |bl _=>rfl
 |nm g n=>rcases g<;>rfl
def gy (o:List UInt8) (v:PV):PV:=Gh gz<|.tup [a7 o,v]
theorem qt (A:cZ H=aq) {v:PV} (t:jd v=aq):dF 119 [cV "BoundsError",.tup [a7 o,v]] H=.ok (gy o v) H:=
 LK A (by simp[ft,gh,a7,lI,lJ,i4,lK,cV,t])
theorem fa {v:PV} (t:jd v=aq):jd (gy o v)=true:=by simp[ft,gh,a7,lI,lJ,i4,lK,cV,t,gy,Gh]
theorem g8 (A:cZ H=aq) (x:Ix) (h:x.room=aq):b7 693 [.bytes o,x.p] H=.ok (.int x.w) H:=by rw[WX rfl];exact aH (aL<|bU (az (ae rfl ar) rfl<|lx A x)<|eS (gP<|Cw Qr rfl OZ h) bJ<|bI rfl) A rfl
theorem mw (A:cZ H=aq) (x:Ix) (h:x.room=ai):b7 693 [.bytes o,x.p] H=.exc (gy o x.p) H:=by rw[WX rfl];exact b9 (cY<|bU (az (ae rfl ar) rfl<|lx A x)<|tI (gP<|Cw Qr rfl OZ h)<|mO (ae rfl<|ae (bx (ae (bx (ae rfl<|ae rfl ar)<|by simp)<|ae rfl ar)<|by simp) ar)<|qt A<|gZ x) A<|fa<|gZ x
theorem wE (A:cZ H=aq) (N:aa o<=1000) {n:Int} (h:1<=n/\n<=aa o):b7 460 [.bytes o,.int n] H=.ok .none H:=by rw[acq rfl];exact aH (wd<|eS (gP<|gA rfl rfl (dy rfl N)<|decide_eq_true h) bJ bJ) A rfl
theorem ac5 (n:Int):jd (mv n)=true:=rfl
theorem zY (A:cZ H=aq) (N:aa o<=1000) {n:Int} (h:¬(1<=n/\n<=aa o)):b7 460 [.bytes o,.int n] H=.exc (gy o<|mv n) H:=by rw[acq rfl];exact b9 (cY<|tI (gP<|gA rfl rfl (dy rfl N)<|decide_eq_false h)<|mO (ae rfl<|ae (bx (ae (bx (ae rfl<|ae rfl ar)<|by simp)<|ae (az (ae rfl ar) rfl<|j8 A n) ar)<|by simp) ar)<|qt A rfl) A<|fa rfl
def yL (w:List Nat) (b:List UInt8):PV:=Gh w<|.tup [a7 b]
noncomputable def ng:List Nat:=[65,114,103,117,109,101,110,116,69,114,114,111,114]
noncomputable def Um:List UInt8:=[110,111,32,115,105,103,110,32,98,101,103,105,110,115,32,97,116,32,116,104,105,115,32,105,110,100,101,120]
end
section
variable {H:Hp} {ts:List Tk}
theorem qs (u:dA ts) (A:cZ H=aq) {n:Int} (h:mU ts (n-1)=aq):b7 467 [.bytes<|aw ts,.int n] H=.ok .none H:=by
 have F:1<=n/\n<=aa (aw ts):=by refine j7 λq=>?_;rw[KJ ts (n-1) λh=>q ⟨aa4.mp h.1,Int.le_of_sub_one_lt h.2⟩] at h;cases h
 rw[Zi rfl];exact aH (wd<|ie (az (ae rfl<|ae rfl ar) rfl<|wE A u.z F)<|eS (gP<|jG<|az (ae rfl<|ae rfl ar) rfl<|ah (lA ts (n-1) u.K8 u.z A)<|by rw[h]) bJ bJ) A rfl
theorem uw (u:dA ts) (A:cZ H=aq) {n:Int} (h:¬(1<=n/\n<=aa (aw ts))):b7 467 [.bytes<|aw ts,.int n] H=.exc (gy (aw ts)<|mv n) H:=by rw[Zi rfl];exact b9 (cY<|s6<|az (ae rfl<|ae rfl ar) rfl<|zY A u.z h) A<|fa rfl
theorem ux (u:dA ts) (A:cZ H=aq) {n:Int} (F:1<=n/\n<=aa (aw ts)) (h:mU ts (n-1)=ai):b7 467 [.bytes<|aw ts,.int n] H=.exc (yL ng Um) H:=by rw[Zi rfl];exact b9 (cY<|ie (az (ae rfl<|ae rfl ar) rfl<|wE A u.z F)<|tI (gP<|jG<|az (ae rfl<|ae rfl ar) rfl<|ah (lA ts (n-1) u.K8 u.z A)<|by rw[h])<|mO (ae rfl<|ae rfl ar)<|ox A rfl) A rfl
end
noncomputable def Tk.shown:Tk->Int
 |.a=>97
 |.e=>233
 |.u=>8364
 |_=>65533
def xx (n:Int):PV:=.tup [cV "char",.int n]
theorem Jh (A:cZ H=aq) (t:Tk):b7 700 [.int t.code] H=.ok (xx t.shown) H:=by
 have:∀(x y:Int),kX (oI<|69+1) dF 2 (DK 119 []) [.int x] H=.ok (xx y) H->b7 700 [.int x] H=.ok (xx y) H:=λx y h=>qj (i:=66) rfl rfl rfl rfl rfl rfl h A rfl
 rcases t<;>exact this _ _ rfl
theorem Jd (u:dA (p++t::q)) (A:cZ H=aq) {n:Int} (h:n=aa (aw p)+1):b7 481 [.bytes<|aw<|p++t::q,.int n] H=.ok (.int t.code) H:=by
 subst h;have B:mU (p++t::q) (((aa<|aw p):Int)+1-1)=true:=by exact(af (cr ..))▸vq p q t
 rw[aco rfl];exact aH (aL<|ie (az (ae rfl<|ae rfl ar) rfl<|qs u A B)<|bI<|bz (az (ae rfl<|ae (bo rfl rfl<|congrArg (λx=>dt (dq x) H)<|cr _ 1) ar) rfl<|pF u.K8 u.z A) rfl rfl) A rfl
theorem Gz {n:Int} (A:cZ H=aq) (h:b7 467 [.bytes<|aw G,.int n] H=.exc D H) (W:jd D=aq):b7 481 [.bytes<|aw G,.int n] H=.exc D H:=by rw[aco rfl];exact b9 (cY<|s6<|az (ae rfl<|ae rfl ar) rfl h) A W
def upT:CE:=.bool aq [.cmp dE [.Lt] [.bw eP [cz]],.not<|.aA 247 [cz,dE]]
def upB:List CS:=[.aug 2 .Add<|cI 1]
def upV (G:List Tk) (i j:Int):bO:=[ac<|.bytes<|aw G,ac<|.int i,ac<|.int j,am,am,am]
theorem Tp {j:Nat} {i:Int} (u:dA G) (A:cZ H=aq) (C:j<aa (aw G)):j6 (oI 56) upT (upV G i j) (bp (oI 56) upT<|upV G i j) H=.ok (!mU G j) H:=
 kl (a8 rfl (dy rfl u.z)<|dP<|decide_eq_true<|cK.mpr C) (jg<|gP<|jG<|az (ae rfl<|ae rfl ar) rfl<|lA G j u.K8 u.z A)
inductive UpR (ts:List Tk) (i:Int) (j f:Nat) (H:Hp):Prop
 |mk (r:Nat) (h1:j<=r) (h2:r<=aa (aw ts)) (h3:r=aa (aw ts)\/mU ts r=aq) (h4:∀k:Nat,j<=k->k<r->mU ts k=ai) (h5:hO (λτ=>j6 (oI 56) upT τ<|bp (oI 56) upT τ) (λτ=>fY (oI 56) dF upB τ) f (upV ts i j) H=.ok (.next,upV ts i r) H)
theorem abS (u:dA G) (A:cZ H=aq) (i:Int) (f:Nat):∀(j:Nat),aa (aw G)<f+j->j<=aa (aw G)->UpR G i j f H:=by
 induction f with
 |zero=>intro j Y F;exact absurd F<|wU.mpr<|by rwa [fV] at Y
 |succ f o=>
  intro j Y F;rcases wV F with hl|hl
  ·have U:=Tp (i:=i) u A hl
   cases B:mU G j with
   |true=>exact .mk j (bT _) F (.inr B) (λk J R=>absurd R<|cW.mpr J)<|ly<|ah U<|by refine(af B)▸?_;rfl
   |false=>obtain⟨r,J,R,y,X,Q⟩:=o (j+1) (by rwa [SP,d9] at Y) hl;exact .mk r (yb J) R y (λk c E=>(wV c).elim (λq=>X k q E) λq=>by exact(q)▸B)<|qH (ah U<|by refine(af B)▸?_;rfl) (yE rfl rfl rfl bJ) Q
  ·exact .mk j (bT _) F (.inl hl) (λk J R=>absurd R<|cW.mpr J)<|ly<|mn<|a8 rfl (dy rfl u.z)<|dP<|decide_eq_false<|by exact(af hl)▸abF _
theorem Uo (u:dA G) (A:cZ H=aq) (i:Nat) (D:i<aa (aw G)):b7 254 [.bytes<|aw G,.int i] H=.ok (.int<|vc G i) H:=by
 have:=u.len;obtain⟨r,J,R,y,X,Q⟩:=abS u A i 200 (i+1) (by exact cQ<|bk [aa<|aw G,i] [] [(1,aK,.n 100),(1,xi<|.a (.n 200)<|xi bg,xi aK)] rfl<|cl this) D;refine(af<|FF (i:=i) (by exact dI.mpr<|by assumption) R y λk c E=>X k (by exact cK.mp<|by assumption) E)▸?_;rw[ahP rfl]
 exact aH (aL (bU (bo rfl rfl rfl) (nX Q (bI (dJ (ae rfl<|ae (dy rfl u.z) ar) (show _=dt (dq r) H by
  show dt (dq<|if((aa<|aw G):Int)<r then _ else _) H=_
  rw[if_neg<|by exactλM=>bk [r,aa<|aw G] [] [(1,aK,bg),(1,xi bg,aK)] rfl (cl R) M])))))) A rfl
def dnT:CE:=.bool aq [.cmp dE [.GtE] [cI 0],.not<|.aA 247 [cz,dE]]
def dnB:List CS:=[.aug 2 .Sub<|cI 1]
def dnV (G:List Tk) (i j:Int):bO:=[ac<|.bytes<|aw G,ac<|.int i,ac<|.int j,am,am,am,am]
theorem VC {i j:Int} (u:dA G) (A:cZ H=aq) (C:0<=j):j6 (oI 53) dnT (dnV G i j) (bp (oI 53) dnT<|dnV G i j) H=.ok (!mU G j) H:=
 kl (a8 rfl rfl<|jB<|decide_eq_true C) (jg<|gP<|jG<|az (ae rfl<|ae rfl ar) rfl<|lA G j u.K8 u.z A)
inductive DnR (ts:List Tk) (i j:Int) (f:Nat) (H:Hp):Prop
 |mk (r:Int) (h1:r<=j) (h2:-1<=r) (h3:r=-1\/mU ts r=aq) (h4:∀k:Int,r<k->k<=j->mU ts k=ai) (h5:hO (λτ=>j6 (oI 53) dnT τ<|bp (oI 53) dnT τ) (λτ=>fY (oI 53) dF dnB τ) f (dnV ts i j) H=.ok (.next,dnV ts i r) H)
theorem aeF (u:dA G) (A:cZ H=aq) (i:Int) (f:Nat):∀(j:Int),j<f->-1<=j->DnR G i j (f+1) H:=by
 have neg:∀(f:Nat) (j:Int),-1<=j->¬0<=j->DnR G i j (f+1) H:=λf j F C=>.mk j (f4 _) F (.inl<|by exact cE (dr<|bk [] [j] [(1,xi cA,ei),(1,xi<|.g ik,cA)] rfl<|i6.mp C)<|dr<|bk [] [j] [(1,.g ik,cA),(1,xi cA,.g ik)] rfl F) (λk J R=>absurd R<|i6.mpr J)<|ly<|mn<|a8 rfl rfl<|jB<|decide_eq_false C
 induction f with
 |zero=>intro j Y F;exact neg 0 j F<|i6.mpr Y
 |succ f o=>
  intro j Y F;by_cases C:0<=j
  case neg=>exact neg (f+1) j F C
  have U:=VC (i:=i) u A C
  cases B:mU G j with
  |true=>exact .mk j (f4 _) F (.inr B) (λk J R=>absurd R<|i6.mpr J)<|ly<|ah U<|by refine(af B)▸?_;rfl
  |false=>
   obtain⟨r,J,R,y,X,Q⟩:=o (j-1) (by exact dr<|bk [f] [j] [(1,xi cA,xi aK),(1,xi aK,xi<|.s cA ik)] rfl Y)<|by exact dr<|bk [] [j] [(1,ei,cA),(1,xi<|.s cA ik,.g ik)] rfl C
   exact .mk r (by exact dr<|bk [] [r,j] [(1,cA,.s (.w 1) ik),(1,xi<|.w 1,cA)] rfl J) R y (λk c E=>(Int.lt_or_eq_of_le E).elim (λq=>X k c<|Oe q) λq=>by exact(af q)▸B)<|qH (ah U<|by refine(af B)▸?_;rfl) (yE rfl rfl rfl bJ) Q
theorem T7 (u:dA G) (A:cZ H=aq) (i:Int) (D:0<=i/\i<=aa (aw G)):b7 261 [.bytes<|aw G,.int i] H=.ok (.int<|r9 G i) H:=by
 have:=u.len;obtain⟨r,J,R,y,X,Q⟩:=aeF u A i 199 (i-1) (by exact dr<|bk [aa<|aw G] [i] [(1,cA,aK),(1,aK,.n 100),(1,xi<|.n 199,xi<|.s cA ik)] rfl D.2<|cl this)<|by exact dr<|bk [] [i] [(1,ei,cA),(1,xi<|.s cA ik,.g ik)] rfl D.1
 refine(af<|PS (by exact dr<|bk [] [r,i] [(1,cA,.s (.w 1) ik),(1,xi<|.w 1,xi cA)] rfl J) R y λk c E=>X k (by assumption)<|by exact dr<|bk [] [k,i] [(1,xi cA,.w 1),(1,xi<|.s (.w 1) ik,cA)] rfl E)▸?_;rw[ahO rfl]
 exact aH (aL (bU (bo (dJ (ae rfl<|ae (dy rfl u.z) ar) (show _=dt (.int i) H by
  show dt (dq<|if((aa<|aw G):Int)<i then _ else _) H=_
  rw[if_neg<|by exactλM=>bk [aa<|aw G] [i] [(1,cA,aK),(1,xi aK,cA)] rfl D.2 M])) rfl rfl) (nX Q (bI (dJ (ae rfl<|ae mQ ar) (show _=dt (dq r) H by
  show dt (dq<|if(-1:Int)>r then _ else _) H=_
  rw[if_neg<|by exactλM=>bk [] [r] [(1,.g ik,cA),(1,xi cA,.g ik)] rfl R M])))))) A rfl
theorem Ij (u:dA G) (A:cZ H=aq) (n:Int) (h:0<=n/\n<=aa (aw G)):b7 488 [.bytes<|aw G,.int n] H=.ok (.int<|vc G (n-1)+1) H:=by
 rw[acn rfl];refine aH (aL<|eS (gP<|gA rfl rfl (dy rfl u.z)<|decide_eq_true h) bJ<|bI ?_) A rfl;by_cases W:0<n
 ·refine fb (a8 rfl rfl<|jm<|decide_eq_true W) (bo (a:=.int<|vc G<|n-1) (az (ae rfl<|ae (bo rfl rfl rfl) ar) rfl ?_) rfl rfl);obtain⟨i,D⟩:∃i:Nat,n-1=i:=⟨(n-1).toNat,by exact af<|bB<|Oe<|by assumption⟩;exact(af D)▸Uo u A i (by exact cQ<|bk [aa<|aw G,i] [n] [(1,cA,aK),(1,bg,.s cA ik),(1,xi aK,xi bg)] rfl h.2<|aU<|af D)
 ·refine dZ (a8 rfl rfl<|jm<|decide_eq_false W) ?_;rw[FF (by exact dr<|bk [] [n] [(1,cA,ei),(1,xi ei,xi<|.s cA ik)] rfl<|cX.mp W) (by exact cQ<|bk [aa<|aw G] [] [(1,xi aK,ei)] rfl) ?_ λj J R=>(absurd R<|iR _)]
  ·rfl
  ·induction G with
   |nil=>exact .inl rfl
   |cons t r=>exact .inr<|vq [] r t
theorem FD (u:dA G) (A:cZ H=aq) (n:Int) (h:¬(0<=n/\n<=aa (aw G))):b7 488 [.bytes<|aw G,.int n] H=.exc (gy (aw G)<|mv n) H:=by rw[acn rfl];exact b9 (cY<|tI (gP<|gA rfl rfl (dy rfl u.z)<|decide_eq_false h)<|mO (ae rfl<|ae (bx (ae (bx (ae rfl<|ae rfl ar)<|by simp)<|ae (az (ae rfl ar) rfl<|j8 A n) ar)<|by simp) ar)<|qt A rfl) A<|fa rfl
theorem y8 (u:dA G) (A:cZ H=aq) (n:Int) (h:1<=n/\n<=aa (aw G)+1):b7 495 [.bytes<|aw G,.int n] H=.ok (.int<|r9 G (n-1)+1) H:=by rw[acm rfl];exact aH (aL<|eS (gP<|gA rfl rfl (bo (dy rfl u.z) rfl rfl)<|decide_eq_true h) bJ<|bI<|bo (az (ae rfl<|ae (bo rfl rfl rfl) ar) rfl<|T7 u A (n-1)<|by exact⟨dr<|bk [] [n] [(1,ik,cA),(1,xi<|.s cA ik,ei)] rfl h.1,dr<|bk [aa<|aw G] [n] [(1,cA,xi aK),(1,xi aK,.s cA ik)] rfl h.2⟩) rfl rfl) A rfl
theorem Fn (u:dA G) (A:cZ H=aq) (n:Int) (h:¬(1<=n/\n<=aa (aw G)+1)):b7 495 [.bytes<|aw G,.int n] H=.exc (gy (aw G)<|mv n) H:=by rw[acm rfl];exact b9 (cY<|tI (gP<|gA rfl rfl (bo (dy rfl u.z) rfl rfl)<|decide_eq_false h)<|mO (ae rfl<|ae (bx (ae (bx (ae rfl<|ae rfl ar)<|by simp)<|ae (az (ae rfl ar) rfl<|j8 A n) ar)<|by simp) ar)<|qt A rfl) A<|fa rfl
theorem AQ (u:dA G) (A:cZ H=aq):b7 502 [.bytes<|aw G] H=.ok (.int<|r9 G (aa<|aw G)+1) H:=by rw[ahI rfl];refine aH (aL<|bI<|az (ae rfl<|ae (bo (dy rfl u.z) rfl rfl) ar) rfl<|ah (y8 u A _ (by exact⟨dr<|bk [aa<|aw G] [] [(1,xi<|xi aK,ik)] rfl,dr<|bk [aa<|aw G] [] [(1,xi<|xi aK,xi aK)] rfl⟩)) ?_) A rfl;rw[cr]
def mA (G:List Tk):List PV:=G.map λt=>.int t.code
theorem J4:∀{G k x},x∈(dj k G).zip G->∃p q,G=p++x.2::q/\x.1=k+aa (aw p)
 |t::r,k,x,h=>by
  rcases aM.mp h with rfl|h
  ·exact⟨[],r,rfl,rfl⟩
  ·exact iI (J4 h) λp q m i=>⟨t::p,q,by refine(af m)▸?_;rfl,by(refine ah i<|(af<|show aw (t::p)=t.b++aw p from rfl)▸(af aJ)▸?_);exact d9 _ _ _⟩
theorem Bq (l:List Z) (n):(dg n).filterMap (λk=>l[k]?)=l.take n:=by
 induction n with
 |zero=>rfl
 |succ n o=>
  (refine(af lr)▸ah nj<|(af o)▸(af mc)▸?_)
  cases h:l[n]? with
  |none=>refine(af<|qD h)▸?_;rfl
  |some a=>refine(af<|qC h)▸?_;rfl
theorem YY (n:Nat):Ai (((n+1:Nat):Int)-1) (-1) (-1)=(dg<|n+1).map λk=>n-k:=by
 have e:((n+1:Nat):Int)-1=n:=by exact(af (A9 ..))▸cr _ _
 refine(af e)▸?_;show(dg (if(n:Int)>-1 then((n:Int)- -1- -1-1) / 1 else 0).toNat).map (λ(k:Nat)=>((n:Int)+-1*(k:Int)).toNat)=_
 (rewrite[if_pos<|lZ (by decide)<|bC n];refine(af (aha ..))▸(af (aha ..))▸(af (cr ..))▸(af (agg ..))▸?_)
 refine o0 λk _=>?_
 (refine((hH ..))▸(wX)▸?_)
 exact abE n k
theorem PW (l:List Z):rr l am am (ac (-1))=l.reverse:=by
 induction l with
 |nil=>rfl
 |cons a r=>
  show(Ai (((aa r+1:Nat):Int)-1) (-1) (-1)).filterMap (λk=>(a::r)[k]?)=_
  (refine(af (YY ..))▸ah OF ?_)
  have h:∀m,m<=aa r+1->(dg m).filterMap ((λk=>(a::r)[k]?)∘λk=>aa r-k)=(dg m).filterMap λk=>(a::r).reverse[k]?:=λm z=>by
   induction m with
   |zero=>rfl
   |succ m o=>
    (refine(af lr)▸ah nj ?_;refine(af nj)▸(af<|o<|yb z)▸?_)
    refine congrArg _ ?_;show tW _ [m]=tW _ [m];unfold tW;refine(af<|show((λk=>(a::r)[k]?)∘λk=>r.length-k) m=(a::r).reverse[m]? from(List.getElem?_reverse z).symm)▸?_;rfl
  (refine ah (h _ (bT _))<|ah (Bq ..)<|((bN (a:=a)))▸(kQ)▸?_;rw[fF])
theorem qe {l:List PV} (h:nM H o=ac l) (B:∀b,o≠.bytes b) (z:aa l<=1000):mq ai o .none .none (.int (-1)) H=.ok (.lst l.reverse) H:=by
 have e:mq ai o .none .none (.int (-1))=gX o λxs=>if aa xs<=16777216/\(ac (-1:Int))≠ac 0 then lL ai (rr xs am am<|ac (-1)) else aQ:=by rcases o<;>first|rfl|exact absurd rfl<|B _
 refine(af e)▸?_;refine lj h ?_;rw[if_pos ⟨kN ‹_› (by rfl),by decide⟩,PW];rfl
theorem zV (u:dA ts) (A:cZ H=aq):b7 273 [.bytes<|aw ts] H=.ok (.lst<|mA ts) H:=by
 have m:dC (dj 0 ts)=((dj 0 ts).zip ts).map λx=>.int x.1:=by
  have:=rD (l₁:=dj 0 ts) (l₂:=ts)<|by exact(af (eO ..))▸bT _
  unfold dC
  conv=>lhs;rw[<-this]
  rw[gV];rfl
 have i:(((dj 0 ts).zip ts).map λx=>.int x.2.code)=mA ts:=by
  have:=rC (l₁:=dj 0 ts) (l₂:=ts)<|by rw[eO];exact bT _
  unfold mA
  conv=>rhs;rw[<-this]
  rw[gV];rfl
 rw[ahM rfl];have N:=fX ts;have:=u.len;refine aH (aL<|bI<|i▸sD (De<|gu (ae rfl ar)<|w6 rfl u A) m (by rw[sX,eO];exact cQ<|bk [aa ts,aa<|aw ts,min (aa ts)<|aa ts] [] [(1,aK,bg),(1,bg,.n 100),(1,cu,aK),(1,xi<|.n 1000,cu)] rfl (cl N) (cl this)<|cl<|ao<|eN<|cQ<|bk [aa ts] [] [(1,xi aK,aK)] rfl) λx T=>?_) A<|a _
 refine iI (J4 T) λp q S W=>?_;subst S;rw[fV] at W;exact⟨_,rfl,bz (az (ae rfl<|ae (by rw[W];rfl) ar) rfl<|pF u.K8 u.z A) rfl rfl⟩
where a (ts:List Tk):gY (mA ts)=true:=na (λ_=>rfl) ts
theorem ME (u:dA G) (A:cZ H=aq):b7 280 [.bytes<|aw G] H=.ok (.int<|aa G) H:=by
 have N:=fX G;have:=u.len;rw[ahL rfl];refine aH (aL<|bI<|dJ (ae (gu (ae rfl ar)<|w6 rfl u A) ar)<|ah (BB<|by(rewrite[dC];refine(af (aC ..))▸(af (eO ..))▸?_);exact vS ‹_› ‹_› (by rfl)) ?_) A rfl
 (rewrite[dC];refine(af (aC ..))▸?_;rw[eO])
theorem B4 (f:Z->Bool):∀l:List Z,DO (l.map λx=>.bool<|f x)=ac (l.map f)
 |[]=>rfl
 |x::l=>by show(DO<|l.map λx=>.bool<|f x).map _=_;refine(af<|B4 f l)▸?_;rfl
def C3 (G:List Tk):Bool:=G.all λt=>decide<|0<=t.code
theorem yI (u:dA G) (A:cZ H=aq):b7 285 [.bytes<|aw G] H=.ok (.bool<|C3 G) H:=by have N:=fX G;have:=u.len;rw[ahK rfl];refine aH (aL<|bI<|dJ (ae (sD (De<|az (ae rfl ar) rfl<|zV u A) rfl (vS ‹_› ‹_› (by rfl)) λt _=>⟨_,rfl,oM rfl rfl<|jB rfl⟩) ar) ?_) A rfl;show bG (DO<|G.map λt=>.bool<|decide<|0<=t.code) (λI=>ay<|PV.bool<|I.all id) H=_;refine(af (B4 ..))▸?_;show dt (PV.bool<|(G.map λt=>decide<|0<=t.code).all id) H=_;unfold C3;refine(af abB)▸?_;rfl
def aat:List CS:=[.fm (.cmp cz [.Lt] [cI 0]) [.ret<|.bw uz [.list ai [.bin ai .Sub (.neg<|cI 1) cz]]] [],.assign 1<|.aA 205 [cz],.fm (.cmp cm [.Eq] [cI 1]) [.ret<|.bw uz [.list ai [cz]]] [],.mZ [2,3] [.list aq [],cz],.for [4] aq (.bw jT [.bin ai .Sub cm<|cI 1]) [.expr<|.gj iZ dE [.bin ai .Add (cI 128)<|.bin ai .Mod jc<|cI 64],.aug 3 .FloorDiv<|cI 64],.assign 5<|.bin ai .Add (.sub (.tup [cI 0,cI 0,cI 192,cI 224,cI 240]) cm) jc,.ret<|.bw uz [.bin ai .Add (.list ai [pM])<|.slice ai dE (.const<|.none) (.const<|.none)<|.neg<|cI 1]]
theorem ahR:O1 212 35 1 9 aat:=dz 35 ["found"] [] rfl
theorem qo {b:Int} (h:bp B x V H=.ok (.int b) H) (z:-2000<=b/\b<=2000) (e:eu 0 b=l):rJ B (.bw jT [x]) V (bp B (.bw jT [x]) V) H=.ok l H:=
 fh (dJ (ae h ar) rfl) (by unfold ev;dsimp only;(refine ah (if_pos ⟨by exact dr<|bk [] [] [(1,xi ei,.g<|.n 4611686018427387904)] rfl,by exact dr<|bk [] [] [(1,xi<|.n 4611686018427387904,xi ei)] rfl,by exact dr<|bk [] [b] [(1,.g<|.n 2000,cA),(1,xi cA,.g<|.n 4611686018427387904)] rfl z.1,by exact dr<|bk [] [b] [(1,cA,.n 2000),(1,xi<|.n 4611686018427387904,xi cA)] rfl z.2⟩) ?_;rw[e]))
theorem qf {p:PV} (h:∃V,fY B E body (D.map ac++aX (n-aa D) am) H=.ok (.ret p,V) H'):kX B E n body D H=.ok p H':=aL h.choose_spec
theorem om {p:PV} (h:m H=.ok p (H++[l])) (A:cZ H=aq) (W:jd p=aq):iO ai m H=.ok p H:=by
 have:=zZ h (by exact(af<|lq rfl)▸A) W
 rwa [lq rfl] at this
theorem oh:nM (H++[l]) (.dR<|aa H)=ac l:=by
 show(H++[l])[aa H]?=_
 (refine ah (ck<|bT _) ?_;refine(af (kE ..))▸?_);rfl
theorem RD (A:cZ H=aq) (t:Tk):b7 212 [.int t.code] H=.ok (.bytes t.b) H:=by
 rw[ahR rfl];have d:∀(x:Int) (b:List UInt8),kX (oI 35) dF 9 aat [.int x] H=.ok (.bytes b) H->iO ai (kX (oI 35) dF 9 aat [.int x]) H=.ok (.bytes b) H:=λx b h=>aH h A rfl
 induction t with
 |c=>exact d _ _ rfl
 |n=>exact d _ _ rfl
 |a=>exact aH (aL<|eS (a8 rfl rfl<|dP rfl) bJ<|bU (az (ae rfl ar) rfl<|qM A 97<|by decide)<|ky (a8 rfl rfl<|fA rfl)<|bI rfl) A rfl
 |e=>
  refine om (l:=[.int 0xA9]) (qf ?_) A rfl
  exact⟨_,(eS (a8 rfl rfl<|dP rfl) bJ (bU (az (ae rfl ar) rfl<|qM A 233<|by decide) (eS (a8 rfl rfl<|fA rfl) bJ (i0 (ae xu<|ae rfl ar) ⟨rfl,by simp⟩
   (rq (qo rfl (by decide) rfl) (iG rfl (ie (jY rfl rfl<|by simp)<|yE rfl rfl rfl bJ) rfl)<|bU rfl<|bI<|dJ (ae (bo rfl (iw rfl rfl rfl mQ<|qe oh nofun (by simp)) rfl) ar) rfl)))))⟩
 |u=>
  refine om (l:=[.int 0xAC,.int 0x82]) (qf ?_) A rfl
  exact⟨_,(eS (a8 rfl rfl<|dP rfl) bJ (bU (az (ae rfl ar) rfl<|qM A 8364<|by decide) (eS (a8 rfl rfl<|fA rfl) bJ (i0 (ae xu<|ae rfl ar) ⟨rfl,by simp⟩
   (rq (qo rfl (by decide) rfl) (iG rfl (ie (jY rfl rfl<|by simp)<|yE rfl rfl rfl bJ)<|iG rfl (ie (jY rfl rfl<|by simp)<|yE rfl rfl rfl bJ) rfl)<|bU rfl<|bI<|dJ (ae (bo rfl (iw rfl rfl rfl mQ<|qe oh nofun (by simp)) rfl) ar) rfl)))))⟩
theorem u5:∀G,(G.map S5).flatten=aw G
 |[]=>rfl
 |t::r=>by(refine(af bv)▸ah SR<|(af<|u5 r)▸?_);rfl
theorem yK (t:Tk):aa t.b<=3:=by rcases t<;>decide
theorem MP (N:aa G<=100) (A:cZ H=aq):b7 290 [.lst<|mA G] H=.ok (.bytes<|aw G) H:=by
 (rewrite[ahJ rfl];refine((u5 ..))▸((tl ..))▸?_)
 refine aH (aL<|bI<|iX rfl rfl (ae (sD (nv rfl) rfl (kN ‹_› (by rfl)) λt _=>⟨_,rfl,az (ae rfl ar) rfl<|RD A t⟩) ar) ?_) A rfl
 have:=vn (H:=H) (j:=[]) (I:=G.map S5) (λb B=>by
  refine aI (b3.mp B) λt _ S=>?_;subst S
  have:=yK t;exact kN ‹_› (by rfl)) (by exact(af (aC ..))▸(kN ‹_› (by rfl)))<|by simp
 rw[gV] at this;exact this
theorem Fc (u:dA G) (A:cZ H=aq):b7 529 [.bytes<|aw G] H=.ok (.bytes<|aw G.reverse) H:=by have N:=fX G;have:=u.len;rw[ahG rfl];refine aH (aL<|bI<|az (ae (iw (az (ae rfl ar) rfl<|zV u A) rfl rfl mQ<|qe rfl nofun (by(rewrite[mA];refine(af (aC ..))▸?_);exact vS ‹_› ‹_› (by rfl))) ar) rfl ?_) A rfl;refine(af<|show(mA G).reverse=mA G.reverse by simp[mA])▸?_;exact MP (by exact(af kQ)▸(vS ‹_› ‹_› (by rfl))) A
theorem pD (h:bp B x V H=r):bp B (.bool i [x]) V H=r:=h
theorem DB (h:bp B x V H=.ok (.bool c) H) (P:c=!i):bp B (.bool i<|x::y::l) V H=.ok (.bool c) H:=
 fh h (fh rfl<|by rw[if_neg<|by rw[P];rcases i<;>decide];rfl)
theorem DC (h:bp B x V H=.ok (.bool i) H) (k:bp B (.bool i<|y::l) V H=r):bp B (.bool i<|x::y::l) V H=r:=
 fh h (fh rfl<|by exact(af<|if_pos rfl)▸k)
theorem RI (h:bp B x V H=.ok (.bool c) H) (k:c=aq->bp B (.bool aq<|y::l) V H=.ok (.bool d) H):bp B (.bool aq<|x::y::l) V H=.ok (.bool<|c&&d) H:=by
 cases c with
 |false=>exact DB h rfl
 |true=>exact DC h<|k rfl
theorem RF (h:bp B x V H=.ok (.bool c) H) (k:c=ai->bp B (.bool ai<|y::l) V H=.ok (.bool d) H):bp B (.bool ai<|x::y::l) V H=.ok (.bool<|c||d) H:=by
 cases c with
 |true=>exact DB h rfl
 |false=>exact DC h<|k rfl
theorem jn:lS .Eq (.bytes a) (.bytes b) H=.ok (a==b) H:=rfl
def yH (G:List Tk) (n:Int) (k:Nat):Bool:=decide ((k:Int)=0)||(mU G n&&(decide (n+k=aa (aw G))||mU G (n+k)))
theorem qT (u:dA G) (A:cZ H=aq) (n:Int) (k:Nat):b7 536 [.bytes<|aw G,.int n,.int k] H=.ok (.bool<|yH G n k) H:=by rw[ahF rfl];exact aH (aL<|bI<|RF (oM rfl rfl<|fA rfl) λ_=>pD<|RI (az (ae rfl<|ae rfl ar) rfl<|lA G n u.K8 u.z A) λ_=>pD<|RF (oM (bo rfl rfl rfl) (dy rfl u.z)<|fA rfl) λ_=>pD<|az (ae rfl<|ae (bo rfl rfl rfl) ar) rfl<|lA G _ u.K8 u.z A) A rfl
theorem EI (W:p≠[]) (h:u6 (aw G) p n=aq):yH G n (aa p)=dO G p n:=by
 have:¬(((aa p):Int)=0):=λq=>W<|cy.mp<|by exact cg (cQ<|bk [aa p] [] [(1,aK,ei),(1,xi ei,aK)] rfl<|aU q)<|cQ<|bk [aa p] [] [(1,ei,aK),(1,xi aK,ei)] rfl<|aU<|af q
 unfold yH dO;rw[h,decide_eq_false this,abc,nL];congr 2;exact decide_eq_decide.mpr<|lu (m:=n+p.length)
theorem yG (o:List UInt8) (lo:Nat):eh o.toArray.size (ac (lo:Int)) am=((lo:Int),((aa o):Int)):=by unfold eh;simp only[G6,aS];rw[if_neg (by exactλM=>bk [lo] [] [(1,xi aK,ei)] rfl M),if_neg<|by exactλM=>bk [aa o] [] [(1,xi aK,ei)] rfl M];simp
theorem EH (o:List UInt8):eh o.toArray.size am am=(((0:Nat):Int),((aa o):Int)):=by unfold eh;simp only[G6,aS];rw[if_neg (by exactλM=>bk [] [] [(1,xi ei,ei)] rfl M),if_neg<|by exactλM=>bk [aa o] [] [(1,xi aK,ei)] rfl M];simp
theorem YI (o:List UInt8) (D:Nat) (h:D<=aa o):eh o.toArray.size (ac 0) (ac (D:Int))=(((0:Nat):Int),(D:Int)):=by unfold eh;simp only[G6,aS];rw[if_neg (by exactλM=>bk [] [] [(1,xi ei,ei)] rfl M),if_neg<|by exactλM=>bk [D] [] [(1,xi aK,ei)] rfl M];simp;exact Wz<|cl h
theorem I5 {n:Nat} (J:bp B x V H=.ok (.bytes o) H) (R:bp B y V H=.ok (.bytes p) H) (Z:bp B z V H=.ok (.int n) H):bp B (.gj .find x [y,z]) V H=.ok (.int<|kU ai (ag o) (ag p) (ac (n:Int)) am) H:=
 iX J rfl (ae R<|ae Z ar) rfl
inductive D2 (ts:List Tk) (p:List UInt8) (b:Nat):Int->Prop
 |none (h:∀m,b<=m->dO ts p m=ai):D2 ts p b (-1)
 |some (n:Nat) (h1:b<=n) (h2:dO ts p n=aq) (h3:∀m,b<=m->m<n->dO ts p m=ai):D2 ts p b n
inductive Wf (ts:List Tk) (p:List UInt8):Int->Prop
 |none (h:∀m,dO ts p m=ai):Wf ts p (-1)
 |some (n:Nat) (h2:dO ts p n=aq) (h3:∀m,n<m->dO ts p m=ai):Wf ts p n
theorem mj (h:u6 (aw G) p n=ai):dO G p n=false:=by unfold dO;refine(af h)▸?_;rfl
theorem Ig {n:Nat} (h:u6 o p n=aq):n+aa p<=aa o:=by unfold u6 at h;simp only[bu,decide_eq_true_eq] at h;exact h.1
def fT:CE:=.bool aq [.cmp jc [.GtE] [cI 0],.not<|.aA 536 [cz,jc,.bw eP [cm]]]
def fB:List CS:=[.assign 3<|.gj Yc cz [cm,.bin ai .Add jc<|cI 1]]
def ffV (G:List Tk) (p:List UInt8) (i r:Int):bO:=[ac<|.bytes<|aw G,ac<|.bytes p,ac<|.int i,ac<|.int r,am,am,am,am]
theorem Vg {n:Nat} {i:Int} (u:dA G) (W:p≠[]) (N:aa p<=1000) (A:cZ H=aq) (h:u6 (aw G) p n=aq):j6 (oI 45) fT (ffV G p i n) (bp (oI 45) fT<|ffV G p i n) H=.ok (!dO G p n) H:=
 kl (a8 rfl rfl<|jB<|decide_eq_true<|bC n) (jg<|gP<|jG<|az (ae rfl<|ae rfl<|ae (dy rfl N) ar) rfl<|ah (qT u A n<|aa p)<|by rw[EI W h])
def FfR (G:List Tk) (p:List UInt8) (b:Nat) (i r:Int) (f:Nat) (H:Hp):Prop:=∃q,D2 G p b q/\hO (λQ=>j6 (oI 45) fT Q<|bp (oI 45) fT Q) (λQ=>fY (oI 45) dF fB Q) f (ffV G p i r) H=.ok (.next,ffV G p i q) H
theorem Zf {n:Nat} (W:p≠[]) (h:u6 o p n=aq):n<aa o:=
 lY (jt<|kR.mpr W) (Ig h)
theorem aef (u:dA G) (W:p≠[]) (N:aa p<=1000) (A:cZ H=aq) (b:Nat) (i:Int) (f:Nat):∀(lo:Nat) (r:Int),aa (aw G)<f+lo->b<=lo->(∀m,b<=m->m<lo->dO G p m=ai)->D1 (aw G) p lo r->FfR G p b i r (f+1) H:=by
 induction f with
 |zero=>
  intro lo r Y B S d
  induction d with
  |none h=>exact⟨-1,.none λm z=>(mN m lo).elim (S m z) λq=>mj<|h m q,ly<|mn<|a8 rfl rfl rfl⟩
  |some n J R y=>exact absurd (Zf W R)<|cW.mpr<|eV<|lY (by rwa [fV] at Y) J
 |succ f o=>
  intro lo r Y B S d
  induction d with
  |none h=>exact⟨-1,.none λm z=>(mN m lo).elim (S m z) λq=>mj<|h m q,ly<|mn<|a8 rfl rfl rfl⟩
  |some n J R y=>
   have U:=Vg (i:=i) u W N A R;have C:∀m,b<=m->m<n->dO G p m=false:=λm c E=>(mN m lo).elim (S m c) λq=>mj<|y m q E
   cases P:dO G p n with
   |true=>exact⟨n,.some n (aN B J) P C,ly<|ah U<|by refine(af P)▸?_;rfl⟩
   |false=>refine aI (o (n+1) _ (by exact cQ<|bk [aa<|aw G,f,lo,n] [] [(1,xi aK,.a (xi bg) cu),(1,cu,io),(1,xi<|.a bg<|xi io,xi aK)] rfl (cl Y)<|cl J) (by exact cQ<|bk [b,lo,n] [] [(1,aK,bg),(1,bg,cu),(1,xi<|xi cu,aK)] rfl (cl B)<|cl J) (λm c E=>(mN m n).elim (C m c) λq=>by refine(af<|cg (iW E) q)▸?_;exact P) (Dt (aw G) p (n+1) (ac ((n+1:Nat):Int))<|yG _ _)) λq X Q=>?_;exact⟨q,X,qH (ah U<|by refine(af P)▸?_;rfl) (bU (I5 rfl rfl<|bo rfl rfl rfl) bJ) Q⟩
theorem Ge (u:dA G) (W:p≠[]) (N:aa p<=1000) (A:cZ H=aq) (b:Nat) (B:b<=aa (aw G)):∃q,D2 G p b q/\b7 543 [.bytes<|aw G,.bytes p,.int<|b+1] H=.ok (.int<|q+1) H:=by have:=u.len;refine aI (aef u W N A b (b+1) 199 b _ (by exact cQ<|bk [aa<|aw G,b] [] [(1,aK,.n 100),(1,xi<|.a (.n 199) bg,xi aK)] rfl<|cl this) (bT _) (λm _ _=>by exact absurd (by assumption)<|cW.mpr<|by assumption) (Dt (aw G) p b (ac (b:Int))<|yG _ _)) λq J R=>⟨q,J,?_⟩;rw[Zg rfl];exact aH (aL<|eS (gP<|gA rfl rfl (bo (dy rfl u.z) rfl rfl)<|decide_eq_true<|by exact⟨dr<|bk [b] [] [(1,xi<|xi aK,ik)] rfl,dr<|bk [b,aa<|aw G] [] [(1,aK,bg),(1,xi<|xi bg,xi aK)] rfl<|cl B⟩) bJ<|bU (I5 rfl rfl<|bo rfl rfl<|congrArg (λx=>dt (dq x) H)<|cr _ 1)<|nX R<|bI rfl) A rfl
theorem M8 (o:List UInt8) (b:Nat) (B:b<=aa o):kU ai (ag o) #[] (ac (b:Int)) am=b:=by
 have Y:=Dt o [] b (ac (b:Int))<|yG _ _
 have L:u6 o [] b=true:=by unfold u6;simpa using B
 generalize Z:kU ai (ag o) [].toArray (ac (b:Int)) am=r at Y
 induction Y with
 |none h=>rw[h b<|bT _] at L;cases L
 |some n J R y=>
  by_cases q:n=b
  ·rw[q]
  ·rw[y b (bT _)<|p0 J<|js q] at L;cases L
theorem BN (u:dA G) (A:cZ H=aq) (b:Nat) (B:b<=aa (aw G)):b7 543 [.bytes<|aw G,.bytes [],.int<|b+1] H=.ok (.int<|b+1) H:=by
 have Y:bp (oI 45) (.gj Yc cz [cm,.bin ai .Sub dE<|cI 1]) [ac<|.bytes<|aw G,ac<|.bytes [],ac<|.int<|b+1,am,am,am,am,am] H=.ok (.int b) H:=by refine ah (I5 rfl rfl<|bo rfl rfl<|congrArg (λx=>dt (dq x) H)<|cr _ 1) ?_;rw[show kU ai (ag<|aw G) (ag ([]:List UInt8)) (ac (b:Int)) am=b from M8 _ b B]
 rw[Zg rfl];exact aH (aL<|eS (gP<|gA rfl rfl (bo (dy rfl u.z) rfl rfl)<|decide_eq_true<|by exact⟨dr<|bk [b] [] [(1,xi<|xi aK,ik)] rfl,dr<|bk [b,aa<|aw G] [] [(1,aK,bg),(1,xi<|xi bg,xi aK)] rfl<|cl B⟩) bJ<|bU Y<|nX (ly<|a u A)<|bI rfl) A rfl
where a {V:bO} {b:Nat} {i:Int} (u:dA G) (A:cZ H=aq):j6 (oI 45) fT (ac (.bytes<|aw G)::ac (.bytes [])::ac (.int i)::ac (.int b)::V) (bp (oI 45) fT<|ac (.bytes<|aw G)::ac (.bytes [])::ac (.int i)::ac (.int b)::V) H=.ok ai H:=kl (a8 rfl rfl<|jB<|decide_eq_true<|bC _)<|jg<|gP (c:=aq)<|jG<|az (ae rfl<|ae rfl<|ae rfl ar) rfl<|ah (qT u A b 0)<|by simp[yH]
theorem Ng (u:dA G) (A:cZ H=aq) (n:Int) (h:¬(1<=n/\n<=aa (aw G)+1)):b7 543 [.bytes<|aw G,.bytes p,.int n] H=.exc (gy (aw G)<|mv n) H:=by rw[Zg rfl];exact b9 (cY<|tI (gP<|gA rfl rfl (bo (dy rfl u.z) rfl rfl)<|decide_eq_false h)<|mO (ae rfl<|ae (bx (ae (bx (ae rfl<|ae rfl ar)<|by simp)<|ae (az (ae rfl ar) rfl<|j8 A n) ar)<|by simp) ar)<|qt A rfl) A<|fa rfl
def lT:CE:=.bool aq [.cmp dE [.GtE] [cI 0],.not<|.aA 536 [cz,dE,.bw eP [cm]]]
def lB:List CS:=[.assign 2<|.gj S6 cz [cm,cI 0,.bin ai .Sub (.bin ai .Add dE<|.bw eP [cm])<|cI 1]]
def flV (G:List Tk) (p:List UInt8) (r:Int):bO:=[ac<|.bytes<|aw G,ac<|.bytes p,ac<|.int r,am,am]
theorem Ve (u:dA G) (W:p≠[]) (N:aa p<=1000) (A:cZ H=aq) (h:u6 (aw G) p n=aq):j6 (oI 43) lT (flV G p n) (bp (oI 43) lT<|flV G p n) H=.ok (!dO G p n) H:=
 kl (a8 rfl rfl<|jB<|decide_eq_true<|bC n) (jg<|gP<|jG<|az (ae rfl<|ae rfl<|ae (dy rfl N) ar) rfl<|ah (qT u A n<|aa p)<|by rw[EI W h])
def FlR (G:List Tk) (p:List UInt8) (r:Int) (f:Nat) (H:Hp):Prop:=∃q,Wf G p q/\hO (λQ=>j6 (oI 43) lT Q<|bp (oI 43) lT Q) (λQ=>fY (oI 43) dF lB Q) f (flV G p r) H=.ok (.next,flV G p q) H
theorem aed (u:dA G) (W:p≠[]) (N:aa p<=1000) (A:cZ H=aq) (f:Nat):∀(D:Nat) (r:Int),D<=f->D<=aa (aw G)->(∀m,D<m+aa p->dO G p m=ai)->Le (aw G) p D r->FlR G p r (f+1) H:=by
 have am:∀(f D:Nat),(∀m,D<m+aa p->dO G p m=ai)->(∀n,n+aa p<=D->u6 (aw G) p n=ai)->FlR G p (-1) (f+1) H:=λf D S h=>⟨-1,.none λm=>(mN D<|m+aa p).elim (S m) λq=>mj<|h m q,ly<|mn<|a8 rfl rfl rfl⟩;have e:=kR.mpr W
 induction f with
 |zero=>
  intro D r Y B S d
  induction d with
  |none h=>exact am 0 D S h
  |some n J R y=>exact absurd e<|cW.mpr<|aN (ch _ n)<|aN J Y
 |succ f o=>
  intro D r Y B S d
  induction d with
  |none h=>exact am (f+1) D S h
  |some n J R y=>
   have U:=Ve u W N A R;have C:∀m,n<m->dO G p m=false:=λm c=>(mN D<|m+aa p).elim (S m) λq=>mj<|y m q c
   cases P:dO G p n with
   |true=>exact⟨n,.some n P C,ly<|ah U<|by refine(af P)▸?_;rfl⟩
   |false=>
    obtain⟨k,Z⟩:∃k,n+p.length=k+1:=⟨n+aa p-1,((bQ<|aN e (ch ..)).symm)⟩
    refine aI (o k _ (by exact cQ<|bk [D,f,n,aa p,k] [] [(1,aK,xi bg),(1,.a cu io,aK),(1,xi<|.v 4,.a cu io),(1,xi bg,.v 4)] rfl (cl Y) (cl J)<|cl<|ao<|af Z) (by exact cQ<|bk [D,aa<|aw G,n,aa p,k] [] [(1,aK,bg),(1,.a cu io,aK),(1,xi<|.v 4,.a cu io),(1,xi bg,.v 4)] rfl (cl B) (cl J)<|cl<|ao<|af Z) (λm c=>(mN n m).elim (C m) λq=>by
     exact(af<|show m=n by exact cg (cQ<|bk [m,n] [] [(1,aK,bg),(1,xi bg,aK)] rfl<|cl q)<|cQ<|bk [n,p.length,k,m] [] [(1,.a aK bg,xi cu),(1,xi cu,.a io bg),(1,xi io,aK)] rfl (cl<|ao Z)<|cl c)▸P) (y2 (aw G) p k (by exact cQ<|bk [D,aa<|aw G,n,aa p,k] [] [(1,aK,bg),(1,.a cu io,aK),(1,xi<|.v 4,.a cu io),(1,xi bg,.v 4)] rfl (cl B) (cl J)<|cl<|ao<|af Z) (ac 0) (ac (k:Int))<|YI _ _ (by exact cQ<|bk [D,aa<|aw G,n,aa p,k] [] [(1,aK,bg),(1,.a cu io,aK),(1,xi<|.v 4,.a cu io),(1,xi bg,.v 4)] rfl (cl B) (cl J)<|cl<|ao<|af Z))) λq X Q=>?_
    refine⟨q,X,qH (ah U<|by rw[P];rfl) (bU (iX rfl rfl (ae rfl<|ae rfl<|ae (bo (bo rfl (dy rfl N) rfl) rfl<|show _=dt (dq k) H from ?_) ar) rfl) bJ) Q⟩;exact congrArg (λx=>dt (dq x) H)<|by exact cE (dr<|bk [n,p.length,k] [] [(1,.a aK bg,xi cu),(1,xi cu,.s (.a aK bg) ik)] rfl<|cl<|ao Z)<|dr<|bk [k,n,p.length] [] [(1,xi aK,.a bg cu),(1,xi<|.s (.a bg cu) ik,aK)] rfl<|cl<|ao<|af Z
theorem UD (u:dA G) (W:p≠[]) (N:aa p<=1000) (A:cZ H=aq):∃q,Wf G p q/\b7 550 [.bytes<|aw G,.bytes p] H=.ok (.int<|q+1) H:=by have:=u.len;refine aI (aed u W N A 199 (aa<|aw G) _ (kN ‹_› (by rfl)) (bT _) (λm z=>mj<|by unfold u6;rw[decide_eq_false<|by exactλM=>bk [aa<|aw G,m,aa p] [] [(1,xi aK,.a bg cu),(1,.a bg cu,aK)] rfl (cl z)<|cl M];rfl) (y2 (aw G) p _ (bT _) am am (EH _))) λq J R=>?_;refine⟨q,J,?_⟩;rw[ack rfl];exact aH (aL<|bU (iX rfl rfl (ae rfl ar) rfl)<|nX R<|bI rfl) A rfl
theorem HU (o:List UInt8):kU aq (ag o) #[] am am=aa o:=by
 have Y:=y2 o [] (aa o) (bT _) am am<|EH _
 have L:u6 o [] (aa o)=true:=by unfold u6;simp
 generalize Z:kU aq (ag o) [].toArray am am=r at Y
 induction Y with
 |none h=>rw[h (aa o)<|bT _] at L;cases L
 |some n J R y=>
  have:=Ig R;by_cases q:n=aa o
  ·rw[q]
  ·rw[y (aa o) (bT _)<|by simp at this;exact p0 this q] at L;cases L
theorem QG (u:dA G) (A:cZ H=aq):b7 550 [.bytes<|aw G,.bytes []] H=.ok (.int<|aa (aw G)+1) H:=by
 have Y:bp (oI 43) (.gj S6 cz [cm]) [ac<|.bytes<|aw G,ac<|.bytes [],am,am,am] H=.ok (.int<|aa<|aw G) H:=by refine ah (iX rfl rfl (ae rfl ar) rfl) ?_;show dt (dq<|kU aq (ag<|aw G) #[] am am) H=_;rw[HU]
 rw[ack rfl];exact aH (aL<|bU Y<|nX (ly<|kl (a8 rfl rfl<|jB<|decide_eq_true<|bC _)<|jg<|gP (c:=aq)<|jG<|az (ae rfl<|ae rfl<|ae rfl ar) rfl<|ah (qT u A _ 0)<|by simp[yH])<|bI rfl) A rfl
def sB:List CS:=[.assign 4<|.aA 543 [cz,cm,jc],.fm (.cmp lk [.Eq] [cI 0]) [.ret<|.bin ai .Add dE<|.list ai [.slice ai cz (.bin ai .Sub jc<|cI 1) (.const<|.none)<|.const<|.none]] [],.expr<|.gj iZ dE [.slice ai cz (.bin ai .Sub jc<|cI 1) (.bin ai .Sub lk<|cI 1)<|.const<|.none],.assign 3<|.bin ai .Add lk<|.bw eP [cm]]
theorem nt {n:Nat}:(((n:Int)+1)-1)=n:=cr _ _
theorem yu (e:H[j]?=ac l) (z:aa l+aa r<=1000):C0 ai .Add (.dR j) (.lst r) H=.ok (.lst<|l++r) H:=by
 unfold C0;rw[if_neg (by decide),if_pos ⟨rfl,rfl⟩];refine lj e<|lj rfl ?_
 rw[if_pos<|kN ‹_› (by rfl)];rfl
theorem ab1 (U:dA G) (W:p≠[]) (N:aa p<=1000) (A:cZ H=aq):∀(f b:Nat) (S) (y),aa (aw G)<f+b->b<=aa (aw G)->aa S<=b->
 ∃V l,hO (λQ=>j6 (oI 32) (.const<|.bool aq) Q<|bp (oI 32) (.const<|.bool aq) Q) (λQ=>fY (oI 32) dF sB Q) f [ac<|.bytes<|aw G,ac<|.bytes p,ac<|.dR<|aa H,ac<|.int<|b+1,y,am,am,am] (H++[S.map .bytes])=
  .ok (.ret<|.lst<|(S++qU (aw G) (aa p) (eY G p) b).map .bytes,V) (H++[l]):=by
 intro f
 induction f with
 |zero=>intro b S y Y B I;exact absurd (fV b▸Y)<|cW.mpr B
 |succ f o=>
  intro b S y Y B I;have:=U.len;have e:=kR.mpr W;have i:cZ (H++[S.map qx])=true:=nY A<|na (λ_=>rfl) S
  refine aI (Ge U W N i b B) λq J R=>?_;have g:(H++[S.map .bytes])[aa H]?=ac (S.map .bytes):=by(refine ah (ck<|bT _) ?_;refine(af (kE ..))▸?_);rfl
  induction J with
  |none h=>
   refine(af<|BX<|zI h)▸?_;refine⟨_,S.map .bytes,abQ rfl<|bU (az (ae rfl<|ae rfl<|ae rfl ar) rfl R)<|ky (a8 rfl rfl rfl)<|bI<|bo rfl (iH (ae (iw (l:=.int b) rfl (bo rfl rfl ?_) rfl rfl<|CF U.z) ar)<|by simp) ?_⟩
   ·exact congrArg (λx=>dt (dq x) _) nt
   ·refine ah (yu g<|by simp;exact aN (aN (by assumption)<|aN (by assumption)<|by assumption)<|by decide) ?_;simp
  |some n Z X T=>
   have O:n+aa p<=aa (aw G):=by unfold dO at X;simp only[bu] at X;exact Ig X.1
   refine lm (o (n+aa p) (S++[((aw G).drop b).take<|n-b]) (ac<|.int<|n+1) (by exact cQ<|bk [aa<|aw G,f,b,aa p,n] [] [(1,xi aK,.a (xi bg) cu),(1,xi ei,io),(1,cu,.v 4),(1,xi<|.a bg<|.a (.v 4) io,xi aK)] rfl (cl Y) (cl e)<|cl Z) O<|by simp;exact cQ<|bk [S.length,b,p.length,n] [] [(1,aK,bg),(1,xi ei,cu),(1,bg,io),(1,xi<|.a io cu,xi aK)] rfl (cl I) (cl e)<|cl Z) λV l d=>?_
   refine⟨V,l,qH (P:=H++[S.map .bytes++[.bytes<|((aw G).drop b).take<|n-b]]) rfl (bU (az (ae rfl<|ae rfl<|ae rfl ar) (by kernel_rfl) R) (eS (c:=ai) (a8 rfl rfl<|fA<|decide_eq_false<|by exactλM=>bk [n] [] [(1,xi aK,ei)] rfl<|aU M) bJ
    (ie (jY (l:=S.map .bytes) rfl (iw (l:=.int b) (u:=.int n) rfl (bo rfl rfl ?_) (bo rfl rfl ?_) rfl<|oz U.z)<|by simp;exact cQ<|bk [b,(aw G).length,S.length] [] [(1,aK,bg),(1,cu,aK),(1,bg,.n 100),(1,xi<|.n 16777216,cu)] rfl (cl B) (cl I)<|cl this)<|bU (p:=.int<|(n+p.length:Nat)+1) (bo rfl (dy rfl N) ?_) bJ))) ?_⟩
   ·exact congrArg (λx=>dt (dq x) _) nt
   ·exact congrArg (λx=>dt (dq x) _) nt
   ·exact congrArg (λx=>dt (dq x) _)<|show(n:Int)+1+p.length=((n+p.length:Nat):Int)+1 by exact cE (dr<|bk [n,p.length] [] [(1,xi<|xi<|.a aK bg,.a (xi aK) bg)] rfl)<|dr<|bk [n,p.length] [] [(1,xi<|.a (xi aK) bg,xi<|.a aK bg)] rfl
   ·refine(af<|BW e Z<|Gf Z X T)▸?_;simp only[b4,fc] at d|-
    exact d
theorem Ps (u:dA G) (W:p≠[]) (N:aa p<=1000) (A:cZ H=aq):b7 555 [.bytes<|aw G,.bytes p] H=.ok (.lst<|(qU (aw G) (aa p) (eY G p) 0).map .bytes) H:=by
 have:=u.len;refine lm (ab1 u W N A 200 0 [] am (by exact bY (by assumption)<|by decide) (by exact cQ<|bk [aa<|aw G] [] [(1,xi aK,ei)] rfl)<|by simp) λV l h=>?_;have X:(p==([]:List UInt8))=false:=by simpa using W
 rw[ahE rfl];exact om (aL<|eS (c:=ai) (a8 rfl rfl<|by(refine ah jn ?_;rw[X])) bJ<|i0 (ae xu<|ae rfl ar) ⟨rfl,by simp⟩<|OM h) A<|by show gY _=aq;exact na (λ_=>rfl) _
theorem wq (f:Z->Int):∀l:List Z,xk (l.map λx=>.int<|f x)=ac (l.map f)
 |[]=>rfl
 |x::l=>by show(xk<|l.map λx=>.int<|f x).map _=_;refine(af<|wq f l)▸?_;rfl
noncomputable def lN (I:List (List UInt8)):Int:=(I.map λb=>((aa b):Int)).sum
theorem BD:∀bs,(∀b∈bs,aa b<=900)->0<=lN bs/\lN bs<=aa bs*900
 |[],_=>by simp[lN]
 |b::bs,h=>by
  have J:=BD bs λx T=>h x<|by simp[T]
  have R:=h b<|by simp
  have e:lN (b::bs)=aa b+lN bs:=by simp[lN]
  refine(af e)▸?_;simp only[bN];exact⟨dr<|bk [aa b] [lN bs] [(1,ei,cA),(1,xi<|.a aK cA,ei)] rfl J.1,dr<|bk [aa bs,aa b] [lN bs] [(1,cA,.r aK 900),(1,bg,.n 900),(1,xi<|.r (xi aK) 900,.a bg cA)] rfl J.2<|cl R⟩
theorem Pa {I:List (List UInt8)} (h:∀b∈I,aa b<=900) (P:aa I<=200):LQ [.lst<|I.map λb=>.int<|aa b] H=.ok (.int<|lN I) H:=by
 have e:LQ [.lst<|I.map λb=>dq b.length] H=bG (xk<|I.map λb=>dq b.length) (λj=>if r7 j=aq then ay (dq j.sum) else aQ) H:=rfl
 (refine ah e<|(af (wq (λb:List UInt8=>((aa b):Int)) ..))▸?_)
 refine ah (congrFun (if_pos ?_) H) ?_;rotate_left
 ·rfl
 ·unfold r7;simp only[bu,cn,decide_eq_true_eq,aC,b3];refine⟨λx T=>?_,kN ‹_› (by rfl)⟩;refine aI T λb B S=>?_;subst S;have:=h b B;exact⟨dr<|bk [aa b] [] [(1,xi aK,ei)] rfl,dr<|bk [aa b] [] [(1,aK,.n 900),(1,xi<|.n 1099511627776,xi aK)] rfl<|cl this⟩
theorem uA {n:Int} (A:cZ H=aq) (h:n<=200000):b7 474 [.int n] H=.ok .none H:=by rw[acp rfl];exact aH (wd<|eS (a8 rfl rfl<|jm<|decide_eq_false<|by exactλM=>bk [] [n] [(1,cA,.n 200000),(1,xi<|.n 200000,cA)] rfl h M) bJ bJ) A rfl
noncomputable def P3:List Nat:=[79,118,101,114,102,108,111,119,69,114,114,111,114]
noncomputable def EQ:List UInt8:=[97,32,116,101,120,116,32,111,102,32,116,111,111,32,109,97,110,121,32,111,99,116,101,116,115]
theorem GI {n:Int} (A:cZ H=aq) (h:200000<n):b7 474 [.int n] H=.exc (yL P3 EQ) H:=by rw[acp rfl];exact b9 (cY<|tI (a8 rfl rfl<|jm<|decide_eq_true<|by with_reducible assumption)<|mO (ae rfl<|ae rfl ar)<|ox A rfl) A rfl
theorem qm {a b:Int} (h:iE a=aq):C0 ai .Mult (.int a) (.int b) H=.ok (.int<|a*b) H:=by show(if(iE a||iE b)=aq then ay (dq<|a*b) else aQ) H=_;refine(af h)▸?_;rfl
theorem FS (h:∀b∈I,aa b<=900) (P:aa I<=200) (d:aa j<=2) (A:cZ H=aq):
 kX (oI 36) dF 6 aar [.lst<|I.map .bytes,.bytes j] H=.ok (.bytes<|oG j I) H:=by
 refine bD (BD I h) λJ R=>?_
 have C:((aa j):Int)*(if((aa I):Int)-1>0 then((aa I):Int)-1 else 0)<=2*200:=by
  have:(if((aa I):Int)-1>0 then((aa I):Int)-1 else 0)<=200/\0<=(if((aa I):Int)-1>0 then((aa I):Int)-1 else 0):=by split;exact⟨fW (Int.sub_le_self _ (by decide))<|cl P,sZ ‹_›⟩;decide
  exact Int.mul_le_mul (by exact dI.mpr<|by with_reducible assumption) this.1 this.2<|by exact dr<|bk [] [] [(1,xi<|.n 2,ei)] rfl
 refine aL<|ie (az (ae (bo (dJ (ae (sD (nv rfl) rfl (kN ‹_› (by rfl)) λb B=>⟨_,rfl,dy rfl (by have:=h b B;exact kN ‹_› (by rfl))⟩) ar)<|Pa h P) (bo (dy rfl<|kN ‹_› (by rfl)) (dJ (ae rfl<|ae (bo (dJ (ae rfl ar)<|BB<|by exact(af (aC ..))▸(kN ‹_› (by rfl))) rfl rfl) ar) rfl)<|qm<|by simp[iE];exact⟨dr<|bk [aa j] [] [(1,xi aK,xi<|.g<|.n 9223372036854775808)] rfl,dr<|bk [aa j] [] [(1,aK,.n 2),(1,xi<|.n 9223372036854775808,xi aK)] rfl<|cl d⟩) rfl) ar) rfl<|uA A ?_)<|bI<|iX rfl rfl (ae rfl ar)<|vn (λb B=>by have:=h b B;exact kN ‹_› (by rfl)) P<|kN ‹_› (by rfl)
 refine(af (aC ..))▸?_;exact fW (Ei (fW R<|ju (cl P)<|by decide) C)<|by decide
theorem QP (h:∀b∈I,aa b<=900) (P:aa I<=200) (d:aa j<=2) (A:cZ H=aq):b7 515 [.lst<|I.map .bytes,.bytes j] H=.ok (.bytes<|oG j I) H:=by rw[ahH rfl];exact aH (FS h P d A) A rfl
theorem FU {I:List (List UInt8)} (h:∀b∈I,aa b<=900) (P:aa I<=200) (A:cZ H=aq):b7 515 [.lst<|I.map .bytes] H=.ok (.bytes I.flatten) H:=by
 (refine(af<|show b7 515 [.lst<|I.map .bytes]=_ from Fu (v:=sb) (E:=dF) (j:=sx) (f:=⟨515,83,ai,[],[.bytes []]⟩) (i:=35) (l:=6) (c:=aar) (d:=.bytes []) (by kernel_rfl) (by kernel_rfl) (by kernel_rfl) (by kernel_rfl) (by kernel_rfl) rfl)▸((tl ..))▸?_)
 exact aH (FS h P (by simp) A) A rfl
theorem DI {k:Nat}:∀{l b},(∀x∈qU o k l b,aa x<=aa o)/\aa (qU o k l b)<=aa l+1
 |[],b=>⟨λx hx=>by simp only[Gr,aV] at hx;(refine(af hx)▸(af hY)▸?_);exact cQ<|bk [aa o-b,aa o] [] [(1,aK,bg),(1,xi bg,aK)] rfl<|cl<|sV _ _,by simp[Gr]⟩
 |n::l,b=>by
  rw[BY];split
  ·refine bD (DI) λJ R=>⟨λx hx=>?_,by simp;with_reducible assumption⟩;rcases aM.mp hx with rfl|hx
   ·(refine(af rF)▸(af hY)▸?_);exact cQ<|bk [aa o-b,aa o,min (n-b)<|aa o-b] [] [(1,aK,bg),(1,cu,aK),(1,xi bg,cu)] rfl (cl<|sV _ _)<|cl<|Ws _ _
   ·exact J x hx
  ·exact bD (DI) λJ R=>⟨J,by simp;exact cQ<|bk [aa<|qU o k l b,aa l] [] [(1,aK,xi bg),(1,xi<|xi<|xi bg,aK)] rfl<|cl R⟩
def AW (G:List Tk) (p:List UInt8):List (List UInt8):=qU (aw G) (aa p) (eY G p) 0
theorem DJ (u:dA ts):(∀x∈AW ts p,aa x<=100)/\aa (AW ts p)<=101:=by
 have J:=DI (o:=aw ts) (k:=p.length) (l:=eY ts p) (b:=0)
 have R:aa (eY ts p)<=aa ts:=by
  unfold eY;have:=gb (dO ts p)<|dj 0 ts
  rw[eO] at this;exact this
 have y:=fX ts;have X:=u.len;exact⟨λx T=>by have:=J.1 x T;exact vS ‹_› ‹_› (by rfl),by have:=J.2;unfold AW;exact cQ<|bk [aa<|qU (aw ts) (aa p) (eY ts p) 0,aa<|eY ts p,aa ts,aa<|aw ts] [] [(1,aK,xi bg),(1,bg,cu),(1,cu,io),(1,io,.n 100),(1,xi<|.n 101,aK)] rfl (cl J.2) (cl R) (cl y)<|cl X⟩
theorem Fg (u:dA G) (W:p≠[]) (N:aa p<=1000) (A:cZ H=aq) (d:aa j<=2):b7 562 [.bytes<|aw G,.bytes p,.bytes j] H=.ok (.bytes<|oG j<|AW G p) H:=by
 have P:=DJ (p:=p) u;have X:(p==([]:List UInt8))=false:=by simpa using W
 rw[acj rfl];exact aH (aL<|eS (a8 rfl rfl<|by(refine ah jn ?_;rw[X])) bJ<|bI<|az (ae (az (ae rfl<|ae rfl ar) rfl<|Ps u W N A)<|ae rfl ar) rfl<|QP (λb B=>by have:=P.1 b B;exact kN ‹_› (by rfl)) (by unfold AW at P;exact cQ<|bk [aa<|qU (aw G) (aa p) (eY G p) 0] [] [(1,aK,.n 101),(1,xi<|.n 200,aK)] rfl<|cl P.2) d A) A rfl
noncomputable def Zl:List UInt8:=[110,111,116,104,105,110,103,32,99,97,110,110,111,116,32,98,101,32,114,101,112,108,97,99,101,100]
theorem CM (A:cZ H=aq):b7 562 [.bytes o,.bytes [],.bytes j] H=.exc (yL ng Zl) H:=by rw[acj rfl];exact b9 (cY<|tI (a8 rfl rfl rfl)<|mO (ae rfl<|ae rfl ar)<|ox A rfl) A rfl
theorem yQ (u:dA G) (N:aa p<=1000) (A:cZ H=aq):b7 576 [.bytes<|aw G,.bytes p] H=.ok (.bool<|((aw G).take (aa p)==p)&&(decide (((aa p):Int)=aa (aw G))||mU G (aa p))) H:=by rw[ahD rfl];exact aH (aL<|bI<|RI (oM (iw rfl rfl (dy rfl N) rfl<|TK u.z) rfl jn) λ_=>pD<|RF (oM (dy rfl N) (dy rfl u.z)<|fA rfl) λ_=>pD<|az (ae rfl<|ae (dy rfl N) ar) rfl<|lA G _ u.K8 u.z A) A rfl
theorem Dx (u:dA G) (N:aa p<=1000) (A:cZ H=aq) (h:aa (aw G)<aa p):b7 583 [.bytes<|aw G,.bytes p] H=.ok (.bool ai) H:=by rw[aci rfl];exact aH (aL<|bU (bo (dy rfl u.z) (dy rfl N) rfl)<|bI<|DB (oM rfl rfl<|jB<|decide_eq_false<|by exactλM=>bk [aa<|aw G,aa p] [] [(1,xi aK,bg),(1,ei,.s aK bg)] rfl (cl h) M) rfl) A rfl
theorem Dw {n:Nat} (u:dA G) (N:aa p<=1000) (A:cZ H=aq) (h:aa (aw G)=n+aa p):b7 583 [.bytes<|aw G,.bytes p] H=.ok (.bool<|((aw G).drop n==p)&&((p==[])||mU G n)) H:=by
 have e:((aa<|aw G):Int)-aa p=n:=by exact cE (dr<|bk [aa<|aw G,n,aa p] [] [(1,aK,.a bg cu),(1,xi bg,.s aK cu)] rfl<|cl<|ao h)<|dr<|bk [n,aa p,aa<|aw G] [] [(1,.a aK bg,cu),(1,xi<|.s cu bg,aK)] rfl<|cl<|ao<|af h
 rw[aci rfl];exact aH (aL<|bU (bo (dy rfl u.z) (dy rfl N)<|congrArg (λx=>dt (dq x) H) e)<|bI<|DC (oM rfl rfl<|jB<|decide_eq_true<|by with_reducible exact bC _)<|RI (oM (iw rfl rfl rfl rfl<|CF u.z) rfl jn) λ_=>pD<|RF (oM rfl rfl jn) λ_=>pD<|az (ae rfl<|ae rfl ar) rfl<|lA G _ u.K8 u.z A) A rfl
theorem Pc {a b:Int} (A:cZ H=aq) (h:a<=b) (W:jd D=aq) (J:b7 467 [.bytes o,.int a] H=.exc D H):b7 509 [.bytes o,.int a,.int b] H=.exc D H:=by rw[Zh rfl];exact b9 (cY<|eS (a8 rfl rfl<|dP<|decide_eq_false<|by exactλM=>bk [] [a,b] [(1,cA,.w 1),(1,xi<|.w 1,cA)] rfl h M) bJ<|s6<|az (ae rfl<|ae rfl ar) rfl J) A W
theorem Pb {a b:Int} (A:cZ H=aq) (h:a<=b) (W:jd D=aq) (J:b7 467 [.bytes o,.int a] H=.ok .none H) (R:b7 467 [.bytes o,.int b] H=.exc D H):b7 509 [.bytes o,.int a,.int b] H=.exc D H:=by rw[Zh rfl];exact b9 (cY<|eS (a8 rfl rfl<|dP<|decide_eq_false<|by exactλM=>bk [] [a,b] [(1,cA,.w 1),(1,xi<|.w 1,cA)] rfl h M) bJ<|ie (az (ae rfl<|ae rfl ar) rfl J)<|s6<|az (ae rfl<|ae rfl ar) rfl R) A W
theorem YT {a:Nat} {b:Int} (u:dA (p++t::q)) (A:cZ H=aq) (B:b=aa (aw p)+1) (h:a<=aa (aw p)) (I:mU (p++t::q) a=aq):
 b7 509 [.bytes<|aw<|p++t::q,.int<|a+1,.int b] H=.ok (.bytes<|((aw<|p++t::q).drop a).take<|aa (aw p)+aa t.b-a) H:=by
 subst B;have m:mU (p++t::q) ((a:Int)+1-1)=true:=by exact(af (cr ..))▸I
 have i:mU (p++t::q) (((aa<|aw p):Int)+1-1)=true:=by exact(af (cr ..))▸vq p q t
 rw[Zh rfl];refine aH (aL<|eS (a8 rfl rfl<|dP<|decide_eq_false<|by exactλM=>bk [a,aa<|aw p] [] [(1,aK,bg),(1,xi<|xi bg,xi aK)] rfl (cl h) M) bJ<|ie (az (ae rfl<|ae rfl ar) rfl<|qs u A m)<|ie (az (ae rfl<|ae rfl ar) rfl<|qs u A i)<|bI<|iw rfl (bo rfl rfl ?_) (bz (az (ae rfl<|ae (bo rfl rfl ?_) ar) rfl<|pF u.K8 u.z A) rfl rfl) rfl<|oz u.z) A rfl
 ·exact congrArg (λx=>dt (dq x) H) nt
 ·exact congrArg (λx=>dt (dq x) H) nt
noncomputable def ade:List UInt8:=[97,32,116,101,120,116,32,99,97,110,110,111,116,32,115,116,97,110,100,32,108,101,115,115,32,116,104,97,110,32,110,111,32,116,105,109,101,115]
theorem TZ {n:Int} (A:cZ H=aq) (h:n<0):b7 522 [.bytes o,.int n] H=.exc (yL ng ade) H:=by rw[Uj rfl];exact b9 (cY<|tI (a8 rfl rfl<|dP<|decide_eq_true h)<|mO (ae rfl<|ae rfl ar)<|ox A rfl) A rfl
theorem Bn {n:Nat} (h:n<=1000):iE (n:Int)=true:=by simp[iE];exact⟨dr<|bk [n] [] [(1,xi aK,xi<|.g<|.n 9223372036854775808)] rfl,dr<|bk [n] [] [(1,aK,.n 1000),(1,xi<|.n 9223372036854775808,xi aK)] rfl<|cl h⟩
theorem PJ (A:cZ H=aq) (N:aa o<=1000) {n:Int} (h:0<=n) (B:200000<((aa o):Int)*n):b7 522 [.bytes o,.int n] H=.exc (yL P3 EQ) H:=by rw[Uj rfl];exact b9 (cY<|eS (a8 rfl rfl<|dP<|decide_eq_false<|by exactλM=>bk [] [n] [(1,ei,cA),(1,xi cA,ei)] rfl h M) bJ<|s6<|az (ae (bo (dy rfl N) rfl<|qm<|Bn N) ar) rfl<|GI A B) A rfl
theorem TY {n:Int} (A:cZ H=aq) (h:0<=n):b7 522 [.bytes [],.int n] H=.ok (.bytes []) H:=by rw[Uj rfl];exact aH (aL<|eS (a8 rfl rfl<|dP<|decide_eq_false<|by exactλM=>bk [] [n] [(1,ei,cA),(1,xi cA,ei)] rfl h M) bJ<|ie (az (ae (bo (dy rfl<|by simp) rfl<|qm rfl) ar) rfl<|uA A<|by simp)<|bI<|dZ (a8 rfl rfl rfl) rfl) A rfl
theorem n5:lS .NotEq (.bytes a) (.bytes b) H=.ok (!(a==b)) H:=rfl
theorem Kz {n:Nat} (F:n<=8) (L:o≠[]) (N:aa o<=1000):C0 ai .Mult (.bytes o) (.int n) H=.ok (.bytes (aX n o).flatten) H:=by have y:=Ee N F;show(if o≠[]/\-1048576<=(n:Int)/\(n:Int)<=1048576/\aa o*(n:Int).toNat<=16777216/\aa o<=16777216 then ay (qx (aX (n:Int).toNat o).flatten) else aQ) H=_;rw[if_pos ⟨L,by exact dr<|bk [n] [] [(1,xi aK,.g<|.n 1048576)] rfl,by exact dr<|bk [n] [] [(1,aK,.n 8),(1,xi<|.n 1048576,aK)] rfl<|cl F,by rw[et];exact kN ‹_› (by rfl),kN ‹_› (by rfl)⟩,et];rfl
theorem Y4 (A:cZ H=aq) (L:o≠[]) (N:aa o<=1000) {n:Nat} (F:n<=8):b7 522 [.bytes o,.int n] H=.ok (.bytes (aX n o).flatten) H:=by
 have y:=Ee N F;have X:(!(o==([]:List UInt8)))=true:=by simpa using L
 rw[Uj rfl];refine aH (aL<|eS (a8 rfl rfl<|dP<|decide_eq_false<|by exactλM=>bk [n] [] [(1,xi aK,ei)] rfl M) bJ<|ie (az (ae (bo (dy rfl N) rfl<|qm<|Bn N) ar) rfl<|uA A ?_)<|bI<|fb (a8 rfl rfl<|by(refine ah n5 ?_;rw[X]))<|bo rfl rfl<|Kz F L N) A rfl;exact((Int.natCast_mul ..))▸dr (bk [aa o*n] [] [(1,aK,.m 1000<|.n 8),(1,xi<|.n 200000,aK)] rfl<|cl y)
def aiV:List CS:=[.expr<|.aA 616 [cm],.fm (.not<|.cmp (.bin ai .Sub (cI 0)<|.bin ai .Pow (cI 2)<|cI 4000) [.Lt,.Lt] [cz,.bin ai .Pow (cI 2)<|cI 4000]) [.raise 126 [xs7,cS [97,32,110,117,109,98,101,114,32,111,102,32,116,111,111,32,109,97,110,121,32,102,105,103,117,114,101,115]]] [],.mZ [2,3] [.bw V8 [cz],.list aq []],.while (.bool ai [.cmp dE [.Gt] [cI 0],.cmp jc [.Eq] [.list ai []]]) [.expr<|.gj iZ jc [.sub (cB [48,49,50,51,52,53,54,55,56,57,97,98,99,100,101,102,103,104,105,106,107,108,109,110,111,112,113,114,115,116,117,118,119,120,121,122])<|.bin ai .Mod dE cm],.aug 2 .FloorDiv cm],.ret<|.bin ai .Add (.fm (.cmp cz [.Lt] [cI 0]) (cB [45])<|cB [])<|.bw uz [.slice ai jc (.const<|.none) (.const<|.none)<|.neg<|cI 1]]
theorem ahC:O1 623 19 2 10 aiV:=dz 99 ["found"] [] rfl
theorem V3 (A:cZ H=aq):b7 616 [.int 16] H=.ok .none H:=qj (i:=19) rfl rfl rfl rfl rfl rfl rfl A rfl
theorem ZG {n:Int} (h:0<=n/\n<1000) (C:bp B cz V H=.ok (.int n) H):j6 B (.not<|.cmp (.bin ai .Sub (cI 0)<|.bin ai .Pow (cI 2)<|cI 4000) [.Lt,.Lt] [cz,.bin ai .Pow (cI 2)<|cI 4000]) V (bp B (.not<|.cmp (.bin ai .Sub (cI 0)<|.bin ai .Pow (cI 2)<|cI 4000) [.Lt,.Lt] [cz,.bin ai .Pow (cI 2)<|cI 4000]) V) H=.ok ai H:=by
 have e:∀{B:on} {V:bO},bp B (.bin ai .Pow (cI 2)<|cI 4000) V H=.ok (.int<|2^4000) H:=by intros;kernel_rfl
 have big:(1000:Int)<=2^4000:=by decide+kernel
 generalize (2:Int)^4000=m at*;exact gP<|Cz (bo rfl e rfl) C (dP<|decide_eq_true<|by exact dr<|bk [] [n,m] [(1,ei,cA),(1,.n 1000,.w 1),(1,xi cA,xi<|.s ei<|.w 1)] rfl h.1 big) e<|dP<|decide_eq_true<|by exact dr<|bk [] [n,m] [(1,xi cA,.n 1000),(1,.n 1000,.w 1),(1,xi<|.w 1,xi cA)] rfl h.2 big
def afv:List CS:=[.ret<|.gj MN.rjust (.aA 623 [cz,cI 16]) [cm,cB [48]]]
def R9:List CS:=[.fm (.cmp cz [.In] [.const<|.xT [10,9,13,0,92,36,34] [.bytes [92,110],.bytes [92,116],.bytes [92,114],.bytes [92,48],.bytes [92,92],.bytes [92,36],.bytes [92,34]]]) [.ret<|.sub (.const<|.xT [10,9,13,0,92,36,34] [.bytes [92,110],.bytes [92,116],.bytes [92,114],.bytes [92,48],.bytes [92,92],.bytes [92,36],.bytes [92,34]]) cz] [],.fm (.cmp cz [.Lt] [cI 0]) [.ret<|.bin ai .Add (cB [92,120])<|.aA 635 [.bin ai .Sub (.neg<|cI 1) cz,cI 2]] [],.fm (.bool ai [.cmp cz [.Lt] [cI 32],.cmp cz [.Eq] [cI 127]]) [.ret<|.bin ai .Add (cB [92,120])<|.aA 635 [cz,cI 2]] [],.ret<|.aA 212 [cz]]
theorem acY:O1 635 18 2 3 afv:=dz 101 [] [] rfl
theorem acX:O1 642 17 1 4 R9:=dz 102 [] [] rfl
theorem aae (e:H[j]?=ac (x::l)):lS .Eq (.dR j) (.lst []) H=.ok ai H:=by show zL _ _ H=_;unfold zL;simp only[nM,e];rw[if_pos<|by simp]
theorem Q3 {n:Int} (A:cZ H=aq) (h:0<=n/\n<1000) (U:decide (0<n)=aq) (J:decide (0<n.fdiv 16)=aq) (R:decide (0<(n.fdiv 16).fdiv 16)=ai)
 (L:∀H:Hp,uW (.bytes vz) (.int<|n.fmod 16) H=.ok (.int x.toNat) H) (v:∀H:Hp,uW (.bytes vz) (.int<|(n.fdiv 16).fmod 16) H=.ok (.int y.toNat) H) (I:∀H:Hp,V8 [.int n] H=.ok (.int n) H) (F:decide (n<0)=ai)
 (B:∀H:Hp,uz [.lst [.int y.toNat,.int x.toNat]] H=.ok (.bytes [y,x]) H):b7 635 [.int n,.int 2] H=.ok (.bytes [y,x]) H:=by
 have z:b7 623 [.int n,.int 16] H=.ok (.bytes [y,x]) H:=by
  rw[ahC rfl];refine om (l:=[.int x.toNat,.int y.toNat]) (qf ?_) A rfl
  exact⟨_,ie (az (ae rfl ar) rfl<|V3 A) (eS (ZG h rfl) bJ (i0 (ae (dJ (ae rfl ar)<|I H)<|ae xu ar) ⟨rfl,by simp⟩ (nX
   (qH (Bj<|a8 rfl rfl<|jm U) (ie (jY rfl (bz rfl (bo rfl rfl rfl)<|L _)<|by simp)<|yE rfl rfl rfl bJ)
    (qH (Bj<|a8 rfl rfl<|jm J) (ie (jY rfl (bz rfl (bo rfl rfl rfl)<|v _)<|by simp)<|yE rfl rfl rfl bJ)
     (ly<|tL (a8 rfl rfl<|jm R)<|jg<|a8 rfl rfl<|aae oh)))
   (bI<|bo (dZ (a8 rfl rfl<|dP F) rfl) (dJ (ae (iw rfl rfl rfl mQ<|qe oh nofun (by simp)) ar)<|B _) rfl))))⟩
 rw[acY rfl];exact aH (aL<|bI<|iX (az (ae rfl<|ae rfl ar) rfl z) rfl (ae rfl<|ae rfl ar) rfl) A rfl
noncomputable abbrev aep:PV:=.xT [10,9,13,0,92,36,34] [.bytes [92,110],.bytes [92,116],.bytes [92,114],.bytes [92,48],.bytes [92,92],.bytes [92,36],.bytes [92,34]]
def Tk.Au:Tk->List UInt8
 |.c=>[92,120,99,51]
 |.n=>[92,120,97,57]
 |t=>t.b
theorem aad (A:cZ H=aq) (t:Tk):b7 642 [.int t.code] H=.ok (.bytes t.Au) H:=by
 rw[acX rfl]
 have f:∀(n:Int) (b:List UInt8),b7 635 [.int (-1-n),.int 2] H=.ok (.bytes b) H->aa b<=2->lS .In (.int n) aep H=.ok ai H->n<0->iO ai (kX (oI 17) dF 4 R9 [.int n]) H=.ok (.bytes<|[92,120]++b) H:=λn b h C D F=>
  aH (aL (eS (a8 rfl rfl D) bJ (ky (a8 rfl rfl<|dP<|decide_eq_true F) (bI (bo rfl (az (ae (bo mQ rfl rfl)<|ae rfl ar) rfl h) (by
   show(if 2+aa b<=16777216 then ay (qx<|[92,120]++b) else aQ) H=_
   rw[if_pos<|by exact cQ<|bk [aa b] [] [(1,aK,.n 2),(1,xi<|.n 16777216,.a (.n 2) aK)] rfl<|cl C];rfl)))))) A rfl
 have d:∀(t:Tk),lS .In (.int t.code) aep H=.ok ai H->32<=t.code->t.code≠127->iO ai (kX (oI 17) dF 4 R9 [.int t.code]) H=.ok (.bytes t.b) H:=λt D J R=>aH (aL<|eS (a8 rfl rfl D) bJ<|eS (a8 rfl rfl<|dP<|decide_eq_false<|by exactλM=>bk [] [t.code] [(1,.n 32,cA),(1,xi cA,ei)] rfl J M) bJ<|eS (tL (a8 rfl rfl<|dP<|decide_eq_false<|by exactλM=>bk [] [t.code] [(1,.n 32,cA),(1,xi cA,.n 32)] rfl J M)<|jg<|a8 rfl rfl<|fA<|decide_eq_false R) bJ<|bI<|az (ae rfl ar) rfl<|RD A t) A rfl
 induction t with
 |a=>exact d .a rfl (by decide)<|by decide
 |e=>exact d .e rfl (by decide)<|by decide
 |u=>exact d .u rfl (by decide)<|by decide
 |c=>exact f (-196) [99,51] (Q3 A (by decide) rfl rfl rfl (λ_=>rfl) (λ_=>rfl) (λ_=>rfl) rfl λ_=>rfl) (by decide) rfl<|by decide
 |n=>exact f (-170) [97,57] (Q3 A (by decide) rfl rfl rfl (λ_=>rfl) (λ_=>rfl) (λ_=>rfl) rfl λ_=>rfl) (by decide) rfl<|by decide
open Tk renaming Au->rQ
section
variable {ts p q:List Tk} {o:List UInt8}
def wrB:List CS:=[.fm (.bool aq [.cmp lk [.Eq] [cI 0],.cmp (.bin ai .Add jc<|cI 1) [.Lt] [.bw eP [dE]],.cmp (cI 48) [.LtE,.LtE] [.sub dE<|.bin ai .Add jc<|cI 1,cI 57]]) [.expr<|.gj iZ cm [cB [92,120,48,48]]] [.expr<|.gj iZ cm [.aA 642 [lk]]]]
theorem VJ (t:Tk):decide (t.code=0)=false:=by rcases t<;>rfl
theorem WG (A:cZ H=aq):∀(q) (S) (k:Nat) (x y),aa S+aa q<=1000->∃J i,iu (λQ p=>f9 Q [3,4] ai p) (λQ=>fY (oI 13) dF wrB Q) (jV k<|mA q) [ac<|.bytes o,ac<|.dR<|aa H,ac<|.lst<|mA ts,x,y,am,am,am,am] (H++[S.map .bytes])=
 .ok (.next,[ac<|.bytes o,ac<|.dR<|aa H,ac<|.lst<|mA ts,J,i,am,am,am,am]) (H++[(S++q.map rQ).map .bytes])
 |[],S,k,x,y,_=>⟨x,y,by(refine(af rV)▸(af (fq ..))▸?_);rfl⟩
 |t::q,S,k,x,y,N=>by
  refine lm (WG A q (S++[t.Au]) (k+1) (ac<|.int k) (ac<|.int t.code)<|by simp at N|-;exact cQ<|bk [aa S,aa q] [] [(1,.a aK<|xi bg,.n 1000),(1,xi<|.n 1000,.a (xi aK) bg)] rfl<|cl N) λJ i h=>?_;refine⟨J,i,iG rfl (eS (mn<|a8 rfl rfl<|fA<|VJ t) (ie (jY rfl (az (ae rfl ar) rfl<|aad (nY A<|na (λ_=>rfl) S) t)<|by simp at N|-;exact aN (aN (co _ _)<|by assumption)<|by decide) bJ) bJ) ?_⟩;simp only[b4,fc] at h|-
  exact h
theorem UT (h:bp B x V H=.ok (.lst l) H):rJ B (.enum x) V (bp B (.enum x) V) H=.ok (jV 0 l) H:=fh h rfl
def YH (ts:List Tk):List UInt8:=[34]++(ts.map rQ).flatten++[34]
theorem I2 (t:Tk):aa t.Au<=4:=by rcases t<;>decide
theorem yp:∀(q:List Tk),(q.map rQ).flatten.length<=4*aa q
 |[]=>by simp
 |t::q=>by have:=yp q;have:=I2 t;simp only[bv,SR,aJ,bN];exact cQ<|bk [(rE rQ q).flatten.length,aa q,aa t.Au] [] [(1,aK,.m 4 bg),(1,cu,.n 4),(1,xi<|.m 4<|xi bg,.a cu aK)] rfl (cl<|by assumption)<|cl this
theorem tw (h:aa a+aa b<=1000):C0 ai .Add (.bytes a) (.bytes b) H=.ok (.bytes<|a++b) H:=by show(if aa a+aa b<=16777216 then ay (qx<|a++b) else aQ) H=_;rw[if_pos<|kN ‹_› (by rfl)];rfl
theorem Hj (u:dA ts) (A:cZ H=aq):b7 649 [.bytes<|aw ts] H=.ok (.bytes<|YH ts) H:=by
 have N:=fX ts;have:=u.len;have Y:=yp ts;refine lm (WG (o:=aw ts) (ts:=ts) A ts [] 0 am am<|by simp;exact vS ‹_› ‹_› (by rfl)) λx y h=>?_;rw[gK] at h;rw[acW rfl]
 have F:bp (oI 13) (.gj p9 (cB []) [cm]) [ac<|.bytes<|aw ts,ac<|.dR<|aa H,ac<|.lst<|mA ts,x,y,am,am,am,am] (H++[(ts.map rQ).map .bytes])=.ok (.bytes (ts.map rQ).flatten) (H++[(ts.map rQ).map .bytes]):=by
  refine iX rfl rfl (ae rfl ar) ?_
  have:=vn (H:=H++[(ts.map rQ).map .bytes]) (j:=[]) (I:=ts.map rQ) (λb B=>by
   refine aI (b3.mp B) λt _ S=>?_;subst S
   have:=I2 t;exact kN ‹_› (by rfl)) (by exact(af (aC ..))▸(vS ‹_› ‹_› (by rfl)))<|by simp
  rw[tl] at this;refine ah ?_ this;exact lj oh rfl
 exact om (aL<|i0 (ae xu<|ae (az (ae rfl ar) rfl<|zV u<|nY A rfl) ar) ⟨rfl,by simp⟩<|rq (UT rfl) h<|bI<|bo (bo rfl F<|tw<|by simp only[bN,d8];exact cQ<|bk [aa ts,aa<|aw ts,(rE rQ ts).flatten.length] [] [(4,aK,bg),(4,bg,.n 100),(1,cu,.m 4 aK),(1,xi<|.n 1000,.a (xi ei) cu)] rfl (cl N) (cl this)<|cl Y) rfl<|tw<|by simp only[bN,d8,aJ];exact cQ<|bk [aa ts,aa<|aw ts,(rE rQ ts).flatten.length] [] [(4,aK,bg),(4,bg,.n 100),(1,cu,.m 4 aK),(1,xi<|.n 1000,.a (.a (xi ei) cu)<|xi ei)] rfl (cl N) (cl this)<|cl Y) A rfl
end
def Hd (u:bn) (D:List PV) (q:PV):Prop:=∀a b c,pU [.tup<|a::b::.ref u::c,.tup D] []=.ok q []
theorem Hd.ok (h:b7 u [.uo,.lst D] []=.ok p []) (F:jd p=aq) (z:aa D<=1000):Hd u D p:=λa b c=>by
 show(if aa D<=16777216 then _ else _)=_
 (refine ah (if_pos<|kN ‹_› (by rfl))<|(af h)▸?_)
 exact if_pos<|by refine ah F ?_;rfl
open Hd renaming ok->nk
theorem Hd.exc (h:b7 u [.uo,.lst D] []=.exc p []) (F:jd p=aq) (L:l6 p=ac q) (z:aa D<=1000):Hd u D q:=λa b c=>by
 show(if aa D<=16777216 then _ else _)=_
 (refine ah (if_pos<|kN ‹_› (by rfl))<|(af h)▸?_)
 show(if(cZ ([]:Hp)&&jd p)=aq then(match l6 p with|some q=>dt q []|none=>.stuck) else .stuck)=_
 (refine ah (if_pos<|by rw[F];rfl) ?_;rw[L])
open Hd renaming exc->nn
def cR (o:List UInt8) (x:Ix):PV:=.tup [.str gz,.tup [a7 o,if x.room then mv x.w else x.p]]
theorem jF:l6 (gy o v)=ac (.tup [.str gz,.tup [a7 o,v]]):=by show ac (if gz=gz then WE [.str gz,.tup [a7 o,v]] else _)=_;rw[if_pos rfl]
noncomputable def kc (w:List Nat):PV:=.tup [.str w]
theorem qE (h:w≠gz):l6 (yL w b)=ac (kc w):=by show ac (if w=gz then _ else WE [.str w])=_;refine(af<|if_neg h)▸?_;rfl
theorem wL:ng≠gz:=by decide+kernel
theorem Ue:P3≠gz:=by decide+kernel
def Qa (b:UInt8):PV:=.tup [cV "int",cV "UInt8",.int b.toNat]
section
variable {x:Ix}
theorem fy:cZ []=true:=rfl
theorem oR (h:x.room=aq):cR o x=.tup [.str gz,.tup [a7 o,mv x.w]]:=by unfold cR;refine(af h)▸?_;rfl
theorem re (h:x.room=ai):cR o x=.tup [.str gz,.tup [a7 o,x.p]]:=by unfold cR;refine(af h)▸?_;rfl
theorem te (h:-1<=x.w/\x.w<=2000):x.room=true:=decide_eq_true<|by exact⟨dr<|bk [] [x.w] [(1,.g ik,cA),(1,xi cA,.g<|.n 9223372036854775808)] rfl h.1,dr<|bk [] [x.w] [(1,cA,.n 2000),(1,xi<|.n 9223372036854775808,xi cA)] rfl h.2⟩
theorem Mr (h:x.room=ai):Hd 735 [a7 o,x.p] (cR o x):=by refine nn (p:=gy o x.p) ?_ (fa<|gZ x) (by(refine ah jF ?_;rw[re h])) (by simp);rw[Qf rfl];exact b9 (cY<|bU (az (ae (bz rfl rfl rfl)<|ae rfl ar) rfl<|cP fy)<|Hi<|az (ae rfl<|ae (bz rfl rfl rfl) ar) rfl<|mw fy x h) rfl<|fa<|gZ x
theorem Mq (N:aa o<=1000) (h:x.room=aq) (Z:¬(1<=x.w/\x.w<=aa o)):Hd 735 [a7 o,x.p] (cR o x):=by refine nn (p:=gy o<|mv x.w) ?_ (fa rfl) (by(refine ah jF ?_;rw[oR h])) (by simp);rw[Qf rfl];exact b9 (cY<|bU (az (ae (bz rfl rfl rfl)<|ae rfl ar) rfl<|cP fy)<|bU (az (ae rfl<|ae (bz rfl rfl rfl) ar) rfl<|g8 fy x h)<|s6<|az (ae rfl<|ae rfl ar) rfl<|zY fy N Z) rfl<|fa rfl
theorem P9 (N:aa o<=1000) {n:Nat} (P:o[n]?=ac c) (Z:x.w=n+1):Hd 735 [a7 o,x.p] (Qa c):=by have F:=(aB.mp P).1;refine nk ?_ rfl (by simp);rw[Qf rfl];refine aH (aL<|bU (az (ae (bz rfl rfl rfl)<|ae rfl ar) rfl<|cP fy)<|bU (az (ae rfl<|ae (bz rfl rfl rfl) ar) rfl<|ah (g8 fy x<|te<|by exact⟨dr<|bk [n] [x.w] [(1,xi aK,cA),(1,xi cA,.g ik)] rfl<|aU<|af Z,dr<|bk [aa o,n] [x.w] [(1,aK,.n 1000),(1,cA,xi bg),(1,xi bg,aK),(1,xi<|.n 2000,cA)] rfl (cl N) (aU Z)<|cl F⟩)<|by rw[Z])<|ie (az (ae rfl<|ae rfl ar) rfl<|wE fy N<|by exact⟨dr<|bk [n] [] [(1,xi<|xi aK,ik)] rfl,dr<|bk [n,aa o] [] [(1,xi aK,bg),(1,xi bg,xi aK)] rfl<|cl F⟩)<|bI<|az (ae (bz rfl (bo rfl rfl ?_)<|r5 P N)<|ae rfl ar) rfl<|IN fy _ _) rfl rfl;exact congrArg (λx=>dt (dq x) []) nt
theorem aaD (h:x.room=ai):Hd 742 [a7 o,x.p] (cR o x):=by refine nn (p:=gy o x.p) ?_ (fa<|gZ x) (by(refine ah jF ?_;rw[re h])) (by simp);rw[Qe rfl];exact b9 (cY<|bU (az (ae (bz rfl rfl rfl)<|ae rfl ar) rfl<|cP fy)<|ou<|jX<|iY<|jX<|jW rfl<|iY<|az (ae rfl<|ae (bz rfl rfl rfl) ar) rfl<|mw fy x h) rfl<|fa<|gZ x
theorem Sk (d:x.room=aq) (h:b7 467 [.bytes<|aw G,.int x.w] []=.exc D []) (W:jd D=aq) (g:l6 D=ac due):Hd 742 [a7<|aw G,x.p] due:=by refine nn ?_ W g (by simp);rw[Qe rfl];exact b9 (cY<|bU (az (ae (bz rfl rfl rfl)<|ae rfl ar) rfl<|cP fy)<|ou<|jX<|iY<|az (ae rfl<|ae (az (ae rfl<|ae (bz rfl rfl rfl) ar) rfl<|g8 fy x d) ar) rfl<|Gz fy h W) rfl W
theorem afD (u:dA (p++t::q)) (Z:x.w=aa (aw p)+1):Hd 742 [a7<|aw<|p++t::q,x.p] (xx t.shown):=by have C:=u.len;rw[th] at C;refine nk ?_ rfl (by simp);rw[Qe rfl];exact aH (aL<|bU (az (ae (bz rfl rfl rfl)<|ae rfl ar) rfl<|cP fy)<|bI<|az (ae (az (ae rfl<|ae (az (ae rfl<|ae (bz rfl rfl rfl) ar) rfl<|g8 fy x<|te<|by exact⟨dr<|bk [aa<|aw p] [x.w] [(1,xi aK,cA),(1,xi cA,.g ik)] rfl<|aU<|af Z,dr<|bk [aa<|aw p,aa t.b,aa<|aw q] [x.w] [(1,cA,xi aK),(1,.a (.a aK bg) cu,.n 100),(1,xi<|.n 2000,cA)] rfl (aU Z)<|cl C⟩) ar) rfl<|Jd u fy Z) ar) rfl<|Jh fy t) rfl rfl
theorem Qq (h:x.room=ai):Hd 749 [a7 o,x.p] (cR o x):=by refine nn (p:=gy o x.p) ?_ (fa<|gZ x) (by(refine ah jF ?_;rw[re h])) (by simp);rw[Qd rfl];exact b9 (cY<|bU (az (ae (bz rfl rfl rfl)<|ae rfl ar) rfl<|cP fy)<|ou<|jX<|iY<|jX<|jW rfl<|iY<|az (ae rfl<|ae (bz rfl rfl rfl) ar) rfl<|mw fy x h) rfl<|fa<|gZ x
theorem Qp (u:dA G) (h:x.room=aq) (Z:¬(0<=x.w/\x.w<=aa (aw G))):Hd 749 [a7<|aw G,x.p] (cR (aw G) x):=by refine nn (p:=gy (aw G)<|mv x.w) ?_ (fa rfl) (by(refine ah jF ?_;rw[oR h])) (by simp);rw[Qd rfl];exact b9 (cY<|bU (az (ae (bz rfl rfl rfl)<|ae rfl ar) rfl<|cP fy)<|ou<|jX<|iY<|az (ae rfl<|ae (az (ae rfl<|ae (bz rfl rfl rfl) ar) rfl<|g8 fy x h) ar) rfl<|FD u fy _ Z) rfl<|fa rfl
theorem Up (u:dA G) (Z:0<=x.w/\x.w<=aa (aw G)):Hd 749 [a7<|aw G,x.p] (mv<|vc G (x.w-1)+1):=by have C:=u.len;refine nk ?_ rfl (by simp);rw[Qd rfl];exact aH (aL<|bU (az (ae (bz rfl rfl rfl)<|ae rfl ar) rfl<|cP fy)<|bI<|az (ae (az (ae rfl<|ae (az (ae rfl<|ae (bz rfl rfl rfl) ar) rfl<|g8 fy x<|te<|by exact⟨dr<|bk [] [x.w] [(1,ei,cA),(1,xi cA,.g ik)] rfl Z.1,dr<|bk [aa<|aw G] [x.w] [(1,cA,aK),(1,aK,.n 100),(1,xi<|.n 2000,cA)] rfl Z.2<|cl C⟩) ar) rfl<|Ij u fy _ Z) ar) rfl<|j8 fy _) rfl rfl
theorem PR (h:x.room=ai):Hd 756 [a7 o,x.p] (cR o x):=by refine nn (p:=gy o x.p) ?_ (fa<|gZ x) (by(refine ah jF ?_;rw[re h])) (by simp);rw[Qc rfl];exact b9 (cY<|bU (az (ae (bz rfl rfl rfl)<|ae rfl ar) rfl<|cP fy)<|ou<|jX<|iY<|jX<|jW rfl<|iY<|az (ae rfl<|ae (bz rfl rfl rfl) ar) rfl<|mw fy x h) rfl<|fa<|gZ x
theorem PQ (u:dA G) (h:x.room=aq) (Z:¬(1<=x.w/\x.w<=aa (aw G)+1)):Hd 756 [a7<|aw G,x.p] (cR (aw G) x):=by refine nn (p:=gy (aw G)<|mv x.w) ?_ (fa rfl) (by(refine ah jF ?_;rw[oR h])) (by simp);rw[Qc rfl];exact b9 (cY<|bU (az (ae (bz rfl rfl rfl)<|ae rfl ar) rfl<|cP fy)<|ou<|jX<|iY<|az (ae rfl<|ae (az (ae rfl<|ae (bz rfl rfl rfl) ar) rfl<|g8 fy x h) ar) rfl<|Fn u fy _ Z) rfl<|fa rfl
theorem T8 (u:dA G) (Z:1<=x.w/\x.w<=aa (aw G)+1):Hd 756 [a7<|aw G,x.p] (mv<|r9 G (x.w-1)+1):=by have C:=u.len;refine nk ?_ rfl (by simp);rw[Qc rfl];exact aH (aL<|bU (az (ae (bz rfl rfl rfl)<|ae rfl ar) rfl<|cP fy)<|bI<|az (ae (az (ae rfl<|ae (az (ae rfl<|ae (bz rfl rfl rfl) ar) rfl<|g8 fy x<|te<|by exact⟨dr<|bk [] [x.w] [(1,ik,cA),(1,xi cA,.g ik)] rfl Z.1,dr<|bk [aa<|aw G] [x.w] [(1,cA,xi aK),(1,aK,.n 100),(1,xi<|.n 2000,cA)] rfl Z.2<|cl C⟩) ar) rfl<|y8 u fy _ Z) ar) rfl<|j8 fy _) rfl rfl
theorem Po (u:dA G):Hd 770 [a7<|aw G,x.p] (sO<|mU G<|x.w-1):=by refine nk ?_ rfl (by simp);rw[acR rfl];exact aH (aL<|bI<|az (ae (az (ae (az (ae (bz rfl rfl rfl)<|ae rfl ar) rfl<|cP fy)<|ae (bo (az (ae (bz rfl rfl rfl) ar) rfl<|lx fy x) rfl rfl) ar) rfl<|lA G _ u.K8 u.z fy) ar) rfl<|qZ fy _) rfl rfl
theorem MF (u:dA G):Hd 721 [a7<|aw G] (mv<|aa G):=by refine nk ?_ rfl (by simp);rw[acT rfl];exact aH (aL<|bI<|az (ae (az (ae (az (ae (bz rfl rfl rfl)<|ae rfl ar) rfl<|cP fy) ar) rfl<|ME u fy) ar) rfl<|j8 fy _) rfl rfl
theorem UF (u:dA G):Hd 763 [a7<|aw G] (mv<|r9 G (aa<|aw G)+1):=by refine nk ?_ rfl (by simp);rw[acS rfl];exact aH (aL<|bI<|az (ae (az (ae (az (ae (bz rfl rfl rfl)<|ae rfl ar) rfl<|cP fy) ar) rfl<|AQ u fy) ar) rfl<|j8 fy _) rfl rfl
theorem OS (u:dA G):Hd 777 [a7<|aw G] (sO<|C3 G):=by refine nk ?_ rfl (by simp);rw[acQ rfl];exact aH (aL<|bI<|az (ae (az (ae (az (ae (bz rfl rfl rfl)<|ae rfl ar) rfl<|cP fy) ar) rfl<|yI u fy) ar) rfl<|qZ fy _) rfl rfl
theorem Fd (u:dA G):Hd 808 [a7<|aw G] (a7<|aw G.reverse):=by refine nk ?_ rfl (by simp);rw[acO rfl];exact aH (aL<|bI<|bx (ae rfl<|ae (az (ae (az (ae (bz rfl rfl rfl)<|ae rfl ar) rfl<|cP fy) ar) rfl<|Fc u fy) ar)<|by simp) rfl rfl
theorem Hk (u:dA G):Hd 923 [a7<|aw G] (a7<|YH G):=by
 have N:=fX G;have:=u.len;have Y:=yp G;refine nk ?_ rfl (by simp);rw[acK rfl]
 have F:=FU (I:=[YH G]) (λb B=>by
  refine(af<|aV.mp B)▸?_;simp only[YH,bN,d8,aJ];exact cQ<|bk [aa G,aa<|aw G,(rE rQ G).flatten.length] [] [(4,aK,bg),(4,bg,.n 100),(1,cu,.m 4 aK),(1,xi<|.n 900,.a (.a (xi ei) cu)<|xi ei)] rfl (cl N) (cl this)<|cl Y) (by simp) fy
 rw[show[YH G].flatten=YH G by simp] at F;exact aH (aL<|bU (bz rfl rfl rfl)<|ky (a8 (bz rfl rfl rfl) rfl rfl)<|bI<|bx (ae rfl<|ae (az (ae (iH (ae (az (ae (bz rfl rfl rfl) ar) rfl<|Hj u fy) ar)<|by simp) ar) rfl F) ar)<|by simp) rfl rfl
end
section
variable {x y:Ix}
theorem Vz (h:y.w<x.w):Hd 789 [a7 o,x.p,y.p] (a7 []):=by refine nk ?_ rfl (by simp);rw[Fz rfl];exact aH (aL<|bU (az (ae (bz rfl rfl rfl)<|ae rfl ar) rfl<|cP fy)<|ky (a8 (az (ae (bz rfl rfl rfl) ar) rfl<|lx fy y) (az (ae (bz rfl rfl rfl) ar) rfl<|lx fy x)<|dP<|decide_eq_true h)<|bI rfl) rfl rfl
theorem to (h:x.w<=y.w) (k:fY (oI 47) dF (R8.drop 2) [ac .uo,ac<|.lst [a7 o,x.p,y.p],ac<|.bytes o,am,am,am,am] []=r):
 fY (oI 47) dF R8 ([.uo,.lst [a7 o,x.p,y.p]].map ac++aX (7-2) am) []=r:=
 bU (az (ae (bz rfl rfl rfl)<|ae rfl ar) rfl<|cP fy) (eS (a8 (az (ae (bz rfl rfl rfl) ar) rfl<|lx fy y) (az (ae (bz rfl rfl rfl) ar) rfl<|lx fy x)<|dP<|decide_eq_false<|by exactλM=>bk [] [x.w,y.w] [(1,cA,.w 1),(1,xi<|.w 1,cA)] rfl h M) bJ k)
theorem Nr (h:x.w<=y.w) (T:x.room=ai):Hd 789 [a7 o,x.p,y.p] (cR o x):=by refine nn (p:=gy o x.p) ?_ (fa<|gZ x) (by(refine ah jF ?_;rw[re T])) (by simp);rw[Fz rfl];exact b9 (cY (to h<|ou<|zO<|jW rfl<|iY<|jX<|jW rfl<|iY<|az (ae rfl<|ae (bz rfl rfl rfl) ar) rfl<|mw fy x T)) rfl<|fa<|gZ x
theorem Nq (h:x.w<=y.w) (T:x.room=aq) (j:y.room=ai):Hd 789 [a7 o,x.p,y.p] (cR o y):=by refine nn (p:=gy o y.p) ?_ (fa<|gZ y) (by(refine ah jF ?_;rw[re j])) (by simp);rw[Fz rfl];exact b9 (cY (to h<|ou<|zO<|jW rfl<|iY<|jX<|jW rfl<|jW (az (ae rfl<|ae (bz rfl rfl rfl) ar) rfl<|g8 fy x T)<|iY<|az (ae rfl<|ae (bz rfl rfl rfl) ar) rfl<|mw fy y j)) rfl<|fa<|gZ y
theorem vF (h:x.w<=y.w) (T:x.room=aq) (j:y.room=aq) (d:b7 509 [.bytes o,.int x.w,.int y.w] []=.exc D []) (W:jd D=aq) (g:l6 D=ac due):Hd 789 [a7 o,x.p,y.p] due:=by refine nn ?_ W g (by simp);rw[Fz rfl];exact b9 (cY<|to h<|ou<|zO<|jW rfl<|iY<|az (ae rfl<|ae (az (ae rfl<|ae (bz rfl rfl rfl) ar) rfl<|g8 fy x T)<|ae (az (ae rfl<|ae (bz rfl rfl rfl) ar) rfl<|g8 fy y j) ar) rfl d) rfl W
theorem VA (h:x.w<=y.w) (T:x.room=aq) (j:y.room=aq) (d:b7 509 [.bytes o,.int x.w,.int y.w] []=.ok (.bytes r) []):Hd 789 [a7 o,x.p,y.p] (a7 r):=by refine nk ?_ rfl (by simp);rw[Fz rfl];exact aH (aL<|to h<|bI<|bx (ae rfl<|ae (az (ae rfl<|ae (az (ae rfl<|ae (bz rfl rfl rfl) ar) rfl<|g8 fy x T)<|ae (az (ae rfl<|ae (bz rfl rfl rfl) ar) rfl<|g8 fy y j) ar) rfl d) ar)<|by simp) rfl rfl
def lQ (r:Int):PV:=if 0<r then mv r else u7
theorem oj (r:Int):jd (lQ r)=true:=by unfold lQ;split<;>rfl
theorem wx {j i:Nat} {r:Int} (C:bp (oI j) (.loc i) V []=.ok (.int r) []) (d:((sx.take j).all λf=>decide<|(84:bn)≠f.addr)=aq):
 fY (oI j) dF [.ret<|.fm (.cmp (.loc i) [.Gt] [cI 0]) (.aA 84 [.loc i])<|.const<|.tup [.str [110,111,116,104,105,110,103]]] V []=.ok (.ret<|lQ r,V) []:=by
 unfold lQ;by_cases h:0<r
 ·refine(af<|if_pos h)▸?_;exact bI<|fb (a8 C rfl<|jm<|decide_eq_true h)<|az (ae C ar) d<|j8 fy r
 ·refine(af<|if_neg h)▸?_;exact bI<|dZ (a8 C rfl<|jm<|decide_eq_false h) rfl
theorem Rt (h:x.room=ai):Hd 825 [a7 o,a7 p,x.p] (cR o x):=by refine nn (p:=gy o x.p) ?_ (fa<|gZ x) (by(refine ah jF ?_;rw[re h])) (by simp);rw[Kv rfl];exact b9 (cY<|bU (az (ae (bz rfl rfl rfl)<|ae rfl ar) rfl<|cP fy)<|Hi<|(fb (a8 rfl rfl rfl)<|az (ae rfl<|ae (bz rfl rfl rfl) ar) rfl<|mw fy x h)) rfl<|fa<|gZ x
theorem Rr (d:x.room=aq) (h:b7 543 [.bytes o,.bytes p,.int x.w] []=.exc D []) (W:jd D=aq) (g:l6 D=ac due):Hd 825 [a7 o,a7 p,x.p] due:=by refine nn ?_ W g (by simp);rw[Kv rfl];exact b9 (cY<|bU (az (ae (bz rfl rfl rfl)<|ae rfl ar) rfl<|cP fy)<|bU ((fb (a8 rfl rfl rfl)<|az (ae rfl<|ae (bz rfl rfl rfl) ar) rfl<|g8 fy x d))<|Hi<|az (ae rfl<|ae (az (ae (bz rfl rfl rfl)<|ae rfl ar) rfl<|cP fy)<|ae rfl ar) rfl h) rfl W
theorem KS {r:Int} (d:x.room=aq) (h:b7 543 [.bytes o,.bytes p,.int x.w] []=.ok (.int r) []):Hd 825 [a7 o,a7 p,x.p] (lQ r):=by refine nk ?_ (oj r) (by simp);rw[Kv rfl];exact aH (aL<|bU (az (ae (bz rfl rfl rfl)<|ae rfl ar) rfl<|cP fy)<|bU ((fb (a8 rfl rfl rfl)<|az (ae rfl<|ae (bz rfl rfl rfl) ar) rfl<|g8 fy x d))<|bU (az (ae rfl<|ae (az (ae (bz rfl rfl rfl)<|ae rfl ar) rfl<|cP fy)<|ae rfl ar) rfl h)<|wx rfl rfl) rfl<|oj r
theorem Rs {r:Int} (h:b7 543 [.bytes o,.bytes p,.int 1] []=.ok (.int r) []):Hd 825 [a7 o,a7 p] (lQ r):=by refine nk ?_ (oj r) (by simp);rw[Kv rfl];exact aH (aL<|bU (az (ae (bz rfl rfl rfl)<|ae rfl ar) rfl<|cP fy)<|bU (dZ (a8 rfl rfl rfl) rfl)<|bU (az (ae rfl<|ae (az (ae (bz rfl rfl rfl)<|ae rfl ar) rfl<|cP fy)<|ae rfl ar) rfl h)<|wx rfl rfl) rfl<|oj r
theorem Rq {r:Int} (h:b7 550 [.bytes o,.bytes p] []=.ok (.int r) []):Hd 832 [a7 o,a7 p] (lQ r):=by refine nk ?_ (oj r) (by simp);rw[acN rfl];exact aH (aL<|bU (az (ae (az (ae (bz rfl rfl rfl)<|ae rfl ar) rfl<|cP fy)<|ae (az (ae (bz rfl rfl rfl)<|ae rfl ar) rfl<|cP fy) ar) rfl h)<|wx rfl rfl) rfl<|oj r
theorem LZ (h:b7 576 [.bytes o,.bytes p] []=.ok (.bool c) []):Hd 846 [a7 o,a7 p] (sO c):=by refine nk ?_ rfl (by simp);rw[acM rfl];exact aH (aL<|bI<|az (ae (az (ae (az (ae (bz rfl rfl rfl)<|ae rfl ar) rfl<|cP fy)<|ae (az (ae (bz rfl rfl rfl)<|ae rfl ar) rfl<|cP fy) ar) rfl h) ar) rfl<|qZ fy _) rfl rfl
theorem Vq (h:b7 583 [.bytes o,.bytes p] []=.ok (.bool c) []):Hd 853 [a7 o,a7 p] (sO c):=by refine nk ?_ rfl (by simp);rw[acL rfl];exact aH (aL<|bI<|az (ae (az (ae (az (ae (bz rfl rfl rfl)<|ae rfl ar) rfl<|cP fy)<|ae (az (ae (bz rfl rfl rfl)<|ae rfl ar) rfl<|cP fy) ar) rfl h) ar) rfl<|qZ fy _) rfl rfl
theorem BS (k:fY (oI 30) dF (R7.drop 1) [ac .uo,ac<|.lst [a7 o,a7 p,a7 s],ac<|.bytes o,ac<|.bytes p,ac<|.bytes s,am] []=r):
 fY (oI 30) dF R7 ([.uo,.lst [a7 o,a7 p,a7 s]].map ac++aX (6-2) am) []=r:=
 EF (sD (l:=[o,p,s]) (nv rfl) rfl (by simp) λb _=>⟨_,rfl,az (ae rfl<|ae rfl ar) rfl<|cP fy⟩) rfl k
theorem Y5 (h:b7 562 [.bytes o,.bytes p,.bytes s] []=.ok (.bytes r) []):Hd 818 [a7 o,a7 p,a7 s] (a7 r):=by refine nk ?_ rfl (by simp);rw[WV rfl];exact aH (aL<|BS<|bI<|bx (ae rfl<|ae (az (ae rfl<|ae rfl<|ae rfl ar) (by kernel_rfl) h) ar)<|by simp) rfl rfl
theorem TX (h:b7 562 [.bytes o,.bytes p,.bytes s] []=.exc D []) (W:jd D=aq) (g:l6 D=ac due):Hd 818 [a7 o,a7 p,a7 s] due:=by refine nn (p:=D) ?_ W g (by simp);rw[WV rfl];exact b9 (cY<|BS<|ou<|zO<|jW rfl<|iY<|az (ae rfl<|ae rfl<|ae rfl ar) rfl h) rfl W
theorem Kj (h:b7 522 [.bytes o,.int x.w] []=.ok (.bytes r) []):Hd 801 [a7 o,x.p] (a7 r):=by refine nk ?_ rfl (by simp);rw[WW rfl];exact aH (aL<|bI<|bx (ae rfl<|ae (az (ae (az (ae (bz rfl rfl rfl)<|ae rfl ar) rfl<|cP fy)<|ae (az (ae (bz rfl rfl rfl) ar) rfl<|lx fy x) ar) rfl h) ar)<|by simp) rfl rfl
theorem Fh (h:b7 522 [.bytes o,.int x.w] []=.exc D []) (W:jd D=aq) (g:l6 D=ac due):Hd 801 [a7 o,x.p] due:=by refine nn ?_ W g (by simp);rw[WW rfl];exact b9 (cY<|ou<|zO<|jW rfl<|iY<|az (ae (az (ae (bz rfl rfl rfl)<|ae rfl ar) rfl<|cP fy)<|ae (az (ae (bz rfl rfl rfl) ar) rfl<|lx fy x) ar) rfl h) rfl W
noncomputable def Un:List UInt8:=[110,111,32,110,97,109,101,32,111,102,32,97,32,115,121,109,98,111,108]
theorem Ka (u:dA G) (h:G=[]\/C3 G=ai):Hd 930 [a7<|aw G] (kc ng):=by
 refine nn (p:=yL ng Un) ?_ rfl (qE wL) (by simp);rw[WU rfl];refine b9 (cY<|bU (az (ae (bz rfl rfl rfl)<|ae rfl ar) rfl<|cP fy)<|tI (c:=aq) ?_ (mO (ae rfl<|ae rfl ar)<|ox fy rfl)) rfl rfl;rcases h with rfl|h
 ·exact Bj<|a8 rfl rfl rfl
 ·cases J:(aw G==([]:List UInt8)) with
  |true=>exact Bj<|a8 rfl rfl<|by(refine ah jn ?_;rw[J])
  |false=>exact tL (a8 rfl rfl<|by(refine ah jn ?_;rw[J]))<|jg<|gP<|jG<|az (ae rfl ar) rfl<|ah (yI u fy)<|by rw[h]
theorem YS (u:dA G) (U:(aw G==([]:List UInt8))=ai) (h:C3 G=aq) (g:vG (.bytes<|aw G) [.str [117,116,102,45,56]] []=.ok (.str s) []):Hd 930 [a7<|aw G] (.tup [cV "sym",.str s]):=by refine nk ?_ rfl (by simp);rw[WU rfl];exact aH (aL<|bU (az (ae (bz rfl rfl rfl)<|ae rfl ar) rfl<|cP fy)<|eS (tL (a8 rfl rfl<|by(refine ah jn ?_;rw[U]))<|jg<|gP (c:=aq)<|jG<|az (ae rfl ar) rfl<|ah (yI u fy)<|by rw[h]) bJ<|bI<|bx (ae rfl<|ae (iX rfl rfl (ae rfl ar) g) ar)<|by simp) rfl rfl
end
theorem bW (h:ol (oQ j) D V H=.ok l g) (d:((rI.take j).all λf=>decide<|a≠f.addr)=aq) (k:iU a l g=r):bp (oQ j) (.aA a D) V H=r:=gu h<|c2 d k
theorem RG (h:j6 B (.cmp l W z) V (bp B (.cmp l W z) V) H=.ok c H₁):bp B (.cmp l W z) V H=.ok (.bool c) H₁:=by
 have e:j6 B (.cmp l W z) V (bp B (.cmp l W z) V) H=ax (bp B l V) (λa=>py B a W z V) H:=rfl;have R:bp B (.cmp l W z) V H=ax (bp B l V) (λa=>ax (py B a W z V) λb=>ay<|.bool b) H:=rfl;rw[e,f0] at h
 (refine ah R<|ah (f0 ..) ?_)
 cases q:bp B l V H with
 |ok a i=>rw[q] at h;exact fh h rfl
 |exc p i=>rw[q] at h;cases h
 |stuck=>rw[q] at h;cases h
theorem DV (l) (a:Int):(dC l).all (λq=>(m6 8 q<|.int a).isSome)=true:=cn.mpr λq L=>by refine aI (b3.mp L) λn _ S=>?_;subst S;rfl
theorem tv (l) (a:Int):Xj ai (.int a) (.lst<|dC l) H=.ok (l.any λn=>decide<|(n:Int)=a) H:=by
 have e:Xj ai (.int a) (.lst<|dC l) H=(if(dC l).all (λq=>(m6 8 q<|.int a).isSome) then ay ((dC l).any (λq=>m6 8 q (.int a)==ac aq)!=ai) else aQ) H:=rfl
 (refine ah e<|(af<|if_pos<|DV l a)▸?_)
 show dt _ H=_;unfold dC;refine(af rW)▸?_;simp only[pK];congr 2;funext n;show(ac ((n:Int)==a)==ac aq)=_;rw[iM];simp
theorem Bx (l) (a:Int):Xj aq (.int a) (.lst<|dC l) H=.ok (!(l.any λn=>decide<|(n:Int)=a)) H:=by
 have e:Xj aq (.int a) (.lst<|dC l) H=(if(dC l).all (λq=>(m6 8 q<|.int a).isSome) then ay ((dC l).any (λq=>m6 8 q (.int a)==ac aq)!=aq) else aQ) H:=rfl;have i:=tv (H:=H) l a;have W:Xj ai (.int a) (.lst<|dC l) H=(if(dC l).all (λq=>(m6 8 q<|.int a).isSome) then ay ((dC l).any (λq=>m6 8 q (.int a)==ac aq)!=ai) else aQ) H:=rfl;rw[W,if_pos<|DV l a] at i
 (refine ah e<|(af<|if_pos<|DV l a)▸?_)
 injection i with i
 rw[pK] at i
 (refine(af i)▸(af (vR ..))▸?_);rfl
theorem KE:∀l:List Nat,(∀n∈l,n<=1000)->N6 (l.map λn:Nat=>mY n)=aq/\SM (l.map λn:Nat=>mY n)=0/\xE (l.map λn:Nat=>mY n)<=20*aa l
 |[],_=>⟨rfl,rfl,by simp[xE]⟩
 |n::l,h=>by
  refine i8 (KE l λm z=>h m<|by simp[z]) λJ R y=>?_;have F:=h n<|by simp
  refine⟨by simp only[bv,N6,Ax,J,abd],by simp only[bv,SM,Ew,R,Nat.max_self],?_⟩;simp only[bv,xE,Cf,bN]
  have:(if((n:Int)==0)=aq then 0 else(n:Int).natAbs.log2+1)<=11:=by
   split
   ·with_reducible exact ch _ _
   ·rename_i L;have a:n≠0:=by simpa using L
    have:=(Nat.log2_lt a).mpr<|show n<2^10 by exact bY (by with_reducible assumption)<|by decide
    exact(af (Int.natAbs_natCast ..))▸JR (by with_reducible assumption) (by decide)
  exact(gs ..).symm▸Nat.add_le_add y (aN (Al this)<|by decide)
theorem QX {a:Nat} (I:a∈l) (C:∀n∈l,n<=1000) (N:aa l<=1000):Dl (.lst<|dC l) [.int a] H=.ok (.int<|l.idxOf a) H:=by
 have e:Dl (.lst<|dC l) [.int a] H=bG (xk<|dC l) (λj=>if(a:Int)∈j/\nO (.list<|j.map .int)=aq then ay (dq (j.idxOf (a:Int):Nat)) else aQ) H:=rfl;refine ah e ?_;unfold dC;refine(af (wq (λn:Nat=>(n:Int)) ..))▸?_;show(if(a:Int)∈l.map (λn:Nat=>(n:Int))/\nO (.list<|(l.map λn:Nat=>(n:Int)).map .int)=aq then ay (dq ((l.map λn:Nat=>(n:Int)).idxOf (a:Int):Nat)) else aQ) H=_;refine i8 (KE l C) λJ R y=>?_
 have M:nO (.list<|(l.map λn:Nat=>(n:Int)).map .int)=true:=by
  have z:(l.map λn:Nat=>(n:Int)).map mY=l.map λn:Nat=>mY n:=by refine ah gV ?_;rfl
  refine(af z)▸?_;have W:Ax (.list (l.map λn:Nat=>mY n))=true:=by simp only[Ax];exact J
  have f:Ew (.list (l.map λn:Nat=>mY n))<=64:=by simp only[Ew,R];with_reducible exact ch _ _
  have U:Cf (.list (l.map λn:Nat=>mY n))<=2^20:=by simp only[Cf];exact aN y<|aN (OA 20 N)<|by decide
  unfold nO
  (refine(af W)▸(af<|decide_eq_true f)▸ah (decide_eq_true U) ?_);rfl
 have D:(l.map λn:Nat=>(n:Int)).idxOf (a:Int)=l.idxOf a:=by
  clear e J R y C N I M
  induction l with
  |nil=>rfl
  |cons m l o=>
   (refine(af bv)▸ah Wu ?_;rewrite[Wu];refine(af o)▸?_)
   by_cases q:m=a
   ·subst q;simp
   ·(refine(af<|show((m:Int)==(a:Int))=ai by simpa usingλh=>q<|Int.ofNat.inj h)▸?_;rw[show(m==a)=ai by simpa using q])
 rw[if_pos ⟨b3.mpr ⟨a,I,rfl⟩,M⟩,D];rfl
theorem Nf {n:Nat} (h:n<=1000):vy n=true:=by unfold vy;rw[decide_eq_true (fW (by decide)<|bC n),decide_eq_true<|eJ (dI.mpr h)<|by decide];rfl
theorem zF {n:Nat} (h:l[n]?=ac q) (N:aa l<=1000):kZ l n=ac q:=by
 have F:=(aB.mp h).1;have Y:vy n=true:=Nf<|by exact cQ<|bk [aa l,n] [] [(1,aK,.n 1000),(1,xi bg,aK),(1,xi<|.n 1000,bg)] rfl (cl N)<|cl F
 have D:zy n (aa l)=ac n:=by
  unfold zy
  (refine ah (if_neg<|by exactλM=>bk [n] [] [(1,xi aK,ei)] rfl M)<|ah (if_pos<|by exact cK.mpr<|by with_reducible assumption) ?_;rw[et])
 unfold kZ;rw[if_pos Y,D];exact h
theorem IV (h:l.getLast?=ac q):kZ l (-1)=ac q:=by
 have X:0<aa l:=by
  induction l with
  |nil=>exact aE h
  |cons _ _=>simp
 have D:zy (-1) (aa l)=ac (aa l-1):=by
  unfold zy
  (refine ah (if_pos<|by exact dr<|bk [] [] [(1,xi ei,xi<|.g ik)] rfl)<|ah (if_pos<|by exact dr<|bk [aa l] [] [(1,xi ei,aK),(1,xi<|.g ik,.g aK)] rfl<|cl X) ?_)
  congr 1;exact(congrArg Int.toNat<|yc (-1) _).trans<|abE l.length 1
 unfold kZ
 (refine ah (if_pos<|by decide)<|(af D)▸?_)
 rw[Ef] at h;exact h
theorem HC {k:Int} (e:kZ l k=ac q):uW (.lst l) (.int k) H=.ok q H:=by show bG (kZ l k) (λq=>ay q) H=_;refine(af e)▸?_;rfl
theorem YU {j:Nat} {k:Int} (h:H[j]?=ac l) (e:kZ l k=ac q):uW (.dR j) (.int k) H=.ok q H:=by show bG (H[j]?) (λl=>bG (kZ l k) λq=>ay q) H=_;refine(af h)▸?_;exact HC e
theorem yN {n:Nat} (h:l[n]?=ac q) (N:aa l<=1000):uW (.lst l) (.int n) H=.ok q H:=HC<|zF h N
theorem Pe {j:Nat} {n:Nat} (e:H[j]?=ac l) (h:l[n]?=ac q) (N:aa l<=1000):uW (.dR j) (.int n) H=.ok q H:=YU e<|zF h N
theorem sub_neg (h:l.getLast?=ac q):uW (.lst l) (.int (-1)) H=.ok q H:=HC<|IV h
theorem Ml (l:List Z) (n:Nat) (h:n<=aa l):rr l am (ac (n:Int)) am=l.take n:=by
 unfold rr;refine(af (sliceBounds_plain ..))▸?_;simp only[Option.elim,sI,eN h]
 have e:Ai (((0:Nat):Int)) (n:Int) 1=dg n:=by
  unfold Ai;dsimp only;rw[if_pos<|by decide]
  have:(if((0:Nat):Int)<n then((n:Int)-(0:Nat)+1-1) / 1 else 0).toNat=n:=by
   induction n with
   |zero=>rfl
   |succ n=>
    refine(af<|if_pos<|cK.mpr<|mK n)▸?_;show((((n+1:Nat):Int)-0+1-1) / 1).toNat=_
    (refine(af (agg ..))▸(af (cr ..))▸(af (JW ..))▸?_);rfl
  refine(af this)▸?_
  conv=>rhs;rw[<-List.map_id (dg n)]
  refine o0 λk _=>?_;simp
 rw[e];exact Bq l n
theorem HN {n:Nat} (h:n<=aa l) (N:aa l<=1000):mq ai (.lst l) .none (.int n) .none H=.ok (.lst<|l.take n) H:=by have e:mq ai (.lst l) .none (.int n) .none H=(if l.length<=16777216/\(am:Option Int)≠ac 0 then lL ai (rr l am (ac (n:Int)) am) else aQ) H:=rfl;rw[e,if_pos ⟨kN ‹_› (by rfl),by simp⟩,Ml _ _ h];rfl
def ae5:List CS:=[.ret<|.xV [.bytes [97],.bytes [195,169],.bytes [226,130,172]] [.int 97,.int 233,.int 8364] cz<|cI 65533]
theorem acF:OQ 1024 ai 4 1 1 ae5:=l8 168 [] [] rfl
theorem y5 (A:cZ H=aq) (t:Tk):iU 1024 [.bytes t.b] H=.ok (.int t.shown) H:=by rw[acF rfl];rcases t<;>exact aH (aL<|bI rfl) A rfl
theorem pp (A:cZ H=aq) (n:Int):iU 1031 [.int n] H=.ok (mv n) H:=by rw[acE rfl];exact aH (aL<|bI<|bx (ae rfl<|ae rfl<|ae rfl ar)<|by simp) A rfl
theorem eF (A:cZ H=aq) (x:Ix):iU 1045 [x.p] H=.ok (.int x.w) H:=by
 rw[acC rfl]
 induction x with
 |bl b=>rcases b<;>exact aH (aL<|bI<|fb (a8 (bz rfl rfl rfl) rfl rfl)<|dJ (ae (bz rfl rfl rfl) ar) rfl) A rfl
 |nm g n=>rcases g<;>exact aH (aL<|bI<|dZ (a8 (bz rfl rfl rfl) rfl rfl)<|bz rfl rfl rfl) A rfl
theorem abZ {a b c:Int} {x:Bool} (h:bp B l V H=.ok (.int a) H) (J:bp B r V H=.ok (.int b) H) (R:bp B s V H=.ok (.int c) H) (e:decide (a<=b/\b<c)=x):bp B (.cmp l [.LtE,.Lt] [r,s]) V H=.ok (.bool x) H:=RG<|Cw h J R e
theorem u2 (A:cZ H=aq) (x:Ix):iU 1052 [x.p] H=.ok (.bool x.room) H:=by rw[acB rfl];exact aH (aL<|bI<|abZ Qr (bW (ae rfl ar) rfl<|eF A x) OZ rfl) A rfl
theorem va:jd (cR o x)=true:=by unfold cR;cases x.room<;>simp[lI,lJ,i4,lK,ft,gh,a7,cV,gZ,mv]
theorem yf (h:bp B (.aA a D) V H=.ok (.bool c) H):j6 B (.aA a D) V (bp B (.aA a D) V) H=.ok c H:=fh h rfl
theorem yi (A:cZ H=aq) (x:Ix):iU 1059 [.bytes o,x.p] H=.ok (cR o x) H:=by
 rw[acA rfl];refine aH (aL<|bI<|bx (ae rfl<|ae (bx (ae (bx (ae rfl<|ae rfl ar)<|by simp)<|ae ?_ ar)<|by simp) ar)<|by simp) A va;have U:=λ{V:bO} (C:bp (oQ 9) cm V H=.ok x.p H)=>yf<|bW (ae C ar) rfl<|u2 A x
 cases d:x.room with
 |true=>exact fb (ah (U rfl)<|by rw[d])<|bW (ae (bW (ae rfl ar) rfl<|eF A x) ar) rfl<|pp A _
 |false=>exact dZ (ah (U rfl)<|by rw[d]) rfl
def dB (G:List Tk):List PV:=G.map λt=>.bytes t.b
def pT:CE:=.cmp dE [.Lt] [.bw eP [cz]]
def pB:List CS:=[.assign 3<|.fm (.cmp (.sub cz dE) [.Eq] [cI 226]) (cI 3)<|.fm (.cmp (.slice ai cz dE (.bin ai .Add dE<|cI 2)<|.const<|.none) [.Eq] [cB [195,169]]) (cI 2)<|cI 1,.expr<|.gj iZ cm [.slice ai cz dE (.bin ai .Add dE jc)<|.const<|.none],.assign 2<|.bin ai .Add dE jc]
theorem aiS (P:Ag (p++t::q)) (T:t≠.u):(((aw<|p++t::q).drop<|aa<|aw p).take 2==([195,169]:List UInt8))=decide (aa t.b=2):=by
 refine(af (Fy ..))▸?_;have P:=Ag.drop P
 induction t with
 |u=>exact absurd rfl T
 |e=>rfl
 |a=>cases q with
  |nil=>rfl
  |cons s q=>rcases s<;>rfl
 |n=>cases q with
  |nil=>rfl
  |cons s q=>rcases s<;>rfl
 |c=>cases q with
  |nil=>rfl
  |cons s q=>rcases s<;>first|exact P.elim|rfl
theorem ace (X:dA G) (A:cZ H=aq):∀q p,G=p++q->∀(f:Nat) (y),aa q<f->
 ∃i,hO (λQ=>j6 (oQ 15) pT Q<|bp (oQ 15) pT Q) (λQ=>fY (oQ 15) dF pB Q) f [ac<|.bytes<|aw G,ac<|.dR<|aa H,ac<|.int<|aa<|aw p,y,am] (H++[dB p])=.ok (.next,[ac<|.bytes<|aw G,ac<|.dR<|aa H,ac<|.int<|aa<|aw G,i,am]) (H++[dB G]):=by
 intro q
 induction q with
 |nil=>
  intro p e f y Y;cases f with|zero=>exact absurd Y (iR _)|succ f=>?_
  rw[fq] at e;subst e;exact⟨y,ly<|a8 rfl (dy rfl X.z)<|dP<|decide_eq_false<|by exactλM=>bk [aa<|aw G] [] [(1,xi aK,aK)] rfl M⟩
 |cons t q o=>
  intro p e f y Y;cases f with|zero=>exact absurd Y (iR _)|succ f=>?_
  have C:aa (aw p)<aa (aw G):=by(refine(af e)▸(af th)▸?_);have:=ow t;exact cQ<|bk [aa t.b,aa<|aw p,aa<|aw q] [] [(1,ik,aK),(1,xi<|.a (.a bg aK) cu,xi bg)] rfl<|cl this
  have U:(aw G)[aa<|aw p]?=t.b[0]?:=by exact(af e)▸pV 0 (ow t)
  refine be (o (p++[t]) (by refine ah e ?_;simp) f (ac<|.int<|aa t.b)<|sW Y) λi h=>?_;have g:((aw G).drop<|aa<|aw p).take (aa t.b)=t.b:=by exact(af e)▸Tz p q t
  refine⟨i,qH (P:=H++[dB p++[.bytes t.b]]) (a8 rfl (dy rfl X.z)<|dP<|decide_eq_true<|by exact cK.mpr<|by assumption) (bU (p:=.int t.b.length) ?_ (ie (jY rfl (iw rfl rfl (bo rfl rfl rfl) rfl<|ah (oz X.z)<|by(refine(af (gJ ..))▸?_;rw[g])) (by
   have:=fX p;have:=X.len
   simp only[dB,aC];exact cQ<|bk [aa<|aw p,aa<|aw G,aa p] [] [(1,xi aK,bg),(1,cu,aK),(1,bg,.n 100),(1,xi<|.n 16777216,cu)] rfl (cl C) (cl<|by assumption)<|cl this))<|bU (bo rfl rfl rfl) bJ)) ?_⟩
  ·have d:∀{c:UInt8},t.b[0]?=ac c->bp (oQ 15) (.sub cz dE) [ac<|.bytes<|aw G,ac<|.dR<|aa H,ac<|.int<|aa<|aw p,y,am] (H++[dB p])=.ok (.int c.toNat) (H++[dB p]):=λW=>bz rfl rfl (r5 (ah U W) X.z)
   have Z:t≠.u->bp (oQ 15) (.fm (.cmp (.slice ai cz dE (.bin ai .Add dE<|cI 2)<|.const<|.none) [.Eq] [cB [195,169]]) (cI 2)<|cI 1) [ac<|.bytes<|aw G,ac<|.dR<|aa H,ac<|.int<|aa<|aw p,y,am] (H++[dB p])=.ok (.int<|aa t.b) (H++[dB p]):=λT=>by
    have v:(((aw G).drop<|aa<|aw p).take 2==([195,169]:List UInt8))=decide (aa t.b=2):=by
     have:=X.K8;rw[e] at this|-
     exact aiS this T
    have x:bp (oQ 15) (.slice ai cz dE (.bin ai .Add dE<|cI 2)<|.const<|.none) [ac<|.bytes<|aw G,ac<|.dR<|aa H,ac<|.int<|aa<|aw p,y,am] (H++[dB p])=.ok (.bytes<|((aw G).drop<|aa<|aw p).take 2) (H++[dB p]):=
     iw rfl rfl (bo rfl rfl rfl) rfl (ah (oz X.z)<|by rw[gJ])
    induction t with
    |u=>exact absurd rfl T
    |e=>exact fb (a8 x rfl<|by(refine ah jn<|(af v)▸?_);rfl) rfl
    |a=>exact dZ (a8 x rfl<|by(refine ah jn<|(af v)▸?_);rfl) rfl
    |c=>exact dZ (a8 x rfl<|by(refine ah jn<|(af v)▸?_);rfl) rfl
    |n=>exact dZ (a8 x rfl<|by(refine ah jn<|(af v)▸?_);rfl) rfl
   induction t with
   |u=>exact fb (a8 (d rfl) rfl<|fA rfl) rfl
   |a=>exact dZ (a8 (d rfl) rfl<|fA rfl)<|Z nofun
   |e=>exact dZ (a8 (d rfl) rfl<|fA rfl)<|Z nofun
   |c=>exact dZ (a8 (d rfl) rfl<|fA rfl)<|Z nofun
   |n=>exact dZ (a8 (d rfl) rfl<|fA rfl)<|Z nofun
  ·rw[pu] at h;simpa[dB,ql,oi] using h
theorem FA (G):gY (dB G)=true:=na (λ_=>rfl) G
theorem uj (u:dA G) (A:cZ H=aq):iU 1012 [.bytes<|aw G] H=.ok (.lst<|dB G) H:=by
 have C:=fX G;have:=u.len;refine be (ace u A G [] rfl 200 am<|by exact bY (aN (by assumption)<|by assumption)<|by decide) λy h=>?_;rw[acH rfl]
 have:=GC (m:=kX (oQ 15) dF 5 XI [.bytes<|aw G]) (l:=dB G)
  (aL<|i0 (ae xu<|ae rfl ar) ⟨rfl,by simp⟩<|nX h<|bI rfl)
  (by exact(af<|lq rfl)▸A) (bT _) (by simp) (FA _)
 rwa [lq rfl] at this
theorem Fx:∀G k i,i<aa G->(dj k G)[i]?=ac (k+aa (aw<|G.take i))
 |t::r,k,0,_=>rfl
 |t::r,k,i+1,h=>by
  show(dj (k+aa t.b) r)[i]?=_
  (refine ah (Fx r _ i (by simpa using h))<|(af Oa)▸(af<|show aw (t::r.take i)=t.b++aw (r.take i) from rfl)▸(af aJ)▸?_;rw[d9])
theorem BC:∀G,lN (G.map S5)=aa (aw G)
 |[]=>rfl
 |t::r=>by
  have e:lN ((t::r).map S5)=aa t.b+lN (r.map S5):=by simp[lN]
  (refine ah e<|(af<|BC r)▸(af<|show aw (t::r)=t.b++aw r from rfl)▸(af aJ)▸?_);exact cE (dr<|bk [aa t.b,aa<|aw r] [] [(1,xi<|.a aK bg,.a aK bg)] rfl)<|dr<|bk [aa t.b,aa<|aw r] [] [(1,xi<|.a aK bg,.a aK bg)] rfl
theorem B7 (G):dC (dj 1 G)=(dg<|aa G).map λi=>.int (1+lN ((G.take i).map S5)):=by
 refine SU λi=>?_;by_cases h:i<aa G
 ·simp only[dC,bZ,List.getElem?_range h,Fx G 1 i h,BC,yA];exact congrArg (λx:Int=>ac<|dq x)<|cE (dr<|bk [aa<|aw<|ajK i G] [] [(1,xi<|.a ik aK,.a ik aK)] rfl)<|dr<|bk [aa<|aw<|ajK i G] [] [(1,xi<|.a ik aK,.a ik aK)] rfl
 ·(refine ah (JT<|by simp[dC,eO];exact cQ<|bk [aa G,i] [] [(1,aK,bg),(1,xi bg,aK)] rfl<|cl<|cW.mp h) ?_;rw[JT<|by simp;exact cQ<|bk [aa G,i] [] [(1,aK,bg),(1,xi bg,aK)] rfl<|cl<|cW.mp h])
theorem y3 (n:Nat):eu 0 n=(dg n).map λi:Nat=>.int i:=by
 unfold eu
 (refine(af (JW ..))▸(af (et ..))▸?_)
 refine o0 λi _=>?_;rw[sY]
theorem mr (u:dA G) (A:cZ H=aq):iU 1017 [.bytes<|aw G] H=.ok (.lst<|dC<|dj 1 G) H:=by
 have C:=fX G;have:=u.len;have N:aa (dB G)<=1000:=by simp[dB];exact vS ‹_› ‹_› (by rfl)
 have J:eP [.lst<|dB G] H=.ok (.int G.length) H:=ah (BB N)<|by simp[dB]
 (rewrite[acG rfl];refine(af (B7 ..))▸?_)
 refine aH (aL<|bU (bW (ae rfl ar) rfl<|uj u A)<|bI<|sD (qo (dJ (ae rfl ar) J) (by exact⟨dr<|bk [aa G] [] [(1,xi aK,.g<|.n 2000)] rfl,dr<|bk [aa G,aa<|aw G] [] [(1,aK,bg),(1,bg,.n 100),(1,xi<|.n 2000,aK)] rfl (cl C)<|cl this⟩)<|y3 _) rfl (by simp;exact vS ‹_› ‹_› (by rfl)) λi D=>?_) A<|by exact((B7 ..))▸u9 _
 have D:=pJ.mp D;have T:i<=aa (dB G):=by simp[dB];exact eV<|by assumption
 have U:(dB G).take i=(G.take i).map λt=>.bytes t.b:=by simp[dB,aa1]
 have d:=Pa (H:=H) (I:=(G.take i).map S5) (λb B=>by
  refine aI (b3.mp B) λt _ S=>?_;subst S
  have:=yK t;exact kN ‹_› (by rfl))<|by simp;exact cQ<|bk [aa G,aa<|aw G,i,min i<|aa G] [] [(1,aK,bg),(1,bg,.n 100),(1,xi cu,aK),(1,io,cu),(1,xi<|.n 200,io)] rfl (cl C) (cl this) (cl D)<|cl<|ao<|eN<|cQ<|bk [i,aa G] [] [(1,xi aK,bg),(1,xi bg,aK)] rfl<|cl D
 rw[gV] at d;refine⟨_,rfl,bo rfl (dJ (ae (sD (IL (iw rfl rfl rfl rfl<|ah (HN T N)<|by rw[U]) rfl) rfl (by simp;exact cQ<|bk [aa G,aa<|aw G,i,min i<|aa G] [] [(1,aK,bg),(1,bg,.n 100),(1,xi cu,aK),(1,io,cu),(1,xi<|.n 1000,io)] rfl (cl C) (cl this) (cl D)<|cl<|ao<|eN<|cQ<|bk [i,aa G] [] [(1,xi aK,bg),(1,xi bg,aK)] rfl<|cl D) λt _=>⟨_,rfl,dy rfl (by have:=yK t;exact kN ‹_› (by rfl))⟩) ar) d) rfl⟩
section
variable {H:Hp} {ts:List Tk} {p:List UInt8}
theorem B9 {l r:List PV} (z:aa l+aa r<=1000):C0 ai .Add (.lst l) (.lst r) H=.ok (.lst<|l++r) H:=by
 unfold C0;rw[if_neg (by decide),if_pos ⟨rfl,rfl⟩];refine lj rfl<|lj rfl ?_
 rw[if_pos<|kN ‹_› (by rfl)];rfl
theorem Im (l:List PV):lS .NotEq (.lst l) (.lst []) H=.ok (!l.isEmpty) H:=by
 show ax (zL (.lst l)<|.lst []) (λx=>ay<|!x) H=_
 induction l with
 |nil=>refine fh ?_ rfl;unfold zL;simp[nM]
 |cons x l=>refine fh ?_ rfl;unfold zL;simp[nM]
def tg (ts:List Tk) (p:List UInt8):List Nat:=if p=[] then dj 1 ts++[aa (aw ts)+1] else(eY ts p).map (· +1)
theorem Ih {o:List UInt8} {n:Nat} (h:n<=aa o):u6 o p n=((o.drop n).take (aa p)==p):=by
 unfold u6
 cases q:((o.drop n).take (aa p)==p) with
 |false=>rw[ic]
 |true=>
  have:=congrArg aa<|eq_of_beq q
  rw[rF,hY] at this;rw[decide_eq_true<|by exact cQ<|bk [aa p,min (aa p)<|aa o-n,aa o-n,n,aa o] [] [(1,aK,bg),(1,.a cu io,.v 4),(1,bg,cu),(1,xi<|.v 4,.a io aK)] rfl (cl<|ao<|af this) (cl<|ao<|bQ<|cQ<|bk [n,aa o] [] [(1,aK,bg),(1,xi bg,aK)] rfl<|cl h)<|cl<|Ws _ _];rfl
theorem wA (n:Nat):((dj 1 ts++[aa (aw ts)+1]).any λm=>decide<|(m:Int)=(n:Int)+1)=(decide (n=aa (aw ts))||mU ts n):=by
 (refine ah Ww<|(af (ms ..))▸(af rW)▸?_)
 have Z:((dj 0 ts).any<|(λm:Nat=>decide<|(m:Int)=(n:Int)+1)∘λm=>m+1)=mU ts n:=by unfold mU;congr 1;funext m;show decide (((m+1:Nat):Int)=(n:Int)+1)=decide ((m:Int)=n);exact decide_eq_decide.mpr<|(lu (m:=m+1) (n:=n+1)).trans<|JP.trans lu.symm
 (refine(af Z)▸ah (Bool.or_comm ..) ?_)
 congr 1;simp only[vP,abA,abb];exact decide_eq_decide.mpr<|(lu (m:=_+1) (n:=n+1)).trans<|JP.trans eq_comm
theorem Mk {n:Nat} (F:n∈dj 0 ts):dO ts p n=(((aw ts).drop n).take (aa p)==p&&((dj 1 ts++[aa (aw ts)+1]).any λm=>decide<|(m:Int)=((n+(aa p):Nat):Int)+1)):=by have t:=kK ts 0 n F;unfold dO;rw[Ih (by exact cQ<|bk [n,aa<|aw ts] [] [(1,xi aK,.a ei bg),(1,xi bg,aK)] rfl<|cl t.2),wA,tm.mpr ⟨n,F,rfl⟩,nL]
theorem ym (a b:List Nat):dC a++dC b=dC (a++b):=by simp[dC]
theorem afC {B:on} {V:bO} {x y:CE} {c d:Bool} (h:j6 B x V (bp B x V) H=.ok c H) (k:c=aq->j6 B y V (bp B y V) H=.ok d H):j6 B (.bool aq [x,y]) V (bp B (.bool aq [x,y]) V) H=.ok (c&&d) H:=by
 induction c with
 |false=>exact mn h
 |true=>exact kl h<|jg<|k rfl
theorem y4 (Z:dA ts) (N:aa p<=1000) (A:cZ H=aq):iU 1076 [.bytes<|aw ts,.bytes p] H=.ok (.lst<|dC<|tg ts p) H:=by
 have C:=fX ts;have:=Z.len;have B:aa (dC<|dj 1 ts)<=100:=by simp[dC,eO];exact vS ‹_› ‹_› (by rfl)
 have J:dC (dj 1 ts)++[.int<|(aw ts).length+1]=dC (dj 1 ts++[(aw ts).length+1]):=ym _ [aa (aw ts)+1];rw[acw rfl];refine aH (qf ?_) A<|u9 _
 unfold tg;by_cases W:p=[]
 ·refine(af<|if_pos W)▸?_;subst W;exact⟨_,bU (bW (ae rfl ar) rfl<|mr Z A)<|bU (bo rfl (iH (ae (bo (dy rfl Z.z) rfl rfl) ar)<|by simp)<|ah (B9<|by simp;exact kN ‹_› (by rfl))<|by rw[J])<|ky (a8 rfl rfl rfl)<|bI rfl⟩
 ·refine(af<|if_neg W)▸?_;have X:(p==([]:List UInt8))=false:=by simpa using W
  have m:dC (dj 1 ts)=(dj 0 ts).map λn:Nat=>.int (n+1):=by refine(af (ms ..))▸?_;simp[dC]
  have i:dC ((eY ts p).map (· +1))=((dj 0 ts).filter<|dO ts p).map λn:Nat=>.int (n+1):=by simp[dC,eY]
  refine(af i)▸?_;refine⟨_,bU (bW (ae rfl ar) rfl<|mr Z A)<|bU (bo rfl (iH (ae (bo (dy rfl Z.z) rfl rfl) ar)<|by simp)<|ah (B9<|by simp;exact kN ‹_› (by rfl))<|by rw[J])<|eS (a8 rfl rfl<|by(refine ah jn ?_;rw[X])) bJ<|bI<|sE (nv rfl) m (by exact(af (eO ..))▸(vS ‹_› ‹_› (by rfl))) λn F=>⟨_,rfl,?_,λ_=>rfl⟩⟩;refine(af<|Mk F)▸?_;have m1:∀{H:Hp},C0 ai .Sub (.int<|(n:Int)+1) (.int 1) H=.ok (.int n) H:=λ{H}=>congrArg (λx=>dt (dq x) H) nt;refine afC (a8 (iw (l:=.int n) (u:=.int (n+p.length:Nat)) rfl (bo rfl rfl m1) (bo (bo rfl rfl m1) (dy rfl N) rfl) rfl<|(oz Z.z).trans<|by rw[gJ]) rfl jn) λ_=>a8 (bo rfl (dy rfl N) rfl) rfl<|(af<|show(n:Int)+1+p.length=((n+p.length:Nat):Int)+1 by exact cE (dr<|bk [n,p.length] [] [(1,xi<|xi<|.a aK bg,.a (xi aK) bg)] rfl)<|dr<|bk [n,p.length] [] [(1,xi<|.a (xi aK) bg,xi<|.a aK bg)] rfl)▸?_
  exact tv _ _
def cuB:List CS:=[.fm (.cmp lk [.GtE] [jc]) [.expr<|.gj iZ dE [.slice ai cz (.bin ai .Sub jc<|cI 1) (.bin ai .Sub lk<|cI 1)<|.const<|.none],.assign 3<|.bin ai .Add lk<|.bw eP [cm]] []]
theorem aeO {o:List UInt8} (L:aa o<=1000) (N:aa p<=1000):∀(l:List Nat) (S:List (List UInt8)) (b:Nat) (y:Option PV),aa S+aa l<=1000->∃d Y i,S++qU o (aa p) l b=d++[o.drop Y]/\aa d<=1000/\
 iu (λQ p=>f9 Q [4] aq p) (λQ=>fY (oQ 8) dF cuB Q) (l.map λn:Nat=>.int<|n+1) [ac<|.bytes o,ac<|.bytes p,ac<|.dR<|aa H,ac<|.int<|b+1,y,am,am,am] (H++[S.map .bytes])=
  .ok (.next,[ac<|.bytes o,ac<|.bytes p,ac<|.dR<|aa H,ac<|.int<|Y+1,i,am,am,am]) (H++[d.map .bytes]):=by
 intro l
 induction l with
 |nil=>exactλS b y I=>⟨S,b,y,rfl,I,rfl⟩
 |cons n l Z=>
  intro S b y I;have m1:∀{n:Nat} {H:Hp},C0 ai .Sub (.int<|(n:Int)+1) (.int 1) H=.ok (.int n) H:=λ{n H}=>congrArg (λx=>dt (dq x) H) nt;rw[BY];by_cases h:b<=n
  ·refine(af<|if_pos h)▸?_;refine wB (Z (S++[(o.drop b).take<|n-b]) (n+aa p) (ac<|.int<|n+1)<|by simp at I|-;exact cQ<|bk [aa S,aa l] [] [(1,.a aK<|xi bg,.n 1000),(1,xi<|.n 1000,.a (xi aK) bg)] rfl<|cl I) λd Y i e z r=>?_;refine⟨d,Y,i,by refine(e)▸?_;simp,z,iG (g:=H++[S.map .bytes++[.bytes<|(o.drop b).take<|n-b]]) rfl (eS (a8 rfl rfl<|jB<|decide_eq_true<|by exact dr<|bk [b,n] [] [(1,aK,bg),(1,xi<|xi bg,xi aK)] rfl<|cl h) (ie (jY rfl (iw rfl (bo rfl rfl m1) (bo rfl rfl m1) rfl<|oz L)<|by simp at I|-;exact aN (aN (co _ _)<|by assumption)<|by decide)<|bU (p:=.int<|(n+p.length:Nat)+1) (bo rfl (dy rfl N) ?_) bJ) bJ) ?_⟩
   ·exact congrArg (λx=>dt (dq x) _)<|show(n:Int)+1+p.length=((n+p.length:Nat):Int)+1 by exact cE (dr<|bk [n,p.length] [] [(1,xi<|xi<|.a aK bg,.a (xi aK) bg)] rfl)<|dr<|bk [n,p.length] [] [(1,xi<|.a (xi aK) bg,xi<|.a aK bg)] rfl
   ·simp only[b4] at r;exact r
  ·refine(af<|if_neg h)▸?_;refine wB (Z S b (ac<|.int<|n+1)<|by simp at I|-;exact cQ<|bk [S.length,l.length] [] [(1,.a aK<|xi bg,.n 1000),(1,xi<|.n 1000,.a aK bg)] rfl<|cl I) λd Y i e z r=>?_;exact⟨d,Y,i,e,z,iG rfl (eS (c:=ai) (a8 rfl rfl<|jB<|decide_eq_false<|by exactλM=>bk [n,b] [] [(1,xi aK,bg),(1,xi bg,xi aK)] rfl (cl<|wU.mp h) M) bJ bJ) r⟩
theorem T5 (u:dA ts) (W:p≠[]) (N:aa p<=1000) (A:cZ H=aq):iU 1083 [.bytes<|aw ts,.bytes p] H=.ok (.lst<|(AW ts p).map .bytes) H:=by
 have C:=DJ (p:=p) u
 have R:aa (eY ts p)<=100:=by
  have Z:=gb (dO ts p)<|dj 0 ts
  rw[eO] at Z;have:=fX ts;have:=u.len;unfold eY;exact aN (aN (by assumption)<|aN (by assumption)<|by assumption)<|by decide
 refine wB (aeO (H:=H) u.z N (eY ts p) [] 0 am<|by simp;exact kN ‹_› (by rfl)) λS b y e z r=>?_;rw[gK] at e;have m1:∀{n:Nat} {H:Hp},C0 ai .Sub (.int<|(n:Int)+1) (.int 1) H=.ok (.int n) H:=λ{n H}=>congrArg (λx=>dt (dq x) H) nt;have X:(p==([]:List UInt8))=false:=by simpa using W
 have D:dC (tg ts p)=(eY ts p).map λn:Nat=>.int (n+1):=by unfold tg dC;refine(af<|if_neg W)▸?_;simp
 have g:(H++[S.map qx])[H.length]?=ac (S.map .bytes):=oh
 have J:aa S<=101:=by have:=congrArg aa e;simp only[aJ,bN,d8] at this;have:=C.2;unfold AW at this;exact cQ<|bk [aa S,aa<|qU (aw ts) p.length (eY ts p) 0] [] [(1,.a aK<|xi ei,bg),(1,bg,.n 101),(1,xi<|.n 101,aK)] rfl (cl<|ao<|af<|by assumption)<|cl this
 unfold AW
 (refine(af e)▸?_;rw[acv rfl])
 refine om (l:=S.map .bytes) (qf ⟨_,eS (c:=ai) (a8 rfl rfl<|by(refine ah jn ?_;rw[X])) bJ<|i0 (Z:=[.dR H.length,.int 1]) (ae xu<|ae rfl ar) ⟨rfl,by simp⟩<|rq (De<|bW (ae rfl<|ae rfl ar) (by kernel_rfl)<|(y4 u N<|nY A rfl).trans<|by refine(af D)▸?_;rfl) r<|bI<|bo rfl (iH (l:=[.bytes<|(aw ts).drop b]) (ae (iw (l:=.int b) rfl (bo rfl rfl m1) rfl rfl<|CF u.z) ar)<|by simp)<|(yu g<|by simp;exact kN ‹_› (by rfl)).trans<|by simp⟩) A<|na (λ_=>rfl) _
end
noncomputable def Rp (g:List PV->Bool):PV->Bool
 |.none=>aq
 |.bool _=>aq
 |.int _=>aq
 |.str _=>aq
 |.bytes _=>aq
 |.tup l=>g l
 |_=>ai
noncomputable def qp (d:Nat):PV->Bool:=x3 (Rp λ_=>ai) (λ_ f=>Rp λl=>l.all f) d
theorem Ro (o:∀p,f p=aq->g p p=ac aq/\jd p=aq) (l) (h:l.all f=aq):y7 g l l=ac aq/\gY l=true:=by
 induction l with
 |nil=>exact⟨rfl,rfl⟩
 |cons p l q=>have⟨a,b⟩:=(bu _ _).mp h;have⟨J,R⟩:=o p a;have⟨Z,X⟩:=q b;exact⟨by show((g p p).bind λx=>(y7 g l l).map λy=>x&&y)=_;(refine(af J)▸(af Z)▸?_);rfl,by show(jd p&&gY l)=aq;(refine(af R)▸ah X ?_);rfl⟩
theorem BM (o:∀l,g l=aq->q l l=ac aq/\gY l=aq) (p) (h:Rp g p=aq):Kn q p p=ac aq/\jd p=true:=by
 cases p with
 |none=>exact⟨rfl,rfl⟩
 |bool b=>exact⟨congrArg ac<|beq_self_eq_true b,rfl⟩
 |int b=>exact⟨congrArg ac<|beq_self_eq_true b,rfl⟩
 |str b=>exact⟨congrArg ac<|beq_self_eq_true b,rfl⟩
 |bytes b=>exact⟨congrArg ac<|beq_self_eq_true b,rfl⟩
 |tup l=>have⟨a,b⟩:=o l h;exact⟨a,b⟩
 |_=>cases h
theorem KR (d):∀p,qp d p=aq->m6 d p p=ac aq/\jd p=true:=by
 induction d with
 |zero=>exactλp h=>BM (λ_ h=>ku h) p h
 |succ d o=>exactλp h=>BM (Ro o) p h
def ahx (O:List Nat):Option Addr:=(okV<|uW (.dct cH d6) (.str O) []).bind XC
def el (O:List Nat) (u:bn):Prop:=ahx O=ac u
theorem el.get (h:el O u):∃a b c,uW (.dct cH d6) (.str O) []=.ok (.tup<|a::b::.ref u::c) []:=by exact aI (bind_some h) λp e h=>aI (bind_some h) λm em h=>Vw (Fo h) λa b c l g h=>⟨a,b,l,by(refine ah (Ic e)<|(af<|pq em)▸(af g)▸?_;rw[u3 h])⟩
inductive gO:PV->Prop
 |mk (nm:List Nat) (args:List PV) (due:PV) (Nv:bn) (r:el nm Nv) (h:Hd Nv args due) (f:qp 8 due=aq) (n:gY args=aq):gO (.tup [.str nm,.tup args,due])
theorem gO.jd (h:gO c):Internal.jd c=true:=by
 induction h with
 |mk O D q u r h f n=>have:=(KR _ _ f).2;simp[lI,lJ,i4,lK,ft,gh,n,this]
theorem Bp:el (bb "text_octet").cps.toList 735:=by unfold el;kernel_rfl
theorem y1:el (bb "text_at").cps.toList 742:=by unfold el;kernel_rfl
theorem E9:el (bb "text_next").cps.toList 749:=by unfold el;kernel_rfl
theorem E8:el (bb "text_prev").cps.toList 756:=by unfold el;kernel_rfl
theorem CL:el (bb "text_is_start").cps.toList 770:=by unfold el;kernel_rfl
theorem HS:el (bb "text_length").cps.toList 721:=by unfold el;kernel_rfl
theorem PB:el (bb "text_last").cps.toList 763:=by unfold el;kernel_rfl
theorem CK:el (bb "text_is_valid").cps.toList 777:=by unfold el;kernel_rfl
theorem CJ:el (bb "text_reversed").cps.toList 808:=by unfold el;kernel_rfl
theorem E7:el (bb "text_written").cps.toList 923:=by unfold el;kernel_rfl
theorem po:el (bb "text_sub").cps.toList 789:=by unfold el;kernel_rfl
theorem r8:el (bb "text_find").cps.toList 825:=by unfold el;kernel_rfl
theorem AI:el (bb "text_find_last").cps.toList 832:=by unfold el;kernel_rfl
theorem HQ:el (bb "text_starts").cps.toList 846:=by unfold el;kernel_rfl
theorem PC:el (bb "text_ends").cps.toList 853:=by unfold el;kernel_rfl
theorem u0:el (bb "text_replaced").cps.toList 818:=by unfold el;kernel_rfl
theorem lD:el (bb "text_repeated").cps.toList 801:=by unfold el;kernel_rfl
theorem AH:el (bb "text_of_number").cps.toList 881:=by unfold el;kernel_rfl
theorem HR:el (bb "text_number").cps.toList 888:=by unfold el;kernel_rfl
theorem HT:el (bb "text_joined").cps.toList 794:=by unfold el;kernel_rfl
theorem ui:el (bb "symbol_of").cps.toList 930:=by unfold el;kernel_rfl
theorem PD:el (bb "char_of").cps.toList 902:=by unfold el;kernel_rfl
def Ab (G:List Tk) (w:Int):List Nat:=0::(dj 1 G).filter λn:Nat=>decide<|(n:Int)<w
def tu (G:List Tk) (w:Int):List Nat:=((dj 1 G).filter λn:Nat=>decide<|w<n)++[aa (aw G)+1]
theorem Sh (G) (w:Int):(tu G w)[0]?=ac (vc G (w-1)+1):=by
 unfold tu vc
 (refine(af (ms ..))▸(af Az)▸?_)
 have:((λn:Nat=>decide<|w<n)∘λm=>m+1)=λn:Nat=>decide (w-1<n):=by funext n;show decide (w<((n+1:Nat):Int))=_;exact decide_eq_decide.mpr<|⟨@Int.sub_right_lt_of_lt_add w n 1,@Int.lt_add_of_sub_right_lt w n 1⟩
 refine(af this)▸?_;cases(dj 0 G).filter λn:Nat=>decide (w-1<n)<;>rfl
theorem Lb (G) (w:Int):∃n,(Ab G w).getLast?=ac n/\(n:Int)=r9 G (w-1)+1:=by
 unfold Ab r9
 (refine(af (ms ..))▸(af Az)▸?_)
 have:((λn:Nat=>decide<|(n:Int)<w)∘λm=>m+1)=λn:Nat=>decide ((n:Int)<w-1):=by funext n;show decide (((n+1:Nat):Int)<w)=_;exact decide_eq_decide.mpr<|⟨@Int.lt_sub_right_of_add_lt n 1 w,@Int.add_lt_of_lt_sub_right n 1 w⟩
 refine(af this)▸?_
 cases h:((dj 0 G).filter λn:Nat=>decide<|(n:Int)<w-1).getLast? with
 |none=>rw[List.getLast?_eq_none_iff] at h;refine(af h)▸?_;exact⟨0,rfl,rfl⟩
 |some n=>
  refine⟨n+1,?_,by simp⟩
  (refine ah List.getLast?_cons ?_;refine(af xG)▸?_;refine(af h)▸?_);rfl
def ixV (G:List Tk) (x:Ix) (a M:PV):bO:=[ac<|.bytes<|aw G,ac x.p,ac<|.int x.w,ac<|a7<|aw G,ac<|.lst<|dC<|dj 1 G,ac a,ac<|.int<|aa<|aw G,ac M,ac<|.lst<|dC<|tu G x.w,ac<|.lst<|dC<|Ab G x.w,am,am,am,am,am,am,am]
def SD (B:on) (V:bO) (H:Hp) (e:CE) (O:String) (D:List PV):Prop:=∃d,bp B e V H=.ok d H/\gO (.tup [cV O,.tup D,d])
theorem jJ (o) (x:Ix):gY [a7 o,x.p]=true:=by simp[ft,gh,lI,lJ,i4,lK,a7,cV,gZ]
theorem Vd (d) (x:Ix):qp (d+1) x.p=true:=by
 rcases d<;>cases x with
 |bl _=>rfl
 |nm g _=>rcases g<;>rfl
theorem lR (d:Nat) (o) (x:Ix):qp (d+3) (cR o x)=true:=by
 have h:=Vd d x;unfold cR;cases x.room
 ·show(aq&&((qp (d+1) (a7 o)&&(qp (d+1) x.p&&aq))&&aq))=aq;refine(af h)▸?_;rcases d<;>rfl
 ·rcases d<;>rfl
theorem Np (u:dA G) (M):SD (oQ 3) (ixV G x (cR (aw G) x) M) H (.fm (.cmp (cI 1) [.LtE,.LtE] [dE,qb]) (.tup [w0,cS [85,73,110,116,56],.sub cz<|.bin ai .Sub dE<|cI 1]) pM) "text_octet" [a7<|aw G,x.p]:=by
 have C:=u.len;by_cases h:1<=x.w/\x.w<=aa (aw G)
 ·obtain⟨n,F⟩:∃n:Nat,x.w=n+1:=⟨(x.w-1).toNat,by exact cE (dr<|bk [(x.w-1).toNat] [x.w] [(1,.s cA ik,aK),(1,xi<|xi aK,cA)] rfl<|aU<|af<|bB<|dr<|bk [] [x.w] [(1,ik,cA),(1,xi<|.s cA ik,ei)] rfl h.1)<|dr<|bk [(x.w-1).toNat] [x.w] [(1,aK,.s cA ik),(1,xi cA,xi aK)] rfl<|aU<|bB<|dr<|bk [] [x.w] [(1,ik,cA),(1,xi<|.s cA ik,ei)] rfl h.1⟩;have t:n<aa (aw G):=by exact cQ<|bk [aa<|aw G,n] [x.w] [(1,cA,aK),(1,xi bg,cA),(1,xi aK,xi bg)] rfl h.2<|aU<|af F
  have P:=aP t;refine⟨Qa (aw G)[n],fb (gA rfl rfl rfl<|decide_eq_true h) (bx (ae rfl<|ae rfl<|ae (bz rfl (bo rfl rfl ?_)<|r5 P u.z) ar)<|by simp),.mk _ _ _ _ Bp (P9 u.z P F) rfl (jJ _ _)⟩;refine(af F)▸?_;exact congrArg (λx=>dt (dq x) H) nt
 ·refine⟨cR (aw G) x,dZ (gA rfl rfl rfl<|decide_eq_false h) rfl,.mk _ _ _ _ Bp ?_ (lR _ _ _) (jJ _ _)⟩
  cases d:x.room with
  |false=>exact Mr d
  |true=>exact Mq u.z d h
inductive FsR (ts:List Tk) (w:Int):PV->Prop
 |sign (p:List Tk) (t:Tk) (q:List Tk) (e:ts=p++t::q) (hw:w=aa (aw p)+1):FsR ts w (xx t.shown)
 |no (h:mU ts (w-1)=ai):FsR ts w (kc ng)
theorem aaj (u:dA G) (Y:FsR G x.w M):SD (oQ 3) (ixV G x (cR (aw G) x) M) H (.fm (.cmp (cI 1) [.LtE,.LtE] [dE,qb]) Ti pM) "text_at" [a7<|aw G,x.p]:=by
 have C:=u.len;by_cases h:1<=x.w/\x.w<=aa (aw G)
 ·refine⟨M,fb (gA rfl rfl rfl<|decide_eq_true h) rfl,?_⟩
  induction Y with
  |sign p t q e Z=>subst e;exact .mk _ _ _ _ y1 (afD u Z) rfl (jJ _ _)
  |no B=>exact .mk _ _ _ _ y1 (Sk (te<|by exact⟨dr<|bk [] [x.w] [(1,ik,cA),(1,xi cA,.g ik)] rfl h.1,dr<|bk [aa<|aw G] [x.w] [(1,aK,.n 100),(1,cA,aK),(1,xi<|.n 2000,cA)] rfl (cl C) h.2⟩) (ux u fy h B) rfl<|qE wL) rfl (jJ _ _)
 ·refine⟨cR (aw G) x,dZ (gA rfl rfl rfl<|decide_eq_false h) rfl,.mk _ _ _ _ y1 ?_ (lR _ _ _) (jJ _ _)⟩
  cases d:x.room with
  |false=>exact aaD d
  |true=>exact Sk d (uw u fy h) (fa rfl)<|by(refine ah jF ?_;rw[oR d])
theorem Qs {i n:Nat} (h:l[i]?=ac n):(dC l)[i]?=ac (.int n):=by unfold dC;(refine ah bZ ?_;refine(af h)▸?_);rfl
theorem wk {n:Nat} (h:l.getLast?=ac n):(dC l).getLast?=ac (.int n):=by unfold dC;(refine ah xG ?_;refine(af h)▸?_);rfl
theorem Jp (u:dA G) (w:Int):aa (dC<|tu G w)<=1000:=by
 have J:=gb (λn:Nat=>decide<|w<n)<|dj 1 G
 have R:=fX G;have:=u.len;rw[eO] at J;simp[dC,tu];exact aN (aN (by assumption)<|aN (by assumption)<|by assumption)<|by decide
theorem RP (u:dA G) (A:cZ H=aq) (M:PV):SD (oQ 3) (ixV G x (cR (aw G) x) M) H (.fm (.cmp (cI 0) [.LtE,.LtE] [dE,qb]) (.aA 1031 [.sub xO<|cI 0]) pM) "text_next" [a7<|aw G,x.p]:=by
 have C:=u.len;by_cases h:0<=x.w/\x.w<=aa (aw G)
 ·exact⟨mv<|vc G (x.w-1)+1,fb (gA rfl rfl rfl<|decide_eq_true h)<|bW (ae (bz rfl rfl<|yN (Qs<|Sh G x.w)<|Jp u _) ar) rfl<|pp A _,.mk _ _ _ _ E9 (Up u h) rfl (jJ _ _)⟩
 ·refine⟨cR (aw G) x,dZ (gA rfl rfl rfl<|decide_eq_false h) rfl,.mk _ _ _ _ E9 ?_ (lR _ _ _) (jJ _ _)⟩
  cases d:x.room with
  |false=>exact Qq d
  |true=>exact Qp u d h
theorem RO (u:dA G) (A:cZ H=aq) (M:PV):SD (oQ 3) (ixV G x (cR (aw G) x) M) H (.fm (.cmp (cI 1) [.LtE,.LtE] [dE,.bin ai .Add qb<|cI 1]) (.aA 1031 [.sub Cp<|.neg<|cI 1]) pM) "text_prev" [a7<|aw G,x.p]:=by
 have C:=u.len;by_cases h:1<=x.w/\x.w<=aa (aw G)+1
 ·exact aI (Lb G x.w) λn J R=>⟨mv<|r9 G (x.w-1)+1,fb (gA rfl rfl (bo rfl rfl rfl)<|decide_eq_true h) (bW (ae (bz rfl mQ<|sub_neg<|wk J) ar) rfl<|ah (pp A _)<|by rw[R]),.mk _ _ _ _ E8 (T8 u h) rfl (jJ _ _)⟩
 ·refine⟨cR (aw G) x,dZ (gA rfl rfl (bo rfl rfl rfl)<|decide_eq_false h) rfl,.mk _ _ _ _ E8 ?_ (lR _ _ _) (jJ _ _)⟩
  cases d:x.room with
  |false=>exact PR d
  |true=>exact PQ u d h
theorem oU (G) (w:Int):((dj 1 G).any λn:Nat=>decide<|(n:Int)=w)=mU G (w-1):=by
 (refine(af (ms ..))▸ah rW ?_)
 unfold mU;congr 1;funext n;show decide (((n+1:Nat):Int)=w)=_;exact decide_eq_decide.mpr (⟨λh=>h▸(cr n 1).symm,λh=>(congrArg (· +1) h).trans<|Int.sub_add_cancel w 1⟩)
theorem No (u:dA G) (M):SD (oQ 3) (ixV G x (cR (aw G) x) M) H (.tup [En,.cmp dE [.In] [lk]]) "text_is_start" [a7<|aw G,x.p]:=
 ⟨sO<|mU G<|x.w-1,bx (ae rfl<|ae (oM rfl rfl<|ah (tv _ _)<|by rw[oU]) ar) (by simp),.mk _ _ _ _ CL (Po u) rfl (jJ _ _)⟩
def j3 (D:List PV):Prop:=∀c∈D,gO c
theorem j3.gY:∀{D},j3 D->Internal.gY D=aq
 |[],_=>rfl
 |c::D,h=>by simp[ft,gh,(h c<|by simp).jd,j3.gY (λd g=>h d (by simp[g]):j3 D)]
theorem j3.cons (h:gO c) (Z:j3 D):j3 (c::D):=λd hd=>by
 rcases aM.mp hd with rfl|hd
 ·exact h
 ·exact Z d hd
open j3 renaming cons->Ye
theorem j3.nil:j3 []:=λ_ h=>by cases h
theorem j3.app (I:j3 a) (B:j3 b):j3 (a++b):=λc P=>(eG.mp P).elim (I c)<|B c
theorem vA (h:fY B E [s] V H=.ok (.next,Q) H'):fY B E (s::l) V H=fY B E l Q H':=by
 have e:fY B E [s] V H=ax (KT B E s V) (λx=>match x.1 with|.next=>fY B E [] x.2|f=>ay (f,x.2)) H:=rfl;have R:fY B E (s::l) V H=ax (KT B E s V) (λx=>match x.1 with|.next=>fY B E l x.2|f=>ay (f,x.2)) H:=rfl;rw[e,f0] at h
 (refine ah R<|ah (f0 ..) ?_)
 cases q:KT B E s V H with
 |ok a Z=>rw[q] at h;obtain⟨f,v⟩:=a;rcases f<;>cases h;rfl
 |exc p Z=>rw[q] at h;cases h
 |stuck=>rw[q] at h;cases h
theorem U0 (p q t):(dj 1<|p++t::q).idxOf (aa (aw p)+1)=aa p:=by
 have h:aa (aw p)+1∉dj 1 p:=λh=>by have:=kK p 1 _ h;exact bk [aa<|aw p] [] [(1,xi<|xi aK,.a ik aK)] rfl<|cl this.2
 (refine(af (qk ..))▸ah List.idxOf_append<|ah (if_neg h)<|(af (eO ..))▸(af<|show dj (1+(aw p).length) (t::q)=(1+(aw p).length)::dj (1+(aw p).length+t.b.length) q from rfl)▸(af (gs 1 ..))▸?_;rw[List.idxOf_cons_self,fV])
theorem Us (p q t):aa (aw p)+1∈dj 1 (p++t::q):=by
 (refine(af (qk ..))▸(af<|show dj (1+(aw p).length) (t::q)=(1+(aw p).length)::dj (1+(aw p).length+t.b.length) q from rfl)▸(af (gs 1 ..))▸?_)
 simp
theorem Ui (u:dA G):∀n∈dj 1 G,n<=1000:=λn F=>by exact aN (eV (kK G 1 n F).2)<|aN (dH u.len 1)<|by decide
theorem KW {j i k:Nat} (u:dA (p++t::q)) (A:cZ H=aq) {w:Int} (Z:w=aa (aw p)+1) (U:bp (oQ j) cz V H=.ok (.bytes<|aw<|p++t::q) H) (D:bp (oQ j) (.loc i) V H=.ok (.lst<|dC<|dj 1<|p++t::q) H) (G:bp (oQ j) (.loc k) V H=.ok (.int w) H)
 (d:((rI.take j).all λf=>decide<|(1012:bn)≠f.addr)=aq):bp (oQ j) (.sub (.aA 1012 [.loc 0])<|.gj .index (.loc i) [.loc k]) V H=.ok (.bytes t.b) H:=by
 have R:=fX<|p++t::q
 have y:=u.len;refine bz (bW (ae U ar) d<|uj u A) (iX D rfl (ae (a:=.int ((aw p).length+1:Nat)) (ah G<|by rw[Z];rfl) ar)<|ah (QX (Us p q t) (Ui u)<|by rw[eO];exact vS ‹_› ‹_› (by rfl))<|by rw[U0])<|yN (by simp[dB])<|by simp[dB] at R|-;exact vS ‹_› ‹_› (by rfl)
theorem Br (u:dA G) (A:cZ H=aq) (x:Ix):∃D,iU 1064 [.bytes<|aw G,x.p] H=.ok (.lst D) H/\j3 D/\aa D=5:=by
 have L:=fX G;have y:=u.len
 have J:aa ((dj 1 G).filter λn:Nat=>decide<|x.w<n)<=100:=by
  have:=gb (λn:Nat=>decide<|x.w<n)<|dj 1 G
  rw[eO] at this;exact aN (aN (by with_reducible assumption)<|aN (by with_reducible assumption)<|by with_reducible assumption)<|by decide
 have c:aa ((dj 1 G).filter λn:Nat=>decide<|(n:Int)<x.w)<=100:=by
  have:=gb (λn:Nat=>decide<|(n:Int)<x.w)<|dj 1 G
  rw[eO] at this;exact aN (aN (by with_reducible assumption)<|aN (by with_reducible assumption)<|by with_reducible assumption)<|by decide
 obtain⟨M,Y,h⟩:∃M,FsR G x.w M/\fY (oQ 3) dF [.fm (.cmp dE [.In] [lk]) [.assign 7<|.tup [cS [99,104,97,114],.aA 1024 [.sub (.aA 1012 [cz])<|.gj agq lk [dE]]]] []]
  [ac<|.bytes<|aw G,ac x.p,ac<|.int x.w,ac<|a7<|aw G,ac<|.lst<|dC<|dj 1 G,ac<|cR (aw G) x,ac<|.int<|aa<|aw G,ac<|kc ng,am,am,am,am,am,am,am,am,am] H=
  .ok (.next,[ac<|.bytes<|aw G,ac x.p,ac<|.int x.w,ac<|a7<|aw G,ac<|.lst<|dC<|dj 1 G,ac<|cR (aw G) x,ac<|.int<|aa<|aw G,ac M,am,am,am,am,am,am,am,am,am]) H:=by
  cases B:mU G (x.w-1) with
  |false=>exact⟨_,.no B,eS (a8 rfl rfl<|ah (tv _ _)<|by rw[oU,B]) bJ bJ⟩
  |true=>
   refine aI (tm.mp B) λm _ U=>?_;refine sF (BI<|by rw[U];exact B) λp t q S e=>?_;subst S;have Z:x.w=aa (aw p)+1:=by exact cE (dr<|bk [m,aa<|aw p] [x.w] [(1,.s cA ik,aK),(1,aK,bg),(1,xi<|xi bg,cA)] rfl (aU<|af U)<|cl<|ao e)<|dr<|bk [m,aa<|aw p] [x.w] [(1,aK,.s cA ik),(1,bg,aK),(1,xi cA,xi bg)] rfl (aU U)<|cl<|ao<|af e
   exact⟨_,.sign p t q rfl Z,eS (a8 rfl rfl<|ah (tv _ _)<|by rw[oU,B]) (bU (bx (ae rfl<|ae (bW (ae (KW u A Z rfl rfl rfl rfl) ar) rfl<|y5 A t) ar)<|by simp) bJ) bJ⟩
 refine aI (Np (H:=H) (x:=x) u M) λX N c1=>aI (aaj (H:=H) (x:=x) u Y) λO i c2=>aI (RP (x:=x) u A M) λr W d=>?_;refine aI (RO (H:=H) (x:=x) u A M) λQ R k=>aI (No (H:=H) (x:=x) u M) λb C a=>?_;have I:=Ye c1<|.cons c2<|.cons d<|.cons k<|.cons a .nil
 refine⟨_,?_,I,rfl⟩;have j:∀(P:Nat->Bool),dC ((dj 1 G).filter P)=((dj 1 G).filter P).map λn:Nat=>.int n:=λ_=>rfl;rw[acz rfl];refine aH (aL (V:=ixV G x (cR (aw G) x) M) ?_) A I.gY;refine i0 (Z:=[.int x.w,a7<|aw G,.lst<|dC<|dj 1 G]) (ae (bW (ae rfl ar) (by kernel_rfl)<|eF A x)<|ae (bx (ae rfl<|ae rfl ar)<|by simp)<|ae (bW (ae rfl ar) (by kernel_rfl)<|mr u A) ar) ⟨rfl,by simp⟩ ?_;refine i0 (Z:=[cR (aw G) x,.int (aw G).length,kc ng]) (ae (bW (ae rfl<|ae rfl ar) (by kernel_rfl)<|yi A x)<|ae (dy rfl u.z)<|ae rfl ar) ⟨rfl,by simp⟩ ?_;refine(vA h).trans ?_;refine i0 (Z:=[.lst<|dC<|tu G x.w,.lst<|dC<|Ab G x.w]) (ae (bo (sE (l:=dj 1 G) (g:=λn:Nat=>.int n) (f:=λn:Nat=>.int n) (P:=λn:Nat=>decide<|x.w<n) (nv rfl) rfl (by rw[eO];exact vS ‹_› ‹_› (by rfl)) λn _=>⟨_,rfl,a8 rfl rfl<|jm rfl,λ_=>rfl⟩) (iH (ae (bo rfl rfl rfl) ar)<|by simp)<|(B9<|by simp;exact kN ‹_› (by rfl)).trans<|congrArg (λl=>dt (am6 l) H)<|ym _ [(aw G).length+1])<|ae (bo rfl (sE (l:=dj 1 G) (g:=λn:Nat=>.int n) (f:=λn:Nat=>.int n) (P:=λn:Nat=>decide<|(n:Int)<x.w) (nv rfl) rfl (by rw[eO];exact vS ‹_› ‹_› (by rfl)) λn _=>⟨_,rfl,a8 rfl rfl<|dP rfl,λ_=>rfl⟩)<|(B9<|by simp;exact aN (dH c 1)<|by decide).trans<|congrArg (λl=>dt (am6 l) H)<|ym [0] _) ar) ⟨rfl,by simp⟩ ?_;exact bI<|iH (ae (bx (ae rfl<|ae (bx (ae rfl<|ae rfl ar)<|by simp)<|ae N ar)<|by simp)<|ae (bx (ae rfl<|ae (bx (ae rfl<|ae rfl ar)<|by simp)<|ae i ar)<|by simp)<|ae (bx (ae rfl<|ae (bx (ae rfl<|ae rfl ar)<|by simp)<|ae W ar)<|by simp)<|ae (bx (ae rfl<|ae (bx (ae rfl<|ae rfl ar)<|by simp)<|ae R ar)<|by simp)<|ae (bx (ae rfl<|ae (bx (ae rfl<|ae rfl ar)<|by simp)<|ae C ar)<|by simp) ar)<|by simp
theorem ZD (h:bp B (.tup u) V H=.ok (.tup l) H):rJ B (.tup u) V (bp B (.tup u) V) H=.ok l H:=fh h rfl
def Kb (G:List Tk) (x y:Ix) (z:Option PV):bO:=[ac<|.bytes<|aw G,ac x.p,ac y.p,ac<|.int x.w,ac<|.int y.w,ac<|.lst<|dC<|dj 1 G,z,am,am,am,am,am,am]
def suA:List CS:=[.fm (.not<|.aA 1052 [qb]) [.ret<|.aA 1059 [cz,qb]] []]
def suB:List CS:=[.fm (.not<|.cmp (cI 1) [.LtE,.LtE] [.aA 1045 [qb],.bw eP [cz]]) [.ret<|.aA 1059 [cz,qb]] [],.fm (.cmp (.aA 1045 [qb]) [.NotIn] [pM]) [.ret<|.tup [EE]] []]
theorem HD (A:cZ H=aq) (v:Ix) (h:v.room=aq):fY (oQ 1) dF suA (Kb G x y<|ac v.p) H=.ok (.next,Kb G x y<|ac v.p) H:=
 eS (gP<|yf<|bW (ae rfl ar) rfl<|ah (u2 A v)<|by rw[h]) bJ bJ
theorem Ke (A:cZ H=aq) (v:Ix) (h:v.room=ai):fY (oQ 1) dF suA (Kb G x y<|ac v.p) H=.ok (.ret<|cR (aw G) v,Kb G x y<|ac v.p) H:=
 ky (gP<|yf<|bW (ae rfl ar) rfl<|ah (u2 A v)<|by rw[h]) (bI<|bW (ae rfl<|ae rfl ar) rfl<|yi A v)
theorem Kc (u:dA G) (A:cZ H=aq) (v:Ix) (h:¬(1<=v.w/\v.w<=aa (aw G))):fY (oQ 1) dF suB (Kb G x y<|ac v.p) H=.ok (.ret<|cR (aw G) v,Kb G x y<|ac v.p) H:=
 ky (gP<|gA rfl (bW (ae rfl ar) rfl<|eF A v) (dy rfl u.z)<|decide_eq_false h) (bI<|bW (ae rfl<|ae rfl ar) rfl<|yi A v)
theorem Kd (u:dA G) (A:cZ H=aq) (v:Ix) (h:1<=v.w/\v.w<=aa (aw G)) (B:mU G (v.w-1)=ai):fY (oQ 1) dF suB (Kb G x y<|ac v.p) H=.ok (.ret<|kc ng,Kb G x y<|ac v.p) H:=
 eS (gP<|gA rfl (bW (ae rfl ar) rfl<|eF A v) (dy rfl u.z)<|decide_eq_true h) bJ (ky (c:=aq) (a8 (bW (ae rfl ar) rfl<|eF A v) rfl<|ah (Bx _ _)<|by(refine(af (oU ..))▸(af B)▸?_);rfl)<|bI rfl)
theorem CB (u:dA G) (A:cZ H=aq) (v:Ix) (h:1<=v.w/\v.w<=aa (aw G)) (B:mU G (v.w-1)=aq):fY (oQ 1) dF suB (Kb G x y<|ac v.p) H=.ok (.next,Kb G x y<|ac v.p) H:=
 eS (gP<|gA rfl (bW (ae rfl ar) rfl<|eF A v) (dy rfl u.z)<|decide_eq_true h) bJ (eS (c:=ai) (a8 (bW (ae rfl ar) rfl<|eF A v) rfl<|ah (Bx _ _)<|by(refine(af (oU ..))▸(af B)▸?_);rfl) bJ bJ)
theorem CA (u:dA G) (A:cZ H=aq) (h:x.w<=y.w) (k:fY (oQ 1) dF (GG.drop 2) (Kb G x y am) H=r):fY (oQ 1) dF GG ([.bytes<|aw G,x.p,y.p].map ac++aX (13-3) am) H=r:=
 i0 (ae (bW (ae rfl ar) rfl<|eF A x)<|ae (bW (ae rfl ar) rfl<|eF A y)<|ae (bW (ae rfl ar) rfl<|mr u A) ar) ⟨rfl,by simp⟩ (eS (a8 rfl rfl<|dP<|decide_eq_false<|by exactλM=>bk [] [x.w,y.w] [(1,cA,.w 1),(1,xi<|.w 1,cA)] rfl h M) bJ k)
theorem xj:rJ (oQ 1) (.tup [cm,dE]) (Kb G x y z) (bp (oQ 1) (.tup [cm,dE])<|Kb G x y z) H=.ok [x.p,y.p] H:=ZD<|bx (ae rfl<|ae rfl ar)<|by simp
theorem yO (u:dA G) (A:cZ H=aq) (h:x.w<=y.w) (T:x.room=aq) (j:y.room=aq) (k:fY (oQ 1) dF (GG.drop 3) (Kb G x y<|ac y.p) H=r):fY (oQ 1) dF GG ([.bytes<|aw G,x.p,y.p].map ac++aX (13-3) am) H=r:=
 CA u A h (rq xj (iG rfl (HD A x T)<|iG rfl (HD A y j) rfl) k)
theorem nb (o) (x y:Ix):gY [a7 o,x.p,y.p]=true:=by simp[ft,gh,lI,lJ,i4,lK,a7,cV,gZ]
theorem T4 (u:dA G) (A:cZ H=aq) (x y:Ix):∃d,iU 1071 [.bytes<|aw G,x.p,y.p] H=.ok d H/\gO (.tup [cV "text_sub",.tup [a7<|aw G,x.p,y.p],d]):=by
 have C:=u.len;rw[acy rfl];by_cases h:y.w<x.w
 ·exact⟨a7 [],aH (aL<|i0 (ae (bW (ae rfl ar) rfl<|eF A x)<|ae (bW (ae rfl ar) rfl<|eF A y)<|ae (bW (ae rfl ar) rfl<|mr u A) ar) ⟨rfl,by simp⟩<|ky (a8 rfl rfl<|dP<|decide_eq_true h)<|bI rfl) A rfl,.mk _ _ _ _ po (Vz h) rfl (nb _ _ _)⟩
 have h:x.w<=y.w:=by exact dr<|bk [] [x.w,y.w] [(1,cA,.w 1),(1,xi<|.w 1,cA)] rfl<|cX.mp h
 cases T:x.room with
 |false=>exact⟨_,aH (aL<|CA u A h<|r4 xj<|xo rfl<|Ke A x T) A va,.mk _ _ _ _ po (Nr h T) (lR _ _ _) (nb _ _ _)⟩
 |true=>
 cases j:y.room with
 |false=>exact⟨_,aH (aL<|CA u A h<|r4 xj<|iG rfl (HD A x T)<|xo rfl<|Ke A y j) A va,.mk _ _ _ _ po (Nq h T j) (lR _ _ _) (nb _ _ _)⟩
 |true=>
 by_cases c:1<=x.w/\x.w<=aa (aw G)
 case neg=>exact⟨_,aH (aL<|yO u A h T j<|r4 xj<|xo rfl<|Kc u A x c) A va,.mk _ _ _ _ po (vF h T j (Pc fy h (fa rfl)<|uw u fy c) (fa rfl)<|by(refine ah jF ?_;rw[oR T])) (lR _ _ _) (nb _ _ _)⟩
 cases f:mU G (x.w-1) with
 |false=>exact⟨_,aH (aL<|yO u A h T j<|r4 xj<|xo rfl<|Kd u A x c f) A rfl,.mk _ _ _ _ po (vF h T j (Pc fy h rfl<|ux u fy c f) rfl<|qE wL) rfl (nb _ _ _)⟩
 |true=>
 by_cases l:1<=y.w/\y.w<=aa (aw G)
 case neg=>exact⟨_,aH (aL<|yO u A h T j<|r4 xj<|iG rfl (CB u A x c f)<|xo rfl<|Kc u A y l) A va,.mk _ _ _ _ po (vF h T j (Pb fy h (fa rfl) (qs u fy f)<|uw u fy l) (fa rfl)<|by(refine ah jF ?_;rw[oR j])) (lR _ _ _) (nb _ _ _)⟩
 cases o:mU G (y.w-1) with
 |false=>exact⟨_,aH (aL<|yO u A h T j<|r4 xj<|iG rfl (CB u A x c f)<|xo rfl<|Kd u A y l o) A rfl,.mk _ _ _ _ po (vF h T j (Pb fy h rfl (qs u fy f)<|ux u fy l o) rfl<|qE wL) rfl (nb _ _ _)⟩
 |true=>
 refine aI (tm.mp o) λm _ Y=>sF (BI<|by rw[Y];exact o) λp t q e X=>?_;obtain⟨n,F⟩:∃n:Nat,x.w=n+1:=⟨(x.w-1).toNat,by exact cE (dr<|bk [(x.w-1).toNat] [x.w] [(1,.s cA ik,aK),(1,xi<|xi aK,cA)] rfl<|aU<|af<|bB<|dr<|bk [] [x.w] [(1,ik,cA),(1,xi<|.s cA ik,ei)] rfl c.1)<|dr<|bk [(x.w-1).toNat] [x.w] [(1,aK,.s cA ik),(1,xi cA,xi aK)] rfl<|aU<|bB<|dr<|bk [] [x.w] [(1,ik,cA),(1,xi<|.s cA ik,ei)] rfl c.1⟩;have Z:y.w=aa (aw p)+1:=by exact cE (dr<|bk [m,aa<|aw p] [y.w] [(1,.s cA ik,aK),(1,aK,bg),(1,xi<|xi bg,cA)] rfl (aU<|af Y)<|cl<|ao X)<|dr<|bk [m,aa<|aw p] [y.w] [(1,aK,.s cA ik),(1,bg,aK),(1,xi cA,xi bg)] rfl (aU Y)<|cl<|ao<|af X
 refine⟨a7<|((aw G).drop n).take<|aa (aw p)+aa t.b-n,aH (aL<|yO u A h T j<|rq xj (iG rfl (CB u A x c f)<|iG rfl (CB u A y l o) rfl)<|bI<|bx (ae rfl<|ae (iw rfl (bo rfl rfl ?_) (bo (g:=H) (a:=.int (aw p).length) (bo rfl rfl ?_) (dy ?_ (by have:=yK t;exact kN ‹_› (by rfl))) rfl) rfl<|oz u.z) ar)<|by simp) A rfl,.mk _ _ _ _ po (VA h T j ?_) rfl (nb _ _ _)⟩
 ·rw[F];exact congrArg (λx=>dt (dq x) H) nt
 ·rw[Z];exact congrArg (λx=>dt (dq x) H) nt
 ·subst e;exact KW (i:=5) (k:=4) u A Z rfl rfl rfl<|by kernel_rfl
 ·subst e;rw[F];exact YT u fy Z (by exact cQ<|bk [m,(aw p).length,n] [x.w,y.w] [(1,cA,.w 1),(1,.s (.w 1) ik,aK),(1,aK,bg),(1,xi cu,cA),(1,xi bg,cu)] rfl (cX.mp<|by assumption) (aU<|af Y) (cl<|ao X)<|aU<|af F)<|by rw[F,cr] at f;exact f
def sv (l:List Nat):PV:=match l.head? with
 |some n=>mv n
 |none=>u7
def xh (l:List Nat):PV:=match l.getLast? with
 |some n=>mv n
 |none=>u7
theorem zH (d l):qp (d+1) (sv l)=true:=by unfold sv;split<;>rcases d<;>rfl
theorem Nc (d l):qp (d+1) (xh l)=true:=by unfold xh;split<;>rcases d<;>rfl
theorem DA {j i:Nat} (A:cZ H=aq) (C:bp (oQ j) (.loc i) V H=.ok (.lst<|dC l) H) (z:aa l<=1000) (d:((rI.take j).all λf=>decide<|(1031:bn)≠f.addr)=aq):
 bp (oQ j) (.fm (.cmp (.loc i) [.NotEq] [.list ai []]) (.aA 1031 [.sub (.loc i)<|cI 0])<|.tup [YE]) V H=.ok (sv l) H:=by
 have U:=a8 C (iH ar<|by simp)<|Im<|dC l
 induction l with
 |nil=>exact dZ U<|bx (ae rfl ar)<|by simp
 |cons n l=>exact fb U<|bW (ae (bz C rfl<|yN rfl<|by simpa[dC] using z) ar) d<|pp A _
theorem aag {j i:Nat} (A:cZ H=aq) (C:bp (oQ j) (.loc i) V H=.ok (.lst<|dC l) H) (d:((rI.take j).all λf=>decide<|(1031:bn)≠f.addr)=aq):
 bp (oQ j) (.fm (.cmp (.loc i) [.NotEq] [.list ai []]) (.aA 1031 [.sub (.loc i)<|.neg<|cI 1])<|.tup [YE]) V H=.ok (xh l) H:=by
 have U:=a8 C (iH ar<|by simp)<|Im<|dC l
 induction l with
 |nil=>exact dZ U<|bx (ae rfl ar)<|by simp
 |cons n l=>
  unfold xh;have S:(n::l).getLast?=ac ((n::l).getLast<|by simp):=List.getLast?_eq_some_getLast<|by simp
  refine(af S)▸?_;exact fb U<|bW (ae (bz C mQ<|sub_neg<|wk S) ar) d<|pp A _
theorem Kq (u:dA G) (W:p≠[]) (N:aa p<=1000) (b:Nat) (B:b<=aa (aw G)):∃r,b7 543 [.bytes<|aw G,.bytes p,.int<|b+1] []=.ok (.int r) []/\lQ r=sv ((tg G p).filter λn:Nat=>decide<|(b:Int)+1<=n):=by
 refine aI (Ge u W N fy b B) λq J R=>⟨_,R,?_⟩
 have e:((tg G p).filter λn:Nat=>decide<|(b:Int)+1<=n)=((eY G p).filter λn=>decide<|b<=n).map (· +1):=by
  unfold tg
  (refine(af<|if_neg W)▸ah Az ?_)
  congr 2;funext n;show decide ((b:Int)+1<=((n+1:Nat):Int))=_;exact decide_eq_decide.mpr<|(dI (m:=b+1) (n:=n+1)).trans Nat.succ_le_succ_iff
 refine(af e)▸?_;unfold sv;refine(af List.head?_map)▸?_
 induction J with
 |none h=>refine(af<|zI h)▸?_;rfl
 |some n y X Q=>refine(af<|Gf y X Q)▸?_;unfold lQ;refine ah (if_pos<|by exact dr<|bk [n] [] [(1,xi<|xi aK,xi ei)] rfl) ?_;rfl
theorem Ua (u:dA G) (N:aa p<=1000):∃r,b7 543 [.bytes<|aw G,.bytes p,.int 1] []=.ok (.int r) []/\lQ r=sv (tg G p):=by
 by_cases W:p=[]
 ·subst W;refine⟨_,BN u fy 0<|hX _,?_⟩;unfold tg;refine(af<|if_pos rfl)▸?_;rcases G<;>rfl
 ·refine aI (Kq u W N 0<|hX _) λr J R=>⟨r,J,ah R ?_⟩;congr 1;refine Ob.mpr λn F=>?_;unfold tg at F;rw[if_neg W] at F;refine aI (b3.mp F) λm _ S=>?_;subst S;exact decide_eq_true<|by exact dr<|bk [m] [] [(1,xi<|xi aK,xi ei)] rfl
theorem T9 (u:dA G) (N:aa p<=1000):∃r,b7 550 [.bytes<|aw G,.bytes p] []=.ok (.int r) []/\lQ r=xh (tg G p):=by
 by_cases W:p=[]
 ·subst W;refine⟨_,QG u fy,?_⟩;unfold tg xh lQ
  (refine(af<|if_pos rfl)▸ah (if_pos<|by exact dr<|bk [aa<|aw G] [] [(1,xi<|xi aK,xi ei)] rfl) ?_;refine(af List.getLast?_concat)▸?_);rfl
 ·refine aI (UD u W N fy) λq J R=>⟨_,R,?_⟩;unfold tg xh
  (refine(af<|if_neg W)▸(af xG)▸?_)
  induction J with
  |none h=>have:eY G p=[]:=px λm _=>h m;refine(af this)▸?_;rfl
  |some n X Q=>refine(af<|UE X Q)▸?_;unfold lQ;refine ah (if_pos<|by exact dr<|bk [n] [] [(1,xi<|xi aK,xi ei)] rfl) ?_;rfl
theorem Ia (n):((eY ts p).any λm=>decide<|m=n)=dO ts p n:=by
 rw[iM,rG];constructor
 ·rintro ⟨m,J,R⟩;rw[decide_eq_true_eq] at R;subst R;exact(Wt.mp J).2
 ·intro h;exact⟨n,Wt.mpr ⟨a h,h⟩,by simp⟩
where a {n:Nat} (h:dO ts p n=aq):n∈dj 0 ts:=uc h
theorem PU (W:p≠[]) (n:Nat):((tg G p).any λm:Nat=>decide<|(m:Int)=(n:Int)+1)=dO G p n:=by
 refine((Ia n))▸?_;unfold tg
 (refine(af<|if_neg W)▸ah rW ?_)
 congr 1;funext m;show decide (((m+1:Nat):Int)=(n:Int)+1)=_;exact decide_eq_decide.mpr<|(lu (m:=m+1) (n:=n+1)).trans JP
theorem L5 (G p):(((aw G).take (aa p)==p)&&(decide (((aa p):Int)=aa (aw G))||mU G (aa p)))=((tg G p).any λm:Nat=>decide<|(m:Int)=1):=by
 by_cases W:p=[]
 ·subst W;have:=wA (ts:=G) 0;unfold tg;refine(af<|if_pos rfl)▸?_;refine ah ?_ this.symm;simp only[d8,List.take_zero,BEq.rfl,nL];congr 1;exact decide_eq_decide.mpr<|lu
 ·have J:=PU (G:=G) W 0;refine ah ?_ J.symm;unfold dO
  (refine(af<|Ih<|hX _)▸(af X2)▸?_)
  cases q:((aw G).take (aa p)==p) with
  |false=>rfl
  |true=>
   have B:mU G ((0:Nat):Int)=true:=by
    induction G with
    |nil=>have:=eq_of_beq q;simp[ql,oi] at this;exact absurd this.symm<|by simpa using W
    |cons t r=>exact vq [] r t
   rw[B,fV,nL,nL,nL];congr 1;exact decide_eq_decide.mpr<|lu
theorem Vr {n:Nat} (h:aa (aw G)=n+aa p):(((aw G).drop n==p)&&((p==[])||mU G n))=((tg G p).any λm:Nat=>decide<|(m:Int)=(n:Int)+1):=by
 by_cases W:p=[]
 ·subst W;have:=wA (ts:=G) n;unfold tg
  (refine(af<|if_pos rfl)▸(af this)▸?_)
  have F:n=aa (aw G):=by simpa using h.symm
  refine(af F)▸?_;simp
 ·refine(af (PU W ..))▸?_;have X:(p==([]:List UInt8))=false:=by simpa using W
  unfold dO;rw[Ih (by exact cQ<|bk [n,aa p,aa<|aw G] [] [(1,.a aK bg,cu),(1,xi cu,aK)] rfl<|cl<|ao<|af h),fN (by rw[hY];exact cQ<|bk [aa<|aw G,n,aa p,aa (aw G)-n] [] [(1,aK,.a bg cu),(1,.a io bg,aK),(1,xi cu,io)] rfl (cl<|ao h)<|cl<|ao<|bQ<|cQ<|bk [n,aa p,aa<|aw G] [] [(1,.a aK bg,cu),(1,xi cu,aK)] rfl<|cl<|ao<|af h),X,abc,decide_eq_true h.symm,Bool.true_or,Bool.and_true]
theorem Za (h:n∈tg G p):1<=n:=by
 unfold tg at h;split at h
 ·rcases eG.mp h with h|h
  ·have:=kK G 1 n h;exact cQ<|bk [n] [] [(1,ik,aK),(1,xi aK,ik)] rfl<|cl this.1
  ·rw[aV] at h;exact cQ<|bk [aa<|aw G,n] [] [(1,xi aK,bg),(1,xi bg,ik)] rfl<|cl<|ao<|af h
 ·refine aI (b3.mp h) λm _ S=>?_;subst S;exact ch _ _
theorem Zb (u:dA G):aa (tg G p)<=101:=by
 have y:=gb (dO G p)<|dj 0 G
 rw[eO] at y;have:=fX G;have:=u.len;unfold tg;split
 ·rw[aJ,eO];simp;exact vS ‹_› ‹_› (by rfl)
 ·rw[aC];unfold eY;exact aN (aN (by assumption)<|aN (by assumption)<|by assumption)<|by decide
def seV (G:List Tk) (p:List UInt8) (x:Ix) (q:PV) (l:Option PV) (r:Option PV):bO:=[ac<|.bytes<|aw G,ac<|.bytes p,ac x.p,ac<|a7<|aw G,ac<|a7 p,ac<|.lst<|dC<|tg G p,ac<|.int x.w,ac q,l,r,am,am,am,am,am,am]
theorem zg (o p) (x:Ix):gY [a7 o,a7 p,x.p]=true:=by simp[ft,gh,lI,lJ,i4,lK,a7,cV,gZ]
theorem La (l) (w:Int):lS .In (.int w) (.lst<|dC l) H=.ok (l.any λn:Nat=>decide<|(n:Int)=w) H:=tv l w
theorem H6 (u:dA G) (N:aa p<=100) (A:cZ H=aq) (x:Ix):∃D,iU 1088 [.bytes<|aw G,.bytes p,x.p] H=.ok (.lst D) H/\j3 D/\aa D=6:=by
 have R:=fX G;have y:=u.len;have C:p.length<=1000:=(kN ‹_› (by rfl));have t:=Zb (p:=p) u;have X:p≠[]->(!(p==([]:List UInt8)))=true:=λh=>by simpa using h
 obtain⟨q,l,hd,T⟩:∃q l,fY (oQ 7) dF [CS.fm (On (cI 1) [ahe,ahe] [qb,n8 ai nP (akW eP [cz])<|cI 1]) [CS.assign 8<|CE.fm (On cm [yD] [cB []]) (ajS cm pM [am,am,ac 6] [1] aq [On cm [CmpOp.GtE] [dE]])<|ajR ai [qb],CS.assign 7<|CE.fm (On xO [yD] [ajR ai []]) (Yd 1031 [CE.sub xO<|cI 0])<|am8 [YE]] []]
  (seV G p x (cR (aw G) x) am am) H=.ok (.next,seV G p x q l am) H/\gO (.tup [cV "text_find",.tup [a7<|aw G,a7 p,x.p],q]):=by
  by_cases h:1<=x.w/\x.w<=(aw G).length+1
  ·obtain⟨b,B⟩:∃b:Nat,x.w=b+1:=⟨(x.w-1).toNat,by exact cE (dr<|bk [(x.w-1).toNat] [x.w] [(1,.s cA ik,aK),(1,xi<|xi aK,cA)] rfl<|aU<|af<|bB<|dr<|bk [] [x.w] [(1,ik,cA),(1,xi<|.s cA ik,ei)] rfl h.1)<|dr<|bk [(x.w-1).toNat] [x.w] [(1,aK,.s cA ik),(1,xi cA,xi aK)] rfl<|aU<|bB<|dr<|bk [] [x.w] [(1,ik,cA),(1,xi<|.s cA ik,ei)] rfl h.1⟩;have d:x.room=true:=te<|by exact⟨dr<|bk [] [x.w] [(1,ik,cA),(1,xi cA,.g ik)] rfl h.1,dr<|bk [(aw G).length] [x.w] [(1,aK,.n 100),(1,cA,xi aK),(1,xi<|.n 2000,cA)] rfl (cl y) h.2⟩
   by_cases W:p=[]
   ·subst W;refine⟨sv [b+1],ac<|.lst<|dC [b+1],eS (c:=aq) (gA rfl rfl (bo (dy rfl u.z) rfl rfl)<|decide_eq_true h) (bU (dZ (a8 rfl rfl rfl)<|iH (l:=dC [b+1]) (ae (show _=dt (dq ((b+1:Nat):Int)) H by show dt (dq x.w) H=_;refine(af B)▸?_;rfl) ar)<|by simp[dC])<|bU (DA (l:=[b+1]) A rfl (by simp)<|by kernel_rfl) bJ) bJ,.mk _ _ _ _ r8 ?_ rfl (zg _ _ _)⟩;have:=KS (o:=aw G) (p:=[]) (x:=x) (r:=b+1) d<|by refine(af B)▸?_;exact BN u fy b<|by exact cQ<|bk [(aw G).length,b] [x.w] [(1,cA,xi aK),(1,xi bg,cA),(1,xi aK,bg)] rfl h.2<|aU<|af B
    unfold lQ at this;rw[if_pos<|by exact dr<|bk [b] [] [(1,xi<|xi aK,xi ei)] rfl] at this;exact this
   ·refine aI (Kq u W C b<|by exact cQ<|bk [(aw G).length,b] [x.w] [(1,cA,xi aK),(1,xi bg,cA),(1,xi aK,bg)] rfl h.2<|aU<|af B) λr h4 Q=>?_;refine⟨_,ac<|.lst<|dC ((tg G p).filter λn:Nat=>decide<|x.w<=n),eS (c:=aq) (gA rfl rfl (bo (dy rfl u.z) rfl rfl)<|decide_eq_true h) (bU (fb (a8 rfl rfl<|by(refine ah n5 ?_;rw[X W]))<|sE (l:=tg G p) (g:=λn:Nat=>.int n) (f:=λn:Nat=>.int n) (P:=λn:Nat=>decide<|x.w<=n) (nv rfl) rfl (kN ‹_› (by rfl)) λn _=>⟨_,rfl,a8 rfl rfl<|jB rfl,λ_=>rfl⟩)<|bU (DA (l:=(tg G p).filter λn:Nat=>decide<|x.w<=n) A rfl (by have:=gb (λn:Nat=>decide<|x.w<=n)<|tg G p;exact vS ‹_› ‹_› (by rfl))<|by kernel_rfl) bJ) bJ,.mk _ _ _ _ r8 ?_ (zH _ _) (zg _ _ _)⟩
    (refine(af B)▸?_;refine(Q)▸?_)
    exact KS d<|by refine(af B)▸?_;exact h4
  ·refine⟨cR (aw G) x,am,eS (c:=ai) (gA rfl rfl (bo (dy rfl u.z) rfl rfl)<|decide_eq_false h) bJ bJ,.mk _ _ _ _ r8 ?_ (lR _ _ _) (zg _ _ _)⟩
   cases d:x.room with
   |false=>exact Rt d
   |true=>exact Rr d (Ng u fy _ h) (fa rfl)<|by(refine ah jF ?_;rw[oR d])
 obtain⟨i,L,j⟩:∃i,bp (oQ 7) (CE.fm (On cm [yD] [cB []]) (am8 [kv,CE.gj p9 (cB [120,121]) [Yd 1083 [cz,cm]]])<|am8 [EE]) (seV G p x q l am) H=.ok i H/\gO (.tup [cV "text_replaced",.tup [a7<|aw G,a7 p,a7 [120,121]],i]):=by
  by_cases W:p=[]
  ·subst W;exact⟨kc ng,dZ (a8 rfl rfl rfl) rfl,.mk _ _ _ _ u0 (TX (CM fy) rfl<|qE wL) rfl rfl⟩
  ·have O:=DJ (p:=p) u;exact⟨a7<|oG [120,121]<|AW G p,fb (a8 rfl rfl<|by(refine ah n5 ?_;rw[X W])) (bx (ae rfl<|ae (iX rfl rfl (ae (bW (ae rfl<|ae rfl ar) (by kernel_rfl)<|T5 u W C A) ar)<|vn (λb B=>by have:=O.1 b B;exact kN ‹_› (by rfl)) (by exact cQ<|bk [(AW G p).length] [] [(1,aK,.n 101),(1,xi<|.n 200,aK)] rfl<|cl O.2)<|by simp) ar)<|by simp),.mk _ _ _ _ u0 (Y5<|Fg u W C fy<|by simp) rfl rfl⟩
 refine aI (Ua (p:=p) u C) λr2 J E=>?_;refine aI (T9 (p:=p) u C) λr3 S k=>?_;have v:gO (.tup [cV "text_find",.tup [a7<|aw G,a7 p],sv<|tg G p]):=.mk _ _ _ _ r8 (E▸Rs J) (zH _ _) rfl;have Z:gO (.tup [cV "text_find_last",.tup [a7<|aw G,a7 p],xh<|tg G p]):=.mk _ _ _ _ AI (k▸Rq S) (Nc _ _) rfl;have Y:gO (.tup [cV "text_starts",.tup [a7<|aw G,a7 p],sO ((tg G p).any λm:Nat=>decide<|(m:Int)=1)]):=.mk _ _ _ _ HQ (LZ<|L5 G p▸yQ u C fy) rfl rfl
 have U:gO (.tup [cV "text_ends",.tup [a7<|aw G,a7 p],sO ((tg G p).any λm:Nat=>decide<|(m:Int)=(aw G).length-p.length+1)]):=by
  refine .mk _ _ _ _ PC (Vq ?_) rfl rfl;by_cases h:(aw G).length<p.length
  ·rw[show((tg G p).any λm:Nat=>decide<|(m:Int)=(aw G).length-p.length+1)=ai from mf.mpr λm hm=>by
    have:=Za hm
    rw[decide_eq_true_eq];exactλM=>bk [(aw G).length,p.length,m] [] [(1,xi aK,bg),(1,ik,cu),(1,cu,xi<|.s aK bg)] rfl (cl h) (cl this)<|aU M]
   exact Dx u C fy h
  ·have F:(aw G).length=((aw G).length-p.length)+p.length:=by exact cg (cQ<|bk [(aw G).length,(aw G).length-p.length,p.length] [] [(1,aK,.a bg cu),(1,xi<|.a bg cu,aK)] rfl<|cl<|ao<|af<|bQ<|cQ<|bk [p.length,(aw G).length] [] [(1,aK,bg),(1,xi bg,aK)] rfl<|cl<|cW.mp h) (cQ<|bk [(aw G).length-p.length,p.length,(aw G).length] [] [(1,.a aK bg,cu),(1,xi cu,.a aK bg)] rfl<|cl<|ao<|bQ<|cQ<|bk [p.length,(aw G).length] [] [(1,aK,bg),(1,xi bg,aK)] rfl<|cl<|cW.mp h)
   have e:=Vr F
   (refine(af<|show(((aw G).length:Int)-p.length+1)=(((aw G).length-p.length:Nat):Int)+1 by exact cE (dr<|bk [(aw G).length,(aw G).length-p.length,p.length] [] [(1,aK,.a bg cu),(1,xi<|xi bg,xi<|.s aK cu)] rfl<|cl<|ao F)<|dr<|bk [(aw G).length-p.length,p.length,(aw G).length] [] [(1,.a aK bg,cu),(1,xi<|xi<|.s cu bg,xi aK)] rfl<|cl<|ao<|af F)▸?_;refine(e)▸?_)
   exact Dw u C fy F
 have I:=Ye T<|.cons v<|.cons Z<|.cons Y<|.cons U<|.cons j .nil
 refine⟨_,?_,I,rfl⟩;rw[acu rfl];refine aH (aL (V:=seV G p x q l<|ac i) ?_) A I.gY;refine i0 (Z:=[a7<|aw G,a7 p,.lst<|dC<|tg G p]) (ae (bx (ae rfl<|ae rfl ar)<|by simp)<|ae (bx (ae rfl<|ae rfl ar)<|by simp)<|ae (bW (ae rfl<|ae rfl ar) (by kernel_rfl)<|y4 u C A) ar) ⟨rfl,by simp⟩ ?_;refine i0 (Z:=[.int x.w,cR (aw G) x]) (ae (bW (ae rfl ar) (by kernel_rfl)<|eF A x)<|ae (bW (ae rfl<|ae rfl ar) (by kernel_rfl)<|yi A x) ar) ⟨rfl,by simp⟩ ?_;refine(vA hd).trans ?_;refine bU L ?_
 exact bI (iH (ae (bx (ae rfl<|ae (bx (ae rfl<|ae rfl<|ae rfl ar)<|by simp)<|ae rfl ar)<|by simp) (ae (bx (ae rfl<|ae (bx (ae rfl<|ae rfl ar)<|by simp)<|ae (DA A rfl (kN ‹_› (by rfl))<|by kernel_rfl) ar)<|by simp) (ae (bx (ae rfl<|ae (bx (ae rfl<|ae rfl ar)<|by simp)<|ae (aag A rfl<|by kernel_rfl) ar)<|by simp)
  (ae (bx (ae rfl<|ae (bx (ae rfl<|ae rfl ar)<|by simp)<|ae (bx (ae rfl<|ae (oM rfl rfl<|La _ _) ar)<|by simp) ar)<|by simp)<|ae (bx (ae rfl<|ae (bx (ae rfl<|ae rfl ar)<|by simp)<|ae (bx (ae rfl<|ae (oM (bo (bo (dy rfl u.z) (dy rfl C) rfl) rfl rfl) rfl<|La _ _) ar)<|by simp) ar)<|by simp)<|ae (bx (ae rfl<|ae (bx (ae rfl<|ae rfl<|ae (bx (ae rfl<|ae rfl ar)<|by simp) ar)<|by simp)<|ae rfl ar)<|by simp) ar))))<|by simp)
theorem Bk:∀D:List Nat,EY (D.map λc=>.str [c])=ac (D.map λc=>[c])
 |[]=>rfl
 |c::D=>by show(EY<|D.map λc=>.str [c]).map _=_;refine(af<|Bk D)▸?_;rfl
theorem MR (cs):QO [] (cs.map λc=>[c])=cs:=by
 have h:∀(r:List Nat) (S:Array Nat),((r.map λc=>[c]).map λb=>(⟨ag b⟩:an)).foldl (λS p=>S++#[]++p.cps) S=S++ag r:=by
  intro r
  induction r with
  |nil=>intro S;simp
  |cons c r o=>intro S;rw[bv,bv,ot,o];simp
 induction cs with
 |nil=>rfl
 |cons c r=>show(((r.map λc=>[c]).map λb=>(⟨ag b⟩:an)).foldl (λS p=>S++#[]++p.cps) #[c]).toList=_;refine(af (h ..))▸?_;simp
theorem IH (D:List Nat) (N:aa D<=1000):JoinOk ⟨ag ([]:List Nat)⟩ (s9<|D.map λc=>[c])=true:=by
 have h:∀(r:List Nat) (k:Nat),(s9<|r.map λc=>[c]).foldl (· +·.length+(⟨([]:List Nat).toArray⟩:an).length) k=k+aa r:=by
  intro r
  induction r with
  |nil=>intro k;rfl
  |cons c r o=>
   intro k;unfold s9 at o|-
   rw[bv,bv,ot,o];show k+1+0+aa r=k+(aa r+1);exact cg (cQ<|bk [k,aa r] [] [(1,xi<|.a aK<|xi bg,.a (.a (xi aK) ei) bg)] rfl)<|cQ<|bk [k,aa r] [] [(1,xi<|.a (.a (xi aK) ei) bg,.a aK<|xi bg)] rfl
 unfold JoinOk ajP
 (refine(af (vU ..))▸(af (h ..))▸(af (fV ..))▸?_)
 have:¬(aa D>jb):=by exact(af bh)▸λM=>bk [aa D] [] [(1,aK,.n 1000),(1,xi<|.n 16777216,aK)] rfl (cl N)<|cl M
 simp[this]
theorem MS (D) (N:aa D<=1000):zw (.str []) [.lst<|D.map λc=>.str [c]] H=.ok (.str D) H:=by show bG (EY<|D.map λc=>.str [c]) (λI=>if JoinOk ⟨ag ([]:List Nat)⟩ (s9 I)=aq then ay (PV.str<|QO [] I) else aQ) H=_;refine(af (Bk ..))▸?_;refine ah (congrFun (if_pos<|IH D N) H) ?_;refine(af (MR ..))▸?_;rfl
theorem ahr {p:Nat} {o:List UInt8} (h:o[p]?=ac 97):fZ (ag o) p=(.char 97,p+1):=by
 have:o.toArray.getD p 0=97:=by simp[o7,h]
 unfold fZ;refine(af this)▸?_;rfl
theorem ahq {p:Nat} {o:List UInt8} (h:o[p]?=ac 0xC3) (J:o[p+1]?=ac 0xA9):fZ (ag o) p=(.char 233,p+2):=by
 have:o.toArray.getD p 0=0xC3:=by simp[o7,h]
 unfold fZ;refine(af this)▸?_;simp[lr,J,aa8]
theorem ahp {p:Nat} {o:List UInt8} (h:o[p]?=ac 0xE2) (J:o[p+1]?=ac 0x82) (R:o[p+2]?=ac 0xAC):fZ (ag o) p=(.char 8364,p+3):=by
 have:o.toArray.getD p 0=0xE2:=by simp[o7,h]
 unfold fZ;rw[this];simp[lr,J,R,aa8]
theorem aam:∀q p,G=p++q->C3 q=aq->∀f z,aa q<=f->am7 (ag<|aw G) f (aa<|aw p) z=ac (z++q.map λt=>t.code.toNat,aa<|aw G):=by
 intro q
 induction q with
 |nil=>
  intro p e _ f z _;rw[fq] at e;subst e
  (refine(af rV)▸(af (fq ..))▸?_)
  induction f with
  |zero=>rfl
  |succ f=>exact if_pos<|bT _
 |cons t q o=>
  intro p e h f z Y;cases f with|zero=>exact absurd Y (Nat.not_succ_le_zero _)|succ f=>?_
  have C:aa (aw p)<aa (aw G):=by(refine(af e)▸(af th)▸?_);have:=ow t;exact cQ<|bk [aa t.b,aa<|aw p,aa<|aw q] [] [(1,ik,aK),(1,xi<|.a (.a bg aK) cu,xi bg)] rfl<|cl this
  simp only[C3,nK,bu] at h;have o:=o (p++[t]) (by refine ah e ?_;simp) h.2 f (z++[t.code.toNat])<|Nat.le_of_succ_le_succ Y
  have T:fZ (ag<|aw G) (aa<|aw p)=(.char t.code.toNat,aa (aw p)+aa t.b):=by
   have at_:∀k,k<aa t.b->(aw G)[aa (aw p)+k]?=t.b[k]?:=λk Z=>by exact(af e)▸pV k Z
   induction t with
   |a=>exact ahr<|at_ 0<|by decide
   |e=>exact ahq (at_ 0<|by decide)<|at_ 1<|by decide
   |u=>exact ahp (at_ 0<|by decide) (at_ 1<|by decide)<|at_ 2<|by decide
   |c=>exact absurd h.1<|by decide
   |n=>exact absurd h.1<|by decide
  show MB.DH _ (am7 _ f) _ _=_;unfold MB.DH
  (refine ah (if_neg<|by simpa using C)<|(af T)▸?_)
  show am7 (ag<|aw G) f (aa (aw p)+aa t.b) (z++[t.code.toNat])=_;rw[pu,aJ,show aa (aw [t])=(aa t.b) by simp[ql,oi]] at o;refine ah o ?_;simp
theorem Nw (u:dA G) (U:G≠[]) (h:C3 G=aq):vG (.bytes<|aw G) [.str [117,116,102,45,56]] H=.ok (.str<|G.map λt=>t.code.toNat) H:=by
 have N:=fX G;have:=u.len;have g:=aam (G:=G) G [] rfl h (aa<|aw G) [] N
 cases L:aw G with
 |nil=>
  induction G with
  |nil=>exact absurd rfl U
  |cons t r=>have:=ow t;have e:=congrArg aa L;rw[show aw (t::r)=t.b++aw r from rfl,aJ,d8] at e;exact absurd (aN this<|aN (co ..)<|ao e)<|by decide
 |cons c D=>
  rw[L] at g;have e:vG (.bytes<|c::D) [.str [117,116,102,45,56]] H=(if[117,116,102,45,56]=MB.u8W/\(c::D).length<=16777216/\c::D≠[] then bG (am7 (c::D).toArray (c::D).toArray.size 0 []) (λr=>if r.1.length<=16777216 then ay (.str r.1) else aQ) else aQ) H:=rfl;have C:aa (c::D)<=100:=by exact(L)▸this
  rw[e,if_pos ⟨rfl,kN ‹_› (by rfl),nofun⟩];have l:am7 (c::D).toArray (c::D).toArray.size 0 []=ac (G.map λt=>t.code.toNat,(c::D).length):=g;rw[l];exact congrFun (if_pos<|by rw[aC];exact vS ‹_› ‹_› (by rfl)) H
theorem L9 (G):((G.map λt=>.int t.shown).any λq=>m6 8 q (.int 65533)==ac aq)=!(C3 G):=by
 unfold C3
 (refine ah rW<|(af List.not_all_eq_any_not)▸?_)
 congr 1;funext t;rcases t<;>rfl
theorem Pv (G):lS .NotIn (.int 65533) (.lst<|G.map λt=>.int t.shown) H=.ok (C3 G) H:=by have e:lS .NotIn (.int 65533) (.lst<|G.map λt=>.int t.shown) H=(if(G.map λt=>dq t.shown).all (λq=>(m6 8 q<|.int 65533).isSome) then ay ((G.map λt=>dq t.shown).any (λq=>m6 8 q (.int 65533)==ac aq)!=aq) else aQ) H:=rfl;rw[e,if_pos (cn.mpr λq L=>by refine aI (b3.mp L) λn _ S=>?_;subst S;rfl),L9];show dt _ H=_;simp
theorem GN (G):∃n,(0::dj 1 G).getLast?=ac n/\(n:Int)=r9 G (aa<|aw G)+1:=by refine aI (Lb G<|aa (aw G)+1) λn J R=>⟨n,?_,by(refine ah R ?_;rw[cr])⟩;refine(J)▸?_;unfold Ab;rw[Ob.mpr λn F=>?_];have:=kK G 1 n F;exact decide_eq_true<|by exact dr<|bk [n,aa<|aw G] [] [(1,xi aK,.a ik bg),(1,xi<|xi bg,xi aK)] rfl<|cl this.2
theorem Dc (f) (Y:∀t,aa (f t)<=4) (N:aa G<=100):zw (.bytes []) [.lst<|G.map λt=>.bytes<|f t] H=.ok (.bytes (G.map f).flatten) H:=by
 have:=vn (H:=H) (j:=[]) (I:=G.map f) (λb B=>by
  refine aI (b3.mp B) λt _ S=>?_;subst S
  have:=Y t;exact kN ‹_› (by rfl)) (by exact(af (aC ..))▸(kN ‹_› (by rfl)))<|by simp
 rw[gV,tl] at this;exact this
theorem aer {j:Nat} (A:cZ H=aq) (t:Tk) (C:bp (oQ j) cm V H=.ok (.bytes t.b) H) (d:((rI.take j).all λf=>decide<|(1024:bn)≠f.addr)=aq):
 bp (oQ j) (.fm (.cmp (.aA 1024 [cm]) [.NotEq] [cI 65533]) cm<|.fm (.cmp cm [.Eq] [cB [195]]) (cB [92,120,99,51])<|cB [92,120,97,57]) V H=.ok (.bytes t.Au) H:=by
 have U:=λ{c:Bool} (P:(!decide (t.shown=65533))=c)=>a8 (bW (ae C ar) d<|y5 A t) (show bp (oQ j) (.const<|.int 65533) V H=_ from rfl)<|K6 P
 induction t with
 |a=>exact fb (U rfl) C
 |e=>exact fb (U rfl) C
 |u=>exact fb (U rfl) C
 |c=>exact dZ (U rfl)<|fb (a8 C rfl rfl) rfl
 |n=>exact dZ (U rfl)<|dZ (a8 C rfl rfl) rfl
def whV (G:List Tk) (O:Option PV):bO:=[ac<|.bytes<|aw G,ac<|a7<|aw G,ac<|.lst<|dB G,ac<|.lst<|dC<|dj 1 G,ac<|.lst<|G.map λt=>.int t.shown,ac<|.bool<|C3 G,ac<|.bytes (G.map rQ).flatten,O,am,am,am,am]
theorem Fw:∀{G},C3 G=aq->(G.map λt=>.str [t.shown.toNat])=(G.map λt=>t.code.toNat).map λc=>PV.str [c]
 |[],_=>rfl
 |t::r,h=>by simp only[C3,nK,bu] at h;rw[bv,bv,bv,Fw h.2];congr 3;rcases t<;>first|rfl|exact absurd h.1<|by decide
theorem Ug (h:C3 G=aq) (U:t∈G):0<=t.code:=by unfold C3 at h;simpa using cn.mp h t U
theorem Mg (u:dA G) (A:cZ H=aq):∃D,iU 1093 [.bytes<|aw G] H=.ok (.lst D) H/\j3 D/\aa D=6:=by
 have R:=fX G;have y:=u.len;have Y:=yp G
 obtain⟨O,F,j⟩:∃O,bp (oQ 2) (.fm (.bool aq [pM,.cmp lk [.NotEq] [.list ai []]]) (.tup [cS [115,121,109],.gj p9 (cS []) [.comp (.bw VL [cm]) lk [am,am,am] [1] aq []]])<|.tup [EE]) (whV G am) H=.ok O H/\gO (.tup [cV "symbol_of",.tup [a7<|aw G],O]):=by
  have C:∀{c:Bool},C3 G=c->j6 (oQ 2) pM (whV G am) (bp (oQ 2) pM<|whV G am) H=.ok c H:=λ{c} P=>fh (a:=.bool c) (by refine(P)▸?_;rfl) rfl;have S:=a8 (B:=oQ 2) (V:=whV G am) (l:=.loc 4) rfl (iH ar<|by simp)<|Im (H:=H)<|G.map λt=>dq t.shown
  cases L:C3 G with
  |false=>exact⟨kc ng,dZ (mn<|C L) rfl,.mk _ _ _ _ ui (Ka u<|.inr L) rfl rfl⟩
  |true=>
   by_cases U:G=[]
   ·exact⟨kc ng,dZ (kl (C L)<|jg<|S.trans<|by refine(af U)▸?_;rfl) rfl,.mk _ _ _ _ ui (Ka u<|.inl U) rfl rfl⟩
   ·have X:(aw G==([]:List UInt8))=false:=by
     induction G with
     |nil=>exact absurd rfl U
     |cons t r=>rcases t<;>rfl
    refine⟨.tup [cV "sym",.str<|G.map λt=>t.code.toNat],fb (kl (C L)<|jg<|S.trans<|by rw[show(G.map λt=>dq t.shown).isEmpty=ai by simpa using U];rfl) (bx (ae rfl<|ae (iX rfl rfl (ae (sD (l:=G) (g:=λt=>.int t.shown) (f:=λt=>.str [t.shown.toNat]) (nv rfl) rfl (vS ‹_› ‹_› (by rfl)) λt W=>⟨_,rfl,dJ (ae rfl ar) ?_⟩) ar) ?_) ar)<|by simp),.mk _ _ _ _ ui (YS u X L<|Nw u U L) rfl rfl⟩
    ·have:=Ug L W;rcases t<;>first|rfl|exact absurd this<|by decide
    ·rw[Fw L];exact MS (G.map λt=>t.code.toNat)<|by rw[aC];exact vS ‹_› ‹_› (by rfl)
 refine aI (GN G) λm d e=>?_;have T:gO (.tup [cV "text_length",.tup [a7<|aw G],mv G.length]):=.mk _ _ _ _ HS (MF u) rfl rfl;have v:gO (.tup [cV "text_last",.tup [a7<|aw G],mv m]):=.mk _ _ _ _ PB (e▸UF u) rfl rfl;have Z:gO (.tup [cV "text_is_valid",.tup [a7<|aw G],sO<|C3 G]):=.mk _ _ _ _ CK (OS u) rfl rfl;have h:gO (.tup [cV "text_reversed",.tup [a7<|aw G],a7<|aw G.reverse]):=.mk _ _ _ _ CJ (Fd u) rfl rfl;have i:gO (.tup [cV "text_written",.tup [a7<|aw G],a7<|YH G]):=.mk _ _ _ _ E7 (Hk u) rfl rfl;have I:=Ye T<|.cons v<|.cons Z<|.cons h<|.cons i<|.cons j .nil
 refine⟨_,?_,I,rfl⟩
 have k:zw (.bytes []) [.lst (dB G).reverse] H=.ok (.bytes<|aw G.reverse) H:=by
  have:=Dc (H:=H) (G:=G.reverse) S5 (λt=>by have:=yK t;exact kN ‹_› (by rfl))<|by refine(af kQ)▸?_;exact vS ‹_› ‹_› (by rfl)
  rw[u5] at this;refine(af<|show(dB G).reverse=G.reverse.map λt=>.bytes t.b by simp[dB])▸?_;exact this
 have J:eP [.lst<|dB G] H=.ok (.int G.length) H:=(BB<|by simp[dB];exact vS ‹_› ‹_› (by rfl)).trans<|by simp[dB]
 rw[acs rfl];refine aH (aL (V:=whV G<|ac O) ?_) A I.gY;refine i0 (Z:=[a7<|aw G,.lst<|dB G,.lst<|dC<|dj 1 G]) (ae (bx (ae rfl<|ae rfl ar)<|by simp)<|ae (bW (ae rfl ar) (by kernel_rfl)<|uj u A)<|ae (bW (ae rfl ar) (by kernel_rfl)<|mr u A) ar) ⟨rfl,by simp⟩ ?_;refine bU (sD (l:=G) (g:=λt=>.bytes t.b) (f:=λt=>.int t.shown) (nv rfl) rfl (vS ‹_› ‹_› (by rfl)) λt _=>⟨_,rfl,bW (ae rfl ar) (by kernel_rfl)<|by exact y5 A t⟩) ?_;refine bU (oM rfl rfl<|Pv G) ?_;refine bU (iX rfl rfl (ae (sD (l:=G) (g:=λt=>.bytes t.b) (f:=λt=>.bytes t.Au) (nv rfl) rfl (vS ‹_› ‹_› (by rfl)) λt _=>⟨_,rfl,aer A t rfl<|by kernel_rfl⟩) ar)<|by exact Dc rQ I2<|vS ‹_› ‹_› (by rfl)) ?_;refine bU F ?_
 exact bI (iH (ae (bx (ae rfl<|ae (bx (ae rfl ar)<|by simp)<|ae (bW (ae (dJ (ae rfl ar) J) ar) (by kernel_rfl)<|pp A _) ar)<|by simp) (ae (bx (ae rfl<|ae (bx (ae rfl ar)<|by simp)<|ae (bW (ae (bz (bo (iH (l:=dC [0]) (ae rfl ar)<|by simp[dC]) rfl<|(B9<|by simp[dC,eO];exact cQ<|bk [G.length,(aw G).length] [] [(1,aK,bg),(1,bg,.n 100),(1,xi<|.n 1000,.a ik aK)] rfl (cl R)<|cl y).trans<|congrArg (λl=>dt (am6 l) H)<|ym [0]<|dj 1 G) mQ<|sub_neg<|wk d) ar) (by kernel_rfl)<|pp A _) ar)<|by simp)
  (ae (bx (ae rfl<|ae (bx (ae rfl ar)<|by simp)<|ae (bx (ae rfl<|ae rfl ar)<|by simp) ar)<|by simp) (ae (bx (ae rfl<|ae (bx (ae rfl ar)<|by simp)<|ae (bx (ae rfl<|ae (iX rfl rfl (ae (iw rfl rfl rfl mQ<|qe rfl nofun (by simp[dB];exact vS ‹_› ‹_› (by rfl))) ar) k) ar)<|by simp) ar)<|by simp)
  (ae (bx (ae rfl<|ae (bx (ae rfl ar)<|by simp)<|ae (bx (ae rfl<|ae (bo (bo rfl rfl<|tw<|by simp only[bN,d8];exact cQ<|bk [G.length,(aw G).length,(rE rQ G).flatten.length] [] [(4,aK,bg),(4,bg,.n 100),(1,cu,.m 4 aK),(1,xi<|.n 1000,.a (xi ei) cu)] rfl (cl R) (cl y)<|cl Y) rfl<|tw<|by simp only[bN,d8,aJ];exact cQ<|bk [G.length,(aw G).length,(rE rQ G).flatten.length] [] [(4,aK,bg),(4,bg,.n 100),(1,cu,.m 4 aK),(1,xi<|.n 1000,.a (.a (xi ei) cu)<|xi ei)] rfl (cl R) (cl y)<|cl Y) ar)<|by simp) ar)<|by simp)<|ae (bx (ae rfl<|ae (bx (ae rfl ar)<|by simp)<|ae rfl ar)<|by simp) ar)))))<|by simp)
noncomputable def tB (a b:Int):List PV:=[.int a,.int b]
inductive rz (H:Hp) (j:Nat):Prop
 |mk (a b:Int) (e:H[j]?=ac (tB a b)) (ha:0<=a) (hb:0<=b)
inductive gp (H:Hp) (j:Nat):Hp->Prop
 |mk (a b:Int) (ha:0<=a) (hb:0<=b):gp H j (H.set j (tB a b))
theorem gp.at_ (h:gp H j i) (v:rz H j):rz i j:=by
 induction h with
 |mk a b I B=>obtain⟨_,_,e,_,_⟩:=v;have:=(aB.mp e).1;exact⟨a,b,by rw[cJ this],I,B⟩
theorem gp.trans (h:gp H j i) (f:gp i j H''):gp H j H'':=by
 induction h with
 |mk a b I B=>
  induction f with
  |mk c d P g=>exact(af (abz ..))▸.mk c d P g
theorem gp.refl (v:rz H j):gp H j H:=by
 obtain⟨a,b,e,I,B⟩:=v;have h:=gp.mk (H:=H) (j:=j) a b I B;refine be (aB.mp e) λF R=>?_
 rwa [<-R,List.set_getElem_self] at h
theorem Uh (h:cZ H=aq) (n:gY l=aq):cZ (H.set j l)=true:=by
 unfold cZ at*;rw[cn] at*;intro x T;rcases List.mem_or_eq_of_mem_set T with q|q
 ·exact h x q
 ·exact(af q)▸n
theorem gp.ok (h:gp H j i) (A:cZ H=aq):cZ i=true:=by
 induction h with
 |mk a b I B=>exact Uh A rfl
theorem gp.len (h:gp H j i):aa i=aa H:=by
 induction h with
 |mk a b I B=>rw[d7]
theorem gp.get (h:gp H j Z) (n:i≠j):Z[i]?=H[i]?:=by
 induction h with
 |mk a b I B=>rw[dQ<|js n]
theorem nc (h:m H=.ok p H') (d:gp H j H') (A:cZ H=aq) (W:jd p=aq):iO ai m H=.ok p H':=by
 have e:H'.take (aa H)=H':=by(refine(d.len)▸?_;rw[fF])
 have:=zZ h (by exact(af e)▸d.ok A) W
 rwa [e] at this
theorem WF {j k:Nat} (t:bp B v V H=.ok p H) (L:bp B o V H=.ok (.dR j) H) (D:bp B i V H=.ok (.int k) H) (e:H[j]?=ac z) (G:k<aa z) (N:aa z<=1000)
 (c:fY B E l V (H.set j<|z.set k p)=r):fY B E (.setItem o i v::l) V H=r:=by
 refine fh (fh t<|fh L<|fh D<|fh (a:=()) ?_ rfl) c;show(match H[j]? with|some l=>if 0<=(k:Int)/\(k:Int)<aa l/\aa l<=16777216 then dt () (H.set j<|l.set (k:Int).toNat p) else .stuck|none=>.stuck)=_;refine(af e)▸?_;dsimp only
 (refine ah (if_pos ⟨by exact bC _,by exact cK.mpr (by assumption),kN ‹_› (by rfl)⟩) ?_;rw[et])
theorem yo {b:Int} (a:Int) (B:0<b):0<=ij a b/\ij a b<b:=by rw[Int.fmod_eq_emod_of_nonneg _ (by exact dr<|bk [] [b] [(1,xi ei,cA),(1,xi cA,ei)] rfl B)];exact⟨Int.emod_nonneg _ (agd B),Int.emod_lt_of_pos _ B⟩
theorem Vl {a b:Int} (I:0<=a) (B:0<b):0<=rO a b:=by rw[Int.fdiv_eq_ediv_of_nonneg _ (by exact dr<|bk [] [b] [(1,xi ei,cA),(1,xi cA,ei)] rfl B)];exact Int.ediv_nonneg I<|by exact dr<|bk [] [b] [(1,xi ei,cA),(1,xi cA,ei)] rfl B
theorem wi {a b:Int} (B:0<b):C0 ai .Mod (.int a) (.int b) H=.ok (.int<|ij a b) H:=by show(if b=0 then aQ else ay (dq<|ij a b)) H=_;rw[if_neg<|by exactλM=>bk [] [b] [(1,xi ei,cA),(1,cA,ei)] rfl B<|aU M];rfl
theorem P5 {a b:Int} (B:0<b/\b<=1000):C0 ai .FloorDiv (.int a) (.int b) H=.ok (.int<|rO a b) H:=by show(if b=0\/1073741824<=b.natAbs then aQ else ay (dq<|rO a b)) H=_;rw[if_neg λh=>h.elim (agd B.1) λh=>absurd (aN h<|dI.mp<|fW (aU<|Int.natAbs_of_nonneg<|sZ B.1) B.2)<|by decide];rfl
theorem zm {a b:Int} (h:iE b=aq):C0 ai .Mult (.int a) (.int b) H=.ok (.int<|a*b) H:=by
 show(if(iE a||iE b)=aq then ay (dq<|a*b) else aQ) H=_
 (refine(af h)▸(af (He ..))▸?_);rfl
theorem aal (v:rz H j) (A:cZ H=aq) (m:Nat) (z:0<m/\m<=1000):∃(r:Nat) (H':Hp),iU 1000 [.dR j,.int m] H=.ok (.int r) H'/\r<m/\gp H j H':=by
 obtain⟨a,b,e,I,B⟩:=v;have c:∀{V:bO},bp (oQ 18) cz V H=.ok (.dR j) H->bp (oQ 18) (.sub cz<|.const<|.int 0) V H=.ok (.int a) H:=λh=>bz h rfl<|Pe e rfl<|by simp[tB]
 have q:∀{V:bO},bp (oQ 18) cz V H=.ok (.dR j) H->bp (oQ 18) (.sub cz<|.const<|.int 1) V H=.ok (.int b) H:=λh=>bz h rfl<|Pe e rfl<|by simp[tB]
 have F:=(aB.mp e).1;by_cases h:0<a
 ·refine bD (yo a (b:=m)<|by exact dr<|bk [m] [] [(1,xi ei,aK),(1,xi aK,xi ei)] rfl<|cl z.1) λJ R=>?_;have g:=gp.mk (H:=H) (j:=j) (rO a m) b (Vl I<|by exact dr<|bk [m] [] [(1,xi ei,aK),(1,xi aK,xi ei)] rfl<|cl z.1) B;refine⟨(ij a m).toNat,_,?_,((Int.toNat_lt' z.1).mpr R),g⟩
  (refine(af<|bB J)▸?_;rw[WT rfl])
  exact nc (aL<|ky (a8 (c rfl) rfl<|jm<|decide_eq_true h)<|bU (bo (c rfl) rfl<|wi<|by exact dr<|bk [m] [] [(1,xi ei,aK),(1,xi aK,xi ei)] rfl<|cl z.1)<|WF (bo (c rfl) rfl<|P5<|by exact⟨dr<|bk [m] [] [(1,xi ei,aK),(1,xi aK,xi ei)] rfl<|cl z.1,dr<|bk [m] [] [(1,aK,.n 1000),(1,xi<|.n 1000,aK)] rfl<|cl z.2⟩) rfl rfl e (by simp[tB]) (by simp[tB])<|bI rfl) g A rfl
 ·refine bD (yo (b*239+4001) (b:=65327)<|by decide) λJ R=>bD (yo (rO (ij (b*239+4001) 65327) 7)<|by exact dr<|bk [m] [] [(1,xi ei,aK),(1,xi aK,xi ei)] rfl<|cl z.1) λy X=>?_;have g:=gp.mk (H:=H) (j:=j) a (ij (b*239+4001) 65327) I J;refine⟨(ij (rO (ij (b*239+4001) 65327) 7) m).toNat,_,?_,by exact cQ<|bk [m,((((b*239+4001).fmod 65327).fdiv 7).fmod ↑m).toNat] [(((b*239+4001).fmod 65327).fdiv 7).fmod ↑m] [(1,xi cA,aK),(1,bg,cA),(1,xi aK,xi bg)] rfl X<|aU<|bB<|dr<|bk [] [(((b*239+4001).fmod 65327).fdiv 7).fmod ↑m] [(1,ei,cA),(1,xi cA,ei)] rfl y,g⟩;have i:(H.set j<|tB a<|ij (b*239+4001) 65327)[j]?=ac (tB a<|ij (b*239+4001) 65327):=by rw[cJ F]
  (refine(af<|bB y)▸?_;rw[WT rfl])
  exact nc (aL (eS (a8 (c rfl) rfl<|jm<|decide_eq_false h) bJ (WF (bo (bo (bo (q rfl) rfl<|zm rfl) rfl rfl) rfl<|wi<|by decide) rfl rfl e (by simp[tB]) (by simp[tB])
   (bI<|bo (bo (bz rfl rfl<|Pe i rfl<|by simp[tB]) rfl<|P5<|by decide) rfl<|wi<|by exact dr<|bk [m] [] [(1,xi ei,aK),(1,xi aK,xi ei)] rfl<|cl z.1)))) g A rfl
theorem BP {k:Nat} (v:rz H j) (A:cZ H=aq) {m:Nat} (z:0<m/\m<=1000) (U:bp (oQ k) x V H=.ok (.dR j) H) (J:bp (oQ k) y V H=.ok (.int m) H) (Z:((rI.take k).all λf=>decide<|(1000:bn)≠f.addr)=aq):
 ∃(r:Nat) (H':Hp),bp (oQ k) (.aA 1000 [x,y]) V H=.ok (.int r) H'/\r<m/\gp H j H':=by
 exact cN (aal v A m z) λr H' h d g=>⟨r,H',bW (ae U<|ae J ar) Z h,d,g⟩
theorem canon:∀f,∃G,Ag G/\aw G=aw f/\aa G<=aa f
 |[]=>⟨[],trivial,rfl,bT _⟩
 |t::r=>by
  refine gN (canon r) λG P L C=>?_
  have g:∀s,s≠.c->∃G,Ag G/\aw G=aw (s::r)/\aa G<=aa (s::r):=λs d=>by
   refine⟨s::G,?_,?_,by simp;assumption⟩
   ·rcases s<;>first|exact absurd rfl d|exact P
   ·show s.b++aw G=s.b++aw r;rw[L]
  induction t with
  |c=>
   induction G with
   |nil=>exact⟨[.c],trivial,by show[0xC3]++aw []=[0xC3]++aw r;rw[L],by simp⟩
   |cons s q=>
    induction s with
    |n=>refine⟨.e::q,(show Ag q from Ag.tail P),?_,by simp at C|-;exact cQ<|bk [aa q,aa r] [] [(1,xi aK,bg),(1,xi bg,aK)] rfl<|cl C⟩;show[0xC3,0xA9]++aw q=[0xC3]++aw r;refine(L)▸?_;rfl
    |a=>exact⟨.c::.a::q,P,by show[0xC3]++aw (.a::q)=[0xC3]++aw r;rw[L],by simp at C|-;assumption⟩
    |e=>exact⟨.c::.e::q,P,by show[0xC3]++aw (.e::q)=[0xC3]++aw r;rw[L],by simp at C|-;assumption⟩
    |c=>exact⟨.c::.c::q,P,by show[0xC3]++aw (.c::q)=[0xC3]++aw r;rw[L],by simp at C|-;assumption⟩
    |u=>exact⟨.c::.u::q,P,by show[0xC3]++aw (.u::q)=[0xC3]++aw r;rw[L],by simp at C|-;assumption⟩
  |a=>exact g .a nofun
  |e=>exact g .e nofun
  |n=>exact g .n nofun
  |u=>exact g .u nofun
theorem Ie:∀G,aa (aw G)<=3*aa G
 |[]=>bT _
 |t::r=>by
  have:=Ie r;have:=yK t
  (refine(af<|show aw (t::r)=t.b++aw r from rfl)▸(af aJ)▸(af bN)▸?_);exact cQ<|bk [aa<|aw r,aa r,aa t.b] [] [(1,aK,.m 3 bg),(1,cu,.n 3),(1,xi<|.m 3<|xi bg,.a cu aK)] rfl (cl<|by assumption)<|cl this
noncomputable def vf:List Tk:=[.a,.e,.c,.n,.u]
def elO:CE:=.sub jc<|.aA 1000 [lk,cI 5]
theorem Gv (w:∀k:PV,f9 (rK V [am,am,am,ac 2,ac 0]) [1] aq k=ac [am,ac k,am,ac<|.lst<|vf.map λt=>.bytes t.b,ac<|.dR j]):∀u S H,rz H j->cZ H=aq->∃(f:List Tk) (i:Hp),iJ (λp=>match f9 (rK V [am,am,am,ac 2,ac 0]) [1] aq p with
        |none=>aQ
        |some Q=>g4<|ax (xq (oQ 17) [] Q) λok=>if ok then ax (bp (oQ 17) elO Q) λq=>ay (ac q) else ay am) u S H=.ok (S++f.map λt=>.bytes t.b) i/\aa f=aa u/\gp H j i
 |[],S,H,v,A=>⟨[],H,by simp[qY,ay],rfl,.refl v⟩
 |k::u,S,H,v,A=>by
  refine cN (BP (k:=17) (V:=[am,ac k,am,ac<|.lst<|vf.map λt=>.bytes t.b,ac<|.dR j]) (x:=.loc 4) (y:=.const<|.int 5) v A (by decide) rfl rfl rfl) λr s e d g=>?_;obtain⟨t,U⟩:∃t,vf[r]?=ac t:=⟨_,aP d⟩;refine cN (Gv w u (S++[.bytes t.b]) s (g.at_ v)<|g.ok A) λf E Y C I=>?_;refine⟨t::f,E,?_,by simp[C],g.trans I⟩;refine fh (g:=s) (a:=ac<|.bytes t.b) ?_ ?_
  ·dsimp only;refine(af (w ..))▸?_;exact yl<|fh (m:=xq (oQ 17) [] _) (a:=aq) rfl<|fh (m:=bp (oQ 17) elO _) (bz rfl e<|yN (by(refine ah bZ ?_;refine(af U)▸?_);rfl)<|by simp[vf]) rfl
  ·dsimp only;refine ah Y ?_;simp
theorem Bu (v:rz H j) (A:cZ H=aq) (m:Nat) (z:m<=20):∃(G:List Tk) (H':Hp),iU 1005 [.dR j,.int m] H=.ok (.bytes<|aw G) H'/\Ag G/\aa G<=m/\gp H j H':=by
 refine cN (BP (k:=17) (V:=[ac<|.dR j,ac<|.int m,ac<|.lst<|vf.map λt=>.bytes t.b,am,am]) (x:=.loc 0) (y:=.bin ai .Add cm<|.const<|.int 1) v A (by exact⟨cQ<|bk [m] [] [(1,xi<|xi aK,xi ei)] rfl,cQ<|bk [m] [] [(1,aK,.n 20),(1,xi<|.n 1000,xi aK)] rfl<|cl z⟩) rfl rfl rfl) λr H1 e d Z=>?_;have N:aa (eu 0 r)=r:=by refine(af (y3 ..))▸?_;simp
 refine cN (Gv (V:=[ac<|.dR j,ac<|.int m,ac<|.lst<|vf.map λt=>.bytes t.b,am,am]) (λ_=>rfl) (eu 0 r) [] H1 (Z.at_ v)<|Z.ok A) λf H2 i C I=>gN (canon f) λG P L S=>?_;refine⟨G,H2,?_,P,by exact cQ<|bk [r,m,(eu 0 ↑r).length,f.length,G.length] [] [(1,xi aK,xi bg),(1,cu,aK),(1,io,cu),(1,.v 4,io),(1,xi bg,.v 4)] rfl (cl d) (cl<|ao N) (cl<|ao C)<|cl S,Z.trans I⟩;rw[gK] at i;have F:=Dc (H:=H2) (G:=f) S5 (λt=>by have:=yK t;exact kN ‹_› (by rfl))<|by exact cQ<|bk [m,r,(eu 0 ↑r).length,f.length] [] [(1,aK,.n 20),(1,xi bg,xi aK),(1,cu,bg),(1,io,cu),(1,xi<|.n 100,io)] rfl (cl z) (cl d) (cl<|ao N)<|cl<|ao C
 rw[u5] at F
 (refine(af L)▸?_;rw[acI rfl])
 have D:rJ (oQ 17) (akW jT [Yd 1000 [cz,n8 ai nP cm<|cI 1]]) [ac<|.dR j,ac<|.int m,ac<|.lst<|vf.map λt=>.bytes t.b,am,am] (bp (oQ 17) (akW jT [Yd 1000 [cz,n8 ai nP cm<|cI 1]]) [ac<|.dR j,ac<|.int m,ac<|.lst<|vf.map λt=>.bytes t.b,am,am]) H=.ok (eu 0 r) H1:=
  fh (m:=bp (oQ 17) (akW jT [Yd 1000 [cz,n8 ai nP cm<|cI 1]]) _) (dJ (ae e ar) (r:=.ok (.Ki 0 r) H1) rfl) (by unfold ev;dsimp only;rw[if_pos ⟨by exact dr<|bk [] [] [(1,xi ei,.g<|.n 4611686018427387904)] rfl,by exact dr<|bk [] [] [(1,xi<|.n 4611686018427387904,xi ei)] rfl,by exact dr<|bk [r] [] [(1,xi aK,.g<|.n 4611686018427387904)] rfl,by exact dr<|bk [m,r] [] [(1,aK,.n 20),(1,xi bg,xi aK),(1,xi<|.n 4611686018427387904,xi bg)] rfl (cl z)<|cl d⟩])
 have a:bp (oQ 17) (ajS elO (akW jT [Yd 1000 [cz,n8 ai nP cm<|cI 1]]) [am,am,am,ac 2,ac 0] [1] aq []) [ac<|.dR j,ac<|.int m,ac<|.lst<|vf.map λt=>.bytes t.b,am,am] H=.ok (.lst<|f.map λt=>.bytes t.b) H2:=by refine fh D ?_;rw[if_pos<|by rw[N];exact cQ<|bk [m,r] [] [(1,aK,.n 20),(1,xi bg,xi aK),(1,xi<|.n 16777216,bg)] rfl (cl z)<|cl d];exact fh i rfl
 exact nc (aL<|bU (iH (ae rfl<|ae rfl<|ae rfl<|ae rfl<|ae rfl ar)<|by simp)<|bI<|iX rfl rfl (ae a ar) F) (Z.trans I) A rfl
noncomputable def Jo:List Int:=[9223372036854775808,-9223372036854775809,18446744073709551617,9223372036854775807,-9223372036854775808]
inductive DY (n:Nat):Ix->Prop
 |bl (b:Bool):DY n (.bl b)
 |nm (g:Bool) (k:Int) (h:-1<=k/\k<=n+2):DY n (.nm g k)
 |big (k:Int) (h:k∈Jo):DY n (.nm aq k)
theorem KL (v:rz H j) (A:cZ H=aq) (N:aa o<=100):∃(x:Ix) (H':Hp),iU 1038 [.dR j,.bytes o] H=.ok x.p H'/\DY (aa o) x/\gp H j H':=by
 refine cN (BP (k:=16) (V:=[ac<|.dR j,ac<|.bytes o,am,am,am,am]) (x:=.loc 0) (y:=.bin ai .Add (.bw eP [.loc 1])<|.const<|.int 4) v A (by exact⟨cQ<|bk [aa o] [] [(1,xi<|.a aK<|.n 4,xi ei)] rfl,cQ<|bk [aa o] [] [(1,aK,.n 100),(1,xi<|.n 1000,.a aK<|.n 4)] rfl<|cl N⟩) rfl (bo (dy rfl<|kN ‹_› (by rfl)) rfl rfl)<|by kernel_rfl) λr T e d Y=>cN (BP (k:=16) (V:=[ac<|.dR j,ac<|.bytes o,am,am,am,am]) (x:=.loc 0) (y:=.const<|.int 6) (Y.at_ v) (Y.ok A) (by decide) rfl rfl rfl) λw H2 i Z I=>?_;have l:=Y.trans I;rw[acD rfl]
 have C:∀{q:kg (gm×bO)},fY (oQ 16) dF (R6.drop 1) [ac<|.dR j,ac<|.bytes o,ac<|.int<|(r:Int)-1,ac<|.int w,am,am] H2=q->fY (oQ 16) dF R6 ([PV.dR j,.bytes o].map ac++aX (6-2) am) H=q:=λk=>i0 (Z:=[.int<|(r:Int)-1,.int w]) (ae (bo e rfl rfl)<|ae i ar) ⟨rfl,by simp⟩ k
 by_cases U:(w:Int)=0
 ·refine⟨.bl<|decide<|ij ((r:Int)-1) 2=0,H2,?_,.bl _,l⟩;exact nc (aL<|C<|ky (c:=aq) (a8 rfl rfl<|fA<|decide_eq_true U)<|bI<|bx (ae rfl<|ae (oM (bo rfl rfl<|wi<|by decide) rfl<|fA rfl) ar)<|by simp) l A rfl
 by_cases J:(w:Int)=1
 ·refine cN (BP (k:=16) (V:=[ac<|.dR j,ac<|.bytes o,ac<|.int<|(r:Int)-1,ac<|.int w,am,am]) (x:=.loc 0) (y:=.const<|.int 5) (l.at_ v) (l.ok A) (m:=5) (by decide) rfl rfl<|by kernel_rfl) λs S W X b=>?_;obtain⟨k,G⟩:∃k,Jo[s]?=ac k:=⟨_,aP<|by exact X⟩;have B:bp (oQ 16) (ajR ai [n8 ai qB (cI 2)<|cI 63,n8 ai uN (n8 ai uN (cI 0)<|n8 ai qB (cI 2)<|cI 63)<|cI 1,n8 ai nP (n8 ai qB (cI 2)<|cI 64)<|cI 1,n8 ai uN (n8 ai qB (cI 2)<|cI 63)<|cI 1,n8 ai uN (cI 0)<|n8 ai qB (cI 2)<|cI 63]) [ac<|.dR j,ac<|.bytes o,ac<|.int<|(r:Int)-1,ac<|.int w,am,am] H2=.ok (.lst<|Jo.map .int) H2:=by kernel_rfl
  refine⟨.nm aq k,S,?_,.big k<|br G,l.trans b⟩;exact nc (aL<|C<|eS (c:=ai) (a8 rfl rfl<|fA<|decide_eq_false U) bJ<|ky (c:=aq) (a8 rfl rfl<|fA<|decide_eq_true J)<|bI<|bx (ae rfl<|ae rfl<|ae (bz B W<|yN (by(refine ah bZ ?_;refine(af G)▸?_);rfl)<|by simp[Jo]) ar)<|by simp) (l.trans b) A rfl
 ·by_cases R:(w:Int)=2
  ·exact⟨.nm aq<|(r:Int)-1,H2,nc (aL<|C<|eS (c:=ai) (a8 rfl rfl<|fA<|decide_eq_false U) bJ<|eS (c:=ai) (a8 rfl rfl<|fA<|decide_eq_false J) bJ<|bI<|bx (ae rfl<|ae (fb (a8 rfl rfl<|fA<|decide_eq_true R) rfl)<|ae rfl ar)<|by simp) l A rfl,.nm _ _ (by exact⟨dr<|bk [r] [] [(1,xi<|.s aK ik,.g ik)] rfl,dr<|bk [r,o.length] [] [(1,xi aK,.a bg<|.n 4),(1,xi<|.a bg<|.n 2,.s aK ik)] rfl<|cl d⟩),l⟩
  ·exact⟨.nm ai<|(r:Int)-1,H2,nc (aL<|C<|eS (c:=ai) (a8 rfl rfl<|fA<|decide_eq_false U) bJ<|eS (c:=ai) (a8 rfl rfl<|fA<|decide_eq_false J) bJ<|bI<|bx (ae rfl<|ae (dZ (a8 rfl rfl<|fA<|decide_eq_false R) rfl)<|ae rfl ar)<|by simp) l A rfl,.nm _ _ (by exact⟨dr<|bk [r] [] [(1,xi<|.s aK ik,.g ik)] rfl,dr<|bk [r,o.length] [] [(1,xi aK,.a bg<|.n 4),(1,xi<|.a bg<|.n 2,.s aK ik)] rfl<|cl d⟩),l⟩
theorem YK (j:List Int) (F:aa j<=63) (e:Nat):∃a b,iU 993 [.lst<|j.map .int,.int e] H=.ok (.dR<|aa H) (H++[tB a b])/\0<=a/\0<=b:=by
 obtain⟨c,z⟩:∃c:Int,bp (oQ 19) (.fm (.cmp cm [.Lt] [.bw eP [cz]]) (.sub cz cm)<|cI 0) [ac<|.lst<|j.map .int,ac<|.int e,am,am,am] H=.ok (.int c) H:=by
  have C:=BB (H:=H) (l:=j.map .int)<|by exact(af (aC ..))▸(kN ‹_› (by rfl))
  rw[aC] at C;by_cases h:e<aa j
  ·exact⟨j[e],fb (a8 rfl (dJ (ae rfl ar) C)<|dP<|decide_eq_true<|by exact cK.mpr<|by assumption)<|bz rfl rfl<|yN (by(refine ah bZ ?_;refine(af<|aP h)▸?_);rfl)<|by exact(af (aC ..))▸(kN ‹_› (by rfl))⟩
  ·exact⟨0,dZ (a8 rfl (dJ (ae rfl ar) C)<|dP<|decide_eq_false<|by exactλM=>bk [aa j,e] [] [(1,aK,bg),(1,xi bg,aK)] rfl (cl<|cW.mp h) M) rfl⟩
 obtain⟨Dn,r,U⟩:∃Dn:Int,bp (oQ 19) (.fm (.cmp dE [.GtE] [cI 0]) dE<|.bin ai .Sub (cI 4) dE) [ac<|.lst<|j.map .int,ac<|.int e,ac<|.int c,am,am] H=.ok (.int Dn) H/\0<=Dn:=by
  by_cases h:0<=c
  ·exact⟨c,fb (a8 rfl rfl<|jB<|decide_eq_true h) rfl,h⟩
  ·exact⟨4-c,dZ (a8 rfl rfl<|jB<|decide_eq_false h)<|bo rfl rfl rfl,by exact dr<|bk [] [c] [(1,xi cA,ei),(1,xi<|.s (.n 4) cA,ei)] rfl<|i6.mp h⟩
 obtain⟨a,I,f⟩:∃a:Int,bp (oQ 19) (.fm (.cmp jc [.GtE] [.bin ai .Pow (cI 10)<|cI 15]) jc<|cI 0) [ac<|.lst<|j.map .int,ac<|.int e,ac<|.int c,ac<|.int Dn,am] H=.ok (.int a) H/\0<=a:=by
  have W:bp (oQ 19) (.bin ai .Pow (cI 10)<|cI 15) [ac<|.lst<|j.map .int,ac<|.int e,ac<|.int c,ac<|.int Dn,am] H=.ok (.int 1000000000000000) H:=rfl;by_cases h:1000000000000000<=Dn
  ·exact⟨Dn,fb (a8 rfl W<|jB<|decide_eq_true h) rfl,U⟩
  ·exact⟨0,dZ (a8 rfl W<|jB<|decide_eq_false h) rfl,f4 _⟩
 refine⟨a,ij (ij Dn 999863*283+107*e+47) 65327,?_,f,(yo _ (by decide)).1⟩;rw[acJ rfl]
 have d:kX (oQ 19) dF 5 XJ [.lst<|j.map .int,.int e] H=.ok (.dR<|aa H) (H++[tB a<|ij (ij Dn 999863*283+107*e+47) 65327]):=
  aL (bU z<|bU r<|bI<|fh (ae I<|ae (bo (bo (bo (bo (bo rfl rfl<|wi<|by decide) rfl<|zm rfl) (bo rfl rfl<|qm rfl) rfl) rfl rfl) rfl<|wi<|by decide) ar) rfl)
 unfold iO;refine(af d)▸?_;rfl
noncomputable def aeG (r:Nat):Nat->Nat->List UInt8->List UInt8
 |0,_,S=>S
 |f+1,m,S=>if m=0 then S else aeG r f (m / r) (vz.getD (m%r) 0::S)
def AU (n:Int) (r:Nat):List UInt8:=(if n<0 then[45] else[])++(if n=0 then[48] else aeG r 80 n.natAbs [])
noncomputable def AN:List Ix:=[.bl aq,.nm ai (-255),.nm aq 9223372036854775808,.nm aq 9223372036854775807,.nm ai 1295]
noncomputable def xP:List (List Nat×Int):=[(("Int64":an).cps.toList,2),(("UInt8":an).cps.toList,16),(("Int64":an).cps.toList,36),(("Int64":an).cps.toList,37),([],1),(("BigInt":an).cps.toList,18446744073709551616)]
def pd (x:List Nat×Int):PV:=if x.1=[] then sO aq else .tup [cV "int",.str x.1,.int x.2]
noncomputable def K5:List Ix:=[.bl aq,.nm ai 55295,.nm ai 55296,.nm ai 57343,.nm ai 57344,.nm ai 1114111,.nm ai 1114112,.nm ai (-1),.nm aq 18446744073709551616]
noncomputable def aeQ:List Ix:=[.bl aq,.bl ai,.nm ai 2,.nm ai (-1),.nm aq 18446744073709551616,.nm aq (-1180591620717411303424)]
noncomputable def kY (n:Int):Bool:=decide (0<=n/\n<55296)||decide (57343<n/\n<1114112)
theorem R0:∀x∈K5,Hd 902 [x.p] (if kY x.w then xx x.w else kc ng):=by intro x T;simp only[K5,aM,aZ,or_false] at T;rcases T with rfl|rfl|rfl|rfl|rfl|rfl|rfl|rfl|rfl<;>(intro a b c;kernel_rfl)
noncomputable def wJ (r:Int):Bool:=decide<|2<=r/\r<=36
theorem Ru:∀x∈AN,∀r∈xP,Hd 881 [x.p,pd r] (if wJ r.2 then a7 (AU x.w r.2.toNat) else kc ng):=by intro x T r d;simp only[AN,xP,aM,aZ,or_false] at T d;rcases T with rfl|rfl|rfl|rfl|rfl<;>rcases d with rfl|rfl|rfl|rfl|rfl|rfl<;>(intro a b c;kernel_rfl)
noncomputable def xy (r:Int):Nat:=if r<=2 then 2 else if 36<=r then 36 else r.toNat
noncomputable def GO (n:Int):PV:=.tup [cV "int",if decide (-9223372036854775808<=n/\n<9223372036854775808) then cV "Int64" else cV "BigInt",.int n]
theorem Si:∀x∈AN,∀r∈xP,Hd 888 [a7<|AU x.w<|xy r.2,pd r] (if wJ r.2 then GO x.w else kc ng):=by intro x T r d;simp only[AN,xP,aM,aZ,or_false] at T d;rcases T with rfl|rfl|rfl|rfl|rfl<;>rcases d with rfl|rfl|rfl|rfl|rfl|rfl<;>(intro a b c;kernel_rfl)
theorem Bs {f:FE} (Y:(rI[i]?).map (λg=>(g.addr,g.k,g.keep,g.muts,g.defs))=ac (f.addr,f.k,f.keep,f.muts,f.defs)) (d:((rI.take i).all λg=>decide<|f.addr≠g.addr)=aq) (F:(bH f.k).1.args.length=n) (Z:(bH f.k).2.2.names.length=l) (G:f.keep=ai) (C:aa z=n)
 (h:kX (oQ<|i+1) dF l (DK f.k f.muts) z H=.ok p H) (A:cZ H=aq) (W:jd p=aq):iU f.addr z H=.ok p H:=by
 show iq CZ dF rI f.addr z H=_;rw[wf Y d F Z rfl C,G];exact aH h A W
theorem zJ (A:cZ H=aq):∀x∈AN,∀r:Nat,r=2\/r=16\/r=36->iU 1100 [.int x.w,.int r] H=.ok (a7<|AU x.w r) H:=by
 have R:∀(n:Int) (r:Nat),kX (oQ<|5+1) dF 5 (DK 180 []) [.int n,.int r] H=.ok (a7<|AU n r) H->iU 1100 [.int n,.int r] H=.ok (a7<|AU n r) H:=λn r h=>Bs (f:=⟨1100,180,ai,[],[]⟩) rfl rfl rfl rfl rfl rfl h A rfl
 intro x T r d;simp only[AN,aM,aZ,or_false] at T;rcases T with rfl|rfl|rfl|rfl|rfl<;>rcases d with rfl|rfl|rfl<;>exact R _ _ (by kernel_rfl)
noncomputable def pj:Ix->List UInt8
 |.bl aq=>[116,114,117,101]
 |.bl ai=>[102,97,108,115,101]
 |.nm _ k=>AU k 10
theorem FV {n:Nat} (F:n<=18) (h:DY n x):(∃b,x=.bl b)\/∃g k,x=.nm g k/\(k∈Jo\/k∈(dg 22).map λi:Nat=>(i:Int)-1):=by
 induction h with
 |bl b=>exact .inl ⟨b,rfl⟩
 |nm g k h=>exact .inr ⟨g,k,rfl,.inr<|b3.mpr ⟨(k+1).toNat,pJ.mpr (by exact cQ<|bk [n,(k+1).toNat] [k] [(1,aK,.n 18),(1,cA,.a aK<|.n 2),(1,bg,xi cA),(1,xi<|.n 22,xi bg)] rfl (cl F) h.2<|aU<|bB<|dr<|bk [] [k] [(1,.g ik,cA),(1,xi<|xi cA,ei)] rfl h.1),by exact cE (dr<|bk [(k+1).toNat] [k] [(1,aK,xi cA),(1,xi cA,.s aK ik)] rfl<|aU<|bB<|dr<|bk [] [k] [(1,.g ik,cA),(1,xi<|xi cA,ei)] rfl h.1)<|dr<|bk [(k+1).toNat] [k] [(1,xi cA,aK),(1,xi<|.s aK ik,cA)] rfl<|aU<|af<|bB<|dr<|bk [] [k] [(1,.g ik,cA),(1,xi<|xi cA,ei)] rfl h.1⟩⟩
 |big k h=>exact .inr ⟨aq,k,rfl,.inl h⟩
theorem Fp (F:n<=18) (h:DY n x):b7 707 [.uo,x.p] []=.ok (.bytes<|pj x) []/\aa (pj x)<=40:=by
 rcases FV F h with ⟨b,rfl⟩|⟨g,k,rfl,hk⟩
 ·rcases b<;>exact⟨by kernel_rfl,by decide⟩
 ·rcases hk with hk|hk
  ·simp only[Jo,aM,aZ,or_false] at hk;rcases g<;>rcases hk with rfl|rfl|rfl|rfl|rfl<;>exact⟨by kernel_rfl,by decide+kernel⟩
  ·simp only[show((dg 22).map λi:Nat=>(i:Int)-1)=[-1,0,1,2,3,4,5,6,7,8,9,10,11,12,13,14,15,16,17,18,19,20] by decide,aM,aZ,or_false] at hk;rcases g<;>rcases hk with rfl|rfl|rfl|rfl|rfl|rfl|rfl|rfl|rfl|rfl|rfl|rfl|rfl|rfl|rfl|rfl|rfl|rfl|rfl|rfl|rfl|rfl<;>exact⟨by kernel_rfl,by decide+kernel⟩
noncomputable def tdE:CE:=.gj abh (.xV [.str [84,114,117,101],.str [70,97,108,115,101]] [.str [116,114,117,101],.str [102,97,108,115,101]] (.bw LV [.sub dE<|cI 1])<|.bw LV [.sub dE<|.neg<|cI 1]) [cS [97,115,99,105,105]]
theorem Tx (F:n<=18) (h:DY n x):bp (oQ 5) tdE (a::b::ac x.p::V) H=.ok (.bytes<|pj x) H:=by
 rcases FV F h with ⟨b,rfl⟩|⟨g,k,rfl,hk⟩
 ·rcases b<;>kernel_rfl
 ·rcases hk with hk|hk
  ·simp only[Jo,aM,aZ,or_false] at hk;rcases g<;>rcases hk with rfl|rfl|rfl|rfl|rfl<;>kernel_rfl
  ·simp only[show((dg 22).map λi:Nat=>(i:Int)-1)=[-1,0,1,2,3,4,5,6,7,8,9,10,11,12,13,14,15,16,17,18,19,20] by decide,aM,aZ,or_false] at hk;rcases g<;>rcases hk with rfl|rfl|rfl|rfl|rfl|rfl|rfl|rfl|rfl|rfl|rfl|rfl|rfl|rfl|rfl|rfl|rfl|rfl|rfl|rfl|rfl|rfl<;>kernel_rfl
noncomputable def LN:PV:=.tup [cV "sym",.str [233]]
theorem MQ (Y:n<=18) (h:DY n x) (N:aa o<=100):Hd 794 [a7 o,x.p,LN] (a7<|o++pj x++[195,169]):=by
 refine bD (Fp Y h) λJ R=>?_;have U:b7 707 [.uo,a7 o] []=.ok (.bytes o) []:=rfl;have Z:b7 707 [.uo,LN] []=.ok (.bytes [195,169]) []:=rfl;refine nk ?_ rfl (by simp)
 have F:=FU (I:=[o,pj x,[195,169]]) (λb B=>by
  simp only[aM,aZ,or_false] at B;rcases B with rfl|rfl|rfl
  ·exact kN ‹_› (by rfl)
  ·exact kN ‹_› (by rfl)
  ·simp) (by simp) fy
 rw[show[o,pj x,[195,169]].flatten=o++pj x++[195,169] by simp] at F;rw[acP rfl];refine aH (aL<|bI<|bx (ae rfl<|ae (az (ae (sD (l:=[(a7 o,o),(x.p,pj x),(LN,[195,169])]) (g:=Ll) (f:=λy=>.bytes y.2) (nv rfl) rfl (by simp) λy j=>⟨_,rfl,az (ae rfl<|ae rfl ar) rfl ?_⟩) ar) rfl F) ar)<|by simp) rfl rfl;simp only[aM,aZ,or_false] at j;rcases j with rfl|rfl|rfl
 ·exact U
 ·exact J
 ·exact Z
def aiU:CE:=.list ai [.tup [En,.const<|.bool aq],.tup [En,.const<|.bool ai],.aA 1031 [cI 2],.aA 1031 [.neg<|cI 1],.tup [w0,ED,.bin ai .Pow (cI 2)<|cI 64],.tup [w0,ED,.bin ai .Sub (cI 0)<|.bin ai .Pow (cI 2)<|cI 70]]
def aiT:CE:=.list ai [.tup [En,.const<|.bool aq],.aA 1031 [cI 55295],.aA 1031 [cI 55296],.aA 1031 [cI 57343],.aA 1031 [cI 57344],.aA 1031 [cI 1114111],.aA 1031 [cI 1114112],.aA 1031 [.neg<|cI 1],.tup [w0,ED,.bin ai .Pow (cI 2)<|cI 64]]
def ahU:CE:=.list ai [.tup [En,.const<|.bool aq],.aA 1031 [.neg<|cI 255],.tup [w0,ED,.bin ai .Pow (cI 2)<|cI 63],.tup [w0,ED,.bin ai .Sub (.bin ai .Pow (cI 2)<|cI 63)<|cI 1],.aA 1031 [cI 1295]]
def ahz:CE:=.list ai [.aA 1031 [cI 2],.tup [w0,cS [85,73,110,116,56],cI 16],.aA 1031 [cI 36],.aA 1031 [cI 37],.tup [En,.const<|.bool aq],.tup [w0,ED,.bin ai .Pow (cI 2)<|cI 64]]
def PK:CE:=.tup [kv,.fm (.bool aq [.cmp cm [.NotEq] [cB []],.cmp (cI 0) [.LtE,.Lt] [lk,cI 9]]) (.bin ai .Mult cm lk)<|cB []]
def ahy:CS:=.fm (.bool ai [.cmp lk [.Lt] [cI 0],.bool aq [.cmp lk [.Gt] [cI 9],.cmp cm [.NotEq] [cB []]]]) [.assign 5<|.fm (.cmp lk [.Lt] [cI 0]) (.tup [EE])<|.tup [xs7]] []
def isE:CE:=.bool ai [.cmp (cI 0) [.LtE,.Lt] [.aA 1045 [qb],cI 55296],.cmp (cI 57343) [.Lt,.Lt] [.aA 1045 [qb],cI 1114112]]
def aiJ:CS:=.fm (.cmp (cI 2) [.LtE,.LtE] [.aA 1045 [Cp],cI 36]) [.assign 10<|.aA 1100 [.aA 1045 [xO],.aA 1045 [Cp]],.assign 11<|.tup [w0,.fm (.aA 1052 [xO]) (cS [73,110,116,54,52]) ED,.aA 1045 [xO]]] []
def nc0:CE:=.tup [xs9,.tup [.tup [kv,cm],jc],pM]
def nc1:CE:=.tup [cS [99,104,97,114,95,111,102],.tup [qb],.fm Ti (.tup [cS [99,104,97,114],.aA 1045 [qb]])<|.tup [EE]]
def nc2:CE:=.tup [cS [116,101,120,116,95,111,102,95,110,117,109,98,101,114],.tup [xO,Cp],.loc 10]
def nc3:CE:=.tup [cS [116,101,120,116,95,110,117,109,98,101,114],.tup [.aA 1100 [.aA 1045 [xO],.bw xR [cI 2,.bw C5 [cI 36,.aA 1045 [Cp]]]],Cp],.loc 11]
def nc4:CE:=.tup [cS [116,101,120,116,95,106,111,105,110,101,100],.tup [.tup [kv,cm],dE,.tup [cS [115,121,109],cS [233]]],.tup [kv,.bin ai .Add (.bin ai .Add cm<|.loc 12)<|cB [195,169]]]
theorem Fj (A:cZ H=aq):∀r∈xP,iU 1045 [pd r] H=.ok (.int r.2) H:=by
 have R:∀(p:PV) (n:Int),kX (oQ<|11+1) dF 2 (DK 171 []) [p] H=.ok (.int n) H->iU 1045 [p] H=.ok (.int n) H:=λp n h=>Bs (f:=⟨1045,171,ai,[],[]⟩) rfl rfl rfl rfl rfl rfl h A rfl
 intro r d;simp only[xP,aM,aZ,or_false] at d;rcases d with rfl|rfl|rfl|rfl|rfl|rfl<;>exact R _ _ rfl
theorem pC {n:Int} (A:cZ H=aq) (h:bp (oQ 5) e V H=.ok (.int n) H):bp (oQ 5) (.aA 1031 [e]) V H=.ok (mv n) H:=bW (ae h ar) rfl<|pp A n
theorem zP {n:Int} (I:bp (oQ 5) a V H=.ok (.str s) H) (B:bp (oQ 5) b V H=.ok (.str t) H) (h:bp (oQ 5) e V H=.ok (.int n) H):bp (oQ 5) (.tup [a,b,e]) V H=.ok (.tup [.str s,.str t,.int n]) H:=bx (ae I<|ae B<|ae h ar)<|by simp
theorem aeP (A:cZ H=aq):bp (oQ 5) aiU V H=.ok (.lst<|aeQ.map Ix.p) H:=
 iH (ae (bx (ae rfl<|ae rfl ar)<|by simp)<|ae (bx (ae rfl<|ae rfl ar)<|by simp)<|ae (pC A rfl)<|ae (pC A rfl)<|ae (zP rfl rfl rfl)<|ae (zP rfl rfl rfl) ar) (by decide)
theorem aap (A:cZ H=aq):bp (oQ 5) aiT V H=.ok (.lst<|K5.map Ix.p) H:=
 iH (ae (bx (ae rfl<|ae rfl ar)<|by simp)<|ae (pC A rfl)<|ae (pC A rfl)<|ae (pC A rfl)<|ae (pC A rfl)<|ae (pC A rfl)<|ae (pC A rfl)<|ae (pC A rfl)<|ae (zP rfl rfl rfl) ar) (by decide)
theorem ac4 (A:cZ H=aq):bp (oQ 5) ahU V H=.ok (.lst<|AN.map Ix.p) H:=
 iH (ae (bx (ae rfl<|ae rfl ar)<|by simp)<|ae (pC A rfl)<|ae (zP rfl rfl rfl)<|ae (zP rfl rfl rfl)<|ae (pC A rfl) ar) (by decide)
theorem ab8 (A:cZ H=aq):bp (oQ 5) ahz V H=.ok (.lst<|xP.map pd) H:=
 iH (ae (pC A rfl)<|ae (zP rfl rfl rfl)<|ae (pC A rfl)<|ae (pC A rfl)<|ae (bx (ae rfl<|ae rfl ar)<|by simp)<|ae (zP rfl rfl rfl) ar) (by decide)
noncomputable def WP (j:Nat) (o:List UInt8) (v c:PV) (w:Int) (d:Option PV):bO:=[ac<|.dR j,ac<|.bytes o,ac v,ac c,ac<|.int w,d,am,am,am,am,am,am,am,am,am,am,am,am,am,am,am]
theorem Kk {w:Int} (Z:w<0\/0<=w/\w<=8\/200000<w) (f:¬w<=8):200000<w:=Z.elim (λh=>absurd (sZ<|kH h<|by decide) f) λh=>h.elim (λh=>absurd h.2 f) id
theorem T0 (N:aa o<=100) {c:Ix} (Z:c.w<0\/(0<=c.w/\c.w<=8)\/200000<c.w):∃d q,bp (oQ 5) PK (WP j o v c.p c.w am) H=.ok d H/\fY (oQ 5) dF [ahy] (WP j o v c.p c.w<|ac d) H=.ok (.next,WP j o v c.p c.w<|ac q) H/\gO (.tup [cV "text_repeated",.tup [a7 o,c.p],q]):=by
 have X:∀{V:bO},lS .NotEq (.bytes o) (.bytes []) H=.ok (!(o==[])) H:=n5;by_cases U:c.w<0
 ·have g:bp (oQ 5) PK (WP j o v c.p c.w am) H=.ok (a7 []) H:=by
   refine bx (ae rfl<|ae (dZ ?_ rfl) ar)<|by simp
   cases L:(!(o==([]:List UInt8))) with
   |false=>exact mn<|a8 rfl rfl<|ah n5<|by rw[L]
   |true=>exact kl (a8 rfl rfl<|ah n5<|by rw[L])<|jg<|Cw rfl rfl rfl<|decide_eq_false λh=>absurd h.1<|i6.mpr U
  exact⟨_,_,g,eS (Bj<|a8 rfl rfl<|dP<|decide_eq_true U) (bU (fb (a8 rfl rfl<|dP<|decide_eq_true U) rfl) bJ) bJ,.mk _ _ _ _ lD (Fh (TZ fy U) rfl<|qE wL) rfl (jJ _ _)⟩
 by_cases L:o=[]
 ·subst L;have g:bp (oQ 5) PK (WP j [] v c.p c.w am) H=.ok (a7 []) H:=bx (ae rfl<|ae (dZ (mn<|a8 rfl rfl rfl) rfl) ar)<|by simp
  refine⟨_,_,g,eS (c:=ai) (tL (a8 rfl rfl<|dP<|decide_eq_false U)<|jg ?_) bJ bJ,.mk _ _ _ _ lD (Kj<|TY fy<|by exact dr<|bk [] [c.w] [(1,ei,cA),(1,xi cA,ei)] rfl<|cX.mp U) rfl (jJ _ _)⟩;by_cases O:9<c.w
  ·exact kl (a8 rfl rfl<|jm<|decide_eq_true O)<|jg<|a8 rfl rfl rfl
  ·exact mn<|a8 rfl rfl<|jm<|decide_eq_false O
 have F:(!(o==([]:List UInt8)))=true:=by simpa using L
 by_cases f:c.w<=8
 ·obtain⟨n,P⟩:∃n:Nat,c.w=n:=⟨c.w.toNat,by exact cE (dr<|bk [c.w.toNat] [c.w] [(1,cA,aK),(1,xi aK,cA)] rfl<|aU<|af<|bB<|dr<|bk [] [c.w] [(1,ei,cA),(1,xi cA,ei)] rfl<|cX.mp U)<|dr<|bk [c.w.toNat] [c.w] [(1,aK,cA),(1,xi cA,aK)] rfl<|aU<|bB<|dr<|bk [] [c.w] [(1,ei,cA),(1,xi cA,ei)] rfl<|cX.mp U⟩;rw[P] at U f|-
  have g:bp (oQ 5) PK (WP j o v c.p n am) H=.ok (a7 (aX n o).flatten) H:=bx (ae rfl<|ae (fb (kl (a8 rfl rfl<|ah n5<|by rw[F])<|jg<|Cw rfl rfl rfl<|decide_eq_true<|by exact⟨dr<|bk [n] [] [(1,xi aK,ei)] rfl,dr<|bk [n] [] [(1,aK,.n 8),(1,xi<|.n 9,xi aK)] rfl f⟩)<|bo rfl rfl<|Kz (by exact cQ<|bk [n] [] [(1,aK,.n 8),(1,xi<|.n 8,aK)] rfl f) L<|kN ‹_› (by rfl)) ar)<|by simp
  exact⟨_,_,g,eS (tL (a8 rfl rfl<|dP<|decide_eq_false U)<|jg<|mn<|a8 rfl rfl<|jm<|decide_eq_false<|by exactλM=>bk [n] [] [(1,aK,.n 8),(1,xi<|.n 9,aK)] rfl f M) bJ bJ,.mk _ _ _ _ lD (Kj<|by exact(af P)▸Y4 fy L (kN ‹_› (by rfl)) (by exact cQ<|bk [n] [] [(1,aK,.n 8),(1,xi<|.n 8,aK)] rfl f)) rfl (jJ _ _)⟩
 ·have g:bp (oQ 5) PK (WP j o v c.p c.w am) H=.ok (a7 []) H:=bx (ae rfl<|ae (dZ (kl (a8 rfl rfl<|n5.trans<|by rw[F])<|jg<|Cw rfl rfl rfl<|decide_eq_false λh=>f<|Of h.2) rfl) ar) (by simp);have C:1<=o.length:=kR.mpr L
  have B:200000<(o.length:Int)*c.w:=by
   have J:(1:Int)*c.w<=(o.length:Int)*c.w:=ju (by exact dI.mpr<|by assumption)<|by exact dr<|bk [] [c.w] [(1,xi<|.n 8,cA),(1,xi cA,ei)] rfl<|i6.mp f
   exact lZ (Kk Z f)<|fW (aU (ahb _).symm) J
  exact⟨_,_,g,eS (c:=aq) (tL (a8 rfl rfl<|dP<|decide_eq_false U)<|jg<|kl (a8 rfl rfl<|jm<|decide_eq_true<|kH (by decide)<|Kk Z f)<|jg<|a8 rfl rfl<|n5.trans<|by rw[F]) (bU (dZ (a8 rfl rfl<|dP<|decide_eq_false U) rfl) bJ) bJ,.mk _ _ _ _ lD (Fh (PJ fy (kN ‹_› (by rfl)) (by exact dr<|bk [] [c.w] [(1,xi<|.n 8,cA),(1,xi cA,ei)] rfl<|i6.mp f) B) rfl<|qE Ue) rfl (jJ _ _)⟩
noncomputable def Ql (j:Nat) (o:List UInt8) (v c q cd:PV) (g:Int) (f:Bool) (n r a b:PV) (t:Option PV):bO:=[ac<|.dR j,ac<|.bytes o,ac v,ac c,ac<|.int g,ac q,ac cd,ac<|.bool f,ac n,ac r,ac a,ac b,t,am,am,am,am,am,am,am,am]
def xU (n:Int) (r:Int):PV:=if wJ r then a7 (AU n r.toNat) else kc ng
def xW (n:Int) (r:Int):PV:=if wJ r then GO n else kc ng
theorem V4 (A:cZ H=aq) (n:Ix) (f:bp (oQ 5) xO V H=.ok n.p H):bp (oQ 5) (.tup [w0,.fm (.aA 1052 [xO]) (cS [73,110,116,54,52]) ED,.aA 1045 [xO]]) V H=.ok (GO n.w) H:=by
 have U:=yf<|bW (ae f ar) rfl<|u2 A n
 refine bx (ae rfl<|ae ?_ (ae (bW (ae f ar) rfl<|eF A n) ar))<|by simp
 unfold Ix.room at U
 cases h:decide (-9223372036854775808<=n.w/\n.w<9223372036854775808) with
 |true=>exact fb (ah U<|by rw[h]) rfl
 |false=>exact dZ (ah U<|by rw[h]) rfl
theorem Z6 {g:Int} (A:cZ H=aq) (F:n∈AN) (d:r∈xP):fY (oQ 5) dF [aiJ] (Ql j o v c q cd g f n.p (pd r) (kc ng) (kc ng) am) H=.ok (.next,Ql j o v c q cd g f n.p (pd r) (xU n.w r.2) (xW n.w r.2) am) H:=by
 have Z:=bW (j:=5) (V:=Ql j o v c q cd g f n.p (pd r) (kc ng) (kc ng) am) (D:=[.loc 9]) (ae rfl ar) rfl<|Fj A r d
 have z:wJ r.2=aq->∃m:Nat,r.2=m/\(m=2\/m=16\/m=36):=λh=>by
  simp only[xP,aM,aZ,or_false] at d;rcases d with rfl|rfl|rfl|rfl|rfl|rfl
  ·exact⟨2,rfl,.inl rfl⟩
  ·exact⟨16,rfl,.inr<|.inl rfl⟩
  ·exact⟨36,rfl,.inr<|.inr rfl⟩
  ·exact absurd h<|by decide
  ·exact absurd h<|by decide
  ·exact absurd h<|by decide
 unfold xU xW
 cases B:wJ r.2 with
 |false=>exact eS (gA rfl Z rfl B) bJ bJ
 |true=>refine aI (z B) λm e z=>?_;have Y:=zJ A n F m z;rw[<-e] at Y;rw[show m=r.2.toNat by exact cg (cQ<|bk [m,r.snd.toNat] [r.snd] [(1,aK,cA),(1,cA,bg),(1,xi bg,aK)] rfl (aU<|af e)<|aU<|af<|bB<|dr<|bk [m] [r.snd] [(1,aK,cA),(1,xi cA,ei)] rfl<|aU<|af e)<|cQ<|bk [m,r.snd.toNat] [r.snd] [(1,cA,aK),(1,bg,cA),(1,xi aK,bg)] rfl (aU e)<|aU<|bB<|dr<|bk [m] [r.snd] [(1,aK,cA),(1,xi cA,ei)] rfl<|aU<|af e] at Y;exact eS (gA rfl Z rfl B) (bU (bW (ae (bW (ae rfl ar) rfl<|eF A n)<|ae Z ar) rfl Y)<|bU (V4 A n rfl) bJ) bJ
theorem aaA (A:cZ H=aq) (F:n∈AN) (d:r∈xP) (f:bp (oQ 5) xO V H=.ok n.p H) (O:bp (oQ 5) Cp V H=.ok (pd r) H):
 bp (oQ 5) (.aA 1100 [.aA 1045 [xO],.bw xR [cI 2,.bw C5 [cI 36,.aA 1045 [Cp]]]]) V H=.ok (a7<|AU n.w<|xy r.2) H:=by
 have Z:=bW (ae O ar) rfl<|Fj A r d
 have R:xR [.int 2,.int<|if r.2<36 then r.2 else 36] H=.ok (.int<|xy r.2) H/\(xy r.2=2\/xy r.2=16\/xy r.2=36):=by simp only[xP,aM,aZ,or_false] at d;rcases d with rfl|rfl|rfl|rfl|rfl|rfl<;>exact⟨rfl,by decide⟩
 exact bW (ae (bW (ae f ar) rfl<|eF A n)<|ae (dJ (ae rfl<|ae (dJ (ae rfl<|ae Z ar) rfl) ar) R.1) ar) rfl<|zJ A n F _ R.2
theorem YR {a b c:Int} (h:bp B l V H=.ok (.int a) H) (J:bp B r V H=.ok (.int b) H) (R:bp B s V H=.ok (.int c) H) (e:decide (a<b/\b<c)=y):j6 B (.cmp l [.Lt,.Lt] [r,s]) V (bp B (.cmp l [.Lt,.Lt] [r,s]) V) H=.ok y H:=by
 subst e;by_cases Z:a<b
 ·exact Cz h J (dP<|decide_eq_true Z) R<|dP<|by simp[Z]
 ·rw[decide_eq_false λq=>Z q.1];exact Cy h J<|dP<|decide_eq_false Z
theorem adA (A:cZ H=aq) (c:Ix) (d:bp (oQ 5) qb V H=.ok c.p H):bp (oQ 5) isE V H=.ok (.bool<|kY c.w) H:=by
 have Z:=bW (ae d ar) rfl<|eF A c
 exact RF (RG<|Cw rfl Z rfl rfl) λ_=>pD<|RG<|YR rfl Z rfl rfl
theorem Ds {c:Bool} (I:qp 8 a=aq) (B:qp 8 b=aq):qp 8 (if c then a else b)=true:=by rcases c<;>assumption
theorem Nd (n:Int):qp 8 (GO n)=true:=by unfold GO;cases decide (-9223372036854775808<=n/\n<9223372036854775808)<;>rfl
theorem CQ {m:Nat} {l:List Z} (v:rz H j) (A:cZ H=aq) (z:aa l=m) (N:0<m/\m<=100) (J:bp (oQ 5) e V H=.ok (.lst<|l.map f) H) (U:bp (oQ 5) cz V H=.ok (.dR j) H):∃(y:Z) (H':Hp),bp (oQ 5) (.sub e<|.aA 1000 [.loc 0,.const<|.int m]) V H=.ok (f y) H'/\y∈l/\gp H j H':=by
 refine cN (BP (y:=.const<|.int m) v A (by exact⟨cQ<|bk [m] [] [(1,xi ei,aK),(1,xi aK,xi ei)] rfl<|cl N.1,cQ<|bk [m] [] [(1,aK,.n 100),(1,xi<|.n 1000,aK)] rfl<|cl N.2⟩) U rfl rfl) λr H' i d g=>?_;have t:r<aa l:=by exact cQ<|bk [m,aa l,r] [] [(1,aK,bg),(1,xi cu,aK),(1,xi bg,xi cu)] rfl (cl<|ao<|af z)<|cl d
 exact⟨l[r],H',bz J i (yN (by rw[bZ,aP t];rfl)<|by exact(af (aC ..))▸cQ (bk [aa l,m] [] [(1,aK,bg),(1,bg,.n 100),(1,xi<|.n 1000,aK)] rfl (cl<|ao z)<|cl N.2)),hZ t,g⟩
theorem H8 (v:rz H j) (A:cZ H=aq) (N:aa o<=18) (T:DY (aa o) x):∃D H',iU 1107 [.dR j,.bytes o,x.p] H=.ok (.lst D) H'/\j3 D/\aa D=5/\gp H j H':=by
 rw[acr rfl];refine cN (CQ (V:=[ac<|.dR j,ac<|.bytes o,ac x.p,am,am,am,am,am,am,am,am,am,am,am,am,am,am,am,am,am,am]) v A rfl (by decide) (aeP A) rfl) λc s e1 P X=>?_;have k1:=X.ok A
 refine cN (T0 (H:=s) (j:=j) (v:=x.p) (c:=c) (kN ‹_› (by rfl)) (by
  simp only[aeQ,aM,aZ,or_false] at P
  rcases P with rfl|rfl|rfl|rfl|rfl|rfl<;>decide)) λd q i W c0=>?_
 refine cN (CQ (V:=WP j o x.p c.p c.w<|ac q) (X.at_ v) k1 (l:=K5) (m:=9) rfl (by decide) (aap k1) rfl) λcd E R g O=>?_;have e:=X.trans O;have k2:=e.ok A;refine cN (CQ (V:=[ac<|.dR j,ac<|.bytes o,ac x.p,ac c.p,ac<|.int c.w,ac q,ac cd.p,ac<|.bool<|kY cd.w,am,am,am,am,am,am,am,am,am,am,am,am,am]) (e.at_ v) k2 (l:=AN) (m:=5) rfl (by decide) (ac4 k2) rfl) λn S C F d3=>?_;have f:=e.trans d3;have L:=f.ok A;refine cN (CQ (V:=[ac<|.dR j,ac<|.bytes o,ac x.p,ac c.p,ac<|.int c.w,ac q,ac cd.p,ac<|.bool<|kY cd.w,ac n.p,am,am,am,am,am,am,am,am,am,am,am,am]) (f.at_ v) L (l:=xP) (m:=6) rfl (by decide) (ab8 L) rfl) λr H4 y hr Q=>?_;have M:=f.trans Q;have J:=M.ok A;have c1:gO (.tup [cV "char_of",.tup [cd.p],if kY cd.w then xx cd.w else kc ng]):=.mk _ _ _ _ PD (R0 cd g) (Ds rfl rfl) (by simp[ft,gh,gZ]);have nmr:jd (pd r)=true:=by unfold pd;split<;>rfl
 have c2:gO (.tup [cV "text_of_number",.tup [n.p,pd r],xU n.w r.2]):=.mk _ _ _ _ AH (Ru n F r hr) (Ds rfl rfl) (by simp[ft,gh,gZ,nmr]);have c3:gO (.tup [cV "text_number",.tup [a7<|AU n.w<|xy r.2,pd r],xW n.w r.2]):=.mk _ _ _ _ HR (Si n F r hr) (Ds (Nd _) rfl) (by simp[ft,gh,a7,lI,lJ,i4,lK,cV,nmr]);have k:gO (.tup [cV "text_joined",.tup [a7 o,x.p,LN],a7<|o++pj x++[195,169]]):=.mk _ _ _ _ HT (MQ N T<|kN ‹_› (by rfl)) rfl (by simp[ft,gh,a7,lI,lJ,i4,lK,cV,gZ,LN]);have I:=Ye c0<|.cons c1<|.cons c2<|.cons c3<|.cons k .nil
 have G:=(Fp N T).2;have g0:∀t,bp (oQ 5) nc0 (Ql j o x.p c.p q cd.p c.w (kY cd.w) n.p (pd r) (xU n.w r.2) (xW n.w r.2) t) H4=.ok (.tup [cV "text_repeated",.tup [a7 o,c.p],q]) H4:=λt=>bx (ae rfl<|ae (bx (ae (bx (ae rfl<|ae rfl ar)<|by simp)<|ae rfl ar)<|by simp)<|ae rfl ar)<|by simp
 have u:∀t,bp (oQ 5) nc1 (Ql j o x.p c.p q cd.p c.w (kY cd.w) n.p (pd r) (xU n.w r.2) (xW n.w r.2) t) H4=.ok (.tup [cV "char_of",.tup [cd.p],if kY cd.w then xx cd.w else kc ng]) H4:=λt=>by
  refine bx (ae rfl<|ae (bx (ae rfl ar)<|by simp)<|ae ?_ ar)<|by simp
  have U:∀{b:Bool},kY cd.w=b->j6 (oQ 5) Ti (Ql j o x.p c.p q cd.p c.w (kY cd.w) n.p (pd r) (xU n.w r.2) (xW n.w r.2) t) (bp (oQ 5) Ti<|Ql j o x.p c.p q cd.p c.w (kY cd.w) n.p (pd r) (xU n.w r.2) (xW n.w r.2) t) H4=.ok b H4:=λ{b} B=>by rw[<-B];rfl
  split
  ·rename_i h;exact fb (U h)<|bx (ae rfl<|ae (bW (ae rfl ar) (by kernel_rfl)<|eF J cd) ar)<|by simp
  ·rename_i h;exact dZ (U<|by simpa using h) rfl
 have Z:∀t,bp (oQ 5) nc2 (Ql j o x.p c.p q cd.p c.w (kY cd.w) n.p (pd r) (xU n.w r.2) (xW n.w r.2) t) H4=.ok (.tup [cV "text_of_number",.tup [n.p,pd r],xU n.w r.2]) H4:=λt=>bx (ae rfl<|ae (bx (ae rfl<|ae rfl ar)<|by simp)<|ae rfl ar)<|by simp
 have g3:∀t,bp (oQ 5) nc3 (Ql j o x.p c.p q cd.p c.w (kY cd.w) n.p (pd r) (xU n.w r.2) (xW n.w r.2) t) H4=.ok (.tup [cV "text_number",.tup [a7<|AU n.w<|xy r.2,pd r],xW n.w r.2]) H4:=λt=>bx (ae rfl<|ae (bx (ae (aaA J F hr rfl rfl)<|ae rfl ar)<|by simp)<|ae rfl ar)<|by simp
 have Y:bp (oQ 5) nc4 (Ql j o x.p c.p q cd.p c.w (kY cd.w) n.p (pd r) (xU n.w r.2) (xW n.w r.2)<|ac<|.bytes<|pj x) H4=.ok (.tup [cV "text_joined",.tup [a7 o,x.p,LN],a7<|o++pj x++[195,169]]) H4:=
  bx (ae rfl<|ae (bx (ae (bx (ae rfl<|ae rfl ar)<|by simp)<|ae rfl<|ae (bx (ae rfl<|ae rfl ar)<|by simp) ar)<|by simp)<|ae (bx (ae rfl<|ae (bo (bo rfl rfl<|tw<|by exact cQ<|bk [o.length,(pj x).length] [] [(1,aK,.n 18),(1,bg,.n 40),(1,xi<|.n 1000,.a aK bg)] rfl (cl N)<|cl G) rfl<|tw<|by simp;exact cQ<|bk [o.length,(pj x).length] [] [(1,aK,.n 18),(1,bg,.n 40),(1,xi<|.n 998,.a aK bg)] rfl (cl N)<|cl G) ar)<|by simp) ar) (by simp)
 refine⟨_,H4,?_,I,rfl,M⟩;refine nc (aL (V:=Ql j o x.p c.p q cd.p c.w (kY cd.w) n.p (pd r) (xU n.w r.2) (xW n.w r.2)<|ac<|.bytes<|pj x) ?_) M A I.gY;refine bU e1<|bU (bW (ae rfl ar) (by kernel_rfl)<|eF k1 c)<|bU i<|(vA W).trans ?_
 refine bU R<|bU (adA k2 cd rfl)<|bU C<|bU y<|i0 (Z:=[kc ng,kc ng]) (ae rfl<|ae rfl ar) ⟨rfl,by simp⟩<|(vA<|Z6 J F hr).trans ?_
 exact bU (Tx N T)<|bI<|iH (ae (g0 _)<|ae (u _)<|ae (Z _)<|ae (g3 _)<|ae Y ar)<|by simp
def inE:CE:=.list aq [.tup [cS [116,101,120,116,95,97,116],.tup [.tup [kv,cB [97]],dE],.tup [YF,.tup [.tup [kv,cB [97]],dE]]],.tup [xs9,.tup [.tup [kv,cB []],dE],.tup [kv,cB []]],.tup [YG,.tup [.tup [kv,cB [195,169]],.tup [kv,cB [169]]],.tup [YE]],.tup [cS [116,101,120,116,95,97,116],.tup [.tup [kv,cB [97]],.tup [cS [99,104,97,114],cI 97]],.tup [xs8]]]
def itE:CE:=.bw jT [.bw xR [cI 1,.bw C5 [cI 2,.bw eP [cz]]]]
def tuB:List CS:=[.assign 5<|.aA 993 [cz,lk],.mZ [6,7] [.aA 1005 [pM,cI 6],.aA 1005 [pM,cI 2]],.mZ [8,9] [.aA 1038 [pM,qb],.aA 1038 [pM,qb]],.assign 3<|.bin aq .Add (.bin ai .Add (.bin ai .Add jc<|.aA 1064 [qb,xO])<|.aA 1064 [qb,Cp])<|.aA 1088 [qb,Ti,xO],.assign 3<|.bin aq .Add (.bin ai .Add jc<|.aA 1093 [qb])<|.aA 1107 [pM,qb,Cp],.expr<|.gj iZ jc [.tup [cS [116,101,120,116,95,115,117,98],.tup [.tup [kv,qb],xO,Cp],.aA 1071 [qb,xO,Cp]]]]
def laS:CS:=.ret<|.cmp (.comp cm jc [am,am,am,am,am,ac 1] [1,2,3] ai [.cmp (.aA 1114 [.sub pM cm,dE]) [.NotEq] [jc]]) [.Eq] [.list ai []]
section
variable {H:Hp}
theorem XN {a b:List PV} (z:aa a+aa b<=1000):C0 aq .Add (.lst a) (.lst b) H=.ok (.dR<|aa H) (H++[a++b]):=by
 unfold C0;rw[if_neg (by decide),if_pos ⟨rfl,rfl⟩];refine lj rfl<|lj rfl ?_
 rw[if_pos<|kN ‹_› (by rfl)];rfl
def Zv (l:List PV) (k:Nat) (p o w x y A:Option PV):bO:=[ac<|.lst l,ac<|.dct cH d6,ac oJ,ac<|.dR k,p,o,w,x,y,A,am,am,am,am,am,am,am,am,am,am,am,am,am]
inductive Ss (l:List PV) (n:Nat):bO->Hp->Prop
 |mk (k:Nat) (cs:List PV) (x4 x5 x6 x7 x8 x9:Option PV) (H:Hp) (e:H[k]?=ac cs) (a:j3 cs) (z:aa cs=4+28*n) (o:cZ H=aq):Ss l n (Zv l k x4 x5 x6 x7 x8 x9) H
theorem YO {G:List Tk} (P:Ag G) {m:Nat} (C:aa G<=m) (z:m<=6):dA G/\aa (aw G)<=18:=by have:=Ie G;exact⟨⟨P,by exact cQ<|bk [aa G,m,aa<|aw G] [] [(3,aK,bg),(3,bg,.n 6),(1,cu,.m 3 aK),(1,xi<|.n 100,cu)] rfl (cl C) (cl z)<|cl this⟩,by exact cQ<|bk [aa G,m,aa<|aw G] [] [(3,aK,bg),(3,bg,.n 6),(1,cu,.m 3 aK),(1,xi<|.n 18,cu)] rfl (cl C) (cl z)<|cl this⟩
theorem Mz {Z:Type} {l:List Z} {i:Nat} {x:Z} (h:l[i]?=ac x):i<aa l:=(aB.mp h).1
theorem J7 {j:List Int} (hn:aa j<=63) {m:Nat} (hm:m<=2) {t:Nat} {V:bO} (h:Ss (j.map .int) m V H):∃Q s H',f9 V [4] aq (.int t)=ac Q/\fY iU dF tuB Q H=.ok (.next,s) H'/\Ss (j.map .int) (m+1) s H':=by
 obtain⟨k,cs,x4,x5,x6,x7,x8,x9,_,e,I,N,L⟩:=h;have hk:=Mz e;refine cN (YK (H:=H) j hn t) λa b v1 ha0 g=>?_;have k1:cZ (H++[tB a b])=true:=nY L rfl;have l:rz (H++[tB a b]) H.length:=⟨a,b,by(refine ah (ck<|bT _) ?_;refine(af (kE ..))▸?_);rfl,ha0,g⟩;have g1:(H++[tB a b])[k]?=ac cs:=by refine ah (dh hk) ?_;exact e
 refine AV (Bu l k1 6<|ch _ _) λG H2 i c1 l1 X=>AV (Bu (X.at_ l) (X.ok k1) 2<|ch _ _) λz H3 o2 c2 P O=>?_;have d12:=X.trans O;refine bD (YO c1 l1<|bT _) λu hz1=>?_;have d:=Ie z;refine cN (KL (d12.at_ l) (d12.ok k1) (o:=aw G)<|kN ‹_› (by rfl)) λx H4 c ix r=>?_;have f:=d12.trans r;refine cN (KL (f.at_ l) (f.ok k1) (o:=aw G)<|kN ‹_› (by rfl)) λy H5 q iy d4=>?_;have M:=f.trans d4;have F:=M.ok k1;have g5:H5[k]?=ac cs:=(M.get<|eU hk).trans g1;refine gN (Br u F x) λA q1 W T=>?_;refine gN (Br u F y) λB q2 a2 z2=>?_;refine gN (H6 (p:=aw z) u (by exact cQ<|bk [z.length,(aw z).length] [] [(3,aK,.n 2),(1,bg,.m 3 aK),(1,xi<|.n 100,bg)] rfl (cl P)<|cl d) F x) λC q3 U z3=>?_;have afI:=((I.app W).app a2).app U;have k6:cZ (H5++[cs++A++B++C])=true:=nY F afI.gY;have J:H.length<H5.length:=by(refine(af M.len)▸?_;refine(af aJ)▸?_);simp
 have va6:rz (H5++[cs++A++B++C]) H.length:=by obtain⟨a',Y,R,p1,p2⟩:=M.at_ l;exact⟨a',Y,by refine ah (dh J) ?_;exact R,p1,p2⟩
 refine gN (Mg u k6) λD w a4 z4=>?_;refine AV (H8 (o:=aw G) (x:=y) va6 k6 hz1 iy) λE H7 S a5 z5 d5=>?_;have g6:(H5++[cs++A++B++C])[H5.length]?=ac (cs++A++B++C):=by(refine ah (ck<|bT _) ?_;refine(af (kE ..))▸?_);rfl
 have g7:H7[H5.length]?=ac (cs++A++B++C):=(d5.get<|pg J).trans g6;have k7:=d5.ok k6;have aF:=(afI.app a4).app a5;have k8:cZ (H7++[cs++A++B++C++D++E])=true:=nY k7 aF.gY;refine aI (T4 u k8 x y) λdu Z a6=>?_;have aG:=aF.app<|.cons a6 .nil
 have k9:cZ (H7++[cs++A++B++C++D++E++[.tup [cV "text_sub",.tup [a7<|aw G,x.p,y.p],du]]])=true:=nY k7 aG.gY
 have zt:(cs++A++B++C++D++E++[WE [cV "text_sub",.tup [a7<|aw G,x.p,y.p],du]]).length=4+28*(m+1):=by simp only[aJ,bN,d8];exact cg (cQ<|bk [cs.length,m,A.length,B.length,C.length,D.length,E.length] [] [(1,aK,.a (.n 4)<|.m 28 bg),(1,cu,.n 5),(1,io,.n 5),(1,.v 4,.n 6),(1,.v 5,.n 6),(1,.v 6,.n 5),(1,xi<|.a (.n 4)<|.m 28<|xi bg,.a (.a (.a (.a (.a (.a aK cu) io)<|.v 4)<|.v 5)<|.v 6)<|xi ei)] rfl (cl<|ao N) (cl<|ao T) (cl<|ao z2) (cl<|ao z3) (cl<|ao z4)<|cl<|ao z5)<|cQ<|bk [m,cs.length,A.length,B.length,C.length,D.length,E.length] [] [(1,.a (.n 4)<|.m 28 aK,bg),(1,.n 5,cu),(1,.n 5,io),(1,.n 6,.v 4),(1,.n 6,.v 5),(1,.n 5,.v 6),(1,xi<|.a (.a (.a (.a (.a (.a bg cu) io)<|.v 4)<|.v 5)<|.v 6)<|xi ei,.a (.n 4)<|.m 28<|xi aK)] rfl (cl<|ao<|af N) (cl<|ao<|af T) (cl<|ao<|af z2) (cl<|ao<|af z3) (cl<|ao<|af z4)<|cl<|ao<|af z5
 refine⟨_,Zv (j.map .int) H7.length (ac<|.int t) (ac<|.dR H.length) (ac<|.bytes<|aw G) (ac<|.bytes<|aw z) (ac x.p)<|ac y.p,_,rfl,?_,.mk H7.length _ _ _ _ _ _ _ (H7++[cs++A++B++C++D++E++[.tup [cV "text_sub",.tup [a7<|aw G,x.p,y.p],du]]]) (by(refine ah (ck<|bT _) ?_;refine(af (kE ..))▸?_);rfl) aG zt k9⟩;refine bU (gu (ae rfl<|ae rfl ar) v1) ?_;refine i0 (Z:=[.bytes<|aw G,.bytes<|aw z]) (ae (gu (ae rfl<|ae rfl ar) i)<|ae (gu (ae rfl<|ae rfl ar) o2) ar) ⟨rfl,by simp⟩ ?_;refine i0 (Z:=[x.p,y.p]) (ae (gu (ae rfl<|ae rfl ar) c)<|ae (gu (ae rfl<|ae rfl ar) q) ar) ⟨rfl,by simp⟩ ?_;refine bU (bo (bo (bo rfl (gu (ae rfl<|ae rfl ar) q1)<|yu g5<|by exact cQ<|bk [m,cs.length,A.length] [] [(28,aK,.n 2),(1,bg,.a (.n 4)<|.m 28 aK),(1,cu,.n 5),(1,xi<|.n 1000,.a bg cu)] rfl (cl hm) (cl<|ao N)<|cl<|ao T) (gu (ae rfl<|ae rfl ar) q2)<|B9<|by simp only[aJ];exact cQ<|bk [m,cs.length,A.length,B.length] [] [(28,aK,.n 2),(1,bg,.a (.n 4)<|.m 28 aK),(1,cu,.n 5),(1,io,.n 5),(1,xi<|.n 1000,.a (.a bg cu) io)] rfl (cl hm) (cl<|ao N) (cl<|ao T)<|cl<|ao z2) (gu (ae rfl<|ae rfl<|ae rfl ar) q3)<|XN<|by simp only[aJ];exact cQ<|bk [m,cs.length,A.length,B.length,C.length] [] [(28,aK,.n 2),(1,bg,.a (.n 4)<|.m 28 aK),(1,cu,.n 5),(1,io,.n 5),(1,.v 4,.n 6),(1,xi<|.n 1000,.a (.a (.a bg cu) io)<|.v 4)] rfl (cl hm) (cl<|ao N) (cl<|ao T) (cl<|ao z2)<|cl<|ao z3) ?_;refine bU (bo (bo rfl (gu (ae rfl ar) w)<|yu g6<|by simp only[aJ];exact cQ<|bk [m,cs.length,A.length,B.length,C.length,D.length] [] [(28,aK,.n 2),(1,bg,.a (.n 4)<|.m 28 aK),(1,cu,.n 5),(1,io,.n 5),(1,.v 4,.n 6),(1,.v 5,.n 6),(1,xi<|.n 1000,.a (.a (.a (.a bg cu) io)<|.v 4)<|.v 5)] rfl (cl hm) (cl<|ao N) (cl<|ao T) (cl<|ao z2) (cl<|ao z3)<|cl<|ao z4) (gu (ae rfl<|ae rfl<|ae rfl ar) S)<|XN<|by simp only[aJ];exact cQ<|bk [m,cs.length,A.length,B.length,C.length,D.length,E.length] [] [(28,aK,.n 2),(1,bg,.a (.n 4)<|.m 28 aK),(1,cu,.n 5),(1,io,.n 5),(1,.v 4,.n 6),(1,.v 5,.n 6),(1,.v 6,.n 5),(1,xi<|.n 1000,.a (.a (.a (.a (.a bg cu) io)<|.v 4)<|.v 5)<|.v 6)] rfl (cl hm) (cl<|ao N) (cl<|ao T) (cl<|ao z2) (cl<|ao z3) (cl<|ao z4)<|cl<|ao z5) ?_;exact ie (jY rfl (bx (ae rfl<|ae (bx (ae (bx (ae rfl<|ae rfl ar)<|by simp)<|ae rfl<|ae rfl ar)<|by simp)<|ae (gu (ae rfl<|ae rfl<|ae rfl ar) Z) ar)<|by simp)<|by simp only[aJ];exact cQ<|bk [m,cs.length,A.length,B.length,C.length,D.length,E.length] [] [(28,aK,.n 2),(1,bg,.a (.n 4)<|.m 28 aK),(1,cu,.n 5),(1,io,.n 5),(1,.v 4,.n 6),(1,.v 5,.n 6),(1,.v 6,.n 5),(1,xi<|.n 16777216,.a (.a (.a (.a (.a bg cu) io)<|.v 4)<|.v 5)<|.v 6)] rfl (cl hm) (cl<|ao N) (cl<|ao T) (cl<|ao z2) (cl<|ao z3) (cl<|ao z4)<|cl<|ao z5) bJ
end
def xl:List PV:=[.tup [cV "text_at",.tup [a7 [97],oJ],.tup [cV "BoundsError",.tup [a7 [97],oJ]]],.tup [cV "text_repeated",.tup [a7 [],oJ],a7 []],.tup [cV "text_find",.tup [a7 [195,169],a7 [169]],u7],.tup [cV "text_at",.tup [a7 [97],.tup [cV "char",.int 97]],.tup [cV "TypeError"]]]
theorem UW:j3 xl:=
 .cons (.mk _ _ _ 742 y1 (by intro a b c;kernel_rfl) rfl rfl) (.cons (.mk _ _ _ 801 lD (by intro a b c;kernel_rfl) rfl rfl)<|.cons (.mk _ _ _ 825 r8 (by intro a b c;kernel_rfl) rfl rfl)<|.cons (.mk _ _ _ 742 y1 (by intro a b c;kernel_rfl) rfl rfl) .nil)
theorem Zr:mm RW Ur=[.assign 3 inE,.for [4] aq itE tuB]:=rfl
theorem UG:mm RW KG=[laS]:=rfl
theorem QF:aa Ad=23:=rfl
theorem Q5 (r:el O u) (h:Hd u D q) (Q:bp iU pM V []=.ok (.dct cH d6) []) (J:bp iU cm V []=.ok (.str O) []) (R:bp iU dE V []=.ok (.tup D) []):bp iU (.aA 1114 [.sub pM cm,dE]) V []=.ok q []:=by
 refine DD r.get λa b c e=>gu (ae (bz Q J e)<|ae R ar) ?_
 have d:iU 1114=CZ 1114:=by
  have:=qi (v:=CZ) (E:=dF) (a:=1114) (l:=rI) (r:=[]) rfl
  rwa [fq] at this
 refine(af d)▸?_;show(if(1114:Nat)=1114 then pU _ else b7 1114 _) []=_;refine(af<|if_pos rfl)▸?_;exact h a b c
theorem Uq (f:qp 8 d=aq):lS .NotEq d d []=.ok ai []:=by
 have W:=(KR 8 d f).1;refine fh (a:=aq) ?_ rfl;unfold zL;have t:nM [] d=none:=by rcases d<;>first|rfl|exact ku f
 refine(af t)▸?_;dsimp only;rw[W]
theorem MH (j:List Int) (F:aa j<=63):Sy (j.map .int):=by
 have hi:fY iU dF [.assign 3 inE] (fR (fE (aa Ad) [.lst<|j.map .int]) [1,2] [.dct cH d6,oJ]) []=.ok (.next,Zv (j.map .int) 0 am am am am am am) [xl]:=by unfold fE;refine(af QF)▸?_;kernel_rfl
 have t0:Ss (j.map .int) 0 (Zv (j.map .int) 0 am am am am am am) [xl]:=.mk 0 xl _ _ _ _ _ _ _ rfl UW rfl rfl;have J:=BB (H:=[xl]) (l:=j.map .int)<|by exact(af (aC ..))▸(kN ‹_› (by rfl))
 rw[aC] at J
 have d:∃b:Int,(b=1\/b=2)/\bp iU (.bw xR [cI 1,.bw C5 [cI 2,.bw eP [cz]]]) (Zv (j.map .int) 0 am am am am am am) [xl]=.ok (.int b) [xl]:=
  ⟨if(if((aa j):Int)<2 then((aa j):Int) else 2)>1 then(if((aa j):Int)<2 then((aa j):Int) else 2) else 1,by split;exact .inl<|if_neg<|cX.mpr<|Of ‹_›;exact .inr rfl,dJ (ae rfl<|ae (dJ (ae rfl<|ae (dJ (ae rfl ar) J) ar) rfl) ar) rfl⟩
 refine aI d λb B d=>?_
 obtain⟨m,G,i,C,U⟩:∃(m:Nat) (G:bO) (i:Hp),fY iU dF [.for [4] aq itE tuB] (Zv (j.map .int) 0 am am am am am am) [xl]=.ok (.next,G) i/\(Ss (j.map .int) m G i/\m<=2):=by
  refine wB (J7 (t:=0) F (by decide) t0) λR M s I T t1=>?_;rcases B with rfl|rfl
  ·exact⟨1,_,_,rq (qo d (by decide) (l:=[.int 0]) rfl) (iG I T rfl) bJ,t1,by decide⟩
  ·refine wB (J7 (t:=1) F (by decide) t1) λS Q E v Z t2=>?_;exact⟨2,_,_,rq (qo d (by decide) (l:=[.int 0,.int 1]) rfl) (iG I T<|iG v Z rfl) bJ,t2,by decide⟩
 refine bD U λU z=>?_;obtain⟨k,D,p,o,w,x,y,A,_,e,ha,N,L⟩:=U
 have X:∃r,sJ D=am::ac (.dct cH d6)::am::ac (.lst D)::r:=⟨aX 19 am,by
  unfold sJ
  refine(af QF)▸?_;rfl⟩
 refine be X λr X=>?_;refine .mk (Zv (j.map .int) k p o w x y A) i k D (sJ D) [] ?_ rfl rfl e ha.gY ?_
 ·refine(af Zr)▸?_;exact(vA hi).trans C
 ·(refine(af UG)▸?_;refine(af X)▸?_)
  have Y:bp iU (ajS cm jc [am,am,am,am,am,ac 1] [1,2,3] ai [On (Yd 1114 [CE.sub pM cm,dE]) [yD] [jc]]) (am::ac (.dct cH d6)::am::ac (.lst D)::r) []=.ok (.lst<|(D.filter λ_=>ai).map id) []:=
   sE (l:=D) (g:=id) (f:=id) (P:=λ_=>ai) (nv rfl) (by simp) (by exact cQ<|bk [m,D.length] [] [(28,aK,.n 2),(1,bg,.a (.n 4)<|.m 28 aK),(1,xi<|.n 1000,bg)] rfl (cl z)<|cl<|ao N) λc hc=>by obtain⟨O,W,q,u,d,hd,V,_⟩:=ha c hc;exact⟨_,rfl,a8 (Q5 d hd rfl rfl rfl) rfl<|Uq V,λh=>by cases h⟩
  rw[jA.mpr λ_ _ h=>by cases h] at Y;exact bI<|oM Y (iH ar<|by simp)<|show zL (.lst []) (.lst []) []=.ok aq [] by unfold zL;simp[nM]
theorem claim:cT.Holds:=zz MH
end
end Mine.Internal
end
theorem PySem.Challenge.cw_sf0044_01_holds : PySem.Challenge.rw_sf0044_01.Holds :=
 Mine.Internal.claim
