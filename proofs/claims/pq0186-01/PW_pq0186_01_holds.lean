import PyProof.Rows.All
import Wide.All
import OpenK.AllK
import Wide.FinOn
import Lean
import PySem.Challenge.RW_pq0186_01
open PySem PySem.W PyProof.Rows
set_option Elab.async false
set_option maxHeartbeats 8000000
set_option maxRecDepth 100000
set_option linter.all false
set_option genSizeOf false
set_option genSizeOfSpec false
set_option genInjectivity false
set_option bootstrap.genMatcherCode false
set_option tactic.hygienic false
namespace Mine.Internal
open _root_.And renaming imp_left->oa,imp_right->rZ
open _root_.Array renaming getElem?_eq_some_iff->k4,getElem?_eq_none->BH,length_toList->Fg,toList_append->Fh,any_toList->IZ,mk->Sw
open _root_.Array.mk renaming inj->SQ
open _root_.Bool renaming and_eq_true->hE,or_eq_false_iff->hP,and_eq_true_iff->j4,false_ne_true->kA,false_eq_true->kZ,and_false->ve,or_eq_true_iff->xi,eq_false_or_eq_true->z1,false_and->EP,false_or->FY,true_and->F6,true_or->NF
open _root_.Classical renaming byContradiction->jw,em->SR
open _root_.Exists renaming imp->rk
open _root_.ForInStep renaming yield->xa
open _root_.Function renaming comp_def->sj,comp_apply->QI
open _root_.Int renaming le_trans->g7,natCast_nonneg->h3,ofNat_lt->iW,ofNat_le->kf,not_lt->mm,le_add_of_nonneg_right->oA,add_le_add->qj,sub_nonneg_of_le->sE,ofNat->sY,toNat_of_nonneg->tC,lt_of_lt_of_le->t7,add_nonneg->vn,le_of_eq->xq,ne_of_gt->ym,eq_of_mul_eq_mul_right->zk,eq_ofNat_of_zero_le->Bk,le_of_lt->Dd,natCast_pos->Dw,mul_nonneg->DZ,le_of_lt_add_one->EO,add_left_cancel->Fq,lt_irrefl->Fs,max_eq_right->Jn,sub_le_self->JI,le_antisymm->JM,mul_le_mul->LM,toNat_lt->NJ,sub_zero->NP,mul_comm->Pf,not_le->Q3
open _root_.Int.ofNat renaming inj->ny
open _root_.List renaming prefix_append->e1,getElem?_eq_some_iff->e4,mem_of_getElem?->fz,prefix_rfl->fV,forall_mem_cons->gx,getElem?_append_right->gO,mem_singleton->gP,length_map->g0,length_append->hg,mem_cons->hr,getElem?_eq_getElem->hv,all_eq_true->hw,lookup_cons->hL,getElem?_append_left->hN,mem_map->h4,not_mem_nil->h6,getElem?_toArray->h7,take_of_length_le->ia,size_toArray->ig,map_cons->iO,getElem?_map->jb,mem_append->jd,getElem_mem->j5,append_nil->j6,take_succ_eq_append_getElem->kn,nodup_cons->ku,eq_nil_of_length_eq_zero->kx,mem_map_of_mem->kK,filter_cons->lf,drop_eq_getElem_cons->lv,append_assoc->lE,getElem?_eq_none->lF,filterMap_cons_some->lO,mem_cons_of_mem->mD,lookup->mH,map_inj_left->m4,filterMap_cons->m8,length->nl,mem_filter->nn,getElem_inj->nu,length_take->nv,getElem?_of_mem->nD,length_cons->ol,length_filter_le->oW,getElem?_zip_eq_some->oY,find?_cons->pd,map_append->pl,getElem?_set_ne->pq,reverse_cons->pz,takeWhile_cons->p0,eraseDups_cons->p3,drop_zero->qS,filter_cons_of_pos->rb,getElem?_cons_zero->rd,length_nil->rI,set_append_right->r5,contains_iff_mem->r6,range'->sF,map_nil->s4,append_cons->s5,getElem?_eq_none_iff->tb,filter_eq_self->tB,filter_nil->t1,getElem?_nil->uI,nodup_append->uP,takeWhile_append_dropWhile->vp,length_drop->vO,getElem?_range'->wu,of_mem_zip->wU,toList_toArray->xe,dropWhile_cons->xh,filter_sublist->xo,map_map->yg,mapM_cons->y2,lookup_append->y3,filterMap_nil->zh,mem_take_iff_getElem->zt,any_cons->zH,filterMap_cons_none->zW,mem_reverse->AJ,any_eq_true->AP,drop_length->A0,getElem?_cons_succ->Bn,getElem?_set_self->Bu,drop_of_length_le->Ce,drop_eq_nil_of_le->De,length_eq_one_iff->Df,nil_append->Dr,mem_mapIdx->Dv,singleton_append->Dz,mem_append_right->DY,contains_eq_mem->EE,map_eq_nil_iff->Ff,length_reverse->Fi,map_congr_left->Fl,length_pos_iff->Fp,take_nil->F1,length_range'->F9,flatten_cons->Hn,zipWith->Ho,pairwise_map->Hp,filter_congr->Hq,any_toArray->Jb,mem_toArray->Ji,cons_ne_nil->Jq,ext_getElem->Jw,getElem_map->Jx,length_set->JK,forIn_cons->JN,filter_map->J1,foldl_cons->J2,any->Kx,range->Ld,drop_drop->Ls,take->Sg,drop->Sh
open _root_.List.Pairwise renaming imp->Sa
open _root_.List.Perm renaming cons->K0,swap->SD
open _root_.List.Sublist renaming map->Bh,nodup->RS
open _root_.List.cons renaming inj->tV,injEq->Ds
open _root_.Nat renaming le_of_ble_eq_true->eW,le_trans->e2,le_refl->e6,lt_of_lt_of_le->fC,le_of_lt->gB,ne_of_lt->hc,ne_of_gt->hj,succ_le_succ->hm,zero_le->hq,add_le_add_left->hH,le_add_right->hM,lt_trans->hO,lt_of_le_of_lt->hQ,lt_irrefl->hW,ne_of_beq_eq_false->h9,add_le_add_right->iG,le_of_eq->iP,le_succ->jr,succ_add_eq_add_succ->jX,zero_add->ki,add_le_add->kl,le_of_lt_succ->lx,le_of_not_lt->mq,le_of_add_right_le->mI,lt_succ_of_lt->m1,not_lt_zero->n3,beq->n8,min_eq_left->pe,lt_of_succ_lt->pM,mul_le_mul_left->pV,lt_add_of_pos_right->p4,add_sub_cancel_left->qh,lt_succ_self->qi,succ_ne_self->q5,not_lt->rx,lt_of_add_right_lt->ry,le_succ_of_le->sn,lt_succ_iff_lt_or_eq->tD,lt_succ_of_le->vl,not_le_of_lt->vJ,sub_self->xr,add_comm->xt,succ_pos->xu,add_right_comm->yz,succ_pred_eq_of_pos->Ay,min_le_right->AQ,min_eq_right->AV,lt_of_succ_lt_succ->Bs,le_antisymm->Dg,sub_le_sub_right->EF,add_left_cancel->Fb,ble->Gy,blt->Gz,succ_le_of_lt->GI,le_total->Hi,succ_lt_succ->I9,lt_of_not_le->Ju,le_max_right->JA,one_mul->JD,le_max_left->J5,add_assoc->Ml,add_zero->Nu,min_self->NK,succ_add->Pe,pred_le->PT,log2_lt->Qu
open _root_.Nat.succ renaming inj->s3
open _root_.Option renaming map_eq_some_iff->hI,isSome_iff_exists->l7,bind_eq_some_iff->mA,map_eq_none_iff->rn,map->v2,map_some->Dp,bind_eq_bind->Fd,isSome_none->Ga,getD_none->Jo,getD_some->Jv,pure_def->JJ,or_assoc->JL
open _root_.Option.some renaming inj->fZ,injEq->mS
open _root_.Prod.mk renaming injEq->F7
open _root_.PyProof renaming noPylong_small->NT
open _root_.PyProof.Rows renaming IsTup->qv,Subscript_->BN,tail_of_ItemOn->EH,IntsAre->ES,slot_tupleiter_next->Fe,assign_Name->Mo,stripBy_eq->Nd,seqObj->Q6,sortedHeap->Q7
open _root_.PySem renaming wpAny_bind->e3,Value->fB,Shared->gc,wpAny_pure->gq,model->hh,wpAny->ht,starEach->hu,Addr->hD,eval->hF,wpAny_holding->hK,Program->ih,Str->jg,mainGlobals->jk,World->jo,Params->jq,Heap->kb,wpAny_mono->ke,wpAny_standAt->ko,OsState->kv,codeAny->kC,wpAny_execs_cons->kE,sysModules->kM,wpAny_loadName_local->kV,treeTable->k5,Expr->k8,backTo->la,wpAny_items_cons->lb,sizeLine->lg,wpAny_truthy_bool->ly,builtinsNs->mN,assignEach->mV,callEnv->m2,wpAny_evalPart_none->m9,plainObj_wpAny_Assign_Attribute->nr,swappedStores->nB,wpAny_field->nG,callWith->nI,compareOp->n2,swapsWith->ot,NameKind->oL,wpAny_items_nil->pa,wpAny_execs_nil->pb,letOwnedTupleGo->pc,spliced->pp,wpAny_newObj_type->pJ,call->pT,wpAny_evalPart_some->p2,FuncData->qx,isTrue->qQ,bindArgs->qR,Stmt->rf,assign->rl,foldedSetIterable->sf,wpAny_setField->sR,wpAny_call->sX,exec->s0,notedBy->s1,Result->tc,rawInt->tA,codeAny_of_tree->tY,Around->t2,wpAny_Name->t3,typeLookup->t4,wpAny_pyNext_list_item->uR,wpAny_loadPart_at->vm,wpAny_pyNext_list_end->vr,builtinLookup_eq_fast->vH,wpAny_call_entry->vN,call_meets->vT,strKind->v3,swapsWithSole->v4,attributeBase->wj,wpAny_of_eq->wJ,interactive->wQ,codeAny_builtin->w1,pyNext->w8,standAt->yc,getItem->yd,DictEntry->yw,storeName->yy,binaryOp->y1,letTemporaryGo->y6,wpAny_loadPart->y7,Env->zs,holding->zu,allTrue->zv,unpackItems->zw,wpAny_pyIter_list->zx,intKind->zy,behindInMarks->zz,stored->zN,entryFor_of_tree->AK,noteFrame->AL,wpAny_list_append_plain->AM,wpAny_Call_method_lateS->AN,wpAny_allTrue_And_cons->Bt,typeIs_str->BI,wpAny_mkText->BS,aRefKeyMayBeTheName_at->BZ,valueAt->Cb,wpAny_typeOf->Cg,importedModules->Di,wpAny_specialOf->Dj,theTreesLotGoes->Dn,getAttrByItsOwn->Do,typeLookup_type->Du,wpAny_allTrue_Or_cons->Dx,wpAny_point->D0,keywordEach->D1,subscripted->D3,codeAny_call_builtin->Es,wpAny_Slice->EG,checkBoundCall->EJ,wpAny_tryStmt_except->EK,evalPairs->EU,pairTrees->E3,wpAny_loadName_free->Fc,wpAt_of_wpAny->Fo,Sem->FD,wpAny_attempt->FI,foldedForSure->F5,wpAny_load->Gb,isInstance->Gi,getattributeRaised->Go,qualnameIn->Gu,Obj->Gx,evalArgs->GO,wpAny_Assign_Name->GP,keeperOf->GS,getAttr->GU,call_meetsIn->G5,wpAny_pyIter_enum->Hk,BindsTo->Hl,cellsFrom->Hr,notIterableAtAll->Hs,pyIter->IV,callGetattribute->IX,wpAny_askSetting->IY,wpAny_updatePart->I0,wpAny_lookBehind->I1,pastItsLine_dict->I6,seqIndex?->I8,opaqueClassAbove->Jt,codeAny_call_def->JB,Pos->JC,wpAny_noted->JE,Flow->Km,wpAny_seqItems->Kq,firstArgMember->Kt,closureFor->Kw,backToKw->KA,boundAndCalled->KP,Operator->K6,CmpOp->Lc,wpAny_Expr_any->Ll,methodCall->Ly,assignInOrder->Mn,wpAny_onRaise->Mp,getAttr->Mq,plainId_quiet->Mw,methodCallPos->MA,wpAny_For->MX,getAttrBy->M8,onTheHeap->M9,strValues->Nf,isSubtype->Nn,leaving->Nr,Keyword->Ny,operate->Nz,arm_exec_Try->NS,bootBuiltins->Pt,callEnvC->P7,entryFor->P9,Scope->Qa,Pairs->Qd,sizeLine_eq->Qh,bindSpecial->Qv,cLine->QB,eqBool->QK,Tok->QN,wpAny_rule->QT,unpack->QU,PlainAttrs->QW,typeOf->QX,hookBefore->QY,sliceRange->RO,setAttr->RW,mroOf->RY,without->R4,callAny->R8,again->SA,BoolOp->SE,IsPair->SI
open _root_.PySem.Around renaming under_plainId->EI
open _root_.PySem.AutoSeq1 renaming list_extend_list_list_0->Hj
open _root_.PySem.BindsTo renaming of_eq->SO
open _root_.PySem.Builtin.BaseException renaming bexcPut->JG
open _root_.PySem.Builtin.Dict renaming updateFrom->Be,addKeywords->Mv,selfAndRest->My,pairItems->NN
open _root_.PySem.Builtin.Int renaming intBits->Fj
open _root_.PySem.Builtin.List renaming listTooLong->zV
open _root_.PySem.Builtin.Range renaming rangeSize->Nl
open _root_.PySem.Builtin.Str renaming occurrences->Ng,tooLong->QG
open _root_.PySem.Calls renaming Name_function_global->mR,loadGlobal_builtin->tK,loadGlobal_global->uk,callWith_function->um,callWith_builtin->BJ
open _root_.PySem.Challenge renaming rw_pq0186_01->rz
open _root_.PySem.Code renaming quiet_builtin->zj,builtin->Ps
open _root_.PySem.DictEntry renaming refKey->Sp
open _root_.PySem.EntryCells renaming newEntry->Fk
open _root_.PySem.Env renaming blockKind->Mz
open _root_.PySem.EqMixed renaming eq_int_str->QL,eq_str_int->QM
open _root_.PySem.Expr renaming Name->Nm
open _root_.PySem.F renaming plainAttrs_str->m3,ks_slot_super_ga->tW,plainAttrs_dict->us,plainAttrs_list->uw,slot_list_extend->zO,slot_list_index->A1,slot_dict_items->Bc,slot_dict_get->Dy,slot_dict_pop->DT,attrBase_Exception->KC,slot_tuple_getitem->Lk,args_list_extend_2->Lr,kt_typeCall_dict_1->Lu,slot_str_partition->LJ,type_str_partition->LK,entry_list_extend->LR,args_list_index_2->LS,args_dict_items_1->LZ,ks_canon_super_ga->L0,ks_entry_super_ga->Mh,excCall_Exception->Mj,excBase_Exception->Mk,slot_str_getitem->Mr,entry_list_index->Ms,entry_dict_items->Mu,args_dict_init_2->Mx,slot_list_append->MB,type_list_append->MC,type_list_extend->MD,store_Exception->Na,args_dict_get_3->Nc,args_dict_pop_2->Nh,type_dict_items->Ni,entry_dict_init->Nj,ks_gaArgs_super->No,type_list_index->Np,entry_dict_get->NG,entry_dict_pop->NL,kt_called_dict->NO,slot_str_index->NU,type_str_index->NV,slot_str_strip->NW,type_str_strip->NX,slot_str_upper->O9,type_str_upper->Pa,slot_str_split->Pb,type_str_split->Pc,entry_bexc_ga->Pu,type_dict_pop->PN,type_dict_get->PO,slot_str_join->PR,type_str_join->PS,args_bexc_ga->Qf,store_object->Qg
open _root_.PySem.FuncBody renaming stmts->LN
open _root_.PySem.Heap renaming get?_push_of_some->fw,get?_push_size->gR,lt_size->hy,get?_update_other->ii,get?_update_self->jp,SameBut->og,get?_none_of_le->sK,size_push->uQ,ExtBut->wA
open _root_.PySem.Heap.DictOf renaming new->Dt
open _root_.PySem.Heap.PlainList renaming isList->ha
open _root_.PySem.Heap.SameBut renaming update->tq,refl->R6
open _root_.PySem.IsRange renaming new->SS
open _root_.PySem.IsiPair renaming tuple_tuple->QH,str_tuple->R5
open _root_.PySem.Manifest renaming canonical->RP
open _root_.PySem.NameKind renaming free->wl,cell->wt
open _root_.PySem.Obj renaming putName->oh,isFreed_of_fields->sd,mapFields->tG,data_mapFields->y4,mapSeq->y8
open _root_.PySem.P renaming chr_of_int->Q4,str_of_int->Q5,notIn_str->R3,add_list->Sk,len_str->Su,le_str->SG
open _root_.PySem.PyData renaming keyHash->i3
open _root_.PySem.SC renaming upper->SH
open _root_.PySem.ScopeKind renaming function->RT
open _root_.PySem.SeqAt renaming EqAt->ru,RcNeAt->NH,RcAt->Ri
open _root_.PySem.SeqAt.EqAt renaming str_str->t5,int_int->Gj,same->Sv
open _root_.PySem.SeqAt.RcAt renaming lists_lengths->ME,none_none->Qr,int_none->QE,none_int->QF,int_int->Rj,str_str->RN,tuples->R9,lists->Sq
open _root_.PySem.SeqAt.RcNeAt renaming lists->Gp,lists_lengths->LL,none_none->NI,int_none->PK,none_int->PL,int_int->Qk,str_str->Qo
open _root_.PySem.Str renaming empty->Ja,cps_append->Lf,append->Q2,join->SF
open _root_.PySem.StrLaws renaming strSub_toList->vC,glued_eq_join->PA,occ_length_le->PI,join_split->Re,split_free->Rh,subAt_one->RZ,joinTotal->R1,found_one->R2,occ_head->Sj,At->SU
open _root_.PySem.Txt renaming stripChars->Lj,slice->Sn
open _root_.PySem.Value renaming ref->h0,isStrOf->tE,isInt->ui,builtin->zB,isStr->D4,type->F8
open _root_.PySem.Value.ref renaming inj->SN
open _root_.PySem.Value.type renaming inj->Sz
open _root_.PySem.W renaming topFrame->n4,piecesOf->qu,piece_app->rK,segRun_of->rL,segRunT->sZ,putName_dict->s2,boot_heap->uh,findIn->u0,Looks->vz,dictOf->wS,looks_findIn->yf,behindTheImports->AI,Frag->AO,looks_mroIn->D7,plainOver->EQ,ghostOf->E6,takerIn->G2,looks_clsIn->JF,hideAll_get->JH,boot_drawn->Kl,check_slot->KQ,boot_toks->MS,hasDictIn->M7,set_plain->Nb,emptyDict->Nq,typeIn->NQ,hideAll_none->NR,findObj_own->Qe,kp_binds->QC,looseW->QJ,lookIn->QZ,of_hideAll->RQ,codeRec_of->RU,mroIn->RX,alongIn->R7,makesIn->Sb,putL->Si,keepIn->SJ,CodeHd->SK,fnMade->SM,getL->SP
open _root_.PySem.W.Fast renaming te14364793385576792824->hB,te10110043849684766642->hR,te5923862056798008813->oJ,te11788848310118352699->xv,te12862048085361865435->xz,te18344453789297297638->xE,te14412699480532031325->xL,te17691160309236699985->xS,te13343964577679436407->xT,te17119622794617984870->xW,te17868728402115742887->x0,te13582783067957832011->x2,te12749700546528644094->x3,te10501279942588096481->x4,te16286561074155671207->x7,te12879404354523853263->ya,te10792542408131684335->yb,te3399658132070893891->yB,te9807087744658564304->yN,te8377067652309620493->yO,te3471404346716756564->yP,te8326940854005059898->yQ,te2357444279172408678->yR,te4857012375875476094->yS,te5318747976498570220->yT,te4274047373036748609->yU,te8179353310426384613->yV,te9572597257264208301->yW,te9558739934217749035->yY,te6984425678791042302->y0,te821141287760084731->zn,te797321630700447069->zq,te482687673346738481->zr,named_eq->Mm
open _root_.PySem.W.Hook renaming says->Sf,obs->Sx,val->Sy
open _root_.PySem.W.Looks renaming ld->Lx
open _root_.PySem.W.OpenLaw renaming wellSaid->Sc
open _root_.PySem.W.OpenRow renaming wellSaid->Sd,partSaid->Se
open _root_.PySem.callAny renaming viaDunder->Hm
open _root_ renaming List->e0,Nat->e5,of_decide_eq_true->gf,Option->gN,if_neg->hb,if_pos->hz,Int->hA,congrArg->hC,decide_eq_true->h8,beq_self_eq_true->ij,absurd->iv,decide_eq_false->je,beq_eq_false_iff_ne->jP,Bool->jW,decide_eq_true_eq->j8,beq_false_of_ne->kB,congrFun->kL,decide_eq_false_iff_not->qT,Array->uf,decide_eq_decide->vW,if_false->wP,String->yA,LawfulBEq->Aa,Decidable->Bg,or_false->Bj,decide_not->Gk,Unit->GK,beq_iff_eq->Lv,bne_iff_ne->Lw,if_true->Nt,reduceCtorEq->Pd,DecidableEq->PW,False->P2
theorem J{p:Prop}(h:p:=by decide):p:=h
theorem eR{C:Prop}(h:a/\b/\P3)(k:a->b->P3->C):C:=k h.1 h.2.1 h.2.2
theorem ql{C:Prop}(h:b/\d/\P3/\f)(k:b->d->P3->f->C):C:=eR h λc e a=>k c e a.1 a.2
theorem xw{C:Prop}(h:c/\e/\P3/\g/\j)(k:c->e->P3->g->j->C):C:=ql h λd f b a=>k d f b a.1 a.2
theorem ah.{u1} {d:Sort u1} {b c:d->Prop} {C:Prop} (h:∃ a,b a/\c a) (k:∀ a,b a->c a->C):C:=h.elim λa h=>k a h.1 h.2
theorem ba.{u1} {f:Sort u1} {b c P3:f->Prop} {C:Prop} (h:∃ a,b a/\c a/\P3 a) (k:∀ a,b a->c a->P3 a->C):C:=ah h λa e d=>k a e d.1 d.2
theorem lA.{u1} {g:Sort u1} {c d P3 e:g->Prop} {C:Prop} (h:∃ a,c a/\d a/\P3 a/\e a) (k:∀ a,c a->d a->P3 a->e a->C):C:=ba h λa f j b=>k a f j b.1 b.2
theorem lB.{u1,u2} {d:Sort u1} {A2:Sort u2} {c:d->A2->Prop} {C:Prop} (h:∃ a b,c a b) (k:∀ a b,c a b->C):C:=h.elim λa h=>h.elim λb h=>k a b h
theorem b5.{u1,u2} {f:Sort u1} {A2:Sort u2} {c e:f->A2->Prop} {C:Prop} (h:∃ b a,c b a/\e b a) (k:∀ b a,c b a->e b a->C):C:=lB h λb a d=>k b a d.1 d.2
theorem cg.{u1,u2} {g:Sort u1} {A2:Sort u2} {c d P3:g->A2->Prop} {C:Prop} (h:∃ b a,c b a/\d b a/\P3 b a) (k:∀ b a,c b a->d b a->P3 b a->C):C:=b5 h λb a f e=>k b a f e.1 e.2
theorem f5.{u1,u2} {j:Sort u1} {A2:Sort u2} {d e P3 f:j->A2->Prop} {C:Prop} (h:∃ b a,d b a/\e b a/\P3 b a/\f b a) (k:∀ b a,d b a->e b a->P3 b a->f b a->C):C:=cg h λb a g l c=>k b a g l c.1 c.2
theorem xx.{u1,u2} {m:Sort u1} {A2:Sort u2} {c e P3 f g:m->A2->Prop} {C:Prop} (h:∃ b a,c b a/\e b a/\P3 b a/\f b a/\g b a) (k:∀ b a,c b a->e b a->P3 b a->f b a->g b a->C):C:=f5 h λb a l n j d=>k b a l n j d.1 d.2
theorem iV.{u1,u2} {n:Sort u1} {A2:Sort u2} {e f P3 g j c:n->A2->Prop} {C:Prop} (h:∃ b a,e b a/\f b a/\P3 b a/\g b a/\j b a/\c b a) (k:∀ b a,e b a->f b a->P3 b a->g b a->j b a->c b a->C):C:=xx h λb a m p l o d=>k b a m p l o d.1 d.2
theorem xy.{u1,u2} {p:Sort u1} {A2:Sort u2} {e f P3 g j c d:p->A2->Prop} {C:Prop} (h:∃ b a,e b a/\f b a/\P3 b a/\g b a/\j b a/\c b a/\d b a) (k:∀ b a,e b a->f b a->P3 b a->g b a->j b a->c b a->d b a->C):C:=iV h λb a o s n q m l=>k b a o s n q m l.1 l.2
theorem nj.{u1,u2} {q:Sort u1} {A2:Sort u2} {e j P3 l m c d f:q->A2->Prop} {C:Prop} (h:∃ b a,e b a/\j b a/\P3 b a/\l b a/\m b a/\c b a/\d b a/\f b a) (k:∀ b a,e b a->j b a->P3 b a->l b a->m b a->c b a->d b a->f b a->C):C:=xy h λb a p t o s n u g=>k b a p t o s n u g.1 g.2
theorem s6.{u1,u2,u3} {e:Sort u1} {A2:Sort u2} {f:Sort u3} {d:e->A2->f->Prop} {C:Prop} (h:∃ b a c,d b a c) (k:∀ b a c,d b a c->C):C:=h.elim λb h=>lB h λa c h=>k b a c h
theorem cB.{u1,u2,u3} {g:Sort u1} {A2:Sort u2} {j:Sort u3} {d f:g->A2->j->Prop} {C:Prop} (h:∃ b a c,d b a c/\f b a c) (k:∀ b a c,d b a c->f b a c->C):C:=s6 h λb a c e=>k b a c e.1 e.2
theorem fx.{u1,u2,u3} {j:Sort u1} {A2:Sort u2} {l:Sort u3} {d e P3:j->A2->l->Prop} {C:Prop} (h:∃ b a c,d b a c/\e b a c/\P3 b a c) (k:∀ b a c,d b a c->e b a c->P3 b a c->C):C:=cB h λb a c g f=>k b a c g f.1 f.2
theorem qm.{u1,u2,u3} {l:Sort u1} {A2:Sort u2} {m:Sort u3} {e f P3 g:l->A2->m->Prop} {C:Prop} (h:∃ b a c,e b a c/\f b a c/\P3 b a c/\g b a c) (k:∀ b a c,e b a c->f b a c->P3 b a c->g b a c->C):C:=fx h λb a c j n d=>k b a c j n d.1 d.2
theorem D8.{u1,u2,u3} {n:Sort u1} {A2:Sort u2} {o:Sort u3} {d f P3 g j:n->A2->o->Prop} {C:Prop} (h:∃ b a c,d b a c/\f b a c/\P3 b a c/\g b a c/\j b a c) (k:∀ b a c,d b a c->f b a c->P3 b a c->g b a c->j b a c->C):C:=qm h λb a c m p l e=>k b a c m p l e.1 e.2
theorem s7.{u1,u2,u3} {o:Sort u1} {A2:Sort u2} {p:Sort u3} {f g P3 j l d:o->A2->p->Prop} {C:Prop} (h:∃ b a c,f b a c/\g b a c/\P3 b a c/\j b a c/\l b a c/\d b a c) (k:∀ b a c,f b a c->g b a c->P3 b a c->j b a c->l b a c->d b a c->C):C:=D8 h λb a c n s m q e=>k b a c n s m q e.1 e.2
theorem D9.{u1,u2,u3} {q:Sort u1} {A2:Sort u2} {s:Sort u3} {f g P3 j l d e:q->A2->s->Prop} {C:Prop} (h:∃ b a c,f b a c/\g b a c/\P3 b a c/\j b a c/\l b a c/\d b a c/\e b a c) (k:∀ b a c,f b a c->g b a c->P3 b a c->j b a c->l b a c->d b a c->e b a c->C):C:=s7 h λb a c p u o t n m=>k b a c p u o t n m.1 m.2
theorem xA.{u1,u2,u3,u4} {f:Sort u1} {A2:Sort u2} {j:Sort u3} {g:Sort u4} {e:f->A2->j->g->Prop} {C:Prop} (h:∃ c b d a,e c b d a) (k:∀ c b d a,e c b d a->C):C:=h.elim λc h=>s6 h λb d a h=>k c b d a h
theorem xB.{u1,u2,u3,u4} {j:Sort u1} {A2:Sort u2} {m:Sort u3} {l:Sort u4} {e g:j->A2->m->l->Prop} {C:Prop} (h:∃ c b d a,e c b d a/\g c b d a) (k:∀ c b d a,e c b d a->g c b d a->C):C:=xA h λc b d a f=>k c b d a f.1 f.2
theorem s8.{u1,u2,u3,u4} {l:Sort u1} {A2:Sort u2} {n:Sort u3} {m:Sort u4} {e f P3:l->A2->n->m->Prop} {C:Prop} (h:∃ c b d a,e c b d a/\f c b d a/\P3 c b d a) (k:∀ c b d a,e c b d a->f c b d a->P3 c b d a->C):C:=xB h λc b d a j g=>k c b d a j g.1 g.2
theorem xC.{u1,u2,u3,u4} {m:Sort u1} {A2:Sort u2} {o:Sort u3} {n:Sort u4} {f g P3 j:m->A2->o->n->Prop} {C:Prop} (h:∃ c b d a,f c b d a/\g c b d a/\P3 c b d a/\j c b d a) (k:∀ c b d a,f c b d a->g c b d a->P3 c b d a->j c b d a->C):C:=s8 h λc b d a l p e=>k c b d a l p e.1 e.2
theorem Ea.{u1,u2,u3,u4} {o:Sort u1} {A2:Sort u2} {q:Sort u3} {p:Sort u4} {e g P3 j l:o->A2->q->p->Prop} {C:Prop} (h:∃ c b d a,e c b d a/\g c b d a/\P3 c b d a/\j c b d a/\l c b d a) (k:∀ c b d a,e c b d a->g c b d a->P3 c b d a->j c b d a->l c b d a->C):C:=xC h λc b d a n s m f=>k c b d a n s m f.1 f.2
theorem xD.{u1,u2,u3,u4} {p:Sort u1} {A2:Sort u2} {s:Sort u3} {q:Sort u4} {g j P3 l m e:p->A2->s->q->Prop} {C:Prop} (h:∃ c a d b,g c a d b/\j c a d b/\P3 c a d b/\l c a d b/\m c a d b/\e c a d b) (k:∀ c a d b,g c a d b->j c a d b->P3 c a d b->l c a d b->m c a d b->e c a d b->C):C:=Ea h λc a d b o u n t f=>k c a d b o u n t f.1 f.2
theorem Eb.{u1,u2,u3,u4} {u:Sort u1} {A2:Sort u2} {o:Sort u3} {s:Sort u4} {g j P3 l m e f:u->A2->o->s->Prop} {C:Prop} (h:∃ d a b c,g d a b c/\j d a b c/\P3 d a b c/\l d a b c/\m d a b c/\e d a b c/\f d a b c) (k:∀ d a b c,g d a b c->j d a b c->P3 d a b c->l d a b c->m d a b c->e d a b c->f d a b c->C):C:=xD h λd a b c w p t v q n=>k d a b c w p t v q n.1 n.2
theorem s9.{u1,u2,u3,u4} {v:Sort u1} {A2:Sort u2} {p:Sort u3} {t:Sort u4} {j l P3 m o f g e:v->A2->p->t->Prop} {C:Prop} (h:∃ d a b c,j d a b c/\l d a b c/\P3 d a b c/\m d a b c/\o d a b c/\f d a b c/\g d a b c/\e d a b c) (k:∀ d a b c,j d a b c->l d a b c->P3 d a b c->m d a b c->o d a b c->f d a b c->g d a b c->e d a b c->C):C:=Eb h λd a b c x q u w s y n=>k d a b c x q u w s y n.1 n.2
theorem Ec.{u1,u2,u3,u4,UZ} {g:Sort u1} {A2:Sort u2} {l:Sort u3} {j:Sort u4} {m:Sort UZ} {f:g->A2->l->j->m->Prop} {C:Prop} (h:∃ d b e c a,f d b e c a) (k:∀ d b e c a,f d b e c a->C):C:=h.elim λd h=>xA h λb e c a h=>k d b e c a h
theorem Ed.{u1,u2,u3,u4,UZ,u6} {l:Sort u1} {A2:Sort u2} {n:Sort u3} {m:Sort u4} {o:Sort UZ} {j:Sort u6} {g:l->A2->n->m->o->j->Prop} {C:Prop} (h:∃ e b f c a d,g e b f c a d) (k:∀ e b f c a d,g e b f c a d->C):C:=h.elim λe h=>Ec h λb f c a d h=>k e b f c a d h
theorem Ee.{u1,u2,u3,u4,UZ,u6,Vg} {m:Sort u1} {A2:Sort u2} {p:Sort u3} {o:Sort u4} {q:Sort UZ} {l:Sort u6} {n:Sort Vg} {j:m->A2->p->o->q->l->n->Prop} {C:Prop} (h:∃ e b f c a d g,j e b f c a d g) (k:∀ e b f c a d g,j e b f c a d g->C):C:=h.elim λe h=>Ed h λb f c a d g h=>k e b f c a d g h
theorem Ef.{u1,u2,u3,u4,UZ,u6,Vg,u8} {o:Sort u1} {A2:Sort u2} {s:Sort u3} {q:Sort u4} {t:Sort UZ} {n:Sort u6} {p:Sort Vg} {m:Sort u8} {l:o->A2->s->q->t->n->p->m->Prop} {C:Prop} (h:∃ f b e c a d g j,l f b e c a d g j) (k:∀ f b e c a d g j,l f b e c a d g j->C):C:=h.elim λf h=>Ee h λb e c a d g j h=>k f b e c a d g j h
theorem Eg.{u1,u2,u3,u4,UZ,u6,Vg,u8} {q:Sort u1} {A2:Sort u2} {u:Sort u3} {t:Sort u4} {v:Sort UZ} {p:Sort u6} {s:Sort Vg} {o:Sort u8} {l n:q->A2->u->t->v->p->s->o->Prop} {C:Prop} (h:∃ f b e c a d g j,l f b e c a d g j/\n f b e c a d g j) (k:∀ f b e c a d g j,l f b e c a d g j->n f b e c a d g j->C):C:=Ef h λf b e c a d g j m=>k f b e c a d g j m.1 m.2
theorem Eh.{u1,u2,u3,u4,UZ,u6,Vg,u8} {u:Sort u1} {A2:Sort u2} {p:Sort u3} {s:Sort u4} {q:Sort UZ} {t:Sort u6} {v:Sort Vg} {o:Sort u8} {m n P3:u->A2->p->s->q->t->v->o->Prop} {C:Prop} (h:∃ g a b d c e j f,m g a b d c e j f/\n g a b d c e j f/\P3 g a b d c e j f) (k:∀ g a b d c e j f,m g a b d c e j f->n g a b d c e j f->P3 g a b d c e j f->C):C:=Eg h λg a b d c e j f w l=>k g a b d c e j f w l.1 l.2
theorem Ei.{u1,u2,u3,u4,UZ,u6,Vg,u8} {w:Sort u1} {A2:Sort u2} {q:Sort u3} {u:Sort u4} {s:Sort UZ} {v:Sort u6} {x:Sort Vg} {p:Sort u8} {m n P3 o:w->A2->q->u->s->v->x->p->Prop} {C:Prop} (h:∃ g a b d c e j f,m g a b d c e j f/\n g a b d c e j f/\P3 g a b d c e j f/\o g a b d c e j f) (k:∀ g a b d c e j f,m g a b d c e j f->n g a b d c e j f->P3 g a b d c e j f->o g a b d c e j f->C):C:=Eh h λg a b d c e j f y t l=>k g a b d c e j f y t l.1 l.2
theorem Ej.{u1,u2,u3,u4,UZ,u6,Vg,u8} {y:Sort u1} {A2:Sort u2} {s:Sort u3} {v:Sort u4} {t:Sort UZ} {x:Sort u6} {z:Sort Vg} {q:Sort u8} {l n P3 o p:y->A2->s->v->t->x->z->q->Prop} {C:Prop} (h:∃ g a b d c e j f,l g a b d c e j f/\n g a b d c e j f/\P3 g a b d c e j f/\o g a b d c e j f/\p g a b d c e j f) (k:∀ g a b d c e j f,l g a b d c e j f->n g a b d c e j f->P3 g a b d c e j f->o g a b d c e j f->p g a b d c e j f->C):C:=Ei h λg a b d c e j f aa u w m=>k g a b d c e j f aa u w m.1 m.2
theorem js (h1:b)(h2:d)(a:P3)(c:e):b/\d/\P3/\e:=⟨h1,h2,a,c⟩
theorem lC (h1:c)(h2:e)(b:P3)(d:f)(a:g):c/\e/\P3/\f/\g:=⟨h1,h2,b,d,a⟩
theorem xF (h1:d)(h2:f)(c:P3)(e:g)(b:h)(j:a):d/\f/\P3/\g/\h/\a:=⟨h1,h2,c,e,b,j⟩
theorem xG (h1:e)(h2:h)(c:P3)(g:j)(b:k)(l:a)(d:f):e/\h/\P3/\j/\k/\a/\f:=⟨h1,h2,c,g,b,l,d⟩
theorem xH.{u1} {d:Sort u1} {b c:d->Prop} (a:d) (h1:b a) (h2:c a):∃ a,b a/\c a:=⟨a,h1,h2⟩
theorem eS.{u1} {c:Sort u1} {b d P3:c->Prop} (a:c) (h1:b a) (h2:d a) (e:P3 a):∃ a,b a/\d a/\P3 a:=⟨a,h1,h2,e⟩
theorem iX.{u1} {c:Sort u1} {b d P3 e:c->Prop} (a:c) (h1:b a) (h2:d a) (f:P3 a) (g:e a):∃ a,b a/\d a/\P3 a/\e a:=⟨a,h1,h2,f,g⟩
theorem Ek.{u1} {c:Sort u1} {b d P3 e f:c->Prop} (a:c) (h1:b a) (h2:d a) (h:P3 a) (j:e a) (g:f a):∃ a,b a/\d a/\P3 a/\e a/\f a:=⟨a,h1,h2,h,j,g⟩
theorem El.{u1} {d:Sort u1} {c e P3 f g b:d->Prop} (a:d) (h1:c a) (h2:e a) (j:P3 a) (k:f a) (h:g a) (l:b a):∃ a,c a/\e a/\P3 a/\f a/\g a/\b a:=⟨a,h1,h2,j,k,h,l⟩
theorem eT.{u1,u2} {d:Sort u1} {A2:Sort u2} {c e:d->A2->Prop} (b:d) (a:A2) (h1:c b a) (h2:e b a):∃ b a,c b a/\e b a:=⟨b,a,h1,h2⟩
theorem gD.{u1,u2} {d:Sort u1} {A2:Sort u2} {c e P3:d->A2->Prop} (b:d) (a:A2) (h1:c b a) (h2:e b a) (f:P3 b a):∃ b a,c b a/\e b a/\P3 b a:=⟨b,a,h1,h2,f⟩
theorem xI.{u1,u2} {d:Sort u1} {A2:Sort u2} {c e P3 f:d->A2->Prop} (b:d) (a:A2) (h1:c b a) (h2:e b a) (g:P3 b a) (h:f b a):∃ b a,c b a/\e b a/\P3 b a/\f b a:=⟨b,a,h1,h2,g,h⟩
theorem Em.{u1,u2} {d:Sort u1} {A2:Sort u2} {c e P3 f g:d->A2->Prop} (b:d) (a:A2) (h1:c b a) (h2:e b a) (j:P3 b a) (k:f b a) (h:g b a):∃ b a,c b a/\e b a/\P3 b a/\f b a/\g b a:=⟨b,a,h1,h2,j,k,h⟩
theorem lD.{u1,u2} {e:Sort u1} {A2:Sort u2} {d f P3 g h c:e->A2->Prop} (b:e) (a:A2) (h1:d b a) (h2:f b a) (k:P3 b a) (l:g b a) (j:h b a) (m:c b a):∃ b a,d b a/\f b a/\P3 b a/\g b a/\h b a/\c b a:=⟨b,a,h1,h2,k,l,j,m⟩
theorem xJ.{u1,u2} {f:Sort u1} {A2:Sort u2} {e g P3 h j c d:f->A2->Prop} (b:f) (a:A2) (h1:e b a) (h2:g b a) (l:P3 b a) (n:h b a) (k:j b a) (o:c b a) (m:d b a):∃ b a,e b a/\g b a/\P3 b a/\h b a/\j b a/\c b a/\d b a:=⟨b,a,h1,h2,l,n,k,o,m⟩
theorem En.{u1,u2} {g:Sort u1} {A2:Sort u2} {e h P3 j k c d f:g->A2->Prop} (b:g) (a:A2) (h1:e b a) (h2:h b a) (m:P3 b a) (p:j b a) (l:k b a) (q:c b a) (n:d b a) (o:f b a):∃ b a,e b a/\h b a/\P3 b a/\j b a/\k b a/\c b a/\d b a/\f b a:=⟨b,a,h1,h2,m,p,l,q,n,o⟩
theorem jt.{u1,u2,u3} {e:Sort u1} {A2:Sort u2} {f:Sort u3} {d g:e->A2->f->Prop} (b:e) (a:A2) (c:f) (h1:d b a c) (h2:g b a c):∃ b a c,d b a c/\g b a c:=⟨b,a,c,h1,h2⟩
theorem gS.{u1,u2,u3} {e:Sort u1} {A2:Sort u2} {f:Sort u3} {d g P3:e->A2->f->Prop} (b:e) (a:A2) (c:f) (h1:d b a c) (h2:g b a c) (h:P3 b a c):∃ b a c,d b a c/\g b a c/\P3 b a c:=⟨b,a,c,h1,h2,h⟩
theorem nk.{u1,u2,u3} {e:Sort u1} {A2:Sort u2} {f:Sort u3} {d g P3 h:e->A2->f->Prop} (b:e) (a:A2) (c:f) (h1:d b a c) (h2:g b a c) (j:P3 b a c) (k:h b a c):∃ b a c,d b a c/\g b a c/\P3 b a c/\h b a c:=⟨b,a,c,h1,h2,j,k⟩
theorem Eo.{u1,u2,u3} {f:Sort u1} {A2:Sort u2} {g:Sort u3} {e h P3 j k d:f->A2->g->Prop} (b:f) (a:A2) (c:g) (h1:e b a c) (h2:h b a c) (m:P3 b a c) (n:j b a c) (l:k b a c) (o:d b a c):∃ b a c,e b a c/\h b a c/\P3 b a c/\j b a c/\k b a c/\d b a c:=⟨b,a,c,h1,h2,m,n,l,o⟩
theorem xK.{u1,u2,u3} {g:Sort u1} {A2:Sort u2} {h:Sort u3} {f j P3 k l d e:g->A2->h->Prop} (c:g) (a:A2) (b:h) (h1:f c a b) (h2:j c a b) (n:P3 c a b) (p:k c a b) (m:l c a b) (q:d c a b) (o:e c a b):∃ c a b,f c a b/\j c a b/\P3 c a b/\k c a b/\l c a b/\d c a b/\e c a b:=⟨c,a,b,h1,h2,n,p,m,q,o⟩
theorem tg.{u1,u2,u3,u4} {l:Sort u1} {A2:Sort u2} {f:Sort u3} {j:Sort u4} {k m P3 n o g h e:l->A2->f->j->Prop} (d:l) (a:A2) (b:f) (c:j) (h1:k d a b c) (h2:m d a b c) (s:P3 d a b c) (t:n d a b c) (q:o d a b c) (v:g d a b c) (u:h d a b c) (p:e d a b c):∃ d a b c,k d a b c/\m d a b c/\P3 d a b c/\n d a b c/\o d a b c/\g d a b c/\h d a b c/\e d a b c:=⟨d,a,b,c,h1,h2,s,t,q,v,u,p⟩
theorem av.{u} {A:Sort u} {P:A->Prop} {C:Prop} (h:∃ a,P a) (k:∀ a,P a->C):C:=h.elim k
theorem az{C:Prop}(h:P/\Q)(k:P->Q->C):C:=k h.1 h.2
theorem UC{C:Prop}(h:false=true):C:=nomatch h
theorem TS{A:Type}{x:A}{C:Prop}(h:none=some x):C:=nomatch h
theorem tl{a b:e5}(h:x<=a)(e:Gy a b=true):x<=b:=e2 h (eW e)
theorem ta{b:e5}(h:x<=a)(e:Gy (a+k) b=true):x+k<=b:=tl (iG h k) e
theorem Up{m k:e5}(h:a=m\/29<=a)(e:(n8 m k||Gy 29 k)=false):a≠k:=λb=>by subst b;have e:=hP.mp e;exact h.elim (λh=>h9 e.1 h.symm) λh=>kA (e.2.symm.trans (Nat.ble_eq.mpr h))
theorem Wa (h:x<=a)(e:Gz a b=true):x<b:=hQ h (eW e)
theorem na{k:e5}(b:0<=a)(h:a<=(k:hA))(e:Gz k n=true):a.natAbs<n:=hQ (kf.mp (Int.natAbs_of_nonneg b▸h)) (eW e)
theorem UD (h:n<=a)(e:Gz k n=true):¬ a=k:=hj (fC (eW e) h)
theorem Xa (e:Gz 0 k=true):a+k≠a:=hj (p4 (eW e))
theorem vK{a:hA}(h:a=10\/a=25):10<=a:=h.elim (λh=>xq h.symm) λh=>g7 J (xq h.symm)
theorem Ep{a:hA}(h:a=10\/a=25):a<=25:=h.elim (λh=>g7 (xq h) J) λh=>xq h
theorem UW a(x y:e5)(e:n8 x y=false):a+x≠a+y:=λb=>h9 e (Fb b)
theorem VA{l:e0 e5}(h:¬ n=a)(k:n∉l):n∉a::l:=λb=>(hr.mp b).elim h k
theorem n1{a:e5}(h:¬ n=a):n∉[a]:=λb=>h (gP.mp b)
theorem Er{b:e5}(h:¬ n=a/\¬ n=b):n∉[a,b]:=VA h.1 (n1 h.2)
theorem pf{f:e5}(h:¬ n=a/\¬ n=b/\¬ n=c/\¬ n=d/\¬ n=e/\¬ n=f):n∉[a,b,c,d,e,f]:=VA h.1 (VA h.2.1 (VA h.2.2.1 (VA h.2.2.2.1 (Er h.2.2.2.2))))
theorem xM{n a b c d e:e5}(k:(n8 n a||(n8 n b||(n8 n c||(n8 n d||n8 n e))))=false)(h:¬ n=f):n∉[a,b,c,d,e,f]:=
 have l:=hP.mp k;have r:=hP.mp l.2;have j:=hP.mp r.2;have g:=hP.mp j.2
 pf ⟨h9 l.1,h9 r.1,h9 j.1,h9 g.1,h9 g.2,h⟩
theorem Ht{n a b c d:e5}(k:(n8 n a||(n8 n b||(n8 n c||n8 n d)))=false)(h:¬ n=x/\¬ n=y):n∉[a,x,y,b,c,d]:=
 have f:=hP.mp k;have r:=hP.mp f.2;have e:=hP.mp r.2
 pf ⟨h9 f.1,h.1,h.2,h9 r.1,h9 e.1,h9 e.2⟩
theorem V5{L:e0 e5}(b:∀ i∈L,i=27\/i=p)(d:28<=p)(e:Gz n 27=true):n∉L:=λc=>vJ (eW e) ((b n c).elim (λa=>iP a.symm) λa=>a▸e2 (eW rfl) d)
theorem nq{a:e5}(h:i∈[a]):i=a:=gP.mp h
theorem qn{b:e5}(h:i∈[a,b]):i=a\/i=b:=(hr.mp h).imp_right nq
theorem AS{c:e5}(h:i∈[a,b,c]):i=a\/i=b\/i=c:=(hr.mp h).imp_right qn
theorem xN{α a b:Type}{f:α->b}{g:a->b}{l:e0 α}{m:e0 a}(h:l.map f=m.map g):l.length=m.length:=by rw[<-g0 f,h,g0]
theorem RV{α:Type}{l:e0 α}{x y:α}:(l++[x]).set l.length y=l++[y]:=by rw[r5 _ _ (e6 _),xr];rfl
theorem Sr{α:Type}{l m:e0 α}:l.length<=(l++m).length:=(e1 ..).length_le
theorem Hu{α:Type}{a b:α}(h:¬ a=b):a∉[b]:=λc=>h (gP.mp c)
theorem dY{α a:Type} [BEq α] [Aa α] {l:e0 (α×a)}{x:α}{v:a}:((x,v)::l).lookup x=some v:=by rw[hL,ij]
theorem cZ{α a:Type} [BEq α] [Aa α] {l:e0 (α×a)}{x y:α}{v:a}(h:x≠y):((y,v)::l).lookup x=l.lookup x:=by rw[hL,kB h]
theorem o0 (h:¬ (a<b))(h1:a<(b+1)):a=b:=Dg (lx h1) (mq h)
theorem o1 (h:(a+(b+1))<=600):((a+1)+b)<=600:=jX a b▸h
theorem o2 (h:(a+(10*(b+1)))<=6000):((a+3)+(10*b))<=6000:=e2 (by rw[Ml];exact hH (xt 3 _▸hH (eW rfl) _) a) h
theorem o3 (h:(a+(b+1))<=600):(a+1)<=600:=e2 (hH (hm (hq b)) a) h
theorem VX (h:(a+(10*(b+1)))<=6000):(a+3)<=6000:=e2 (hH (e2 (eW rfl) (pV 10 (hm (hq b)))) a) h
theorem WJ:2<(6+a):=fC (eW rfl) (hM 6 a)
theorem Wr:(0+a)<=a:=iP (ki a)
theorem WK (h:a<=1000):a<=(16777216+1):=tl h rfl
theorem Xb (h:a<=(b+1)):(a+1)<=((b+1)+1):=hm h
theorem MF{d:e5}(h:a=(b+c)):((a -d) -b)=(c -d):=h▸(Nat.sub_right_comm ..).trans (hC (· -d) (qh ..))
theorem MG{e:e5}(h:(a+b)=c):((d+a)+(b+e))=((d+e)+c):=by rw[<-h,xt b e];exact Nat.add_add_add_comm ..
theorem MH{e:e5}(h:a=b)(h1:c=b)(h2:d<c)(f:e=a):d<e:=f▸h▸h1▸h2
theorem Et{d:e5}(h:a=b)(h1:c=b)(h2:d<a):d<c:=h1▸h▸h2
theorem MI{d:e5}(h:a=b)(h1:c=b)(h2:d<c):d<a:=h▸h1▸h2
theorem MJ:(a -(((b+1):e5):hA))=((a -((b:e5):hA)) -(1:hA)):=by exact(Int.sub_sub a b 1).symm
theorem MK (h:(a+(b+1))<=c):((a+1)+b)<=c:=jX a b▸h
theorem ML:(a+(b+1))=((a+1)+b):=(jX a b).symm
theorem Eu (h:(a+(b+1))<=16777216):((a+1)+b)<=16777216:=jX a b▸h
theorem MM:(a+3)≠(a+1):=Xa (a:=a+1) (k:=2) rfl
theorem MN (h:a<64):(0+a)<=16777216:=tl (e2 (iP (ki a)) (gB h)) rfl
theorem AT (h:a<2):(a=0)\/(a=1):=(tD.mp h).imp_left λh=>Nat.lt_one_iff.mp h
theorem Hv (h:a<3):(a=0)\/((a=1)\/(a=2)):=(tD.mp h).elim (λh=>(AT h).imp_right .inl) λh=>.inr (.inr h)
theorem Ew (h:a<4):(a=0)\/((a=1)\/((a=2)\/(a=3))):=(tD.mp h).elim (λh=>(Hv h).imp_right λh=>h.imp_right .inl) λh=>.inr (.inr (.inr h))
theorem MO:((((a+1)+b):e5):hA)=(((a+(b+1)):e5):hA):=hC sY (jX a b)
theorem qo:¬ (((a:e5):hA)<((a:e5):hA)):=Fs _
theorem MP (h:a<b):¬ (((b:e5):hA)=((a:e5):hA)):=λc=>hj h (ny c)
theorem Hw:(a -32)=((((a:e5):hA) -(32:hA)):hA).toNat:=(Int.toNat_sub a 32).symm
theorem Hx (h:(97<=a)/\(a<=122)):(0:hA)<=(((a:e5):hA) -(32:hA)):=sE (kf.mpr (e2 (eW rfl) h.1))
theorem Hy (h:(97<=a)/\(a<=122)):(((a:e5):hA) -(32:hA))<=(1114111:hA):=g7 (JI _ J) (kf.mpr (tl h.2 rfl))
theorem rA (h:(1:hA)<=a):(0:hA)<=a:=g7 J h
theorem vL (h:a<=(1000:hA)):a<=(1100:hA):=g7 h J
theorem vM (h:a<64):a<=16777216:=tl (gB h) rfl
theorem AU (h:(a+(b+1))=c):a<c:=h▸p4 (xu b)
theorem xO (h:(a+(b+1))=c):((a+1)+b)=c:=(jX a b).trans h
theorem Ex (h:a<=1000000)(h1:(b+(c+1))=a)(h2:d=b):d<=16777216:=tl (e2 (h2▸h1▸hM ..) h) rfl
theorem MQ (h:a<=1000000)(h1:(b+(c+1))=a)(h2:d<=b):d<=16777216:=tl (e2 (e2 h2 (h1▸hM ..)) h) rfl
theorem cv (h:a<=b):a<=(b+1):=e2 h (jr _)
theorem MR (h:(0:hA)<=a)(h1:(48<=b)/\(b<=57)):(0:hA)<=((((10:hA)*a)+((b:e5):hA)) -(48:hA)):=sE (g7 (kf.mpr h1.1) (Int.le_add_of_nonneg_left (DZ J h)))
theorem Hz (h:a<b)(h1:(48<=c)/\(c<=57)):((((10:hA)*a)+((c:e5):hA)) -(48:hA))<(b*(10:hA)):=by lia
theorem HA (h:a≠0):¬ (((a:e5):hA)=(0:hA)):=λb=>h (ny b)
theorem HB (h:a<=(b+c))(h1:b<=(d+1)):a<=(d+(c+1)):=e2 h (jX d c▸iG h1 c)
theorem HC (h:a=b)(h1:b<=1000):a<=16777216:=tl (h▸h1) rfl
theorem rB{c:e5}(h:a=b)(h1:c<b):c<a:=h▸h1
theorem HD{c:e5}(h:a=b)(h1:c<a):c<b:=h▸h1
theorem HE (h:(a+3)<b):a<b:=hQ (hM a 3) h
theorem HF (h:(a+5)<b):a<b:=hQ (hM a 5) h
theorem HG (h:a=b)(h1:b<64):a<=16777216:=tl (gB (h▸h1)) rfl
theorem HH{c:e5}(h:a=b)(h1:c<b):c<=a:=gB (h▸h1)
theorem HI (h:a=b)(h1:0<b):(b -1)<a:=fC (Nat.pred_lt (hj h1)) (iP h.symm)
theorem HJ (h:0<a):(((a:e5):hA) -(1:hA))=(((a -1):e5):hA):=(Int.ofNat_sub (n:=a) (m:=1) h).symm
theorem HK (h:a<64):(a -1)<4294967296:=tl (e2 (hm (PT a)) h) rfl
theorem HL (h:a<64):(((a -1):e5):hA)<=(63:hA):=kf.mpr (e2 (PT a) (lx h))
theorem uJ (h:a<=100):(1+a)<=16777216:=xt 1 a▸ta h rfl
theorem CI (h:a<=100):(4+a)<=16777216:=xt 4 a▸ta h rfl
theorem CJ (h:a<=100)(h1:b<=100):(((a+6)+1)+((((b+1)+1)+1)+1))<=16777216:=tl (kl (iG h 7) (iG h1 4)) rfl
theorem HM (h:28<=a):(a≠27)/\(a≠26):=⟨hj h,UD h rfl⟩
theorem xP (h:a<=b)(h1:28<=a):(¬ (b=18))/\(¬ (b=13)):=⟨UD (e2 h1 h) rfl,UD (e2 h1 h) rfl⟩
theorem HN (h:a≠18)(h1:a≠13)(h2:a≠20)(c:a≠27)(b:(a=18)\/((a=13)\/((a=20)\/(a=27)))):False:=b.elim h λb=>b.elim h1 λb=>b.elim h2 c
theorem HO (h:(a=5)\/(29<=a)):(2≠a)/\(3≠a):=⟨(Up h rfl).symm,(Up h rfl).symm⟩
theorem uK (h:(a=7)\/(29<=a)):(2≠a)/\(3≠a):=⟨(Up h rfl).symm,(Up h rfl).symm⟩
theorem HP (h:(a=7)\/(29<=a)):3<a:=h.elim (λh=>h▸eW rfl) λh=>e2 (eW rfl) h
theorem HQ (h:a<=3)(h1:b<=((60:hA)+((25:hA)*((a:e5):hA)))):b<=(135:hA):=g7 h1 (Int.add_le_add_left (Int.mul_le_mul_of_nonneg_left (kf.mpr h) J) 60)
theorem HR (h:a<3):((3 -(a+1))+1)<=(3 -a):=GI (Nat.sub_lt_sub_left h (qi a))
theorem HS (h:((a:e5):hA)=((1100:hA) -b))(h1:(b+c)<=(1100:hA))(h2:(10:hA)<=c):(((1100:hA) -(b+c)):hA).toNat<a:=by lia
theorem HT (h:(a+b)<=1200)(h1:c<b):((a+1)+c)<=1200:=e2 (jX a c▸hH h1 a) h
theorem HU (h:(a+1)<=b):b=((b -1)+1):=(Ay (fC (xu a) h)).symm
theorem CK (h:a<=b)(h1:29<=a):¬ (b=3):=hj (e2 (eW rfl) (e2 h1 h))
theorem HV (h:28<=a)(h1:b<28)(h2:b≠18)(e:b≠13)(g:b≠27)(d:b≠20)(j:b≠9)(c:(b=18)\/((b=13)\/((b=27)\/((b=20)\/((b=9)\/(b=a)))))):False:=c.elim h2 λc=>c.elim e λc=>c.elim g λc=>c.elim d λc=>c.elim j λf=>vJ h1 (f▸h)
theorem CL (h:(a=27)\/(a=13)):(a=18)\/((a=13)\/((a=27)\/((a=20)\/((a=9)\/(a=b))))):=h.elim (λh=>.inr (.inr (.inl h))) λh=>.inr (.inl h)
theorem CM (h:(a=18)\/((a=13)\/(a=9))):(a=18)\/((a=13)\/((a=27)\/((a=20)\/((a=9)\/(a=b))))):=h.imp_right λh=>h.imp_right λh=>.inr (.inr (.inl h))
theorem CN (h:(a=18)\/((a=13)\/(a=9))):(a=18)\/((a=13)\/((a=20)\/(a=9))):=h.imp_right λh=>h.imp_right .inr
theorem HW (h:(a=27)\/(a=b)):(a=18)\/((a=13)\/((a=27)\/((a=20)\/((a=9)\/(a=b))))):=.inr (.inr (h.imp_right λh=>.inr (.inr h)))
theorem CO (h:29<=a)(h1:a≠b):(¬ (a=18))/\((¬ (a=13))/\((¬ (a=27))/\((¬ (a=20))/\((¬ (a=9))/\(¬ (a=b)))))):=⟨UD h rfl,UD h rfl,UD h rfl,UD h rfl,UD h rfl,h1⟩
theorem pK{c:e5}(h:a<b)(h1:b<=c):a≠c:=hc (fC h h1)
theorem HX (h:(a=5)\/(29<=a))(h1:b≠a):(¬ (a=18))/\((¬ (a=13))/\((¬ (a=27))/\((¬ (a=20))/\((¬ (a=9))/\(¬ (a=b)))))):=⟨Up h rfl,Up h rfl,Up h rfl,Up h rfl,Up h rfl,h1.symm⟩
theorem HY (h:(a=7)\/(29<=a))(h1:b≠a):(¬ (a=18))/\((¬ (a=13))/\((¬ (a=27))/\((¬ (a=20))/\((¬ (a=9))/\(¬ (a=b)))))):=⟨Up h rfl,Up h rfl,Up h rfl,Up h rfl,Up h rfl,h1.symm⟩
theorem HZ (h:29<=a)(h1:a≠b)(h2:a≠c):(¬ (a=3))/\((¬ (a=b))/\((¬ (a=c))/\((¬ (a=4))/\((¬ (a=6))/\(¬ (a=8)))))):=⟨UD h rfl,h1,h2,UD h rfl,UD h rfl,UD h rfl⟩
theorem H0 (h:(a=5)\/(29<=a))(h1:(b=7)\/(29<=b))(h2:9<=c)(f:c<29):(¬ (c=3))/\((¬ (c=a))/\((¬ (c=b))/\((¬ (c=4))/\((¬ (c=6))/\(¬ (c=8)))))):=⟨UD h2 rfl,λe=>h.elim (λd=>UD h2 rfl (e.trans d)) λd=>vJ f (e▸d),λe=>h1.elim (λd=>UD h2 rfl (e.trans d)) λd=>vJ f (e▸d),UD h2 rfl,UD h2 rfl,UD h2 rfl⟩
theorem H1 (h:28<=a)(h1:a≠b)(h2:a≠c):(¬ (a=3))/\((¬ (a=b))/\((¬ (a=c))/\((¬ (a=4))/\((¬ (a=6))/\(¬ (a=8)))))):=⟨UD h rfl,h1,h2,UD h rfl,UD h rfl,UD h rfl⟩
theorem pL (h:a<11)(h1:b<=((10*a)+6)):b<=90000:=tl (e2 h1 (iG (pV 10 (gB h)) 6)) rfl
theorem gT (h:a<11)(h1:b<=(100*a)):b<=100000:=tl (e2 h1 (pV 100 (gB h))) rfl
theorem l8 (h:a<=((10*b)+6)):(a+3)<=((10*(b+1))+5):=e2 (iG h 3) (hH (eW rfl:9<=15) (10*b))
theorem j2 (h:a<=(100*b)):a<=(100*(b+1)):=e2 h (hM ..)
theorem CP (h:a<64)(h1:b=a):b<=1000:=tl (h1▸gB h) rfl
theorem rC (h:a<=(100*b)):(a+1)<=(100*(b+1)):=e2 (hm h) (hH (eW rfl:1<=100) (100*b))
theorem xQ (h:a<=((10*b)+6)):(a+4)<=((10*(b+1))+5):=e2 (iG h 4) (hH (eW rfl:10<=15) (10*b))
theorem H2 (h:a<b)(h1:c<64)(h2:b=c):((a:e5):hA)<=(63:hA):=kf.mpr (lx (hO h (h2▸h1)))
theorem H3 (h:((1:hA)<=a)/\(a<=(100:hA)))(h1:(0:hA)<=b)(h2:b<=((63:hA)*(10:hA))):((1:hA)<=(a+b))/\((a+b)<=(1000:hA)):=⟨g7 h.1 (oA h1),g7 (qj h.2 h2) J⟩
theorem CQ (h:a<=((10*b)+6)):(a+2)<=((10*(b+1))+5):=e2 (iG h 2) (hH (eW rfl:8<=15) (10*b))
theorem H4 (h:29<=a)(h1:b≠a):(¬ (a=18))/\((¬ (a=13))/\((¬ (a=27))/\((¬ (a=20))/\((¬ (a=9))/\(¬ (a=b)))))):=⟨UD h rfl,UD h rfl,UD h rfl,UD h rfl,UD h rfl,h1.symm⟩
theorem uL (h:a<11)(h1:b<=a):b<=1000:=tl (gB (hQ h1 h)) rfl
theorem uM (h:a<=((10*b)+6))(h1:c<=(a+3)):c<=((10*(b+1))+5):=e2 h1 (e2 (iG h 3) (hH (eW rfl:9<=15) (10*b)))
theorem CR (h:a<=(100*b))(h1:c<=(a+1)):c<=(100*(b+1)):=e2 h1 (e2 (hm h) (hH (eW rfl:1<=100) (100*b)))
theorem CS (h:a<11)(h1:b<=a)(h2:c=b):c<=1000:=tl (h2▸e2 h1 (gB h)) rfl
theorem H5 (h:29<=a)(h1:a<=b)(h2:c<=d)(g:e<=c)(f:b<e):29<=d:=e2 h (e2 h1 (e2 (gB f) (e2 g h2)))
theorem H6{f:e5}(h:a<b)(h1:b<=c)(h2:d<=e)(j:f<=d)(g:c<f):e≠a:=hj (fC h (e2 h1 (e2 (gB g) (e2 j h2))))
theorem H7 (h:(a+(b+1))<=1000)(h1:c=a):c<=1000:=mI (h1▸h)
theorem H8 (h:(a+(b+1))<=1000)(h1:c<=(a+1)):(c+b)<=1000:=e2 (iG h1 b) (jX a b▸h)
theorem H9 (h:(10:hA)<=a)(h1:((((b:e5):hA)*(10:hA))+(c+a))<=(((1125:hA)+((20:hA)*((d:e5):hA)))+(10:hA))):(((((b:e5):hA)+(1:hA))*(10:hA))+c)<=(((1125:hA)+((20:hA)*(((d:e5):hA)+(1:hA))))+(10:hA)):=by lia
theorem Ia (h:(10:hA)<=a)(h1:((((b:e5):hA)*(10:hA))+(c+a))<=(((1125:hA)+((20:hA)*((d:e5):hA)))+(10:hA))):(((((b:e5):hA)+(1:hA))*(10:hA))+c)<=(((1125:hA)+((20:hA)*((d:e5):hA)))+(10:hA)):=by lia
theorem Ib (h:a<=(1100:hA)):((10:hA)+a)<=(((1125:hA)+((20:hA)*((b:e5):hA)))+(10:hA)):=by lia
theorem Ic (h:((1:hA)<=a)/\(a<=(1000:hA)))(h1:((((b:e5):hA)*(10:hA))+a)<=(((1125:hA)+((20:hA)*((3:e5):hA)))+(10:hA))):b<=1999:=by lia
theorem Ie (h:a<=((10*b)+6))(h1:c<=(a+6)):c<=((10*(b+1))+5):=e2 h1 (e2 (iG h 6) (hH (eW rfl:12<=15) (10*b)))
theorem Ig (h:(a+(10*(b+1)))<=6000)(h1:c=1):((a+c)+(10*b))<=6000:=e2 (e2 (iP (h1▸yz a 1 (10*b))) (hH (eW rfl:1<=10) (a+10*b))) h
theorem Ih:(a+((b+1)+1))=((a+2)+b):=(yz a 2 b).symm
theorem Ii (h:a<8):(a=0)\/((a=1)\/((a=2)\/((a=3)\/((a=4)\/((a=5)\/((a=6)\/(a=7))))))):=by revert a;decide
theorem Ij (h:a<11)(h1:b<=((10*a)+5)):b<=100000:=tl (e2 h1 (iG (pV 10 (gB h)) 5)) rfl
noncomputable abbrev al (s:yA):=Str.ofString s
noncomputable abbrev hZ:NameKind:=.globalImplicit
noncomputable abbrev f6:NameKind:=.local
section
namespace Hd
noncomputable abbrev Ur:Program:=rz.row.toRowW.1
noncomputable def Ey:e0 rf->e5->rf
 |[],_=>.Pass ⟨0,0,0,0⟩
 |a::_,0=>a
 |_::l,n+1=>Ey l n
noncomputable def st (i:e5):Stmt:=Ey Ur.main.body i
noncomputable def cm (i j:e5):Stmt:=match st i with
 | .ClassDef _ _ _ b _ _ _ _ _ _ _=>Ey b j
 |s=>s
noncomputable def fA (s:rf):Arguments:=match s with
 | .FunctionDef _ a _ _ _ _ _ _ _ _=>a
 |_=>⟨[],[],none,[],[],none,[]⟩
noncomputable def VI (s:rf):e0 Stmt:=match s with
 | .FunctionDef _ _ b _ _ _ _ _ _ _=>b
 |_=>[]
noncomputable def Us (s:rf):Scope:=match s with
 | .FunctionDef _ _ _ _ _ _ x _ _ _=>x
 |_=>⟨.function,[],false,false,[]⟩
noncomputable def Xr (s:rf):Pos:=match s with
 | .FunctionDef _ _ _ _ _ _ _ _ _ x=>x
 |_=>⟨0,0,0,0⟩
noncomputable def kh (P:jq)(s:yA):Int:=i3 P (.ofString s)
noncomputable def ks (s:yA)(t:e5):Value:=.str (.ofString s) t
noncomputable def r (a:e5):Value:=.ref a
noncomputable def i (a:hA)(t:e5):Value:=.int a t
noncomputable def WL:Life:=⟨[],[],[],0,[],[],false,#[],[],0,false,false,false,0,[2000,10,10],false,0,true,[],[],0,false⟩
noncomputable def env:Env:={scope:=Ur.main.scope,locals:=mainNs,globals:=mainNs,cells:=[],code:=.ref 13,frame:=some 14}
noncomputable def xR:e0 Gx->e0 Gx
 |[]=>[]
 |[a]=>[a]
 |a::_::l=>a::xR l
noncomputable def tree:e5->e0 Gx->BT
 |0,_=>.nil
 |_+1,[]=>.nil
 |n+1,a::l=>.node a (tree n (xR l)) (tree n (xR l.tail))
noncomputable def sT (l:jq->e0 Gx)(n k:e5)(w:jo)(os:kv):SharedT:=⟨tree 12 (l w.params),n,WL,⟨[]⟩,⟨0,0,0,0⟩,k,os⟩
noncomputable abbrev cd:Code:=.body (AI Ur) env
noncomputable abbrev q0:Pos:=⟨0,0,0,0⟩
noncomputable def tp (a:uf fB):Obj:=⟨.type "tuple",none,.seq a 0,#[]⟩
noncomputable def TJ:Obj:=tp #[]
noncomputable def TY:Obj:=⟨.none,none,.fields #[],#[]⟩
noncomputable def Ws (n q:yA)(s:rf):Obj:=⟨.none,none,.func ⟨.ofString n,.ofString q,fA s,.stmts (VI s),Us s,0,[],.none,.none,.none,.none,none,.none,.none,0⟩,#[]⟩
noncomputable def fo (n q:yA)(s:rf)(m:fB)(c:e5):Obj:=⟨.type "function",none,.func ⟨.ofString n,.ofString q,fA s,.stmts (VI s),Us s,3,[],.none,.none,.none,m,none,r c,.none,0⟩,#[]⟩
noncomputable def co (n q:yA)(t a b k:e5)(x y u v z d:fB)(e:e5):Obj:=⟨.type "code",none,.fields #[ks n t,ks q (t+1),ks "/claim/cut.py" (t+2),i a 0,i b 0,i 0 0,i 0 0,i k 0,x,.bool .true,i 181 0,y,u,v,z,d,i e 0,i a 0,ks "/claim/cut.py" (e+1)],#[]⟩
noncomputable def de (P:jq)(n:yA)(t:e5)(v:fB):DictEntry:=⟨kh P n,ks n t,v⟩
noncomputable def sts{α:Type}:e0 α->e0 (e5×α)->e0 α
 |l,[]=>l
 |l,(i,a)::x=>sts (l.set i a) x
noncomputable def Xu (P:jq):e0 DictEntry:=[de P "__name__" 165 (ks "law_pq0186_01" 1113),de P "__doc__" 166 .none,de P "__package__" 167 .none,de P "__loader__" 168 (.builtin "__main__.__loader__#opaque"),de P "__spec__" 169 .none,de P "__annotations__" 170 (r 6),de P "__builtins__" 171 (r 4),de P "__file__" 173 (ks "/claim/cut.py" 172),de P "__cached__" 174 .none,de P "BasicError" 222 (r 34),de P "MOST_FIGURES_chain" 226 (i 5 225),de P "MOST_LINE_chain" 228 (i 65529 227),de P "WRONG_ROW" 230 (ks "SN" 229),de P "numbered_row" 240 (r 44),de P "saved_text" 246 (r 49),de P "loaded_program" 257 (r 56),de P "merged_program" 267 (r 63),de P "save_program" 276 (r 70),de P "MOST_NAME" 280 (i 30 279),de P "check_name" 286 (r 75),de P "close_file" 295 (r 82),de P "close_all" 303 (r 89),de P "kill_file" 309 (r 94),de P "rename_file" 315 (r 99),de P "MOST_LINE_lines" 319 (i 65529 318),de P "FIGURES_lines" 321 (ks "0123456789" 320),de P "LEADING" 329 (r 100),de P "figures_end" 337 (r 290),de P "figures_end_lines" 338 (r 107),de P "blanks_end" 346 (r 114),de P "number_told" 355 (r 121),de P "line_number" 362 (r 128),de P "parted_row" 372 (r 135),de P "numbers_within" 378 (r 140),de P "delete_lines" 389 (r 147),de P "listed_rows" 395 (r 152),de P "is_word_sign" 402 (r 159),de P "word_end" 410 (r 166),de P "quote_end" 419 (r 173),de P "data_end" 427 (r 339),de P "data_end_lines" 428 (r 180),de P "told_spots" 440 (r 187),de P "gather_spots" 452 (r 194),de P "lines_told" 458 (r 199),de P "with_numbers" 471 (r 206),de P "new_numbers" 486 (r 213),de P "lost_lines" 496 (r 220),de P "renumbered" 510 (r 227),de P "auto_begin" 518 (r 234),de P "auto_next" 526 (r 241),de P "auto_row" 535 (r 248),de P "MOST_SIGNS" 539 (i 255 538),de P "MOST_FIGURES_tokens" 541 (i 40 540),de P "SIGNS" 543 (ks "+-*/\\^(),;:#&@" 542),de P "ORDERS" 545 (ks "<=>" 544),de P "PAIRS" 564 (r 249),de P "WORDS" 566 (ks "LET PRINT USING INPUT LINE IF THEN ELSE GOTO GOSUB ON RETURN FOR TO STEP NEXT WHILE WEND DEF FNEND READ DATA RESTORE DIM ERASE OPTION BASE SWAP ERROR RESUME STOP END REM RANDOMIZE DEFINT DEFSNG DEFSTR MAT ZER CON IDN INV TRN OPEN OUTPUT APPEND RANDOM AS CLOSE FIELD LSET RSET GET PUT WRITE CHAIN COMMON TRON TROFF AND OR XOR EQV IMP NOT MOD" 565),de P "FUNCTION_WORDS" 568 (ks "ABS ASC CHR$ CINT CSNG CVI CVS EDIT$ EOF ERL ERR FIX FRE HEX$ INSTR INT LCASE$ LEFT$ LEN LOC LOF LPOS LTRIM$ MAX MID$ MIN MKI$ MKS$ OCT$ PI POS RIGHT$ RND RTRIM$ SEG$ SGN SPACE$ SPC SQR STR$ STRING$ SWAP% TAB UCASE$ VAL XLATE$" 567),de P "WORD_LIKE" 572 (r 250),de P "functions" 578 (r 257),de P "is_word" 585 (r 264),de P "is_letter" 592 (r 271),de P "is_figure" 599 (r 278),de P "capital" 605 (r 283),de P "figures_end_tokens" 614 (r 290),de P "skipped" 622 (r 297),de P "power_end" 632 (r 304),de P "number_at" 644 (r 311),de P "name_end" 652 (r 318),de P "text_at" 661 (r 325),de P "order_at" 671 (r 332),de P "data_end_tokens" 681 (r 339),de P "remark_of" 688 (r 346),de P "word_at" 699 (r 353),de P "tokens_at" 710 (r 360),de P "tokens_of" 720 (r 367),de P "token_text" 729 (r 374),de P "needs_blank" 737 (r 381),de P "row_of" 748 (r 388),de P "canonical" 756 (r 395),de P "World" 823 (r 413),de P "clear" 830 (r 424),de P "put_row" 838 (r 431),de P "FIGURES_session" 842 (ks "0123456789" 841),de P "STRIDE" 844 (i 10 843),de P "Session" 879 (r 448),de P "word_parted" 885 (r 457),de P "great_sign" 892 (r 464),de P "told_number" 898 (r 469),de P "told_range" 910 (r 476),de P "told_numbers" 923 (r 483),de P "told_name" 930 (r 490),de P "do_run" 940 (r 497),de P "do_new" 948 (r 504),de P "do_list" 959 (r 511),de P "do_delete" 969 (r 518),de P "do_renum" 983 (r 525),de P "do_auto" 993 (r 532),de P "do_save" 1001 (r 539),de P "program_of" 1009 (r 546),de P "do_load" 1017 (r 553),de P "do_merge" 1025 (r 560),de P "do_kill" 1033 (r 567),de P "do_name" 1044 (r 574),de P "commands" 1050 (r 581),de P "tell_outcome" 1060 (r 588),de P "enter_line" 1069 (r 595),de P "do_command" 1082 (r 602),de P "auto_typed" 1094 (r 609),de P "typed" 1105 (r 616),de P "asked_row" 1112 (r 623),de P "_law_next" 1124 (r 630),de P "_law_line" 1131 (r 637),de P "_law_some" 1137 (r 642),de P "_law_put" 1148 (r 649),de P "_law_ranged" 1154 (r 654),de P "_law_filed" 1165 (r 661),de P "_law_renumbered" 1171 (r 666),de P "_law_run" 1181 (r 673),de P "_law_auto" 1197 (r 680),de P "law" 1218 (r 687)]
noncomputable def Vq (P:jq)(n:e5)(c:e0 (e5×yw)):Obj:=⟨.type "dict",none,.dict (sts ((Xu P).take n) c).toArray n,#[]⟩
noncomputable def Xv:e0 Value:=[(i 2 0),(i 0 0),(r 21),(i 12 0),(i 0 0),(r 43),(i 29 0),(i 0 0),(r 48),(i 31 0),(i 0 0),(r 55),(i 44 0),(i 0 0),(r 62),(i 49 0),(i 0 0),(r 69),(i 53 0),(i 0 0),(r 74),(i 57 0),(i 0 0),(r 81),(i 63 0),(i 0 0),(r 88),(i 66 0),(i 0 0),(r 93),(i 72 0),(i 0 0),(r 98),(i 84 0),(i 0 0),(r 106),(i 89 0),(i 0 0),(r 113),(i 93 0),(i 0 0),(r 120),(i 98 0),(i 0 0),(r 127),(i 102 0),(i 0 0),(r 134),(i 109 0),(i 0 0),(r 139),(i 111 0),(i 0 0),(r 146),(i 117 0),(i 0 0),(r 151),(i 119 0),(i 0 0),(r 158),(i 121 0),(i 0 0),(r 165),(i 125 0),(i 0 0),(r 172),(i 128 0),(i 0 0),(r 179),(i 133 0),(i 0 0),(r 186),(i 152 0),(i 0 0),(r 193),(i 164 0),(i 0 0),(r 198),(i 166 0),(i 0 0),(r 205),(i 173 0),(i 0 0),(r 212),(i 186 0),(i 0 0),(r 219),(i 193 0),(i 0 0),(r 226),(i 203 0),(i 0 0),(r 233),(i 205 0),(i 0 0),(r 240),(i 207 0),(i 0 0),(r 247),(i 221 0),(i 0 0),(r 256),(i 223 0),(i 0 0),(r 263),(i 225 0),(i 0 0),(r 270),(i 227 0),(i 0 0),(r 277),(i 229 0),(i 0 0),(r 282),(i 231 0),(i 0 0),(r 289),(i 236 0),(i 0 0),(r 296),(i 240 0),(i 0 0),(r 303),(i 248 0),(i 0 0),(r 310),(i 260 0),(i 0 0),(r 317),(i 264 0),(i 0 0),(r 324),(i 269 0),(i 0 0),(r 331),(i 275 0),(i 0 0),(r 338),(i 283 0),(i 0 0),(r 345),(i 285 0),(i 0 0),(r 352),(i 294 0),(i 0 0),(r 359),(i 314 0),(i 0 0),(r 366),(i 323 0),(i 0 0),(r 373),(i 330 0),(i 0 0),(r 380),(i 336 0),(i 0 0),(r 387),(i 344 0),(i 0 0),(r 394),(i 350 0),(i 0 0),(r 401),(i 381 0),(i 0 0),(r 423),(i 385 0),(i 0 0),(r 430),(i 391 0),(i 0 0),(r 437),(i 399 0),(i 0 0),(r 456),(i 405 0),(i 0 0),(r 463),(i 407 0),(i 0 0),(r 468),(i 414 0),(i 0 0),(r 475),(i 421 0),(i 0 0),(r 482),(i 430 0),(i 0 0),(r 489),(i 436 0),(i 0 0),(r 496),(i 444 0),(i 0 0),(r 503),(i 448 0),(i 0 0),(r 510),(i 452 0),(i 0 0),(r 517),(i 457 0),(i 0 0),(r 524),(i 463 0),(i 0 0),(r 531),(i 468 0),(i 0 0),(r 538),(i 470 0),(i 0 0),(r 545),(i 474 0),(i 0 0),(r 552),(i 478 0),(i 0 0),(r 559),(i 480 0),(i 0 0),(r 566),(i 482 0),(i 0 0),(r 573),(i 487 0),(i 0 0),(r 580),(i 489 0),(i 0 0),(r 587),(i 493 0),(i 0 0),(r 594),(i 500 0),(i 0 0),(r 601),(i 509 0),(i 0 0),(r 608),(i 514 0),(i 0 0),(r 615),(i 526 0),(i 0 0),(r 622),(i 531 0),(i 0 0),(r 629),(i 537 0),(i 0 0),(r 636),(i 539 0),(i 0 0),(r 641),(i 544 0),(i 0 0),(r 648),(i 554 0),(i 0 0),(r 653),(i 564 0),(i 0 0),(r 660),(i 576 0),(i 0 0),(r 665),(i 584 0),(i 0 0),(r 672),(i 599 0),(i 0 0),(r 679),(i 619 0),(i 0 0),(r 686)]
noncomputable def Vr (n:e5):Obj:=⟨.none,none,.fields (Xv.take n).toArray,#[]⟩
noncomputable def Ew (P:jq):Obj:=Vq P 16 [(0,de P "__name__" 165 (ks "basicplus.chain" 223))]
noncomputable def MT (P:jq):Obj:=Vr 12
noncomputable def Ex (P:jq):Obj:=Vq P 32 [(0,de P "__name__" 165 (ks "basicplus.lines" 316)),(27,de P "figures_end" 337 (r 107))]
noncomputable def MU (P:jq):Obj:=Vr 45
noncomputable def Ik (P:jq):Obj:=Vq P 45 [(0,de P "__name__" 165 (ks "basicplus.lines" 316)),(27,de P "figures_end" 337 (r 107)),(39,de P "data_end" 427 (r 180))]
noncomputable def Il (P:jq):Obj:=Vr 81
noncomputable def Im (P:jq):Obj:=Vq P 60 [(0,de P "__name__" 165 (ks "basicplus.tokens" 536)),(27,de P "figures_end" 337 (r 107)),(39,de P "data_end" 427 (r 180))]
noncomputable def Io (P:jq):Obj:=Vr 102
noncomputable def Ip (P:jq):Obj:=Vq P 72 [(0,de P "__name__" 165 (ks "basicplus.tokens" 536))]
noncomputable def Iq (P:jq):Obj:=Vr 138
noncomputable def Ir (P:jq):Obj:=Vq P 80 [(0,de P "__name__" 165 (ks "basicplus.world" 757))]
noncomputable def Iu (P:jq):Obj:=Vr 162
noncomputable def Iv (P:jq):Obj:=Vq P 85 [(0,de P "__name__" 165 (ks "basicplus.session" 839))]
noncomputable def Iw (P:jq):Obj:=Vr 171
noncomputable def Ix (P:jq):Obj:=Vq P 91 [(0,de P "__name__" 165 (ks "basicplus.session" 839))]
noncomputable def Iy (P:jq):Obj:=Vr 189
noncomputable def Iz (P:jq):Obj:=Vq P 103 [(0,de P "__name__" 165 (ks "basicplus.session" 839))]
noncomputable def IA (P:jq):Obj:=Vr 225
noncomputable def IB (P:jq):Obj:=Vq P 115 []
noncomputable def IC (P:jq):Obj:=Vr 261
noncomputable abbrev xU:Value:=ks "basicplus.chain" 223
noncomputable abbrev xV:Value:=ks "basicplus.files" 277
noncomputable abbrev ib:Value:=ks "basicplus.lines" 316
noncomputable abbrev iJ:Value:=ks "basicplus.tokens" 536
noncomputable abbrev ID:Value:=ks "basicplus.world" 757
noncomputable abbrev gJ:Value:=ks "basicplus.session" 839
noncomputable abbrev pg:Value:=ks "law_pq0186_01" 1113
noncomputable def ro (s o:e5):Value:=bif n8 o 0 then .none else r (s+o)
noncomputable def f3 (n:yA)(k t a b c s u v z d e:e5)(m:fB)(j:e5):e0 Obj:=[Ws n n (st k),co n n t a b c (r s) (r (s+1)) (ro s u) (ro s v) (ro s z) (ro s d) e,fo n n (st k) m j]
noncomputable def lm (P:jq):e0 Obj:=[boot_o_0 P,boot_o_1 P,⟨.none,none,(.dict #[⟨kh P "type.__subclasses__.Exception.0",ks "type.__subclasses__.Exception.0" 219,(i 34 0)⟩,⟨kh P "type.__subclasses__.Exception.n",ks "type.__subclasses__.Exception.n" 220,(i 1 0)⟩] 2),#[]⟩,Vq P 121 [],boot_o_4 P,boot_o_5 P,boot_o_6 P,boot_o_7 P,boot_o_8 P,boot_o_9 P,boot_o_10 P,TJ,Vr 279,⟨(.type "code"),none,(.fields #[(ks "<module>" 182),(ks "<module>" 183),(ks "/claim/cut.py" 184),(i 1 0),(i 0 0),(i 0 0),(i 0 0),(i 0 0),(r 11),(.bool .false),(i 181 0),(r 12),.none,.none,.none,.none,(i 185 0),(i 1 0),(ks "/claim/cut.py" 186)]),#[]⟩,⟨(.type "frame"),none,.plain,#[(some (r 13)),(some (r 3)),(some (r 3)),none,(some (ks "__main__" 164)),none,(some (r 0))]⟩,tp #[(.type "Exception")],⟨(.type "builtin_function_or_method"),none,(.fields #[(.builtin "type.__prepare__"),(.type "type")]),#[]⟩,⟨(.type "dict"),none,(.dict #[⟨kh P "__module__",ks "__module__" 196,(ks "basicplus.values" 187)⟩,⟨kh P "__qualname__",ks "__qualname__" 198,(ks "BasicError" 197)⟩,⟨kh P "__firstlineno__",ks "__firstlineno__" 200,(i 2 199)⟩,⟨kh P "__init__",ks "__init__" 211,(r 31)⟩,⟨kh P "__static_attributes__",ks "__static_attributes__" 214,(r 32)⟩,⟨kh P "__classcell__",ks "__classcell__" 215,(r 18)⟩] 6),#[]⟩,⟨(.type "cell"),none,(.cell (some (r 34))),#[]⟩,TJ,⟨.none,none,(.fields #[(i 4 0),(i 4 0),(r 30)]),#[]⟩,⟨(.type "code"),none,(.fields #[(ks "BasicError" 191),(ks "BasicError" 192),(ks "/claim/cut.py" 193),(i 2 0),(i 0 0),(i 0 0),(i 0 0),(i 0 0),(r 19),(.bool .false),(i 181 0),(r 20),.none,.none,.none,.none,(i 194 0),(i 2 0),(ks "/claim/cut.py" 195)]),#[]⟩,⟨(.type "frame"),none,.plain,#[(some (r 21)),(some (r 3)),(some (r 17)),none,(some (ks "basicplus.values" 187)),none,(some (r 0))]⟩,tp #[(ks "" 201)],tp #[(r 18)],tp #[(ks "__class__" 205)],TY,tp #[(ks "self" 206),(ks "code" 207),(ks "told" 208)],TJ,Ws "__init__" "BasicError.__init__" (cm 1 0),co "__init__" "BasicError.__init__" 202 4 3 3 (r 25) (r 26) .none (r 27) (r 28) (r 29) 209,⟨(.type "function"),none,(.func ⟨(.ofString "__init__"),(.ofString "BasicError.__init__"),(fA (cm 1 0)),(.stmts (VI (cm 1 0))),(Us (cm 1 0)),3,[((.ofString "__class__"),18)],(r 23),.none,.none,(ks "basicplus.values" 187),none,(r 30),(r 24),0⟩),#[]⟩,tp #[(ks "code" 212),(ks "told" 213)],⟨(.type "dict"),none,(.dict #[⟨kh P "__module__",ks "__module__" 196,(ks "basicplus.values" 187)⟩,⟨kh P "__firstlineno__",ks "__firstlineno__" 200,(i 2 199)⟩,⟨kh P "__init__",ks "__init__" 211,(r 31)⟩,⟨kh P "__static_attributes__",ks "__static_attributes__" 214,(r 32)⟩,⟨kh P "__weakref__",ks "__weakref__" 217,(r 35)⟩,⟨kh P "__doc__",ks "__doc__" 218,.none⟩] 4),#[]⟩,⟨(.type "type"),none,(.cls ⟨(.ofString "BasicError"),[(.type "Exception")],[(r 34),(.type "Exception"),(.type "BaseException"),(.type "object")],33,(.ofString "BasicError"),.true,[],[],.false,none,.false⟩),#[(some (r 15)),none,(some (ks "BasicError" 189)),(some (ks "BasicError" 197)),(some (.builtin "Exception.__new__")),(some (.bool .true))]⟩,⟨(.type "getset_descriptor"),none,(.fields #[(ks "__weakref__" 216),(r 34),(.builtin "ExceptionGroup.__weakref__"),.none]),#[]⟩,⟨(.type "super"),none,(.fields #[(r 34),(r 34),(r 34)]),#[]⟩,⟨(.type "builtin_function_or_method"),none,(.fields #[(.builtin "object.__init_subclass__"),(r 34)]),#[]⟩,TJ,TY,tp #[(ks "row" 234),(ks "at" 235),(ks "begin" 236),(ks "number" 237)],TJ]++(f3 "numbered_row" 6 231 12 1 3 38 0 2 3 4 238 xU 43++([TJ,TY]++(f3 "saved_text" 7 241 29 1 3 45 0 0 0 2 244 xU 48++([TJ,TY,tp #[(ks "text" 250),(ks "found" 251),(ks "row" 252),(ks "line" 253),(ks "rest" 254)],TJ]++(f3 "loaded_program" 8 247 31 1 3 50 0 2 3 4 255 xU 55++([TJ,TY,tp #[(ks "program" 261),(ks "other" 262),(ks "found" 263),(ks "line" 264)],TJ]++(f3 "merged_program" 9 258 44 2 3 57 0 2 3 4 265 xU 62++([TJ,TY,tp #[(ks "world" 271),(ks "name" 272),(ks "program" 273)],TJ]++(f3 "save_program" 10 268 49 3 3 64 0 2 3 4 274 xU 69++([TJ,TY]++(f3 "check_name" 13 281 53 1 3 71 0 0 0 2 284 xV 74++([TJ,TY,tp #[(ks "world" 290),(ks "channel" 291),(ks "name" 292)],TJ]++(f3 "close_file" 14 287 57 2 3 76 0 2 3 4 293 xV 81++([TJ,TY,tp #[(ks "world" 299),(ks "channel" 300)],TJ]++(f3 "close_all" 15 296 63 1 3 83 0 2 3 4 301 xV 88++([TJ,TY]++(f3 "kill_file" 16 304 66 2 3 90 0 0 0 2 307 xV 93++([TJ,TY]++(f3 "rename_file" 17 310 72 3 3 95 0 0 0 2 313 xV 98++([tp #[(ks "GOTO" 322),(ks "GOSUB" 323),(ks "THEN" 324),(ks "ELSE" 325),(ks "RESTORE" 326),(ks "RESUME" 327),(ks "RETURN" 328)],TJ,TY,tp #[(ks "text" 333),(ks "at" 334)],TJ]++(f3 "figures_end" 22 330 84 2 3 101 0 2 3 4 335 ib 106++([TJ,TY,tp #[(ks "text" 342),(ks "at" 343)],TJ]++(f3 "blanks_end" 24 339 89 2 3 108 0 2 3 4 344 ib 113++([TJ,TY,tp #[(ks "figures" 350),(ks "found" 351),(ks "figure" 352)],TJ]++(f3 "number_told" 25 347 93 1 3 115 0 2 3 4 353 ib 120++([TJ,TY,tp #[(ks "number" 359)],TJ]++(f3 "line_number" 26 356 98 1 3 122 0 2 3 4 360 ib 127++([TJ,TY,tp #[(ks "text" 366),(ks "begin" 367),(ks "end" 368),(ks "rest" 369)],TJ]++(f3 "parted_row" 27 363 102 1 3 129 0 2 3 4 370 ib 134++([TJ,TY]++(f3 "numbers_within" 28 373 109 3 3 136 0 0 0 2 376 ib 139++([TJ,TY,tp #[(ks "program" 382),(ks "first" 383),(ks "last" 384),(ks "gone" 385),(ks "number" 386)],TJ]++(f3 "delete_lines" 29 379 111 3 3 141 0 2 3 4 387 ib 146++([TJ,TY]++(f3 "listed_rows" 30 390 117 3 3 148 0 0 0 2 393 ib 151++([TJ,TY,tp #[(ks "sign" 399)],TJ]++(f3 "is_word_sign" 31 396 119 1 3 153 0 2 3 4 400 ib 158++([TJ,TY,tp #[(ks "text" 406),(ks "at" 407)],TJ]++(f3 "word_end" 32 403 121 2 3 160 0 2 3 4 408 ib 165++([TJ,TY,tp #[(ks "text" 414),(ks "at" 415),(ks "end" 416)],TJ]++(f3 "quote_end" 33 411 125 2 3 167 0 2 3 4 417 ib 172++([TJ,TY,tp #[(ks "text" 423),(ks "at" 424)],TJ]++(f3 "data_end" 34 420 128 2 3 174 0 2 3 4 425 ib 179++([TJ,TY,tp #[(ks "text" 432),(ks "found" 433),(ks "at" 434),(ks "sign" 435),(ks "end" 436),(ks "word" 437)],TJ]++(f3 "told_spots" 36 429 133 1 3 181 0 2 3 4 438 ib 186++([TJ,TY,tp #[(ks "text" 444),(ks "at" 445),(ks "found" 446),(ks "begin" 447),(ks "end" 448),(ks "comma" 449)],TJ]++(f3 "gather_spots" 37 441 152 3 3 188 0 2 3 4 450 ib 193++([TJ,TY]++(f3 "lines_told" 38 453 164 1 3 195 0 0 0 2 456 ib 198++([TJ,TY,tp #[(ks "text" 462),(ks "turned" 463),(ks "found" 464),(ks "at" 465),(ks "begin" 466),(ks "end" 467),(ks "number" 468)],TJ]++(f3 "with_numbers" 39 459 166 2 3 200 0 2 3 4 469 ib 205++([TJ,TY,tp #[(ks "program" 475),(ks "new" 476),(ks "old" 477),(ks "stride" 478),(ks "moved" 479),(ks "ahead" 480),(ks "turned" 481),(ks "at" 482),(ks "number" 483)],TJ]++(f3 "new_numbers" 40 472 173 4 3 207 0 2 3 4 484 ib 212++([TJ,TY,tp #[(ks "program" 490),(ks "found" 491),(ks "line" 492),(ks "number" 493)],TJ]++(f3 "lost_lines" 41 487 186 1 3 214 0 2 3 4 494 ib 219++([TJ,TY,tp #[(ks "program" 500),(ks "new" 501),(ks "old" 502),(ks "stride" 503),(ks "turned" 504),(ks "without_nought" 505),(ks "number" 506),(ks "found" 507)],TJ]++(f3 "renumbered" 42 497 193 4 3 221 0 2 3 4 508 ib 226++([TJ,TY,tp #[(ks "program" 514),(ks "number" 515)],TJ]++(f3 "auto_begin" 43 511 203 2 3 228 0 2 3 4 516 ib 233++([TJ,TY,tp #[(ks "number" 522),(ks "stride" 523)],TJ]++(f3 "auto_next" 44 519 205 2 3 235 0 2 3 4 524 ib 240++([TJ,TY,tp #[(ks "program" 530),(ks "number" 531),(ks "text" 532)],TJ]++(f3 "auto_row" 45 527 207 3 3 242 0 2 3 4 533 ib 247++([⟨(.type "dict"),none,(.dict #[⟨kh P "<=",ks "<=" 546,(ks "<=" 547)⟩,⟨kh P "=<",ks "=<" 548,(ks "<=" 549)⟩,⟨kh P ">=",ks ">=" 550,(ks ">=" 551)⟩,⟨kh P "=>",ks "=>" 552,(ks ">=" 553)⟩,⟨kh P "<>",ks "<>" 554,(ks "<>" 555)⟩,⟨kh P "><",ks "><" 556,(ks "<>" 557)⟩] 6),#[]⟩,tp #[(ks "word" 569),(ks "name" 570),(ks "number" 571)],TJ,TY,TJ,TJ]++(f3 "functions" 55 573 221 0 3 251 0 2 3 4 576 iJ 256++([TJ,TY,tp #[(ks "told" 582)],TJ]++(f3 "is_word" 56 579 223 1 3 258 0 2 3 4 583 iJ 263++([TJ,TY,tp #[(ks "sign" 589)],TJ]++(f3 "is_letter" 57 586 225 1 3 265 0 2 3 4 590 iJ 270++([TJ,TY,tp #[(ks "sign" 596)],TJ,⟨.none,none,(.func ⟨(.ofString "is_figure"),(.ofString "is_figure"),(fA (st 58)),(.stmts (VI (st 58))),(Us (st 57)),0,[],.none,.none,.none,.none,none,.none,.none,0⟩),#[]⟩,co "is_figure" "is_figure" 593 227 1 3 (r 272) (r 273) .none (r 274) (r 275) (r 276) 597,⟨(.type "function"),none,(.func ⟨(.ofString "is_figure"),(.ofString "is_figure"),(fA (st 58)),(.stmts (VI (st 58))),(Us (st 57)),3,[],.none,.none,.none,(ks "basicplus.tokens" 536),none,(r 277),.none,0⟩),#[]⟩,TJ,TY]++(f3 "capital" 59 600 229 1 3 279 0 0 0 2 603 iJ 282++([TJ,TY,tp #[(ks "row" 609),(ks "at" 610)],TJ]++(f3 "figures_end" 60 606 231 2 3 284 0 2 3 4 611 iJ 289++([TJ,TY,tp #[(ks "row" 618),(ks "at" 619)],TJ]++(f3 "skipped" 62 615 236 2 3 291 0 2 3 4 620 iJ 296++([TJ,TY,tp #[(ks "row" 626),(ks "at" 627),(ks "begin" 628),(ks "end" 629)],TJ]++(f3 "power_end" 63 623 240 2 3 298 0 2 3 4 630 iJ 303++([TJ,TY,tp #[(ks "row" 636),(ks "at" 637),(ks "end" 638),(ks "is_plain" 639),(ks "behind" 640),(ks "last" 641)],TJ]++(f3 "number_at" 64 633 248 2 3 305 0 2 3 4 642 iJ 310++([TJ,TY,tp #[(ks "row" 648),(ks "at" 649)],TJ]++(f3 "name_end" 65 645 260 2 3 312 0 2 3 4 650 iJ 317++([TJ,TY,tp #[(ks "row" 656),(ks "at" 657),(ks "end" 658)],TJ]++(f3 "text_at" 66 653 264 2 3 319 0 2 3 4 659 iJ 324++([TJ,TY,tp #[(ks "row" 665),(ks "at" 666),(ks "later" 667),(ks "both" 668)],TJ]++(f3 "order_at" 67 662 269 2 3 326 0 2 3 4 669 iJ 331++([TJ,TY,tp #[(ks "row" 675),(ks "at" 676),(ks "is_quoted" 677)],TJ]++(f3 "data_end" 68 672 275 2 3 333 0 2 3 4 678 iJ 338++([TJ,TY,tp #[(ks "text" 685)],TJ]++(f3 "remark_of" 70 682 283 1 3 340 0 2 3 4 686 iJ 345++([TJ,TY,tp #[(ks "row" 692),(ks "at" 693),(ks "end" 694),(ks "told" 695),(ks "last" 696)],TJ]++(f3 "word_at" 71 689 285 2 3 347 0 2 3 4 697 iJ 352++([TJ,TY,tp #[(ks "row" 703),(ks "at" 704),(ks "sign" 705),(ks "told" 706),(ks "end" 707)],TJ]++(f3 "tokens_at" 72 700 294 2 3 354 0 2 3 4 708 iJ 359++([TJ,TY,tp #[(ks "row" 714),(ks "found" 715),(ks "at" 716),(ks "told" 717)],TJ]++(f3 "tokens_of" 73 711 314 1 3 361 0 2 3 4 718 iJ 366++([TJ,TY,tp #[(ks "token" 724),(ks "kind" 725),(ks "told" 726)],TJ]++(f3 "token_text" 74 721 323 1 3 368 0 2 3 4 727 iJ 373++([TJ,TY,tp #[(ks "one" 733),(ks "other" 734)],TJ]++(f3 "needs_blank" 75 730 330 2 3 375 0 2 3 4 735 iJ 380++([TJ,TY,tp #[(ks "tokens" 741),(ks "found" 742),(ks "at" 743),(ks "token" 744),(ks "told" 745)],TJ]++(f3 "row_of" 76 738 336 1 3 382 0 2 3 4 746 iJ 387++([TJ,TY,tp #[(ks "row" 752),(ks "found" 753)],TJ]++(f3 "canonical" 77 749 344 1 3 389 0 2 3 4 754 iJ 394++([TJ,⟨(.type "builtin_function_or_method"),none,(.fields #[(.builtin "type.__prepare__"),(.type "type")]),#[]⟩,⟨(.type "dict"),none,(.dict #[⟨kh P "__module__",ks "__module__" 766,(ks "basicplus.world" 757)⟩,⟨kh P "__qualname__",ks "__qualname__" 768,(ks "World" 767)⟩,⟨kh P "__firstlineno__",ks "__firstlineno__" 770,(i 350 769)⟩,⟨kh P "__init__",ks "__init__" 787,(r 410)⟩,⟨kh P "__static_attributes__",ks "__static_attributes__" 816,(r 411)⟩] 5),#[]⟩,TJ,⟨.none,none,(.fields #[(i 352 0),(i 4 0),(r 409)]),#[]⟩,⟨(.type "code"),none,(.fields #[(ks "World" 761),(ks "World" 762),(ks "/claim/cut.py" 763),(i 350 0),(i 0 0),(i 0 0),(i 0 0),(i 0 0),(r 399),(.bool .false),(i 181 0),(r 400),.none,.none,.none,.none,(i 764 0),(i 350 0),(ks "/claim/cut.py" 765)]),#[]⟩,⟨(.type "frame"),none,.plain,#[(some (r 401)),(some (r 3)),(some (r 398)),none,(some (ks "basicplus.world" 757)),none,(some (r 0))]⟩,tp #[(i 16 771),(i 9 772),(i 2000 773),(i 20 774),(i 2000 775)],TJ,TY,tp #[(ks "self" 779),(ks "bits" 780),(ks "digits" 781),(ks "most_steps" 782),(ks "most_depth" 783),(ks "room" 784)],TJ,Ws "__init__" "World.__init__" (cm 79 0),co "__init__" "World.__init__" 776 352 6 3 (r 404) (r 405) .none (r 406) (r 407) (r 408) 785,⟨(.type "function"),none,(.func ⟨(.ofString "__init__"),(.ofString "World.__init__"),(fA (cm 79 0)),(.stmts (VI (cm 79 0))),(Us (cm 79 0)),3,[],(r 403),.none,.none,(ks "basicplus.world" 757),none,(r 409),.none,0⟩),#[]⟩,tp #[(ks "arrays" 788),(ks "base" 789),(ks "bits" 790),(ks "common" 791),(ks "data" 792),(ks "depth" 793),(ks "digits" 794),(ks "error_code" 795),(ks "error_line" 796),(ks "fields" 797),(ks "files" 798),(ks "fns" 799),(ks "handler" 800),(ks "inputs" 801),(ks "is_handling" 802),(ks "is_traced" 803),(ks "kinds" 804),(ks "most_depth" 805),(ks "most_steps" 806),(ks "names" 807),(ks "open" 808),(ks "out" 809),(ks "room" 810),(ks "row" 811),(ks "seed" 812),(ks "spot" 813),(ks "steps" 814),(ks "traces" 815)],⟨(.type "dict"),none,(.dict #[⟨kh P "__module__",ks "__module__" 766,(ks "basicplus.world" 757)⟩,⟨kh P "__firstlineno__",ks "__firstlineno__" 770,(i 350 769)⟩,⟨kh P "__init__",ks "__init__" 787,(r 410)⟩,⟨kh P "__static_attributes__",ks "__static_attributes__" 816,(r 411)⟩,⟨kh P "__dict__",ks "__dict__" 818,(r 414)⟩,⟨kh P "__weakref__",ks "__weakref__" 820,(r 415)⟩,⟨kh P "__doc__",ks "__doc__" 821,.none⟩] 4),#[]⟩,⟨(.type "type"),none,(.cls ⟨(.ofString "World"),[(.type "object")],[(r 413),(.type "object")],412,(.ofString "World"),.true,[],[],.false,none,.false⟩),#[none,none,(some (ks "World" 759)),(some (ks "World" 767)),(some (.builtin "object.__new__")),(some (.bool .true))]⟩,⟨(.type "getset_descriptor"),none,(.fields #[(ks "__dict__" 817),(r 413),(.builtin "function.__dict__"),(.builtin "function.__dict__#set")]),#[]⟩,⟨(.type "getset_descriptor"),none,(.fields #[(ks "__weakref__" 819),(r 413),(.builtin "ExceptionGroup.__weakref__"),.none]),#[]⟩,⟨(.type "super"),none,(.fields #[(r 413),(r 413),(r 413)]),#[]⟩,⟨(.type "builtin_function_or_method"),none,(.fields #[(.builtin "object.__init_subclass__"),(r 413)]),#[]⟩,TJ,TY,tp #[(ks "world" 827)],TJ]++(f3 "clear" 80 824 381 1 3 418 0 2 3 4 828 ID 423++([TJ,TY,tp #[(ks "world" 834),(ks "text" 835)],TJ]++(f3 "put_row" 81 831 385 2 3 425 0 2 3 4 836 ID 430++([TJ,⟨(.type "builtin_function_or_method"),none,(.fields #[(.builtin "type.__prepare__"),(.type "type")]),#[]⟩,⟨(.type "dict"),none,(.dict #[⟨kh P "__module__",ks "__module__" 852,(ks "basicplus.session" 839)⟩,⟨kh P "__qualname__",ks "__qualname__" 854,(ks "Session" 853)⟩,⟨kh P "__firstlineno__",ks "__firstlineno__" 856,(i 391 855)⟩,⟨kh P "__init__",ks "__init__" 866,(r 445)⟩,⟨kh P "__static_attributes__",ks "__static_attributes__" 872,(r 446)⟩] 5),#[]⟩,TJ,⟨.none,none,(.fields #[(i 393 0),(i 4 0),(r 444)]),#[]⟩,⟨(.type "code"),none,(.fields #[(ks "Session" 847),(ks "Session" 848),(ks "/claim/cut.py" 849),(i 391 0),(i 0 0),(i 0 0),(i 0 0),(i 0 0),(r 435),(.bool .false),(i 181 0),(r 436),.none,.none,.none,.none,(i 850 0),(i 391 0),(ks "/claim/cut.py" 851)]),#[]⟩,⟨(.type "frame"),none,.plain,#[(some (r 437)),(some (r 3)),(some (r 434)),none,(some (ks "basicplus.session" 839)),none,(some (r 0))]⟩,TJ,TY,tp #[(ks "self" 860),(ks "world" 861),(ks "program_run" 862),(ks "direct_run" 863)],TJ,Ws "__init__" "Session.__init__" (cm 85 0),co "__init__" "Session.__init__" 857 393 4 3 (r 439) (r 440) .none (r 441) (r 442) (r 443) 864,fo "__init__" "Session.__init__" (cm 85 0) (ks "basicplus.session" 839) 444,tp #[(ks "auto" 867),(ks "direct_run" 868),(ks "program" 869),(ks "program_run" 870),(ks "world" 871)],⟨(.type "dict"),none,(.dict #[⟨kh P "__module__",ks "__module__" 852,(ks "basicplus.session" 839)⟩,⟨kh P "__firstlineno__",ks "__firstlineno__" 856,(i 391 855)⟩,⟨kh P "__init__",ks "__init__" 866,(r 445)⟩,⟨kh P "__static_attributes__",ks "__static_attributes__" 872,(r 446)⟩,⟨kh P "__dict__",ks "__dict__" 874,(r 449)⟩,⟨kh P "__weakref__",ks "__weakref__" 876,(r 450)⟩,⟨kh P "__doc__",ks "__doc__" 877,.none⟩] 4),#[]⟩,⟨(.type "type"),none,(.cls ⟨(.ofString "Session"),[(.type "object")],[(r 448),(.type "object")],447,(.ofString "Session"),.true,[],[],.false,none,.false⟩),#[none,none,(some (ks "Session" 845)),(some (ks "Session" 853)),(some (.builtin "object.__new__")),(some (.bool .true))]⟩,⟨(.type "getset_descriptor"),none,(.fields #[(ks "__dict__" 873),(r 448),(.builtin "function.__dict__"),(.builtin "function.__dict__#set")]),#[]⟩,⟨(.type "getset_descriptor"),none,(.fields #[(ks "__weakref__" 875),(r 448),(.builtin "ExceptionGroup.__weakref__"),.none]),#[]⟩,⟨(.type "super"),none,(.fields #[(r 448),(r 448),(r 448)]),#[]⟩,⟨(.type "builtin_function_or_method"),none,(.fields #[(.builtin "object.__init_subclass__"),(r 448)]),#[]⟩,TJ,TY]++(f3 "word_parted" 86 880 399 1 3 453 0 0 0 2 883 gJ 456++([TJ,TY,tp #[(ks "sign" 889)],TJ]++(f3 "great_sign" 87 886 405 1 3 458 0 2 3 4 890 gJ 463++([TJ,TY]++(f3 "told_number" 88 893 407 1 3 465 0 0 0 2 896 gJ 468++([TJ,TY,tp #[(ks "text" 902),(ks "front" 903),(ks "sign" 904),(ks "behind" 905),(ks "first" 906),(ks "last" 907)],TJ]++(f3 "told_range" 89 899 414 1 3 470 0 2 3 4 908 gJ 475++([TJ,TY,tp #[(ks "text" 914),(ks "firsts" 915),(ks "parts" 916),(ks "found" 917),(ks "at" 918),(ks "part" 919),(ks "number" 920)],TJ]++(f3 "told_numbers" 90 911 421 2 3 477 0 2 3 4 921 gJ 482++([TJ,TY,tp #[(ks "text" 927)],TJ]++(f3 "told_name" 91 924 430 1 3 484 0 2 3 4 928 gJ 489++([TJ,TY,tp #[(ks "session" 934),(ks "rest" 935),(ks "line" 936),(ks "work" 937)],TJ]++(f3 "do_run" 92 931 436 2 3 491 0 2 3 4 938 gJ 496++([TJ,TY,tp #[(ks "session" 944),(ks "rest" 945)],TJ]++(f3 "do_new" 93 941 444 2 3 498 0 2 3 4 946 gJ 503++([TJ,TY,tp #[(ks "session" 952),(ks "rest" 953),(ks "first" 954),(ks "last" 955),(ks "row" 956)],TJ]++(f3 "do_list" 94 949 448 2 3 505 0 2 3 4 957 gJ 510++([TJ,TY,tp #[(ks "session" 963),(ks "rest" 964),(ks "first" 965),(ks "last" 966)],TJ]++(f3 "do_delete" 95 960 452 2 3 512 0 2 3 4 967 gJ 517++([TJ,TY,tp #[(ks "session" 973),(ks "rest" 974),(ks "new" 975),(ks "old" 976),(ks "stride" 977),(ks "turned" 978),(ks "line" 979),(ks "number" 980)],TJ]++(f3 "do_renum" 96 970 457 2 3 519 0 2 3 4 981 gJ 524++([TJ,TY,tp #[(ks "session" 987),(ks "rest" 988),(ks "first" 989),(ks "stride" 990)],TJ]++(f3 "do_auto" 97 984 463 2 3 526 0 2 3 4 991 gJ 531++([TJ,TY,tp #[(ks "session" 997),(ks "rest" 998)],TJ]++(f3 "do_save" 98 994 468 2 3 533 0 2 3 4 999 gJ 538++([TJ,TY,tp #[(ks "session" 1005),(ks "name" 1006)],TJ]++(f3 "program_of" 99 1002 470 2 3 540 0 2 3 4 1007 gJ 545++([TJ,TY,tp #[(ks "session" 1013),(ks "rest" 1014)],TJ]++(f3 "do_load" 100 1010 474 2 3 547 0 2 3 4 1015 gJ 552++([TJ,TY,tp #[(ks "session" 1021),(ks "rest" 1022)],TJ]++(f3 "do_merge" 101 1018 478 2 3 554 0 2 3 4 1023 gJ 559++([TJ,TY,tp #[(ks "session" 1029),(ks "rest" 1030)],TJ]++(f3 "do_kill" 102 1026 480 2 3 561 0 2 3 4 1031 gJ 566++([TJ,TY,tp #[(ks "session" 1037),(ks "rest" 1038),(ks "old" 1039),(ks "sign" 1040),(ks "new" 1041)],TJ]++(f3 "do_name" 103 1034 482 2 3 568 0 2 3 4 1042 gJ 573++([TJ,TY,TJ,TJ,⟨.none,none,(.func ⟨(.ofString "commands"),(.ofString "commands"),(fA (st 55)),(.stmts (VI (st 104))),(Us (st 104)),0,[],.none,.none,.none,.none,none,.none,.none,0⟩),#[]⟩,co "commands" "commands" 1045 487 0 3 (r 575) (r 576) .none (r 577) (r 578) (r 579) 1048,⟨(.type "function"),none,(.func ⟨(.ofString "commands"),(.ofString "commands"),(fA (st 55)),(.stmts (VI (st 104))),(Us (st 104)),3,[],.none,.none,.none,(ks "basicplus.session" 839),none,(r 580),.none,0⟩),#[]⟩,TJ,TY,tp #[(ks "session" 1054),(ks "outcome" 1055),(ks "code" 1056),(ks "line" 1057)],TJ]++(f3 "tell_outcome" 105 1051 489 2 3 582 0 2 3 4 1058 gJ 587++([TJ,TY,tp #[(ks "session" 1064),(ks "number" 1065),(ks "rest" 1066)],TJ]++(f3 "enter_line" 106 1061 493 3 3 589 0 2 3 4 1067 gJ 594++([TJ,TY,tp #[(ks "session" 1073),(ks "text" 1074),(ks "word" 1075),(ks "rest" 1076),(ks "known" 1077),(ks "work" 1078),(ks "run_now" 1079)],TJ]++(f3 "do_command" 107 1070 500 2 3 596 0 2 3 4 1080 gJ 601++([TJ,TY,tp #[(ks "session" 1086),(ks "text" 1087),(ks "number" 1088),(ks "stride" 1089),(ks "later" 1090),(ks "goes_on" 1091)],TJ]++(f3 "auto_typed" 108 1083 509 2 3 603 0 2 3 4 1092 gJ 608++([TJ,TY,tp #[(ks "session" 1098),(ks "text" 1099),(ks "number" 1100),(ks "rest" 1101),(ks "fault" 1102)],TJ]++(f3 "typed" 109 1095 514 2 3 610 0 2 3 4 1103 gJ 615++([TJ,TY,tp #[(ks "session" 1109)],TJ]++(f3 "asked_row" 110 1106 526 1 3 617 0 2 3 4 1110 gJ 622++([TJ,TY,tp #[(ks "feed" 1118),(ks "many" 1119),(ks "cells" 1120),(ks "turn" 1121)],TJ]++(f3 "_law_next" 112 1115 531 2 3 624 0 2 3 4 1122 pg 629++([TJ,TY,tp #[(ks "feed" 1128)],TJ]++(f3 "_law_line" 113 1125 537 1 3 631 0 2 3 4 1129 pg 636++([TJ,TY]++(f3 "_law_some" 114 1132 539 2 3 638 0 0 0 2 1135 pg 641++([TJ,TY,tp #[(ks "feed" 1141),(ks "twin" 1142),(ks "line" 1143),(ks "kind" 1144),(ks "text" 1145)],TJ]++(f3 "_law_put" 115 1138 544 2 3 643 0 2 3 4 1146 pg 648++([TJ,TY]++(f3 "_law_ranged" 116 1149 554 2 3 650 0 0 0 2 1152 pg 653++([TJ,TY,tp #[(ks "feed" 1158),(ks "twin" 1159),(ks "word" 1160),(ks "name" 1161),(ks "below" 1162)],TJ]++(f3 "_law_filed" 117 1155 564 2 3 655 0 2 3 4 1163 pg 660++([TJ,TY]++(f3 "_law_renumbered" 118 1166 576 2 3 662 0 0 0 2 1169 pg 665++([TJ,TY,tp #[(ks "feed" 1175),(ks "twin" 1176),(ks "kind" 1177),(ks "line" 1178)],TJ]++(f3 "_law_run" 119 1172 584 2 3 667 0 2 3 4 1179 pg 672++([TJ,TY,tp #[(ks "feed" 1185),(ks "twin" 1186),(ks "first" 1187),(ks "pace" 1188),(ks "texts" 1189),(ks "asked" 1190),(ks "line" 1191),(ks "turn" 1192),(ks "is_there" 1193),(ks "text" 1194)],TJ]++(f3 "_law_auto" 120 1182 599 2 3 674 0 2 3 4 1195 pg 679++([TJ,TY,tp #[(ks "script" 1201),(ks "feed" 1202),(ks "run_all" 1203),(ks "run_row" 1204),(ks "session" 1205),(ks "turn" 1206),(ks "kind" 1207),(ks "works" 1208),(ks "told" 1209),(ks "texts" 1210),(ks "asked" 1211),(ks "text" 1212),(ks "due" 1213)],tp #[(ks "heard" 1214),(ks "twin" 1215)]]++(f3 "law" 121 1198 619 1 3 681 0 2 3 4 1216 pg 686)))))))))))))))))))))))))))))))))))))))))))))))))))))))))))))))))))))))))))))))))))))))))))))))))))))))))))))))))))))))))))))))))))))))))))))))))))))))))))))))))))))))))))))))
noncomputable def ob (P:jq)(i:e5):Obj:=(lm P).getD i default
noncomputable def CT (P:jq):e0 Obj:=sts ((lm P).take 484) [(3,Ix P),(12,Iy P)]
noncomputable def CU (P:jq):e0 Obj:=sts ((lm P).take 688) []
noncomputable def IE (P:jq):e0 Obj:=sts ((lm P).take 15) [(2,boot_o_2 P),(3,boot_o_3 P),(12,TY)]
noncomputable def CV (P:jq):e0 Obj:=sts ((lm P).take 396) [(3,Ir P),(12,Iu P)]
noncomputable def IF (P:jq):e0 Obj:=sts ((lm P).take 57) [(3,Ew P),(12,MT P)]
noncomputable def CW (P:jq):e0 Obj:=sts ((lm P).take 129) [(3,Ex P),(12,MU P)]
noncomputable def CX (P:jq):e0 Obj:=sts ((lm P).take 340) [(3,Ip P),(12,Iq P)]
noncomputable def rD (P:jq):e0 Obj:=sts ((lm P).take 207) [(3,Ik P),(12,Il P)]
noncomputable def rE (P:jq):e0 Obj:=sts ((lm P).take 258) [(3,Im P),(12,Io P)]
noncomputable def CY (P:jq):e0 Obj:=sts ((lm P).take 650) [(3,IB P),(12,IC P)]
noncomputable def CZ (P:jq):e0 Obj:=sts ((lm P).take 432) [(3,Iv P),(12,Iw P)]
noncomputable def C0 (P:jq):e0 Obj:=sts ((lm P).take 568) [(3,Iz P),(12,IA P)]
noncomputable def IG (P:jq):Heap:=⟨⟨sts ((lm P).take 15) [(2,boot_o_2 P),(3,boot_o_3 P),(12,TY)]⟩,WL⟩
noncomputable def nt (P:jq):Heap:=⟨⟨lm P⟩,WL⟩
noncomputable def IH:e0 Stmt:=[st 9,st 10,st 11,st 12,st 13,st 14,st 15,st 16,st 17,st 18,st 19,st 20,st 21,st 22,st 23,st 24,st 25,st 26]
noncomputable def C1:e0 Stmt:=[st 85,st 86,st 87,st 88,st 89,st 90]
noncomputable def C2:e0 Stmt:=[st 116,st 117,st 118,st 119,st 120,st 121]
noncomputable def C3:e0 Stmt:=[st 103,st 104,st 105,st 106,st 107,st 108,st 109,st 110,st 111,st 112,st 113,st 114,st 115]
noncomputable def C4:e0 Stmt:=[st 91,st 92,st 93,st 94,st 95,st 96,st 97,st 98,st 99,st 100,st 101,st 102]
noncomputable def II:e0 Stmt:=[st 0,st 1,st 2,st 3,st 4,st 5,st 6,st 7,st 8]
noncomputable def C5:e0 Stmt:=[st 56,st 57,st 58,st 59,st 60,st 61,st 62,st 63,st 64,st 65,st 66,st 67,st 68,st 69]
noncomputable def C6:e0 Stmt:=[st 27,st 28,st 29,st 30,st 31,st 32,st 33,st 34,st 35,st 36,st 37,st 38,st 39]
noncomputable def rF:e0 Stmt:=[st 40,st 41,st 42,st 43,st 44,st 45,st 46,st 47,st 48,st 49,st 50,st 51,st 52,st 53,st 54,st 55]
noncomputable def C7:e0 Stmt:=[st 79,st 80,st 81,st 82,st 83,st 84]
noncomputable def C8:e0 Stmt:=[st 70,st 71,st 72,st 73,st 74,st 75,st 76,st 77,st 78]
theorem pre:∀ a:jo,(λos:kv=>topGo k5 Ur a 11 (some (h0 6)) 12 ⟨uh a.params,⟨[]⟩,Kl,MS,os⟩ (topStub Ur))=
  λos=>some ((⟨IG a.params,⟨[]⟩,⟨0,0,0,0⟩,187,os⟩:gc),(⟨denote k5 cd,cd,q0,[n4 q0]⟩:Thread)):=by
 intro a;rewrite[Fast.te15667345088766844465,hB,Fast.te11892475500146522536];kernel_rfl
theorem AW:∀ a:jo,(λos:kv=>segRun k5 Ur a 11 (some (h0 6)) 1 1 ⟨IG a.params,⟨[]⟩,⟨0,0,0,0⟩,187,os⟩ (blockOf (AI Ur) env cd q0 [n4 q0]))=
  λos=>some (Flow.next,(sT IE 15 187 a os).abs,cd,q0):=by
 intro a;rewrite[Fast.te14374325043358763698,hB];kernel_rfl
theorem MV:∀ a:jo,(λos:kv=>sZ k5 Ur a 11 (some (h0 6)) 1 385 (sT IE 15 187 a os) (qu II env cd ⟨0,0,0,0⟩ [n4 q0]))=
  λos=>some (Flow.next,sT IF 57 258 a os,cd,(⟨31,0,43,16⟩:JC)):=by
 intro a;rewrite[hR,hB];kernel_rfl
theorem MW:∀ a:jo,(λos:kv=>sZ k5 Ur a 11 (some (h0 6)) 1 395 (sT IF 57 258 a os) (qu IH env cd ⟨31,0,43,16⟩ [n4 q0]))=
  λos=>some (Flow.next,sT CW 129 363 a os,cd,(⟨98,0,101,17⟩:JC)):=by
 intro a;rewrite[hR,hB];kernel_rfl
theorem IJ:∀ a:jo,(λos:kv=>sZ k5 Ur a 11 (some (h0 6)) 1 377 (sT CW 129 363 a os) (qu C6 env cd ⟨98,0,101,17⟩ [n4 q0]))=
  λos=>some (Flow.next,sT rD 207 472 a os,cd,(⟨166,0,172,28⟩:JC)):=by
 intro a;rewrite[hR,hB];kernel_rfl
theorem rG:∀ a:jo,(λos:kv=>sZ k5 Ur (a.withFollow "special-get-raises" false) 11 (some (h0 6)) 1 401 (sT rD 207 472 (a.withFollow "special-get-raises" false) os) (qu rF env cd ⟨166,0,172,28⟩ [n4 q0]))=
  λos=>some (Flow.next,sT rE 258 579 (a.withFollow "special-get-raises" false) os,cd,(⟨221,0,222,36⟩:JC)):=by
 intro a;rewrite[hR,hB];kernel_rfl
theorem tj:∀ a:jo,(λos:kv=>sZ k5 Ur (a.withFollow "special-get-raises" true) 11 (some (h0 6)) 1 401 (sT rD 207 472 (a.withFollow "special-get-raises" true) os) (qu rF env cd ⟨166,0,172,28⟩ [n4 q0]))=
  λos=>some (Flow.next,sT rE 258 579 (a.withFollow "special-get-raises" true) os,cd,(⟨221,0,222,36⟩:JC)):=by
 intro a;rewrite[hR,hB];kernel_rfl
theorem IK a:(λos:kv=>sZ k5 Ur a 11 (some (h0 6)) 1 401 (sT rD 207 472 a os) (qu rF env cd ⟨166,0,172,28⟩ [n4 q0]))=
  λos=>some (Flow.next,sT rE 258 579 a os,cd,(⟨221,0,222,36⟩:JC)):=byRow2 "special-get-raises" (P:=λa=>(λos:kv=>sZ k5 Ur a 11 (some (h0 6)) 1 401 (sT rD 207 472 a os) (qu rF env cd ⟨166,0,172,28⟩ [n4 q0]))=
  λos=>some (Flow.next,sT rE 258 579 a os,cd,(⟨221,0,222,36⟩:JC))) rG tj a
theorem IL:∀ a:jo,(λos:kv=>sZ k5 Ur a 11 (some (h0 6)) 1 384 (sT rE 258 579 a os) (qu C5 env cd ⟨221,0,222,36⟩ [n4 q0]))=
  λos=>some (Flow.next,sT CX 340 682 a os,cd,(⟨282,0,282,15⟩:JC)):=by
 intro a;rewrite[hR,hB];kernel_rfl
theorem IM:∀ a:jo,(λos:kv=>sZ k5 Ur a 11 (some (h0 6)) 1 261 (sT CX 340 682 a os) (qu C8 env cd ⟨282,0,282,15⟩ [n4 q0]))=
  λos=>some (Flow.next,sT CV 396 759 a os,cd,(⟨349,0,349,8⟩:JC)):=by
 intro a;rewrite[hR,hB];kernel_rfl
theorem IN:∀ a:jo,(λos:kv=>sZ k5 Ur a 11 (some (h0 6)) 1 346 (sT CV 396 759 a os) (qu C7 env cd ⟨349,0,349,8⟩ [n4 q0]))=
  λos=>some (Flow.next,sT CZ 432 845 a os,cd,(⟨390,0,390,6⟩:JC)):=by
 intro a;rewrite[hR,hB];kernel_rfl
theorem IP:∀ a:jo,(λos:kv=>sZ k5 Ur a 11 (some (h0 6)) 1 379 (sT CZ 432 845 a os) (qu C1 env cd ⟨390,0,390,6⟩ [n4 q0]))=
  λos=>some (Flow.next,sT CT 484 924 a os,cd,(⟨421,0,429,16⟩:JC)):=by
 intro a;rewrite[hR,hB];kernel_rfl
theorem IQ:∀ a:jo,(λos:kv=>sZ k5 Ur a 11 (some (h0 6)) 1 375 (sT CT 484 924 a os) (qu C4 env cd ⟨421,0,429,16⟩ [n4 q0]))=
  λos=>some (Flow.next,sT C0 568 1034 a os,cd,(⟨480,0,481,45⟩:JC)):=by
 intro a;rewrite[hR,hB];kernel_rfl
theorem IR:∀ a:jo,(λos:kv=>sZ k5 Ur a 11 (some (h0 6)) 1 385 (sT C0 568 1034 a os) (qu C3 env cd ⟨480,0,481,45⟩ [n4 q0]))=
  λos=>some (Flow.next,sT CY 650 1149 a os,cd,(⟨544,0,553,66⟩:JC)):=by
 intro a;rewrite[hR,hB];kernel_rfl
theorem IS:∀ a:jo,(λos:kv=>sZ k5 Ur a 11 (some (h0 6)) 1 199 (sT CY 650 1149 a os) (qu C2 env cd ⟨544,0,553,66⟩ [n4 q0]))=
  λos=>some (Flow.next,sT CU 688 1219 a os,cd,(⟨619,0,644,15⟩:JC)):=by
 intro a;rewrite[hR,hB];kernel_rfl
theorem fin:∀ a:jo,(λos:kv=>topRun k5 Ur a 11 (some (h0 6)) 2 (sT CU 688 1219 a os).abs (⟨doneF .next,cd,⟨619,0,644,15⟩,[n4 q0]⟩:Thread))=
  λos=>some (⟨nt a.params,⟨[]⟩,⟨0,0,0,0⟩,1219,os⟩:gc):=by
 intro a;rewrite[Fast.te14082659384304107361,hB];kernel_rfl
theorem parts:AI Ur=II++(IH++(C6++(rF++(C5++(C8++(C7++(C1++(C4++(C3++(C2++[])))))))))):=by kernel_rfl
theorem run w os:topRun k5 Ur w 11 (some (h0 6)) (12+(1+(385+(395+(377+(401+(384+(261+(346+(379+(375+(385+(199+2))))))))))))) ⟨uh w.params,⟨[]⟩,Kl,MS,os⟩ (topStub Ur)=some (⟨nt w.params,⟨[]⟩,⟨0,0,0,0⟩,1219,os⟩:gc):=by
 have a:=kL (fin w) os;replace a:=piece_nil (env:=env) (q:=q0) a;replace a:=rK (rL (kL (IS w) os)) a;replace a:=rK (rL (kL (IR w) os)) a;replace a:=rK (rL (kL (IQ w) os)) a;replace a:=rK (rL (kL (IP w) os)) a;replace a:=rK (rL (kL (IN w) os)) a;replace a:=rK (rL (kL (IM w) os)) a;replace a:=rK (rL (kL (IL w) os)) a;replace a:=rK (rL (kL (IK w) os)) a;replace a:=rK (rL (kL (IJ w) os)) a;replace a:=rK (rL (kL (MW w) os)) a;replace a:=rK (rL (kL (MV w) os)) a;rewrite[<-parts]at a;replace a:=piece_block (kL (AW w) os) a;exact go_top (kL (pre w) os) a
end Hd
end
section
namespace Hd
noncomputable def vw:Program:={Ur with main:={Ur.main with body:=[st 121]}}
noncomputable def lz:e0 Str:=[.ofString "BasicError",.ofString "MOST_FIGURES_chain",.ofString "MOST_LINE_chain",.ofString "WRONG_ROW",.ofString "numbered_row",.ofString "saved_text",.ofString "loaded_program",.ofString "merged_program",.ofString "save_program",.ofString "MOST_NAME",.ofString "check_name",.ofString "close_file",.ofString "close_all",.ofString "kill_file",.ofString "rename_file",.ofString "MOST_LINE_lines",.ofString "FIGURES_lines",.ofString "LEADING",.ofString "figures_end",.ofString "figures_end_lines",.ofString "blanks_end",.ofString "number_told",.ofString "line_number",.ofString "parted_row",.ofString "numbers_within",.ofString "delete_lines",.ofString "listed_rows",.ofString "is_word_sign",.ofString "word_end",.ofString "quote_end",.ofString "data_end",.ofString "data_end_lines",.ofString "told_spots",.ofString "gather_spots",.ofString "lines_told",.ofString "with_numbers",.ofString "new_numbers",.ofString "lost_lines",.ofString "renumbered",.ofString "auto_begin",.ofString "auto_next",.ofString "auto_row",.ofString "MOST_SIGNS",.ofString "MOST_FIGURES_tokens",.ofString "SIGNS",.ofString "ORDERS",.ofString "PAIRS",.ofString "WORDS",.ofString "FUNCTION_WORDS",.ofString "WORD_LIKE",.ofString "functions",.ofString "is_word",.ofString "is_letter",.ofString "is_figure",.ofString "capital",.ofString "figures_end_tokens",.ofString "skipped",.ofString "power_end",.ofString "number_at",.ofString "name_end",.ofString "text_at",.ofString "order_at",.ofString "data_end_tokens",.ofString "remark_of",.ofString "word_at",.ofString "tokens_at",.ofString "tokens_of",.ofString "token_text",.ofString "needs_blank",.ofString "row_of",.ofString "canonical",.ofString "World",.ofString "clear",.ofString "put_row",.ofString "FIGURES_session",.ofString "STRIDE",.ofString "Session",.ofString "word_parted",.ofString "great_sign",.ofString "told_number",.ofString "told_range",.ofString "told_numbers",.ofString "told_name",.ofString "do_run",.ofString "do_new",.ofString "do_list",.ofString "do_delete",.ofString "do_renum",.ofString "do_auto",.ofString "do_save",.ofString "program_of",.ofString "do_load",.ofString "do_merge",.ofString "do_kill",.ofString "do_name",.ofString "commands",.ofString "tell_outcome",.ofString "enter_line",.ofString "do_command",.ofString "auto_typed",.ofString "typed",.ofString "asked_row",.ofString "_law_next",.ofString "_law_line",.ofString "_law_some",.ofString "_law_put",.ofString "_law_ranged",.ofString "_law_filed",.ofString "_law_renumbered",.ofString "_law_run",.ofString "_law_auto"]
noncomputable def WM:e0 Addr:=[1,2,3,15,18,23,24,25,27,28,30,31,32,33,34,35,38,40,41,43,44,45,48,49,50,52,53,55,56,57,59,60,62,63,64,66,67,69,70,71,74,75,76,78,79,81,82,83,85,86,88,89,90,93,94,95,98,99,100,101,103,104,106,107,108,110,111,113,114,115,117,118,120,121,122,124,125,127,128,129,131,132,134,135,136,139,140,141,143,144,146,147,148,151,152,153,155,156,158,159,160,162,163,165,166,167,169,170,172,173,174,176,177,179,180,181,183,184,186,187,188,190,191,193,194,195,198,199,200,202,203,205,206,207,209,210,212,213,214,216,217,219,220,221,223,224,226,227,228,230,231,233,234,235,237,238,240,241,242,244,245,247,248,249,250,251,253,254,256,257,258,260,261,263,264,265,267,268,270,271,272,274,275,277,278,279,282,283,284,286,287,289,290,291,293,294,296,297,298,300,301,303,304,305,307,308,310,311,312,314,315,317,318,319,321,322,324,325,326,328,329,331,332,333,335,336,338,339,340,342,343,345,346,347,349,350,352,353,354,356,357,359,360,361,363,364,366,367,368,370,371,373,374,375,377,378,380,381,382,384,385,387,388,389,391,392,394,395,403,404,406,407,409,410,411,412,413,414,415,418,420,421,423,424,425,427,428,430,431,439,441,442,444,445,446,447,448,449,450,453,456,457,458,460,461,463,464,465,468,469,470,472,473,475,476,477,479,480,482,483,484,486,487,489,490,491,493,494,496,497,498,500,501,503,504,505,507,508,510,511,512,514,515,517,518,519,521,522,524,525,526,528,529,531,532,533,535,536,538,539,540,542,543,545,546,547,549,550,552,553,554,556,557,559,560,561,563,564,566,567,568,570,571,573,574,575,577,578,580,581,582,584,585,587,588,589,591,592,594,595,596,598,599,601,602,603,605,606,608,609,610,612,613,615,616,617,619,620,622,623,624,626,627,629,630,631,633,634,636,637,638,641,642,643,645,646,648,649,650,653,654,655,657,658,660,661,662,665,666,667,669,670,672,673,674,676,677,679,680,681,683,684,686,687]
noncomputable def KF (P:jq):Frag:=WM.map λi=>(i,ob P i)
theorem ka P:WM=(KF P).map (·.1):=by kernel_rfl
noncomputable abbrev hk:Hook:=kmHook KF WM ka [682]
noncomputable abbrev R0:OpenRow:=rz.row
noncomputable abbrev Xt (s:gc):Bool:=xlAt vw [] s&&recOk (RowW.records R0.toRowW) s
noncomputable abbrev ey:DefRec:=⟨.ofString "law",fA (st 121),VI (st 121),Us (st 121),Xr (st 121)⟩
noncomputable abbrev fs (w:jo)(os:kv):Shared:=⟨nt w.params,⟨[]⟩,⟨0,0,0,0⟩,1219,os⟩
noncomputable abbrev md:e0 Str:=Di Ur.main.body
theorem open_:∀ b:jo,(fencedOpening k5 Ur b 7878).map (λa=>(a.heap,a.gens,a.drawn,a.toks))=some (uh b.params,Sw [],Kl,MS):=
 boot_open (by kernel_rfl) (by kernel_rfl) (λa=>by kernel_rfl)
theorem size (w:jo):((uh w.params).isNs jk&&(Sw []:uf GenState).size==0,(uh w.params).objs.size,(uh w.params).nsMap jk "__annotations__")=(true,11,some (h0 6)):=by
 rewrite[Fast.te8920871248978507458];kernel_rfl
theorem MY w:(λos:kv=>staticsOk (Di Ur.main.body) (uh w.params) (nt w.params)&&namesBound Ur (nt w.params)&&gensDone (fs w os)&&laidKept (uh w.params) (nt w.params))=λa=>true:=by
 rewrite[oJ];kernel_rfl
theorem MZ w:(λos:kv=>seen ((recsOf vw).map (·.name)) (ownsOf vw) [] {fs w os with gens:=#[]})=λa=>expectedOf vw:=by
 rewrite[Fast.te5160383126252970620,yB,Fast.te5991557255702980513];kernel_rfl
theorem Ez w:(λos:kv=>(fs w os).heap.bltView)=λa=>bltViewBooted:=by
 kernel_rfl
theorem EA w:(λos:kv=>((fs w os).heap.keysOk (QJ vw lz) ((recsOf vw).map (·.name)) ((litsOf vw).map (·.1)) ((clssOf vw (QJ vw lz)).map (·.name))&&(fs w os).heap.accountedOkI (Di Ur.main.body)&&(fs w os).heap.isNs jk&&(fs w os).heap.isNs mN&&tablesOk vw (fs w os).heap&&Xt (fs w os)&&(if true then(fs w os).gens.size==0 else !leftWithCleanup (fs w os).gens)))=λa=>true:=by
 rewrite[Fast.te10880121769531294198,zn,yB,Fast.te7409074990110511671,Fast.te13664370479719496447,Fast.te14722251495701143533,oJ,Fast.te10994771534591457954];kernel_rfl
theorem M0 w:(λos:kv=>tabsOk vw (fs w os))=λa=>true:=by
 rewrite[Fast.te479339242167458305];kernel_rfl
theorem M1 w:(λos:kv=>pinSeenD vw (drecsOf vw) (fs w os))=λa=>pinGoodD (drecsOf vw):=by
 rewrite[Fast.te16090120013241838585,Fast.te3247288618530077131];kernel_rfl
theorem M3 w:(λos:kv=>plainSeenE vw (QJ vw lz) (fs w os))=λa=>plainGoodE vw (QJ vw lz):=by
 rewrite[Fast.te2386780881361962483,zn];kernel_rfl
theorem M4 w:(λos:kv=>plainSeenD vw lz (fs w os))=λa=>plainGoodD vw lz:=by
 rewrite[Fast.te11698064438423848299];kernel_rfl
theorem M5 w:(λos:kv=>wideSeen vw (fs w os))=λa=>wideGood vw:=by
 rewrite[Fast.te7317090234206586261];kernel_rfl
theorem M6 w:(λos:kv=>clsSeenW vw lz (fs w os))=λa=>clsGoodW vw lz:=by
 rewrite[Fast.te7369524293546568484];kernel_rfl
theorem IT w:(λos:kv=>Sx hk (fs w os))=λa=>Sy hk w:=by
 kernel_rfl
theorem EB w os:openSeen vw lz md Xt true (fs w os)=openGood vw lz:=Prod.ext (kL (MZ w) os) (Prod.ext (kL (Ez w) os) (Prod.ext (kL (EA w) os) (Prod.ext (kL (M0 w) os) (Prod.ext (kL (M1 w) os) (Prod.ext (kL (M3 w) os) (Prod.ext (kL (M4 w) os) (Prod.ext (kL (M5 w) os) (kL (M6 w) os))))))))
theorem left:LeftO Ur vw lz Xt (Sx hk) (Sy hk) 7878:=
 LeftO.of_pieces (H₀:=uh) (H₁:=nt) open_ size run (by kernel_rfl) λa=>funext λos=>Prod.ext (kL (MY a) os) (Prod.ext (EB a os) (kL (IT a) os))
theorem said:rz.wellSaid=true:=by
 delta Sc Sd Se looksOpen
 repeat' (with_reducible refine look_both ?_ ?_)
 all_goals((try rewrite[xv]);(try rewrite[yN]);(try rewrite[xz]);(try rewrite[yO]);(try rewrite[xE]);(try rewrite[yP]);(try rewrite[xL]);(try rewrite[yQ]);(try rewrite[oJ]);(try rewrite[xS]);(try rewrite[xT]);(try rewrite[xW]);(try rewrite[x0]);(try rewrite[yR]);(try rewrite[yS]);(try rewrite[Mm]);(try rewrite[x2]);(try rewrite[yT]);(try rewrite[yU]);(try rewrite[x3]);(try rewrite[x4]);(try rewrite[yV]);(try rewrite[zq]);(try rewrite[yW]);(try rewrite[yY]);(try rewrite[x7]);(try rewrite[y0]);(try rewrite[ya]);(try rewrite[zr]);(try rewrite[yb]);kernel_rfl)
theorem good:(chainsOk vw&&opensWell R0.prog&&(frees R0.toRowW&&R0.within.isEmpty))=true:=by
 (try rewrite[xv]);(try rewrite[yN]);(try rewrite[xz]);(try rewrite[yO]);(try rewrite[xE]);(try rewrite[yP]);(try rewrite[xL]);(try rewrite[yQ]);(try rewrite[oJ]);(try rewrite[xS]);(try rewrite[xT]);(try rewrite[xW]);(try rewrite[x0]);(try rewrite[yR]);(try rewrite[yS]);(try rewrite[Mm]);(try rewrite[x2]);(try rewrite[yT]);(try rewrite[yU]);(try rewrite[x3]);(try rewrite[x4]);(try rewrite[yV]);(try rewrite[zq]);(try rewrite[yW]);(try rewrite[yY]);(try rewrite[x7]);(try rewrite[y0]);(try rewrite[ya]);(try rewrite[zr]);(try rewrite[yb])
 kernel_rfl
theorem head (walk:WalkO vw lz (XL vw []) (Sf hk) R0.toRowW ey [] (λf b=>pT f b)):PySem.Challenge.rw_pq0186_01.Holds:=
 holds_law said λc=>W.holds_open (d:=ey) (kwd:=[]) (XP:=XL vw []) (YP:=Sf hk) left (Hook.of hk) (Hook.keeps hk) (λs a=>xl_of s (j4.mp a).1) XL.keeps (by kernel_rfl) (by kernel_rfl) (by kernel_rfl)
  (λs a=>recFacts_of (j4.mp a).2) (by kernel_rfl) c good ⟨by kernel_rfl,by kernel_rfl,by kernel_rfl,by kernel_rfl,by kernel_rfl,by kernel_rfl⟩ ⟨[.list []],by decide+kernel,by decide+kernel⟩ walk
end Hd
end
variable{a:hD}{h h₁ h₂ h' aa:kb}{u wv:fB}{Q:jW->gc->Prop}{x:e0 e5}{ws:e0 fB}{ι aw ex' aj aq:e0 hD}{prog:ih}{A:t2}{f7:e5->jW}
section
set_option genInjectivity true in
inductive V where
 |none
 |bool (b:jW)
 |int (i:hA)
 |str (s:e0 e5)
 |tup (l:e0 V)
 |h (n:e5)
 |fn (k:e5)
 |ab (n:e5)
set_option genInjectivity true in
inductive Key where
 |int (i:hA)
 |str (s:e0 e5)
 deriving PW
set_option genInjectivity true in
inductive TH where
 |list (l:e0 V)
 |dict (d:e0 (Key×V))
 |inst (k:e5)(nd:e5)
 |ns (a:e0 (e5×V))
 |cell (v:gN V)
 |ic (k:e5)(cs:e0 e5)
 |gK (nd:e5)
noncomputable abbrev H:=e0 TH
inductive dZ{α β:Type}(R:α->β->Prop):e0 α->e0 β->Prop
 |nil:dZ R [] []
 |cons {a:α} {b:β} {l:e0 α} {l':e0 β}:R a b->dZ R l l'->dZ R (a::l) (b::l')
theorem dZ.len (h:dZ R l b):l.length=b.length:=by
 induction h with
 |nil=>rfl
 |cons _ _ a=>exact hC (λc=>c+1) a
theorem dZ.imp{l:e0 α}{c:e0 e}(h:dZ R l c)(k:∀ a b,R a b->S a b):dZ S l c:=by
 induction h with
 |nil=>exact .nil
 |cons a _ d=>exact .cons (k _ _ a) d
theorem dZ.snoc{a:α}{b:e}(h:dZ R l c)(x:R a b):dZ R (l++[a]) (c++[b]):=by
 induction h with
 |nil=>exact .cons x .nil
 |cons a _ d=>exact .cons a d
theorem dZ.get (h:dZ R l b):∀ i (h1:i<l.length) (h2:i<b.length),R l[i] b[i]:=by
 induction h with
 |nil=>exact λi h1=>iv h1 (n3 i)
 |cons a _ c=>
  intro i h1 h2;cases i with
  |zero=>exact a
  |succ i=>exact c i (Bs h1) (Bs h2)
structure Vs where
 t:e0 Addr:=[]
 f:e0 Addr:=[]
structure Kp (hid:Vs)(h h':kb):Prop where
 t:∀ a ws,a∉hid.t->qv h a ws->qv h' a ws
 f:∀ a∈hid.f,∀ o,h.get? a=some o->h'.get? a=some o
theorem Kp.refl hid h:Kp hid h h:=⟨λa a a c=>c,λa a a b=>b⟩
theorem Kp.trans (x:Kp hid h h₁)(y:Kp hid h₁ h₂):Kp hid h h₂:=⟨λa ws n d=>y.t a ws n (x.t a ws n d),λa m b c=>y.f a m b (x.f a m b c)⟩
theorem Kp.ext (hk:∀ c b,h.get? c=some b->h'.get? c=some b):Kp hid h h':=⟨λa ws e=>rk λob=>oa (hk _ _),λa e b d=>hk a b d⟩
structure P where
 names:e0 jg
 fa:e0 hD
 ca:e0 hD
 hid:Vs:={}
 K:Frag:=[]
 bl:e0 (jg×fB):=[]
 ab:e0 Addr:=[]
 xc:Addr:=0
 ph:Nat:=0
 pj:Nat:=0
 cl:e5->qx->e0 hD->Prop:=λTA TA TA=>P2
noncomputable def Key.is:Key->fB->jW
 | .int i,v=>ui i v
 | .str s,v=>tE ⟨s.toArray⟩ v
noncomputable def Key.v:Key->V
 | .int i=>.int i
 | .str s=>.str s
theorem Key.inj v a(b:Key)(c:a.is v=true)(d:b.is v=true):a=b:=by
 cases a<;>cases b<;>cases v<;>simp_all[Key.is,ui,tE]
section
variable{w:jo}{E:fB->gc->Prop}{s:gc}
theorem tm (b:(Key.int i).is u=true)(c:(Key.str y).is v=true)(a:Q (decide (Key.int i=Key.str y)) s):
  ht (hh prog w) A (QK u v) Q E s:=by
 cases u<;>simp[Key.is,ui]at b;cases v<;>simp[Key.is,tE]at c;unfold QK;rw[hb (by simp)];exact e3 (QL (ly (by simpa using a)))
theorem tn (b:(Key.str x).is u=true)(c:(Key.int j).is v=true)(a:Q (decide (Key.str x=Key.int j)) s):
  ht (hh prog w) A (QK u v) Q E s:=by
 cases u<;>simp[Key.is,tE]at b;cases v<;>simp[Key.is,ui]at c;unfold QK;rw[hb (by simp)];exact e3 (QM (ly (by simpa using a)))
end
noncomputable def keyKind (prog:ih)(w:jo):PySem.KeyKind prog w Key where
 is:=Key.is
 hash:=λk=>match k with
  | .int i=>(zy prog w).hash i
  | .str s=>(v3 prog w).hash ⟨s.toArray⟩
 inj:=Key.inj
 byValue:=λk v h=>by
  cases k with
  |int i=>exact(zy prog w).byValue i v h
  |str s=>exact(v3 prog w).byValue _ v h
 pyHash:=λ{A E s k v Q} h c=>by
  cases k with
  |int i=>exact(zy prog w).pyHash h c
  |str x=>exact(v3 prog w).pyHash h c
 eqBool:=λ{A E s a b u v Q} d e c=>by
  cases a with
  |int i=>cases b with
   |int j=>exact(zy prog w).eqBool d e (by simpa using c)
   |str y=>exact tm d e c
  |str x=>cases b with
   |int j=>exact tn d e c
   |str y=>exact(v3 prog w).eqBool d e (by simpa using c)
 «strs»:=λk x t v h=>by
  cases k with
  |int i=>simp[Key.is,ui]at h
  |str s=>exact(v3 prog w).strs _ x t v h
section
variable (p:P)(ι:e0 hD)(h:kb)
mutual
inductive TQ:V->fB->Prop
 |none:TQ .none .none
 |bool (b:jW):TQ (.bool b) (.bool b)
 |int (i:hA) (t:QN):TQ (.int i) (.int i t)
 |str (s:e0 e5) (t:QN):TQ (.str s) (.str ⟨s.toArray⟩ t)
 |tup {l:e0 V} {a:hD} {ws:e0 fB}:a∉p.hid.t->qv h a ws.toArray->aT l ws->TQ (.tup l) (.ref a)
 |h {n:e5} {a:hD}:ι[n]?=some a->TQ (.h n) (.ref a)
 |fn {k:e5} {a:hD}:p.fa[k]?=some a->TQ (.fn k) (.ref a)
 |ab {n:e5} {a:hD}:p.ab[n]?=some a->TQ (.ab n) (.ref a)
inductive aT:e0 V->e0 fB->Prop
 |nil:aT [] []
 |cons {v:V} {w:fB} {vs:e0 V} {ws:e0 fB}:TQ v w->aT vs ws->aT (v::vs) (w::ws)
end
inductive VB:gN V->gN fB->Prop
 |none:VB none none
 |some {v:V} {w:fB}:TQ p ι h v w->VB (some v) (some w)
end
theorem bC{α:Type}{l b:e0 α}(c:l<+:b){i:e5}{a:α}(e:l[i]?=some a):b[i]?=some a:=by
 (refine av c ?_;clear c;intro f d;subst d)
 rw[hN (e4.mp e).1];exact e
section
variable{p:P}
theorem TQ.mono (e:ι<+:aw)(f:Kp p.hid h h')(r:TQ p ι h v w):TQ p aw h' v w:=
 TQ.rec (motive_1:=λv w b=>TQ p aw h' v w) (motive_2:=λv w b=>aT p aw h' v w) .none .bool .int .str (λn a b c=>.tup n (f.t _ _ n a) c) (λd=>.h (bC e d)) .fn .ab .nil (λb b a c=>.cons a c) r
theorem aT.ind{M:e0 V->e0 fB->Prop}(n:M [] [])(c:∀ {a w l ws},TQ p ι h a w->aT p ι h l ws->M l ws->M (a::l) (w::ws))(r:aT p ι h l ws):M l ws:=
 aT.rec (motive_1:=λd d d=>True) (motive_2:=λl ws d=>M l ws) trivial (λd=>trivial) (λd d=>trivial) (λd d=>trivial) (λd d d d=>trivial) (λd=>trivial) (λd=>trivial) (λd=>trivial) n (λa b d e=>c a b e) r
theorem aT.mono (c:ι<+:aw)(d:Kp p.hid h h')(r:aT p ι h v w):aT p aw h' v w:=r.ind .nil λa e b=>.cons (a.mono c d) b
theorem VB.mono (b:ι<+:aw)(c:Kp p.hid h h')(r:VB p ι h v w):VB p aw h' v w:=by
 cases r with
 |none=>exact .none
 |some a=>exact .some (a.mono b c)
theorem aT.length (r:aT p ι h v w):v.length=w.length:=r.ind (M:=λv w=>v.length=w.length) rfl λb b a=>hC (λc=>c+1) a
theorem aT.get (r:aT p ι h v w){i:e5}{x:V}(e:v[i]?=some x):∃ b,w[i]?=some b/\TQ p ι h x b:=
 r.ind (M:=λv w=>∀ i,v[i]?=some x->∃ b,w[i]?=some b/\TQ p ι h x b) (λc e=>TS (uI▸e)) (λ{f c c c} a c d i=>by
  cases i with
  |zero=>exact λe=>⟨_,rfl,fZ e▸a⟩
  |succ i=>exact d i) i e
theorem TQ.int_inv (b:TQ p ι h (.int i) wv):∃ a,wv=.int i a:=by cases b;exact⟨_,rfl⟩
theorem TQ.str_inv (b:TQ p ι h (.str x) wv):∃ a,wv=.str ⟨x.toArray⟩ a:=by cases b;exact⟨_,rfl⟩
theorem TQ.none_inv (a:TQ p ι h .none wv):wv=.none:=by cases a;rfl
theorem aT.nil_inv (r:aT p ι h [] ws):ws=[]:=by cases r;rfl
theorem aT.cons_inv{a:V}(r:aT p ι h (a::l) ws):∃ c b,ws=c::b/\TQ p ι h a c/\aT p ι h l b:=by cases r with|cons d e=>exact gD _ _ rfl d e
theorem aT.one{a:V}(r:aT p ι h [a] ws):∃ b,ws=[b]/\TQ p ι h a b:=by
 (refine cg r.cons_inv λb f c d e=>?_;subst c)
 exact⟨b,by rw[e.nil_inv],d⟩
theorem aT.two{a:V}(r:aT p ι h [a,b] ws):∃ d c,ws=[d,c]/\TQ p ι h a d/\TQ p ι h b c:=by
 (refine cg r.cons_inv λd l f g j=>?_;subst f)
 refine ah j.one λc e k=>?_;exact gD d c (by rw[e]) g k
theorem aT.three{a:V}(r:aT p ι h [a,b,c] ws):∃ g f d,ws=[g,f,d]/\TQ p ι h a g/\TQ p ι h b f/\TQ p ι h c d:=by
 (refine cg r.cons_inv λg o k l m=>?_;subst k)
 refine cg m.two λf d e n j=>?_;exact nk g f d (by rw[e]) l n j
@[elab_as_elim] theorem TQ.bW {P:fB->Prop} (b:TQ p ι h (.int i) wv) (k:∀ a,P (.int i a)):P wv:=by cases b;exact k _
@[elab_as_elim] theorem TQ.str' {P:fB->Prop} (b:TQ p ι h (.str x) wv) (k:∀ a,P (.str ⟨x.toArray⟩ a)):P wv:=by cases b;exact k _
@[elab_as_elim] theorem aT.one' {a:V} {P:e0 fB->Prop} (r:aT p ι h [a] ws) (k:∀ b,TQ p ι h a b->P [b]):P ws:=r.one.elim λb c=>c.1▸k b c.2
@[elab_as_elim] theorem aT.two' {a:V} {P:e0 fB->Prop} (r:aT p ι h [a,b] ws) (k:∀ d e,TQ p ι h a d->TQ p ι h b e->P [d,e]):P ws:=r.two.elim λd c=>c.elim λe c=>c.1▸k d e c.2.1 c.2.2
@[elab_as_elim] theorem aT.AX {a:V} {P:e0 fB->Prop} (r:aT p ι h [a,b,c] ws) (k:∀ e f u,TQ p ι h a e->TQ p ι h b f->TQ p ι h c u->P [e,f,u]):P ws:=r.three.elim λe d=>d.elim λf d=>d.elim λu d=>d.1▸k e f u d.2.1 d.2.2.1 d.2.2.2
theorem aT.append (r:aT p ι h v w)(y:aT p ι h v' b):aT p ι h (v++v') (w++b):=r.ind (M:=λv w=>aT p ι h (v++v') (w++b)) y λa d c=>.cons a c
end
inductive UJ (p:P)(ι:e0 hD)(h:kb):e0 (e5×V)->e0 yw->Prop
 |nil:UJ p ι h [] []
 |cons {x:e5} {id:jg} {v:V} {wv:fB} {hs:hA} {t:QN} {l:e0 (e5×V)} {es:e0 yw}:p.names[x]?=some id->TQ p ι h v wv->UJ p ι h l es->UJ p ι h ((x,v)::l) (⟨hs,.str id t,wv⟩::es)
theorem UJ.mono (c:ι<+:aw)(e:Kp p.hid h h')(r:UJ p ι h l es):UJ p aw h' l es:=by
 induction r with
 |nil=>exact .nil
 |cons a b _ d=>exact .cons a (b.mono c e) d
noncomputable def U4 (p:P)(prog:ih)(w:jo)(ι:e0 hD)(h:kb):TH->hD->Prop
 | .list l,a=>∃ ws:e0 fB,h.PlainList a ws.toArray/\aT p ι h l ws
 | .dict d,a=>∃ kvs:e0 (Key×fB),h.DictOf (keyKind prog w) a kvs/\kvs.map (λq=>q.1)=d.map (λq=>q.1)/\aT p ι h (d.map (λq=>q.2)) (kvs.map (λq=>q.2))
 | .inst k b,a=>∃ c d,p.ca[k]?=some c/\ι[b]?=some d/\h.get? a=some ⟨.ref c,some d,.plain,#[]⟩
 | .ns e,a=>∃ es n,h.get? a=some (wS es n)/\UJ p ι h e es
 | .cell v,a=>∃ wv,h.IsCell a wv/\VB p ι h v wv
 | .ic k cs,a=>∃ o fd as c,h.get? a=some o/\o.cls=.type "function"/\o.data=.func fd/\p.cl k fd as/\cs.mapM (λi=>ι[i]?)=some as/\fd.code=.ref c/\c∈p.hid.f/\h.CodeRec fd.code fd.qualname
 | .gK b,a=>∃ d vs,ι[b]?=some d/\h.get? a=some ⟨.ref p.xc,some d,.fields vs,#[]⟩/\vs[2]?=some .none
theorem tv (e:h.get? a=some ob)(f:ob.cls≠.type "tuple"):∀ ws,¬ qv h a ws:=λws d=>by
 refine ba d λg b c j=>?_;rw[e]at b;cases b;exact f c
theorem rH (e:h.get? a=some ob)(g:∀ j c,ob.data≠.seq j c):∀ ws,¬ qv h a ws:=λws d=>by
 obtain⟨k,b,_,c,f⟩:=d;rw[e]at b;cases b;exact g _ _ f
theorem f9 (e:h.get? a=some ob)(b:ob.cls≠.type "tuple"):(∃ ob,h.get? a=some ob)/\∀ ws,¬ qv h a ws:=⟨⟨_,e⟩,tv e b⟩
theorem qp (h:n≠"tuple"):F8 n≠.type "tuple":=λa=>h (Sz a)
theorem U4.there (x:U4 p prog w ι h o a):(∃ ob,h.get? a=some ob)/\∀ ws,¬ qv h a ws:=by
 cases o with
 |list k=>exact x.elim λb x=>x.1.elim λb e=>f9 e (qp J)
 |dict m=>exact x.elim λb x=>x.1.elim λb x=>x.elim λb x=>x.elim λb x=>f9 x.1 (x.2.1.1▸qp J)
 |inst f d=>exact x.elim λb x=>x.elim λb x=>f9 x.2.2 nofun
 |ns j=>exact x.elim λb x=>x.elim λb x=>f9 x.1 (qp J)
 |cell g=>exact x.elim λb x=>x.1.elim λb x=>⟨⟨_,x.1⟩,rH x.1 λq n c=>by rw[x.2]at c;cases c⟩
 |ic f l=>exact x.elim λb x=>x.elim λb x=>x.elim λb x=>x.elim λb x=>f9 x.1 (x.2.1▸qp J)
 |gK d=>exact x.elim λb x=>x.elim λb x=>f9 x.2.1 nofun
noncomputable def dp (fr:e0 zs):e0 Addr:=fr.filterMap (λq=>q.frame)
theorem nw{A:Prop}{α:Type}{P:α->Prop}(h:A/\B/\C/\∃ a,P a)(k:∀ a,P a->D):A/\B/\C/\D:=⟨h.1,h.2.1,h.2.2.1,h.2.2.2.elim k⟩
structure Rel (p:P)(prog:ih)(w:jo)(aa:kb)(fr:e0 zs)(ι:e0 hD)(σ:H)(h:kb):Prop where
 len:ι.length=σ.length
 nodup:ι.Nodup
 stays:aa.StaysIn h
 frames:h.FunFrames aa fr
 dD:∀ a∈ι,a∉dp fr
 new:∀ a∈ι,aa.get? a=none
 hid:∀ a∈p.hid.t,∃ o,h.get? a=some o
 Uu:∀ a∈p.hid.f,a∉ι/\a∉dp fr/\aa.get? a=none/\∃ o,h.get? a=some o
 obj:∀ (i:e5) (a:hD) (o:TH),ι[i]?=some a->σ[i]?=some o->U4 p prog w ι h o a
structure Step (hid:Vs)(md:e5->jW)(fr:e0 zs)(ex ι:e0 hD)(h:kb)(aw:e0 hD)(h':kb):Prop where
 pre:ι<+:aw
 c5:∀ (n:e5) (a:hD),aw[n]?=some a->ι[n]?=some a\/h.get? a=none
 ext:∀ b o,b∉ex->(∀ n,md n=true->ι[n]?≠some b)->h.get? b=some o->∃ sl,h'.get? b=some {o with slots:=sl}/\(b∉dp fr->sl=o.slots)
 live:∀ b o,h.get? b=some o->∃ o',h'.get? b=some o'
 tup:Kp hid h h'
section
variable{p:P}{w:jo}{hid:Vs}{md:e5->jW}{fr:e0 zs}{ex:e0 hD}{σ:H}
theorem Step.new (x:Step hid md fr ex ι h aj h₁):∀ a∈aj,a∈ι\/h.get? a=none:=λa c=>by
 refine av (nD c) λn b=>?_;exact(x.c5 n a b).imp (λd=>fz d) id
theorem Step.refl hid md fr ex ι h:Step hid md fr ex ι h ι h:=
 ⟨fV,λa a x=>.inl x,λa c a a b=>⟨c.slots,b,λa=>rfl⟩,λa c b=>⟨c,b⟩,.refl ..⟩
theorem Step.trans (x:Step hid md fr ex ι h aj h₁)(y:Step hid md fr ex aj h₁ aq h₂):Step hid md fr ex ι h aq h₂ where
 pre:=x.pre.trans y.pre
 c5:=λn a u=>(y.c5 n a u).elim (λe=>x.c5 n a e) λe=>.inr (by
  cases f:h.get? a with
  |none=>rfl
  |some c=>refine av (x.live a c f) λw g=>?_;rw[e]at g;exact TS g)
 ext:=λb c l j d=>by
  refine ah (x.ext b c l j d) λv o s=>?_;refine ah (y.ext b _ l (λn t e=>(x.c5 n b e).elim (j n t) λf=>by rw[f]at d;cases d) o) λq p m=>?_;exact⟨q,p,λk=>(m k).trans (s k)⟩
 live:=λb c d=>(x.live b c d).elim (y.live b)
 tup:=x.tup.trans y.tup
theorem Step.rv (x:Step p.hid md fr ex ι h aj h₁)(r:TQ p ι h v wv):TQ p aj h₁ v wv:=r.mono x.pre x.tup
theorem Step.lG (x:Step p.hid md fr ex ι h aj h₁){wv:e0 fB}(r:aT p ι h v wv):aT p aj h₁ v wv:=r.mono x.pre x.tup
theorem Step.weaken (x:Step hid md fr [] ι h aj h₁):Step hid md fr ex ι h aj h₁:=
 ⟨x.pre,x.c5,λb c e d a=>x.ext b c (by simp) d a,x.live,x.tup⟩
theorem Step.cX (x:Step hid md fr ex ι h aj h₁)(e:∀ a∈ex,a∈ex'):Step hid md fr ex' ι h aj h₁:=
 ⟨x.pre,x.c5,λa b f c d=>x.ext a b (λg=>f (e a g)) c d,x.live,x.tup⟩
theorem Step.mX (x:Step hid md fr ex ι h aj h₁)(y:Step hid f7 fr ex' aj h₁ aq h₂)(q:∀ b∈ex',b∈ex\/h.get? b=none)(u:∀ c b,f7 c=true->aj[c]?=some b->md c=true\/h.get? b=none):Step hid md fr ex ι h aq h₂ where
 pre:=x.pre.trans y.pre
 c5:=λc a t=>(y.c5 c a t).elim (λf=>x.c5 c a f) λf=>.inr (by
  cases d:h.get? a with
  |none=>rfl
  |some g=>refine av (x.live a g d) λaa j=>?_;rw[f]at j;exact TS j)
 ext:=λb g l m e=>by
  refine ah (x.ext b g l m e) λz s v=>?_;refine ah (y.ext b _ (λf=>(q b f).elim l λd=>by rw[d]at e;cases e) (λc w f=>(u c b w f).elim (λd=>(x.c5 c b f).elim (m c d) λd=>by rw[d]at e;cases e) λd=>by rw[d]at e;cases e) s) λo n p=>?_;exact⟨o,n,λk=>(p k).trans (v k)⟩
 live:=λb g e=>(x.live b g e).elim (y.live b)
 tup:=x.tup.trans y.tup
theorem Step.more (x:Step hid md fr ex ι h aj h₁)(e:∀ a,md a=true->f7 a=true):Step hid f7 fr ex ι h aj h₁:=
 ⟨x.pre,x.c5,λb c j d f=>x.ext b c j (λa g=>d a (e a g)) f,x.live,x.tup⟩
theorem Rel.lt (r:Rel p prog w aa fr ι σ h)(d:a∈ι):(∃ c,h.get? a=some c)/\∀ ws,¬ qv h a ws:=by
 obtain⟨i,b,rfl⟩:=List.getElem_of_mem d;have:i<σ.length:=r.len▸b;exact(r.obj i _ σ[i] (hv b) (hv this)).there
theorem Rel.VA (r:Rel p prog w aa fr ι σ h)(hn:h.get? a=none)(q:a∈ι):False:=by
 (refine az (r.lt q) λc e=>?_;rcases c with⟨d,b⟩)
 exact TS (hn.symm.trans b)
theorem Rel.EC (r:Rel p prog w aa fr ι σ h)(hn:h.get? a=none)(q:a∈dp fr):False:=by
 obtain⟨_,c,b,_⟩:=r.frames.mem q;exact TS (hn.symm.trans b)
theorem Rel.n0 (r:Rel p prog w aa fr ι σ h)(hn:h.get? a=none):aa.get? a=none:=by
 cases c:aa.get? a with
 |none=>rfl
 |some b=>exact TS (hn.symm.trans (r.stays a b c))
theorem Rel.UT (r:Rel p prog w aa fr ι σ h)(hn:h.get? a=none)(q:a∈p.hid.t):False:=(r.hid a q).elim λc b=>TS (hn.symm.trans b)
theorem Rel.nz (r:Rel p prog w aa fr ι σ h)(hn:h.get? a=none)(q:a∈p.hid.f):False:=(r.Uu a q).2.2.2.elim λc b=>TS (hn.symm.trans b)
theorem Rel.ED (r:Rel p prog w aa fr ι σ h){ws:uf fB}(t:qv h a ws):a∉ι:=λb=>(r.lt b).2 ws t
end
end
variable{m:jg->gN fB}{x l:k8}{p:P}{w:jo}{ρ:e0 (e5×V)}{σ ae U af ao:H}
section
structure Cfg where
 env:zs
 A:t2
 fr:e0 zs
 cm:e0 (e5×e5)
 md:e5->jW
 hn:gN Nat:=none
noncomputable def Hand (hn:gN e5)(A:t2)(ι:e0 hD):Prop:=match hn with
 |none=>A.handled=none
 |some n=>∃ a,ι[n]?=some a/\A.handled=some (.ref a)
theorem Hand.pre (x:Hand hn A ι)(b:ι<+:aw):Hand hn A aw:=by
 cases hn with
 |none=>exact x
 |some d=>refine ah x λa e c=>?_;exact⟨a,bC b e,c⟩
structure Base (p:P)(prog:ih)(w:jo)(aa:kb)(gl:e0 (jg×V)):Prop where
 qq:p.K.In aa
 nolimit:aa.NoLimit
 nodup:p.names.Nodup
 fns:∀ (k:e5) (a:hD),p.fa[k]?=some a->∃ o fd,aa.get? a=some o/\o.data=.func fd
 sys:∃ o,aa.get? kM=some o
 glob:∃ mg,aa.Ns jk mg/\∀ x v,gl.lookup x=some v->∃ wv,mg x=some wv/\TQ p [] aa v wv
 C9:∀ a∈p.hid.t,aa.get? a=none
 blt:∃ mg mb,aa.Ns jk mg/\aa.Ns mN mb/\∀ x v,p.bl.lookup x=some v->mg x=none/\mb x=some v
structure cH (C:Cfg):Prop where
 kind:C.env.scope.kind=.function
 glob:C.env.globals=jk
 blt:C.env.builtins=mN
 frames:C.A.frames=some C.fr
 handled:C.hn=none->C.A.handled=none
 depth:C.A.depth<=600
 units:C.A.units<=6000
structure Good (p:P)(prog:ih)(w:jo)(aa:kb)(C:Cfg)(ρ:e0 (e5×V))(ι:e0 hD)(σ:H)(m:jg->gN fB)(h:kb):Prop where
 rel:Rel p prog w aa C.fr ι σ h
 ns:h.Ns C.env.locals m
 dE:C.env.locals∉ι
 gH:aa.get? C.env.locals=none
 vars:∀ (x:e5) (id:jg) (v:V),p.names[x]?=some id->ρ.lookup x=some v->∃ wv,m id=some wv/\TQ p ι h v wv
 cells:∀ (x:e5) (id:jg) (n:e5),p.names[x]?=some id->C.cm.lookup x=some n->∃ a,ι[n]?=some a/\C.env.cells.lookup id=some a
 hand:Hand C.hn C.A ι
 U0:C.env.locals∉p.hid.f
section
variable{C:Cfg}
theorem lH (hn:h.Ns a m)(hk:∀ b,h.get? a=some b->∃ c,h'.get? a=some {b with slots:=c}):h'.Ns a m:=by
 refine fx hn λb d g f hd r=>?_;refine av (hk b f) λc e=>?_;exact gS _ d g e hd r
theorem Good.gb (g:Good p prog w aa C ρ ι σ m h)(r:Rel p prog w aa C.fr aw ae h')(x:Step p.hid md C.fr ex ι h aw h')(j:C.env.locals∉ex):Good p prog w aa C ρ aw ae m h' where
 rel:=r
 ns:=lH g.ns λf l=>(x.ext _ f j (λn k b=>g.dE (fz b)) l).imp λs b=>b.1
 dE:=λb=>(x.new _ b).elim g.dE λo=>by
  refine cB g.ns λf q t e k=>?_;rw[o]at e;exact TS e
 gH:=g.gH
 vars:=λy id v c d=>(g.vars y id v c d).imp λwv=>rZ x.rv
 cells:=λy id n c d=>(g.cells y id n c d).imp λa=>oa (bC x.pre)
 hand:=g.hand.pre x.pre
 U0:=g.U0
theorem Good.step (g:Good p prog w aa C ρ ι σ m h)(r:Rel p prog w aa C.fr aw ae h')(x:Step p.hid C.md C.fr [] ι h aw h'):Good p prog w aa C ρ aw ae m h':=g.gb r x (by intro h;cases h)
noncomputable def Ev (p:P)(prog:ih)(w:jo)(aa:kb)(C:Cfg)(ρ:e0 (e5×V))(t:FD fB)(σ:H)(v:V)(ae:H):Prop:=
 ∀ ι s m (Q:fB->gc->Prop) (E:fB->gc->Prop),Good p prog w aa C ρ ι σ m s.heap->
  (∀ aw h' a wv,Rel p prog w aa C.fr aw ae h'->Step p.hid C.md C.fr [] ι s.heap aw h'->TQ p aw h' v wv->Q wv {s with heap:=h',toks:=a})->
  ht (hh prog w) C.A t Q E s
noncomputable def Tv (p:P)(prog:ih)(w:jo)(aa:kb)(C:Cfg)(ρ:e0 (e5×V))(t:FD jW)(σ:H)(b:jW)(ae:H):Prop:=
 ∀ ι s m (Q:jW->gc->Prop) (E:fB->gc->Prop),Good p prog w aa C ρ ι σ m s.heap->
  (∀ aw h' a,Rel p prog w aa C.fr aw ae h'->Step p.hid C.md C.fr [] ι s.heap aw h'->Q b {s with heap:=h',toks:=a})->
  ht (hh prog w) C.A t Q E s
noncomputable def jY (p:P)(prog:ih)(w:jo)(aa:kb)(C:Cfg)(ρ:e0 (e5×V))(t:FD (e0 fB))(σ:H)(v:e0 V)(ae:H):Prop:=
 ∀ ι s m (Q:e0 fB->gc->Prop) (E:fB->gc->Prop),Good p prog w aa C ρ ι σ m s.heap->
  (∀ aw h' a wv,Rel p prog w aa C.fr aw ae h'->Step p.hid C.md C.fr [] ι s.heap aw h'->aT p aw h' v wv->Q wv {s with heap:=h',toks:=a})->
  ht (hh prog w) C.A t Q E s
noncomputable def bL (p:P)(prog:ih)(w:jo)(aa:kb)(C:Cfg)(f:fB->fB->FD fB)(a b:V)(σ:H)(v:V)(ae:H):Prop:=
 ∀ ι s d c (Q:fB->gc->Prop) (E:fB->gc->Prop),Rel p prog w aa C.fr ι σ s.heap->TQ p ι s.heap a d->TQ p ι s.heap b c->
  (∀ aw h' e wv,Rel p prog w aa C.fr aw ae h'->Step p.hid C.md C.fr [] ι s.heap aw h'->TQ p aw h' v wv->Q wv {s with heap:=h',toks:=e})->
  ht (hh prog w) C.A (f d c) Q E s
noncomputable def tw (p:P)(prog:ih)(w:jo)(aa:kb)(C:Cfg)(f:fB->FD fB)(a:V)(σ:H)(v:V)(ae:H):Prop:=
 ∀ ι s b (Q:fB->gc->Prop) (E:fB->gc->Prop),Rel p prog w aa C.fr ι σ s.heap->TQ p ι s.heap a b->
  (∀ aw h' c wv,Rel p prog w aa C.fr aw ae h'->Step p.hid C.md C.fr [] ι s.heap aw h'->TQ p aw h' v wv->Q wv {s with heap:=h',toks:=c})->
  ht (hh prog w) C.A (f b) Q E s
noncomputable def V6 (p:P)(prog:ih)(w:jo)(aa:kb)(C:Cfg)(a:V)(σ:H)(b:jW):Prop:=
 ∀ ι s c (Q:jW->gc->Prop) (E:fB->gc->Prop),Rel p prog w aa C.fr ι σ s.heap->TQ p ι s.heap a c->
  (∀ d,Q b {s with toks:=d})->ht (hh prog w) C.A (truthy c) Q E s
end
section
variable{C:Cfg}{v a b:V}{gl:e0 (jg×V)}
theorem Ev.none{k pos}:Ev p prog w aa C ρ (hF (.Constant .none k pos) C.env) σ .none σ:=
 λι s m Q E b a=>wpAny_Constant_none (a ι s.heap s.toks _ b.rel (.refl ..) .none)
theorem Ev.bool{b k pos}:Ev p prog w aa C ρ (hF (.Constant (.bool b) k pos) C.env) σ (.bool b) σ:=
 λι s m Q E c a=>wpAny_Constant_bool (a ι s.heap s.toks _ c.rel (.refl ..) (.bool b))
theorem Ev.int{i k pos}:Ev p prog w aa C ρ (hF (.Constant (.int i) k pos) C.env) σ (.int i) σ:=
 λι s m Q E b a=>wpAny_Constant_int (a ι s.heap _ _ b.rel (.refl ..) (.int i _))
theorem Ev.str{x:jg}{l k pos}(hx:x=⟨l.toArray⟩):Ev p prog w aa C ρ (hF (.Constant (.str x) k pos) C.env) σ (.str l) σ:=
 λι s m Q E b a=>wpAny_Constant_str (a ι s.heap _ _ b.rel (.refl ..) (by rw[hx];exact .str l _))
theorem Ev.local{x:e5}{id:jg}{pos}(c:cH C)(hx:p.names[x]?=some id)(hk:C.env.kindOf id=some .local)(f:ρ.lookup x=some v)(d:(id==("__debug__":jg))=false):
  Ev p prog w aa C ρ (hF (.Name id pos) C.env) σ v σ:=λι s m Q E a b=>by
 refine ah (a.vars x id v hx f) λwv e r=>?_;exact t3 (kV c.kind hk a.ns e (b ι s.heap s.toks _ a.rel (.refl ..) r)) d
theorem Good.cell{ι m h}(g:Good p prog w aa C ρ ι σ m h){x:e5}{id:jg}(hx:p.names[x]?=some id)(hn:C.cm.lookup x=some n)(e:σ[n]?=some (.cell (some v))):
  ∃ a wv,C.env.cells.lookup id=some a/\h.IsCell a (some wv)/\TQ p ι h v wv:=by
 refine ah (g.cells x id n hx hn) λa c f=>?_;refine ah (g.rel.obj n a _ c e) λwv b d=>?_;cases d with
 |some r=>exact gD a _ f b r
theorem Ev.cell{x:e5}{id:jg}{pos}(e:cH C)(hx:p.names[x]?=some id)(hk:C.env.kindOf id=some .cell)(hn:C.cm.lookup x=some n)(g:σ[n]?=some (.cell (some v)))(f:(id==("__debug__":jg))=false):
  Ev p prog w aa C ρ (hF (.Name id pos) C.env) σ v σ:=λι s m Q E b d=>by
 refine cg (b.cell hx hn g) λa wv h c r=>?_;exact t3 (wpAny_loadName_cell e.kind hk h c (d ι s.heap s.toks _ b.rel (.refl ..) r)) f
theorem Ev.free{x:e5}{id:jg}{pos}(e:cH C)(hx:p.names[x]?=some id)(hk:C.env.kindOf id=some .free)(hn:C.cm.lookup x=some n)(h:σ[n]?=some (.cell (some v)))(f:(id==("__debug__":jg))=false)(g:(id==("__classdict__":jg))=false):
  Ev p prog w aa C ρ (hF (.Name id pos) C.env) σ v σ:=λι s m Q E b d=>by
 refine cg (b.cell hx hn h) λa wv j c r=>?_;exact t3 (Fc e.kind hk j c (d ι s.heap s.toks _ b.rel (.refl ..) r) g) f
theorem stays_tup (r:Rel p prog w aa fr ι σ h){a:hD}{ws:uf fB}(t:qv aa a ws):qv h a ws:=
 rk (λb=>oa (r.stays _ _)) t
theorem Ev.global{id:jg}{pos}(B:Base p prog w aa gl)(d:cH C)(hk:C.env.kindOf id=some .globalImplicit)(l:gl.lookup id=some v)(h:(id==("__debug__":jg))=false):
  Ev p prog w aa C ρ (hF (.Name id pos) C.env) σ v σ:=λι s m Q E b f=>by
 refine ah B.glob λo j k=>?_;refine ah (k id v l) λwv c r=>?_;refine mR d.kind hk ?_ h;exact uk (d.glob▸j.keeps b.rel.stays) c (f ι s.heap s.toks _ b.rel (.refl ..) (r.mono (List.nil_prefix) ⟨λa ws n g=>stays_tup b.rel g,λa m e c=>b.rel.stays a e c⟩))
theorem Ev.binop{e pos}(h1:Ev p prog w aa C ρ (hF l C.env) σ a U)(h2:Ev p prog w aa C ρ (hF r C.env) U b af)(x:bL p prog w aa C (y1 e) a b af v ao):
  Ev p prog w aa C ρ (hF (.BinOp l e r pos) C.env) σ v ao:=λι s m Q E f n=>by
 refine wpAny_BinOp (h1 ι s m _ _ f λaj h₁ ak ae k d o=>?_);refine h2 aj _ m _ _ (f.step k d) λaq h₂ am t y c q=>?_;refine x aq _ ae t _ _ y (c.rv o) q λab ai z h u g j=>?_;exact n ab ai z h u ((d.trans c).trans g) j
theorem Ev.xX{c pos}(h1:Ev p prog w aa C ρ (hF l C.env) σ a U)(h2:Ev p prog w aa C ρ (hF r C.env) U b af)(x:bL p prog w aa C (n2 c) a b af v ao)(ak:zz c r=false):
  Ev p prog w aa C ρ (hF (.Compare l [c] [r] pos) C.env) σ v ao:=λι s m Q E f n=>by
 refine wpAny_Compare1 (h1 ι s m _ _ f λaj h₁ am ae k e o=>?_) ak;refine h2 aj _ m _ _ (f.step k e) λaq h₂ ap t y d q=>?_;refine x aq _ ae t _ _ y (d.rv o) q λab ai z h u g j=>?_;exact n ab ai z h u ((e.trans d).trans g) j
theorem Tv.of{b:jW}(h1:Ev p prog w aa C ρ (hF e C.env) σ a U)(h2:V6 p prog w aa C a U b)(j:qQ e C.env (hF e C.env)=(do let v<-hF e C.env;yc e.pos;zu [v] (truthy v))):
  Tv p prog w aa C ρ (qQ e C.env (hF e C.env)) σ b U:=λι s m Q E k f=>
 wpAny_isTrue_value (h1 ι s m _ _ k λaj h₁ n l c g h=>h2 aj _ l _ _ c h λd=>f aj h₁ d c g) j
theorem Tv.xX{c pos}{x:jW}(h1:Ev p prog w aa C ρ (hF l C.env) σ a U)(h2:Ev p prog w aa C ρ (hF r C.env) U b af)(u:bL p prog w aa C (n2 c) a b af (.bool x) ao)(ai:zz c r=false):
  Tv p prog w aa C ρ (qQ (.Compare l [c] [r] pos) C.env (hF (.Compare l [c] [r] pos) C.env)) σ x ao:=λι s m Q E f k=>by
 refine wpAny_isTrue_Compare1 (h1 ι s m _ _ f λaj h₁ am ab j e n=>?_) ai;refine h2 aj _ m _ _ (f.step j e) λaq h₂ ap q v d o=>?_;refine u aq _ ab q _ _ v (d.rv n) o λz ae y ak t g h=>?_;cases h;exact ly (k z ae y t ((e.trans d).trans g))
theorem Tv.not{pos d}{b:jW}(h1:Tv p prog w aa C ρ (qQ e C.env (hF e C.env)) σ b U):
  Tv p prog w aa C ρ (qQ (.UnaryOp .Not e pos) C.env d) σ (!b) U:=λι s m Q E c a=>
 wpAny_isTrue_Not (h1 ι s m _ _ c a)
theorem Tv.xY:Tv p prog w aa C ρ (zv .And [] C.env) σ true σ:=λι s m Q E b a=>wpAny_allTrue_And_nil (a ι s.heap s.toks b.rel (.refl ..))
theorem Tv.AY:Tv p prog w aa C ρ (zv .Or [] C.env) σ false σ:=λι s m Q E b a=>wpAny_allTrue_Or_nil (a ι s.heap s.toks b.rel (.refl ..))
theorem Tv.tz{rest}{b:jW}(h1:Tv p prog w aa C ρ (qQ x C.env (hF x C.env)) σ true U)(h2:Tv p prog w aa C ρ (zv .And rest C.env) U b af):
  Tv p prog w aa C ρ (zv .And (x::rest) C.env) σ b af:=λι s m Q E c f=>by
 refine Bt (h1 ι s m _ _ c λaj h₁ j h a=>?_);rw[hz rfl];exact h2 aj _ m _ _ (c.step h a) λaq h₂ g d e=>f aq h₂ g d (a.trans e)
theorem Tv.xZ{rest}(h1:Tv p prog w aa C ρ (qQ x C.env (hF x C.env)) σ false U):
  Tv p prog w aa C ρ (zv .And (x::rest) C.env) σ false U:=λι s m Q E d b=>by
 refine Bt (h1 ι s m _ _ d λaj h₁ a e c=>?_);rw[hb (by intro h;exact UC h)];exact b aj h₁ a e c
theorem Tv.x5{rest}{b:jW}(h1:Tv p prog w aa C ρ (qQ x C.env (hF x C.env)) σ false U)(h2:Tv p prog w aa C ρ (zv .Or rest C.env) U b af):
  Tv p prog w aa C ρ (zv .Or (x::rest) C.env) σ b af:=λι s m Q E c f=>by
 refine Dx (h1 ι s m _ _ c λaj h₁ k j a=>?_);rw[hb (by intro h;exact UC h)];exact h2 aj _ m _ _ (c.step j a) λaq h₂ g d e=>f aq h₂ g d (a.trans e)
theorem Tv.Db{rest}(h1:Tv p prog w aa C ρ (qQ x C.env (hF x C.env)) σ true U):
  Tv p prog w aa C ρ (zv .Or (x::rest) C.env) σ true U:=λι s m Q E d b=>by
 refine Dx (h1 ι s m _ _ d λaj h₁ a e c=>?_);rw[hz rfl];exact b aj h₁ a e c
theorem Tv.dL{pos f}{b:jW}(h1:Tv p prog w aa C ρ (zv c e C.env) σ b U):
  Tv p prog w aa C ρ (qQ (.BoolOp c e pos) C.env f) σ b U:=λι s m Q E d a=>wpAny_isTrue_BoolOp (h1 ι s m _ _ d a)
theorem Ev.fy{pos}{b:jW}(h1:Tv p prog w aa C ρ (qQ t C.env (hF t C.env)) σ b U)(h2:Ev p prog w aa C ρ (hF (if b then x else y) C.env) U v af):
  Ev p prog w aa C ρ (hF (.IfExp t x y pos) C.env) σ v af:=λι s m Q E g j=>by
 refine wpAny_IfExp (h1 ι s m _ _ g λaj h₁ l k a=>?_);cases b
 .exact h2 aj _ m _ _ (g.step k a) λaq h₂ e h c d f=>j aq h₂ e h c (a.trans d) f
 .exact h2 aj _ m _ _ (g.step k a) λaq h₂ e h c d f=>j aq h₂ e h c (a.trans d) f
theorem jY.nil{pos}:jY p prog w aa C ρ (pp (la pos (hu [] C.env))) σ [] σ:=λι s m Q E b a=>pa (a ι s.heap s.toks _ b.rel (.refl ..) .nil)
theorem jY.cons{pos}{e:k8}{rest:e0 k8}{vs:e0 V}(h1:Ev p prog w aa C ρ (hF e C.env) σ v U)(h2:jY p prog w aa C ρ (pp (la pos (hu rest C.env))) U vs af)
  (k:hu (e::rest) C.env=(false,hF e C.env)::hu rest C.env):jY p prog w aa C ρ (pp (la pos (hu (e::rest) C.env))) σ (v::vs) af:=λι s m Q E c f=>by
 refine lb (h1 ι s m _ _ c λaj h₁ n q l b g=>?_) k;exact h2 aj _ m _ _ (c.step l b) λaq h₂ h o d a j=>f aq h₂ h _ d (b.trans a) (.cons (a.rv g) j)
end
end
variable{hid:Vs}
section
section
variable{md:e5->jW}{fr:e0 zs}
theorem mY{α b:Type}{f:α->gN b}{c:α}{cs:e0 α}{as:e0 b}:(c::cs).mapM f=some as↔∃ a,f c=some a/\∃ l,cs.mapM f=some l/\a::l=as:=by
 simp only[y2,Fd,mA,JJ,mS]
theorem vP (d:ι<+:aw){cs:e0 e5}(h:cs.mapM (λi=>ι[i]?)=some as):cs.mapM (λi=>aw[i]?)=some as:=by
 induction cs generalizing as with
 |nil=>exact h
 |cons g cs f=>
  obtain⟨a,c,l,e,b⟩:=mY.mp h;exact mY.mpr ⟨a,bC d c,l,f e,b⟩
theorem U4.mono (hk:∀ c,h.get? a=some c->h'.get? a=some c)(b:ι<+:aw)(e:Kp p.hid h h')(x:U4 p prog w ι h co a):U4 p prog w aw h' co a:=by
 cases co with
 |list l=>refine ah x λws ak r=>?_;exact⟨ws,ak.at hk,r.mono b e⟩
 |dict j=>refine ba x λai k f r=>?_;exact eS ai (k.at hk) f (r.mono b e)
 |inst aa ao=>refine cg x λs j g d m=>?_;exact gD s j g (bC b d) (hk _ m)
 |ns aA=>refine b5 x λaf n f r=>?_;exact eT af n (hk _ f) (r.mono b e)
 |cell ay=>(refine ah x ?_;clear x;intro wv am r;rcases am with⟨c,g,d⟩);exact⟨wv,⟨c,hk _ g,d⟩,r.mono b e⟩
 |ic aa ax=>
  obtain⟨c,ap,aj,s,f,au,k,ab,ar,t,u,v,aq,o,as,q,ae,z,y⟩:=x;refine⟨c,ap,aj,s,hk _ f,au,k,ab,vP b ar,t,u,v,aq,o,as,q,?_,z,y⟩;rw[t]at q;cases q;exact e.f _ u _ ae
 |gK ao=>refine cg x λj o g d m=>?_;exact gD j o (bC b g) (hk _ d) m
theorem jQ o:Kp hid h (h.push o):=.ext λb ob a=>fw o a
theorem aW (h:kb):h.get? h.objs.size=none:=by
 cases a:h.get? h.objs.size with
 |none=>rfl
 |some b=>exact iv (hy a) (hW _)
theorem Step.push hid md fr ex ι h o:Step hid md fr ex ι h ι (h.push o) where
 pre:=fV
 c5:=λa a x=>.inl x
 ext:=λb ob a a c=>⟨ob.slots,fw o c,λa=>rfl⟩
 live:=λb ob c=>⟨ob,fw o c⟩
 tup:=jQ o
theorem Rel.push (r:Rel p prog w aa fr ι σ h) o:Rel p prog w aa fr ι σ (h.push o) where
 len:=r.len
 nodup:=r.nodup
 stays:=λb ob c=>fw o (r.stays b ob c)
 frames:=r.frames.of_keeps λb ob c g=>⟨ob,fw o c,rfl⟩
 dD:=r.dD
 new:=r.new
 hid:=λa d=>(r.hid a d).imp λob=>fw o
 Uu:=λa d=>nw (r.Uu a d) λob c=>⟨ob,fw o c⟩
 obj:=λi a co f e=>(r.obj i a co f e).mono (λob c=>fw o c) fV (jQ o)
theorem Rel.kH (r:Rel p prog w aa fr ι σ h)(c:a∈ι):a<h.objs.size:=(r.lt c).1.elim λd b=>hy b
theorem Rel.alloc (r:Rel p prog w aa fr ι σ h)(q:U4 p prog w (ι++[h.objs.size]) (h.push o) co h.objs.size):Rel p prog w aa fr (ι++[h.objs.size]) (σ++[co]) (h.push o) where
 len:=by rw[hg,hg,r.len];rfl
 nodup:=by
  rw[uP];refine⟨r.nodup,by simp,λa d b l e=>?_⟩;simp at l;have f:=r.kH d;rw[e,l]at f;exact iv f (hW _)
 stays:=(r.push o).stays
 frames:=(r.push o).frames
 dD:=λa d=>by
  rcases jd.mp d with d|d
  .exact r.dD a d
  .simp at d;subst d
   intro m;obtain⟨_,ob,e,_⟩:=r.frames.mem m;exact iv (hy e) (hW _)
 new:=λa d=>by
  rcases jd.mp d with d|d
  .exact r.new a d
  .simp at d;subst d;exact r.stays.fresh
 hid:=(r.push o).hid
 Uu:=λa d=>by
  obtain⟨x,n,s,ob,e⟩:=r.Uu a d;refine⟨λf=>?_,n,s,ob,fw o e⟩;rcases jd.mp f with f|f
  .exact x f
  .simp at f;subst f;rw[aW]at e;exact TS e
 obj:=λi a c g j=>by
  by_cases k:i<ι.length
  .rw[hN k]at g
   rw[hN (r.len▸k)]at j;exact(r.obj i a c g j).mono (λob e=>fw o e) (e1 ..) (jQ o)
  .have:i=ι.length:=by
    have:=(e4.mp g).1;simp at this;exact o0 k this
   subst this;rw[gO (e6 _)]at g;rw[gO (by rw[r.len];exact e6 _)]at j;simp at g;simp[r.len]at j;subst g;subst j;exact q
theorem Step.alloc hid md fr ex ι h o:Step hid md fr ex ι h (ι++[h.objs.size]) (h.push o) where
 pre:=e1 ..
 c5:=λn a b=>by
  by_cases c:n<ι.length
  .rw[hN c]at b;exact .inl b
  .rw[gO (mq c)]at b
   have:=fz b;simp at this;subst this;exact .inr (aW h)
 ext:=(Step.push hid md fr ex ι h o).ext
 live:=(Step.push hid md fr ex ι h o).live
 tup:=jQ o
theorem dF{l:e0 zs}(hk:∀ b∈dp l,∀ a,h.get? b=some a->h'.get? b=some a)(x:h.FunFrames j l):h'.FunFrames j l:=by
 induction l with
 |nil=>trivial
 |cons env e s=>
  (refine eR x ?_;clear x;intro g f m;rcases f with⟨c,a,d,o,p,k⟩)
  have n:dp (env::e)=c::dp e:=by simp[dp,d]
  rw[n]at hk;exact⟨g,⟨c,a,d,o,hk c (.head _) a p,k⟩,s (λb q=>hk b (.tail _ q)) m⟩
theorem cz (hs:og a h h')(hn:∀ ws,¬ qv h a ws)(hf:a∉hid.f):Kp hid h h':=⟨λb ws j d=>by
 by_cases c:b=a
 .subst c;exact iv d (hn ws)
 .refine ah d λob e x=>?_;exact⟨ob,(hs.2 b c).trans e,x⟩,λb m g c=>(hs.2 b λf=>hf (f▸m)).trans c⟩
theorem Rel.nf (r:Rel p prog w aa fr ι σ h)(b:a∈ι):a∉p.hid.f:=λc=>(r.Uu a c).1 b
theorem Rel.upd (r:Rel p prog w aa fr ι σ h)(hi:ι[i]?=some a)(hs:og a h h')(n:U4 p prog w ι h' co a)(q:md i=true):Rel p prog w aa fr ι (σ.set i co) h'/\Step p.hid md fr [] ι h ι h':=by
 have g:a∈ι:=fz hi;have UT:∀ ws,¬ qv h a ws:=λws s=>r.ED s g;have tp:=cz (hid:=p.hid) hs UT (r.nf g);refine⟨⟨by rw[JK,r.len],r.nodup,λb ob e=>?_,dF (λb f ob e=>(hs.2 b λd=>r.dD a g (d▸f)).trans e) r.frames,r.dD,r.new,λb f=>?_,λb f=>nw (r.Uu b f) λob e=>⟨ob,(hs.2 b λd=>(r.Uu b f).1 (d▸g)).trans e⟩,λm b c j k=>?_⟩,⟨fV,λl l x=>.inl x,λb ob l f e=>?_,λb ob e=>?_,tp⟩⟩
 .refine(hs.2 b λd=>?_).trans (r.stays b ob e)
  rw[d,r.new a g]at e;exact TS e
 .refine av (r.hid b f) λob e=>?_
  by_cases d:b=a
  .subst d;exact n.there.1
  .exact⟨ob,(hs.2 b d).trans e⟩
 .by_cases d:m=i
  .subst d
   rw[hi]at j;cases j;have:m<σ.length:=r.len▸(e4.mp hi).1;rw[Bu this]at k;cases k;exact n
  .rw[pq (λo=>d o.symm)]at k
   have u:b≠a:=λo=>by
    subst o;have t:=e4.mp j;have v:=e4.mp hi;exact d ((nu r.nodup).mp (t.2.trans v.2.symm))
   exact(r.obj m b c j k).mono (λob e=>(hs.2 b u).trans e) fV tp
 .refine⟨ob.slots,(hs.2 b λd=>f i q (d▸hi)).trans e,λl=>rfl⟩
 .by_cases d:b=a
  .subst d;exact n.there.1
  .exact⟨ob,(hs.2 b d).trans e⟩
theorem Rel.ext (r:Rel p prog w aa fr ι σ h)(hk:∀ d c,h.get? d=some c->h'.get? d=some c):Rel p prog w aa fr ι σ h'/\∀ md g,Step p.hid md fr g ι h ι h':=by
 have tp:Kp p.hid h h':=.ext hk;exact⟨⟨r.len,r.nodup,λd c b=>hk _ _ (r.stays d c b),r.frames.of_keeps λd c b e=>⟨c,hk _ _ b,rfl⟩,r.dD,r.new,λa f=>(r.hid a f).imp λob=>hk _ _,λa f=>nw (r.Uu a f) λob b=>⟨ob,hk _ _ b⟩,λi a co k j=>(r.obj i a co k j).mono (λob b=>hk _ _ b) fV tp⟩,
  λmd g=>⟨fV,λe e x=>.inl x,λd c e e b=>⟨c.slots,hk _ _ b,λe=>rfl⟩,λd c b=>⟨c,hk _ _ b⟩,tp⟩⟩
end
end
variable{elts:e0 k8}{vs:e0 V}{x:e5}{rest:e0 rf}{C:Cfg}{ai au:e0 (e5×V)}{a:V}
section
inductive Uk where
 |next|brk|cont
 |ret (v:V)
inductive RF (p:P)(ι:e0 hD)(h:kb):Uk->Km->Prop
 |next:RF p ι h .next .next
 |brk:RF p ι h .brk .brk
 |cont:RF p ι h .cont .cont
 |ret {v:V} {wv:fB}:TQ p ι h v wv->RF p ι h (.ret v) (.ret wv)
noncomputable def TZ (p:P)(prog:ih)(w:jo)(aa:kb)(C:Cfg)(t:FD Km)(ρ:e0 (e5×V))(σ:H)(f:Uk)(am:e0 (e5×V))(ae:H):Prop:=
 ∀ ι s m (Q:Km->gc->Prop) (E:fB->gc->Prop),Good p prog w aa C ρ ι σ m s.heap->
  (∀ aw h' b c a,Good p prog w aa C am aw ae c h'->Step p.hid C.md C.fr [C.env.locals] ι s.heap aw h'->RF p aw h' f a->Q a {s with heap:=h',toks:=b})->
  ht (hh prog w) C.A t Q E s
noncomputable def Ue (p:P)(prog:ih)(w:jo)(aa:kb)(C:Cfg)(t:fB->FD GK)(v:V)(ρ:e0 (e5×V))(σ:H)(am:e0 (e5×V))(ae:H):Prop:=
 ∀ ι s m wv (Q:GK->gc->Prop) (E:fB->gc->Prop),Good p prog w aa C ρ ι σ m s.heap->TQ p ι s.heap v wv->
  (∀ aw h' a b,Good p prog w aa C am aw ae b h'->Step p.hid C.md C.fr [C.env.locals] ι s.heap aw h'->Q () {s with heap:=h',toks:=a})->
  ht (hh prog w) C.A (t wv) Q E s
noncomputable def x6 (p:P)(prog:ih)(w:jo)(aa:kb)(md:e5->jW)(hn:gN e5)(d:e5)(k:e5)(args:e0 V)(σ:H)(v:V)(ae:H):Prop:=
 ∀ (A:t2) (fr:e0 zs) ι s (a:hD) ws (X:tc->gc->Prop),A.frames=some fr->Hand hn A ι->A.depth+d<=600->A.units+10*d<=6000->p.fa[k]?=some a->
  Rel p prog w aa fr ι σ s.heap->aT p ι s.heap args ws->
  (∀ aw h' b wv,Rel p prog w aa fr aw ae h'->Step p.hid md fr [] ι s.heap aw h'->TQ p aw h' v wv->X (.ok (.ret wv)) {s with heap:=h',toks:=b})->
  kC (hh prog w) A (.call (.ref a) ⟨ws,[]⟩) X s
theorem j3{l:e0 zs}(hk:∀ b∈dp l,∀ a,h.get? b=some a->(∀ vs,a.data≠.fields vs)->∃ c,h'.get? b=some c/\∀ vs,c.data≠.fields vs)(x:h.FunFrames j l):h'.FunFrames j l:=by
 induction l with
 |nil=>trivial
 |cons env rest q=>
  (refine eR x ?_;clear x;intro g f m;rcases f with⟨d,a,e,o,p,k⟩)
  have n:dp (env::rest)=d::dp rest:=by simp[dp,e]
  rw[n]at hk;exact(hk d (.head _) a p k).elim λc t=>⟨g,⟨d,c,e,o,t⟩,q (λb s=>hk b (.tail _ s)) m⟩
section
variable{v b:V}{gl:e0 (jg×V)}{f:Uk}
theorem Ev.list{pos}(h1:jY p prog w aa C ρ (pp (la pos (hu elts C.env))) σ vs U)(h:vs.length<=lg):
  Ev p prog w aa C ρ (hF (.List elts pos) C.env) σ (.h U.length) (U++[.list vs]):=λι s m Q E g e=>by
 refine wpAny_List (h1 ι s m _ _ g λaj h₁ d b c f a=>⟨a.length▸h,?_⟩);have st:=Step.alloc p.hid C.md C.fr [] aj h₁ {cls:=.type "list",data:=.seq b.toArray};refine e _ _ d _ (c.alloc ⟨b,⟨0,gR _ rfl⟩,st.lG a⟩) (f.trans st) (.h ?_);rw[<-c.len];simp
theorem Ev.tuple{k pos}(h1:jY p prog w aa C ρ (pp (la pos (hu elts C.env))) σ vs U)(h:vs.length<=lg):
  Ev p prog w aa C ρ (hF (.Tuple elts k pos) C.env) σ (.tup vs) U:=λι s m Q E g d=>by
 refine wpAny_Tuple (h1 ι s m _ _ g λaj h₁ c j b e a=>⟨a.length▸h,?_⟩);have st:=Step.push p.hid C.md C.fr [] aj h₁ {cls:=.type "tuple",data:=.seq j.toArray};exact d _ _ c _ (b.push _) (e.trans st) (.tup (λl=>by
  refine av (b.hid _ l) λn f=>?_;exact iv (hy f) (hW _)) ⟨_,gR _ rfl,rfl,0,rfl⟩ (st.lG a))
theorem Good.store (ap:p.names.Nodup){ι m h h' wv}{id:jg}(g:Good p prog w aa C ρ ι σ m h)(hx:p.names[x]?=some id)(r:TQ p ι h v wv)(hn:h'.Ns C.env.locals (λf=>if f=id then some wv else m f))(hs:og C.env.locals h h'):
  Good p prog w aa C ((x,v)::ρ) ι σ (λf=>if f=id then some wv else m f) h'/\Step p.hid C.md C.fr [C.env.locals] ι h ι h':=by
 have au:∀ a∈ι,a≠C.env.locals:=λa q c=>g.dE (c▸q);have ao:∀ ws,¬ qv h C.env.locals ws:=λws aq=>by
  obtain⟨e,c,ax,aw,u⟩:=aq;refine fx g.ns λo ab z n t j=>?_;rw[c]at n;cases n;rw[u]at t;cases t
 have as:C.env.locals∉p.hid.f:=g.U0;have tp:=cz (hid:=p.hid) hs ao as;have UH:h'.FunFrames aa C.fr:=by
  refine j3 (λb j e c u=>?_) g.rel.frames;by_cases d:b=C.env.locals
  .subst d
   refine fx hn λo ab z n t j=>?_;exact⟨o,n,λvs s=>by rw[t]at s;cases s⟩
  .exact⟨e,(hs.2 b d).trans c,u⟩
 have y:∀ b e,h.get? b=some e->∃ o,h'.get? b=some o:=λb e c=>by
  by_cases d:b=C.env.locals
  .subst d;refine cB hn λo ab z n j=>?_;exact⟨o,n⟩
  .exact⟨e,(hs.2 b d).trans c⟩
 have st:Step p.hid C.md C.fr [C.env.locals] ι h ι h':=⟨fV,λj j x=>.inl x,λb e am j c=>⟨e.slots,(hs.2 b λd=>am (by exact gP.mpr d)).trans c,λj=>rfl⟩,y,tp⟩;refine⟨⟨⟨g.rel.len,g.rel.nodup,λb e c=>(hs.2 b λd=>?_).trans (g.rel.stays b e c),UH,g.rel.dD,g.rel.new,λa q=>(g.rel.hid a q).elim (y a),λa q=>nw (g.rel.Uu a q) (y a),λi a co k l=>?_⟩,hn,g.dE,g.gH,λf ae ai k l=>?_,g.cells,g.hand,g.U0⟩,st⟩
 .rw[d,g.gH]at c;exact TS c
 .exact(g.rel.obj i a co k l).mono (λe c=>(hs.2 a (au a (fz k))).trans c) fV tp
 .by_cases d:f=x
  .subst d
   rw[hx]at k;cases k;simp at l;subst l;exact⟨wv,by exact hz rfl,st.rv r⟩
  .have hid:ae≠id:=λs=>by
    subst s;have ar:=e4.mp k;have aj:=e4.mp hx;exact d ((nu ap).mp (ar.2.trans aj.2.symm))
   have:(f==x)=false:=by exact kB d
   rw[hL,this]at l;refine ah (g.vars f ae ai k l) λaf c ak=>?_;exact⟨af,by simp[hid,c],st.rv ak⟩
set_option tactic.hygienic true in
theorem TZ.nil:TZ p prog w aa C (execs [] C.env) ρ σ .next ρ σ:=λι a m Q d c b=>pb (b ι a.heap a.toks m _ c (.refl ..) .next)
set_option tactic.hygienic true in
theorem TZ.cons{st:rf}{rest:e0 rf}(h1:TZ p prog w aa C (s0 st C.env) ρ σ .next ai U)(h2:TZ p prog w aa C (execs rest C.env) ai U f au af):
  TZ p prog w aa C (execs (st::rest) C.env) ρ σ f au af:=λι s m Q E k c=>by
 refine kE (h1 ι s m _ _ k λaj h₁ n l a d e r=>?_);cases r;exact h2 aj _ l _ _ d λaq h₂ h g a j b r=>c aq h₂ h g a j (e.trans b) r
theorem TZ.stop{st:rf}{rest:e0 rf}(h1:TZ p prog w aa C (s0 st C.env) ρ σ f ai U)(hf:f≠.next):
  TZ p prog w aa C (execs (st::rest) C.env) ρ σ f ai U:=λι s m Q E g c=>by
 refine kE (h1 ι s m _ _ g λaj h₁ a h b d e r=>?_);have:=c aj h₁ a h b d e r;cases r with
 |next=>exact iv rfl hf
 |brk=>exact this
 |cont=>exact this
 |ret _=>exact this
theorem TZ.ret{pos}(h1:Ev p prog w aa C ρ (hF e C.env) σ v U):TZ p prog w aa C (s0 (.Return (some e) pos) C.env) ρ σ (.ret v) ρ U:=λι s m Q E b d=>
 wpAny_Return_some (h1 ι s m _ _ b λaj h₁ c h g a f=>d aj h₁ c m _ (b.step g a) a.weaken (.ret f))
theorem TZ.IU{pos}:TZ p prog w aa C (s0 (.Return none pos) C.env) ρ σ (.ret .none) ρ σ:=λι s m Q E b a=>
 wpAny_Return_none (a ι s.heap s.toks m _ b (.refl ..) (.ret .none))
theorem TZ.cont{pos}:TZ p prog w aa C (s0 (.Continue pos) C.env) ρ σ .cont ρ σ:=λι s m Q E b a=>wpAny_Continue (a ι s.heap s.toks m _ b (.refl ..) .cont)
theorem TZ.iff{x:e0 rf}{pos}{b:jW}(h1:Tv p prog w aa C ρ (qQ t C.env (hF t C.env)) σ b U)(h2:TZ p prog w aa C (execs (if b then x else y) C.env) ρ U f au af):
  TZ p prog w aa C (s0 (.If t x y pos) C.env) ρ σ f au af:=λι s m Q E j k=>by
 refine wpAny_If (h1 ι s m _ _ j λaj h₁ n l a=>?_);cases b
 .exact h2 aj _ m _ _ (j.step l a) λaq h₂ g e c h d r=>k aq h₂ g e c h (a.weaken.trans d) r
 .exact h2 aj _ m _ _ (j.step l a) λaq h₂ g e c h d r=>k aq h₂ g e c h (a.weaken.trans d) r
theorem Ue.local{id:jg}(b:p.names.Nodup)(f:cH C)(hx:p.names[x]?=some id)(hk:C.env.kindOf id=some .local):
  Ue p prog w aa C (λwv=>yy C.env id wv) v ρ σ ((x,v)::ρ) σ:=λι s m wv Q E a c e=>
 wpAny_storeName_local hk a.ns (λh' g d=>(a.store b hx c g d).elim (e ι h' _ _)) (by rw[f.kind];rfl)
theorem Ue.cell{id:jg}(k:cH C)(hx:p.names[x]?=some id)(hk:C.env.kindOf id=some .cell)(hn:C.cm.lookup x=some n)(o:σ[n]?=some (.cell ov))(t:C.md n=true):
  Ue p prog w aa C (λwv=>yy C.env id wv) v ρ σ ρ (σ.set n (.cell (some v))):=λι s m wv Q E b h j=>by
 refine ah (b.cells x id n hx hn) λa c q=>?_;refine ah (b.rel.obj n a _ c o) λu f y=>?_;refine wpAny_storeName_cell k.kind hk q f λh' g e=>?_;have tp:=cz (hid:=p.hid) e (b.rel.lt (fz c)).2 (b.rel.nf (fz c));refine az (b.rel.upd c e (co:=.cell (some v)) ⟨some wv,g,.some (h.mono fV tp)⟩ t) λl d=>?_;exact j ι h' _ m (b.step l d) d.weaken
end
end
variable{y:e5}
section
inductive A2 (p:P)(ι:e0 hD)(h:kb):e0 (e5×V)->e0 (jg×fB)->Prop
 |nil:A2 p ι h [] []
 |cons {x:e5} {id:jg} {v:V} {wv:fB} {l l'}:p.names[x]?=some id->TQ p ι h v wv->A2 p ι h l l'->A2 p ι h ((x,v)::l) ((id,wv)::l')
section
theorem A2.append{l:e0 _}(x:A2 p ι h l c)(y:A2 p ι h k e):A2 p ι h (l++k) (c++e):=by
 induction x with
 |nil=>exact y
 |cons a b _ d=>exact .cons a b d
theorem A2.reverse{l:e0 _}(x:A2 p ι h l c):A2 p ι h l.reverse c.reverse:=by
 induction x with
 |nil=>exact .nil
 |cons a b _ d=>rw[pz,pz];exact d.append (.cons a b .nil)
theorem gd (c:p.names.Nodup){id:jg}(h1:p.names[x]?=some id)(h2:p.names[y]?=some id):x=y:=by
 have a:=e4.mp h1;have b:=e4.mp h2;exact(nu c).mp (a.2.trans b.2.symm)
theorem A2.lookup (g:p.names.Nodup){l:e0 _}(x:A2 p ι h l d){id:jg}(f:p.names[y]?=some id)(e:l.lookup y=some v):∃ wv,d.lookup id=some wv/\TQ p ι h v wv:=by
 induction x with
 |nil=>exact TS e
 |@cons x c n j l d a r _ k=>
  by_cases b:y=x
  .subst b
   rw[f]at a;cases a;rw[hL]at e;simp at e;subst e;exact⟨j,by exact dY,r⟩
  .have hid:id≠c:=λm=>b (gd g f (m▸a))
   have:(y==x)=false:=by exact kB b
   rw[hL,this]at e;have:(id==c)=false:=by exact kB hid
   rw[hL,this];exact k e
theorem A2.zip{ns:e0 e5}(hn:ns.mapM (λx=>p.names[x]?)=some xs)(r:aT p ι h vs ws):A2 p ι h (ns.zip vs) (xs.zip ws):=by
 induction ns generalizing xs vs ws with
 |nil=>simp at hn;subst hn;exact .nil
 |cons g ns e=>
  simp only[y2,Fd,mA,JJ,mS]at hn;obtain⟨x,c,f,d,rfl⟩:=hn;cases r with
  |nil=>exact .nil
  |cons a b=>exact .cons c a (e d b)
end
noncomputable def Uk.val:Uk->V
 | .ret v=>v
 |_=>.none
section
variable{md:e5->jW}{gl:e0 (jg×V)}
theorem Rel.tail{ι h}(r:Rel p prog w aa (env::fr) ι σ h):Rel p prog w aa fr ι σ h where
 len:=r.len
 nodup:=r.nodup
 stays:=r.stays
 frames:=r.frames.2.2
 dD:=λa e f=>r.dD a e (by
  (refine eR r.frames λc b c=>?_;rcases b with⟨j,_,d,_⟩)
  simp only[dp,m8,d];exact mD _ f)
 new:=r.new
 hid:=r.hid
 Uu:=λa e=>by
  refine ql (r.Uu a e) λx y z g=>?_;refine js x (λf=>y ?_) z g
  (refine eR r.frames λc b c=>?_;rcases b with⟨j,_,d,_⟩)
  simp only[dp,m8,d];exact mD _ f
 obj:=r.obj
theorem Rel.enter{ι h L}(r:Rel p prog w aa fr ι σ h)(hf:env.frame=some L)(hk:env.scope.kind=.function)(f:aa.get? L=none)(g:L∉ι)(j:L∉p.hid.f){m}(hn:h.Ns L m):Rel p prog w aa (env::fr) ι σ h where
 len:=r.len
 nodup:=r.nodup
 stays:=r.stays
 frames:=by
  refine fx hn λd k n e hd l=>?_;exact⟨by rw[hk];simp,⟨L,d,hf,f,e,λvs b=>by rw[hd]at b;cases b⟩,r.frames⟩
 dD:=λa c b=>by
  simp only[dp,m8,hf]at b;rcases hr.mp b with rfl|b
  .exact g c
  .exact r.dD a c b
 new:=r.new
 hid:=r.hid
 Uu:=λa c=>by
  refine ql (r.Uu a c) λx y z d=>?_;refine js x (λb=>?_) z d;simp only[dp,m8,hf]at b;rcases hr.mp b with b|b
  .exact j (b▸c)
  .exact y b
 obj:=r.obj
theorem Rel.l9{ι h a}(r:Rel p prog w aa fr ι σ h)(c:h.get? a=none):a∉p.hid.f:=λd=>by
 obtain⟨_,_,_,e,b⟩:=r.Uu a d;rw[c]at b;exact TS b
theorem Step.mZ (hf:env.frame=some L)(e:Step p.hid md fr [] ι g aj h)(x:Step p.hid md (env::fr) [L] aj h aw h')(q:g.get? L=none):Step p.hid md fr [] ι g aw h' where
 pre:=e.pre.trans x.pre
 c5:=λn a v=>(x.c5 n a v).elim (λd=>e.c5 n a d) λd=>.inr (by
  cases f:g.get? a with
  |none=>rfl
  |some j=>refine av (e.live a j f) λz c=>?_;rw[d]at c;exact TS c)
 ext:=λb j w k c=>by
  have l:b≠L:=λd=>by rw[d,q]at c;exact TS c
  refine ah (e.ext b j w k c) λy s q0=>?_;refine ah (x.ext b _ (by exact Hu l) (λn u d=>(e.c5 n b d).elim (k n u) λf=>by rw[f]at c;cases c) s) λt o d=>?_;refine⟨t,o,λm=>(d λk=>?_).trans (q0 m)⟩;simp only[dp,m8,hf]at k;rcases hr.mp k with f|f
  .exact l f
  .exact m f
 live:=λb j c=>(e.live b j c).elim (x.live b)
 tup:=e.tup.trans x.tup
end
end
variable{l ns fp:e0 e5}{m xs:e0 jg}{hx:gN e5}{d:e5}{a0:hD}{fd:qx}{body:e0 rf}
section
theorem vQ k binds m y (e:k y=some .local):bindL k binds m y=(binds.reverse.lookup y).or (m y):=by
 induction binds generalizing m with
 |nil=>rfl
 |cons c r d=>
  obtain⟨a,f⟩:=c;rw[bindL,d,pz,y3,JL];congr 1;by_cases b:y=a
  .subst b;simp[e]
  .have:(y==a)=false:=kB b
   by_cases c:k a=some .local<;>simp[c,b,this,hL]
theorem vR k binds m y (e:k y≠some .local):bindC k binds m y=(binds.reverse.lookup y).or (m y):=by
 induction binds generalizing m with
 |nil=>rfl
 |cons c r d=>
  obtain⟨a,f⟩:=c;rw[bindC,d,pz,y3,JL];congr 1;by_cases b:y=a
  .subst b;simp[e]
  .have:(y==a)=false:=kB b
   by_cases c:k a=some .local<;>simp[c,b,this,hL]
noncomputable def aC (a:e0 (jg×oL)):e0 Str:=(a.filter λx=>x.2==.cell).map (λq=>q.1)
theorem pk names n acc:Hr n names acc=((aC names).zip (sF n (aC names).length)).reverse++acc:=by
 induction names generalizing n acc with
 |nil=>rfl
 |cons c r b=>
  obtain⟨x,a⟩:=c;show(if a==.cell then Hr (n+1) r ((x,n)::acc)else Hr n r acc)=_;by_cases hk:(a==.cell)=true
  .rw[hz hk,b]
   have:aC ((x,a)::r)=x::aC r:=by rw[aC,lf,hk];rfl
   rw[this,ol,List.range'_succ];simp
  .rw[hb hk,b]
   have:aC ((x,a)::r)=aC r:=by simp[aC,lf,hk]
   rw[this]
theorem dG{α b:Type} [BEq α] [Aa α] {l:e0 (α×b)}{x:α}{v:b}(h:l.lookup x=some v):(x,v)∈l:=by
 induction l with
 |nil=>exact TS h
 |cons d r e=>
  obtain⟨c,u⟩:=d;rw[hL]at h;cases a:x==c with
  |true=>rw[a]at h;rw[eq_of_beq a,<-fZ h];exact .head _
  |false=>rw[a]at h;exact .tail _ (e h)
theorem kI{α d:Type} [BEq α] [Aa α] {l:e0 (α×d)}(hn:(l.map (λc=>c.1)).Nodup){x:α}{y:d}(h:(x,y)∈l):l.lookup x=some y:=by
 induction l with
 |nil=>exact nomatch h
 |cons c l e=>
  obtain⟨a,f⟩:=c;rw[iO,ku]at hn;rcases hr.mp h with b|h
  .cases b;exact dY
  .rw[cZ λb:x=a=>hn.1 (b▸h4.mpr ⟨(x,y),h,rfl⟩)];exact e hn.2 h
theorem A2.lookup_none (d:p.names.Nodup){l:e0 _}(x:A2 p ι h l c){id:jg}(n:p.names[y]?=some id)(e:l.lookup y=none):c.lookup id=none:=by
 induction x with
 |nil=>rfl
 |@cons x b q o l c f r _ k=>
  by_cases a:y=x
  .subst a;rw[hL]at e;simp at e
  .have hid:id≠b:=λm=>a (gd d n (m▸f))
   have g:(y==x)=false:=by exact kB a
   rw[hL,g]at e;have j:(id==b)=false:=by exact kB hid
   rw[hL,j];exact k e
theorem A2.ro (a:p.names.Nodup){l:e0 _}(x:A2 p ι h l e){id:jg}(c:p.names[y]?=some id):VB p ι h (l.lookup y) (e.lookup id):=by
 cases b:l.lookup y with
 |none=>rw[x.lookup_none a c b];exact .none
 |some f=>refine ah (x.lookup a c b) λwv d r=>?_;rw[d];exact .some r
theorem ju{α:Type}{f:e5->jW}{l:e0 (e5×α)}{v:α}(h:(l.filter λb=>f b.1).lookup x=some v):l.lookup x=some v/\f x=true:=by
 induction l with
 |nil=>exact TS h
 |cons b l d=>
  obtain⟨a,g⟩:=b;rw[lf]at h;by_cases c:f a=true
  .rw[hz c]at h
   by_cases e:x=a
   .subst e;rw[dY]at h ⊢;exact⟨h,c⟩
   .rw[cZ e]at h ⊢
    exact d h
  .rw[hb c]at h
   rw[cZ λb:x=a=>c (b▸(d h).2)];exact d h
section
variable{md:e5->jW}{gl:e0 (jg×V)}
theorem Rel.qr (r:Rel p prog w aa fr ι σ h)(hk:∀ s d,h.get? s=some d->h'.get? s=some d)(ae:as.length=cs.length)(ai:as.Nodup)(hf:∀ a∈as,h.get? a=none)(ab:∀ (i:e5) (a:hD) (c:TH),as[i]?=some a->cs[i]?=some c->U4 p prog w (ι++as) h' c a):Rel p prog w aa fr (ι++as) (σ++cs) h'/\∀ md k,Step p.hid md fr k ι h (ι++as) h':=by
 refine az (r.ext hk) λq st=>?_;refine⟨⟨by simp[r.len,ae],?_,q.stays,q.frames,λa b e=>?_,λa b=>?_,q.hid,λa b=>?_,λi a c l g=>?_⟩,λmd k=>⟨e1 ..,λn a b=>?_,(st md k).ext,(st md k).live,(st md k).tup⟩⟩
 .rw[uP]
  refine⟨r.nodup,ai,λa b s af f=>?_⟩;subst f
  (refine az (r.lt b) λz v=>?_;rcases z with⟨d,j⟩)
  rw[hf a af]at j;exact TS j
 .rcases jd.mp b with b|b
  .exact r.dD a b e
  .obtain⟨_,d,j,_⟩:=r.frames.mem e
   rw[hf a b]at j;exact TS j
 .rcases jd.mp b with b|b
  .exact r.new a b
  .cases o:aa.get? a with
   |none=>rfl
   |some d=>have:=r.stays a d o;rw[hf a b]at this;exact TS this
 .obtain⟨x,y,o,d,f⟩:=r.Uu a b
  refine⟨λe=>?_,y,o,d,hk _ _ f⟩;rcases jd.mp e with e|e
  .exact x e
  .rw[hf a e]at f;exact TS f
 .by_cases m:i<ι.length
  .rw[hN m]at l
   rw[hN (r.len▸m)]at g;exact(r.obj i a c l g).mono (λob f=>hk _ _ f) (e1 ..) (st (λv=>true) []).tup
  .have t:ι.length<=i:=mq m
   rw[gO t]at l;rw[gO (r.len▸t)]at g;rw[<-r.len]at g;exact ab _ a c l g
 .by_cases u:n<ι.length
  .rw[hN u]at b;exact .inl b
  .rw[gO (mq u)]at b
   exact .inr (hf a (fz b))
theorem Rel.kJ{a:hD}(r:Rel p prog w aa fr ι σ h)(hk:∀ b e,h.get? b=some e->h'.get? b=some e)(l:h.get? a=none)(k:U4 p prog w (ι++[a]) h' c a):
  Rel p prog w aa fr (ι++[a]) (σ++[c]) h'/\(∀ md j,Step p.hid md fr j ι h (ι++[a]) h')/\TQ p (ι++[a]) h' (.h σ.length) (.ref a):=
 have x:=r.qr hk (as:=[a]) (cs:=[c]) rfl (ku.mpr ⟨h6,.nil⟩) (λb m=>gP.mp m▸l) λi b d f g=>by
  cases i with
  |zero=>exact fZ f▸fZ g▸k
  |succ i=>exact TS f
 ⟨x.1,x.2,.h (by rw[<-r.len];exact List.getElem?_concat_length ..)⟩
theorem pN (h:(n::l).mapM (λx=>p.names[x]?)=some m):∃ id a,m=id::a/\p.names[n]?=some id/\l.mapM (λx=>p.names[x]?)=some a:=by
 rw[y2]at h;refine ah (mA.mp h) λid c h=>?_;refine ah (mA.mp h) λa b h=>?_;exact gD id a ((fZ h).symm) c b
theorem vS:∀ {m:e0 jg},l.mapM (λx=>p.names[x]?)=some m->l.length=m.length:=by
 induction l with
 |nil=>exact λh=>hC nl (fZ h)
 |cons f l b=>
  intro m h
  (refine cg (pN h) λid g a e c=>?_;subst a)
  exact hC (λd=>d+1) (b c)
theorem nA:∀ {m:e0 jg},l.mapM (λx=>p.names[x]?)=some m->∀ {i x:e5},l[i]?=some x->∃ id,m[i]?=some id/\p.names[x]?=some id:=by
 induction l with
 |nil=>exact λb b b a=>TS (uI▸a)
 |cons g l f=>
  intro m h i x a
  (refine cg (pN h) λid j c d e=>?_;subst c)
  cases i with
  |zero=>exact⟨id,rfl,fZ a▸d⟩
  |succ i=>exact f e a
noncomputable def IW:Km->fB
 | .ret v=>v
 |_=>.none
@[reducible] noncomputable def Dc (A:t2) (fr:e0 zs) (env:zs) (cm:e0 (e5×e5)) (md:e5->jW) (hx:gN e5):Cfg:=⟨env,A.deeper env,env::fr,cm,md,hx⟩
theorem qs (B:Base p prog w aa gl)(a4:A.frames=some fr)(aV:Hand hx A ι)(ae:A.depth+(d+1)<=600)(aL:A.units+10*(d+1)<=6000)(a6:s.heap.get? a0=some o)(a5:o.data=.func fd)(bd:s.heap.CodeRec fd.code fd.qualname)(bo:fd.body=.stmts body)(bm:ns.mapM (λx=>p.names[x]?)=some xs)(bi:∀ ws:e0 fB,ws.length=args.length->qR fd ⟨ws,[]⟩=pure (xs.zip ws))(n:fp.mapM (λx=>p.names[x]?)=some (aC fd.scope.names))(a2:(aC fd.scope.names).Nodup)(aO:∀ x∈xs,fd.scope.names.lookup x=some .local\/fd.scope.names.lookup x=some .cell/\x∈aC fd.scope.names)(a1:∀ x∈aC fd.scope.names,fd.scope.names.lookup x=some .cell)(bt:fd.globals=jk)(bs:fd.builtins=mN)(bE:fd.closure=[])(bb:fd.scope.isCoroutine=false)(bl:fd.scope.isGenerator=false)(hk:fd.scope.kind=.function)(r:Rel p prog w aa fr ι σ s.heap)(vs:aT p ι s.heap args ws)(run:∀ (env:zs) (as:e0 hD) (h₁:kb) (bn:QN) (m:jg->gN fB),env.scope=fd.scope->env.code=fd.code->env.frame=some env.locals->s.heap.get? env.locals=none->(A.deeper env).depth+d<=600->(A.deeper env).units+10*d<=6000->cH (Dc A fr env (fp.zip (sF σ.length fp.length)) md hx)->
   Good p prog w aa (Dc A fr env (fp.zip (sF σ.length fp.length)) md hx) ((ns.zip args).reverse.filter λb=>!fp.contains b.1) (ι++as) (σ++fp.map λx=>.cell ((ns.zip args).reverse.lookup x)) m h₁->
   (∀ aX o,s.heap.get? aX=some o->h₁.get? aX=some o)->(∀ a∈as,s.heap.get? a=none)->(∀ md au,Step p.hid md fr au ι s.heap (ι++as) h₁)->
   ht (hh prog w) (A.deeper env) (execs body env) (λf u=>X (.ok (.ret (IW f))) u) (λe u=>ht (hh prog w) (A.deeper env) (Nr env e) (λab ao=>X (.error e) ao) (λl ao=>X (.error l) ao) u) {s with heap:=h₁,toks:=bn}):
  kC (hh prog w) A (.call (.ref a0) ⟨ws,[]⟩) X s:=by
 have af:fp.length=(aC fd.scope.names).length:=vS n;have aK:=pk fd.scope.names (s.heap.objs.size+1) [];rw[j6]at aK;have am:∀ i id,(aC fd.scope.names)[i]?=some id->(Hr (s.heap.objs.size+1) fd.scope.names []).lookup id=some (s.heap.objs.size+1+i):=λi id e=>by
  rw[aK];refine kI ?_ ?_
  .rw[List.map_reverse,List.map_fst_zip (by rw[F9];exact e6 _)]
   exact(List.reverse_perm _).nodup_iff.mpr a2
  .rw[AJ]
   refine fz (i:=i) (oY.mpr ⟨e,?_⟩);rw[wu (e4.mp e).1,JD]
 refine codeAny_call_cells (hQ (hM _ _) (hQ ae J)) a6 a5 (B.nolimit.keeps r.stays) bd bo (bi ws vs.length.symm) bE (λx hx=>?_) (λbT k=>?_) bb bl hk
 .rcases aO x.1 (wU hx).1 with e|⟨e,ar⟩
  .exact .inl e
  .refine av (nD ar) λi g=>?_
   exact .inr ⟨e,by rw[am i x.1 g];rfl⟩
 ·(refine b5 k.done λh₁ bJ be ab=>?_;subst be)
  have ap:=k.toInCall.keep;have aP:aa.get? s.heap.objs.size=none:=r.stays.fresh;have bF:s.heap.objs.size∉ι:=λb=>hW _ (r.kH b);generalize q:sF (s.heap.objs.size+1) (aC fd.scope.names).length=as;have j:∀ a∈as,s.heap.objs.size<a:=λa t=>by rw[<-q,List.mem_range'_1]at t;exact t.1
  have aN:∀ i,i<(aC fd.scope.names).length->as[i]?=some (s.heap.objs.size+1+i):=λi g=>by rw[<-q,wu g,JD]
  have ay:s.heap.objs.size∉ι++as:=λb=>(jd.mp b).elim bF λb=>hW _ (j _ b);have aJ:∀ a∈as,s.heap.get? a=none:=λa t=>sK (gB (j a t));have aw:A2 p ι s.heap (ns.zip args).reverse (xs.zip ws).reverse:=(A2.zip bm vs).reverse;refine az (r.qr (h':=h₁) ap (as:=as) (cs:=fp.map λx=>TH.cell ((ns.zip args).reverse.lookup x)) (by rw[<-q,F9,g0,af]) (q▸List.nodup_range' ..) aJ (λi a c bA ax=>by
    rw[jb]at ax;obtain⟨x,au,rfl⟩:=hI.mp ax;obtain⟨id,ak,a7⟩:=nA n au;obtain rfl:=fZ ((aN i (e4.mp ak).1).symm.trans bA);have bQ:(P7 fd s.heap.objs.size a0).kindOf id=some .cell:=a1 id (fz ak);have aY:=k.cell id _ (am i id ak);rw[vR _ _ _ _ (by rw[bQ];nofun),Option.or_none]at aY;exact⟨_,aY,(aw.ro B.nodup a7).mono (e1 ..) ((r.ext ap).2 md []).tup⟩)) λa8 st=>?_
  refine ke (run (P7 fd s.heap.objs.size a0) as h₁ bJ _ rfl rfl rfl (aW _) (by show A.depth+1+d<=600;exact o1 ae) (by show A.units+3+10*d<=6000;exact o2 aL)
   ⟨hk,bt,bs,by show(A.frames.map _)=_;rw[a4];rfl,λb=>by have b:hx=none:=b;subst b;exact aV,by show A.depth+1<=600;exact o3 ae,by show A.units+3<=6000;exact VX aL⟩
   ⟨a8.enter rfl hk aP ay (r.l9 (aW _)) k.toInCall.ns,k.toInCall.ns,ay,aP,λx id v z ai=>?_,λx id m z ai=>?_,aV.pre (e1 ..),r.l9 (aW _)⟩ ap aJ st) (λf u h=>by cases f<;>exact h) λab ab e=>e
  .refine az (ju (f:=λy=>!fp.contains y) ai) λe aQ=>?_
   refine ah (aw.lookup B.nodup z e) λwv l a3=>?_;have ar:id∈xs:=(wU (AJ.mp (mem_of_lookup l))).1;have bh:(P7 fd s.heap.objs.size a0).kindOf id=some .local:=by
    rcases aO id ar with b|⟨_,b⟩
    .exact b
    .refine av (nD b) λi g=>?_
     have j:i<fp.length:=af▸(e4.mp g).1;refine ah (nA n (hv j)) λa9 aq aj=>?_;obtain rfl:=fZ (g.symm.trans aq);rw[gd B.nodup z aj,r6.mpr (j5 j)]at aQ;exact UC aQ
   exact⟨wv,by rw[vQ _ _ _ _ bh,l];rfl,(st md []).rv a3⟩
  .refine av (nD (dG ai)) λi g=>?_
   refine az (oY.mp g) λaA aD=>?_;have j:=(e4.mp aA).1;rw[wu j,JD]at aD;refine ah (nA n aA) λa9 aq aj=>?_;obtain rfl:=fZ (z.symm.trans aj);refine⟨s.heap.objs.size+1+i,?_,am i id aq⟩;obtain rfl:=fZ aD;rw[gO (r.len▸hM ..),r.len,qh];exact aN i (af▸j)
theorem x6.cells (B:Base p prog w aa gl)(aV:p.fa[k]?=some a0)(v:aa.get? a0=some o)(u:o.data=.func fd)(ai:aa.CodeRec fd.code fd.qualname)(au:fd.body=.stmts body)(ap:ns.mapM (λx=>p.names[x]?)=some xs)(ao:∀ ws:e0 fB,ws.length=args.length->qR fd ⟨ws,[]⟩=pure (xs.zip ws))(aq:fp.mapM (λx=>p.names[x]?)=some (aC fd.scope.names))(h:(aC fd.scope.names).Nodup)(aj:∀ x∈xs,fd.scope.names.lookup x=some .local\/fd.scope.names.lookup x=some .cell/\x∈aC fd.scope.names)(j:∀ x∈aC fd.scope.names,fd.scope.names.lookup x=some .cell)(aD:fd.globals=jk)(ax:fd.builtins=mN)(aN:fd.closure=[])(af:fd.scope.isCoroutine=false)(ak:fd.scope.isGenerator=false)(hk:fd.scope.kind=.function)(run:∀ C:Cfg,cH C->C.env.scope=fd.scope->C.A.depth+d<=600->C.A.units+10*d<=6000->(∃ aL,C.fr=C.env::aL/\C.env.frame=some C.env.locals)->C.cm=fp.zip (sF σ.length fp.length)->C.md=md->C.hn=hx->
   TZ p prog w aa C (execs body C.env) ((ns.zip args).reverse.filter λb=>!fp.contains b.1) (σ++fp.map λx=>.cell ((ns.zip args).reverse.lookup x)) f am ae):
  x6 p prog w aa md hx (d+1) k args σ f.val ae:=λA fr ι s a ws X l ay n ab aJ r vs g=>by
 obtain rfl:=fZ (aV.symm.trans aJ);refine qs (md:=md) B l ay n ab (r.stays _ _ v) u (ai.keeps r.stays) au ap ao aq h aj j aD ax aN af ak hk r vs λenv as h₁ e m aK q c z y aO aP aQ aY q st=>?_;refine run _ aP aK y aO ⟨fr,rfl,c⟩ rfl rfl rfl (ι++as) _ _ _ _ aQ λaw h' e a1 aX aA t ar=>?_;refine g aw h' e _ aA.rel.tail (Step.mZ c (st md []) t z) ?_;cases ar with
 |next=>exact .none
 |brk=>exact .none
 |cont=>exact .none
 |ret b=>exact b
end
end
variable{Q:e0 fB->gc->Prop}{t:hD}{items AZ:uf fB}{oe:Gx}{M:Model}
section
section
variable{E:fB->gc->Prop}{s:gc}{env:zs}
theorem bq{Q:Args->gc->Prop}(a:L.any (λd=>d.1)=false)(h:ht M A (pp L) (λvs b=>Q ⟨vs,[]⟩ b) E s):ht M A (GO f true L []) Q E s:=by
 match L,a with
 |[],_=>
  unfold GO;show ht M A (pp []>>=_) Q E s;refine e3 (ke h (λvs b h'=>?_) λc c x=>x);refine hK ?_;exact e3 (gq (e3 (gq (gq h'))))
 |(false,x)::rest,_=>exact Calls.evalArgs_plain h
 |(true,x)::rest,a=>simp at a
theorem aI (h:(hu args env).any (λa=>a.1)=false) pos:(la pos (hu args env)).any (λa=>a.1)=false:=by
 unfold la;rw[List.any_map];exact h
end
section
variable{E:fB->gc->Prop}{s:gc}
theorem nC:P9 table "proto.unchain"=some Builtin.«proto.unchain»:=AK (by kernel_rfl)
theorem pn{vs:uf fB}{Q:fB->gc->Prop}(a:s.heap.get? e=some o)(d:o.data=.fields vs)(h2:vs[2]?=some .none)(c:Q .none s):
  ht (hh prog w) A (runValue (.builtin "proto.unchain" ⟨[.ref v,.ref e,.ref e,.bool b],[]⟩)) Q E s:=by
 refine wpAny_runValue (w1 nC ?_);show ht _ _ (field (.ref e) 2>>=_) _ _ s;refine e3 (nG a d h2 ?_);rw[hz J];exact gq c
theorem lI{Q:gN fB->gc->Prop}(am:A.handled=some (.ref e))(j:s.heap.get? e=some oe)(u:oe.data=.fields AZ)(q:oe.cls≠.type "tuple_iterator")(y:AZ[2]?=some .none)(g:IsTupIter s.heap c t i)(v:qv s.heap t items)(hx:items[i]?=none)(ab:∀ h',wA c s.heap h'->Q none {s with heap:=h'}):ht (hh prog w) A (w8 (.ref c)) Q E s:=by
 refine ba (id g) λk d au f=>?_;obtain⟨ax,ae,_,ay,aj⟩:=v;have ar:e≠c:=λz=>by subst z;rw[d]at j;cases j;exact q au
 unfold w8;refine e3 (FI (wpAny_callSpecial?_slot (name:=al "__next__") g.typeIs Fe
  (vN Fe g.typeIs entry_tupleiter_next ?_ (args_tupleiter_next _))))
 show ht _ _ (field (.ref c) 0>>=_) _ _ s;refine e3 (nG d f (x:=.ref t) rfl ?_);show ht _ _ (if(h0 t==Value.none)=true then _ else _) _ _ s;rw[hb (show ¬ ((h0 t==Value.none)=true)from kA)];show ht _ _ (field (.ref c) 1>>=_) _ _ s;refine e3 (nG d f (x:=.int i 0) rfl ?_);show ht _ _ (seqItems? (.ref t)>>=_) _ _ s;refine e3 (Kq ae aj ?_);simp only[Int.toNat_natCast,hx];refine e3 (QT (e3 (sR d f (by exact hM ..) ?_)));show ht _ _ (newExc (.type "StopIteration") []>>=_) _ _ _;refine e3 ?_;simp only[newExc,newTuple];refine e3 (pJ ?_ (by size_fits));refine e3 (m:=Kt _ _) (wJ (a:=Value.none) (by first|rfl|(simp only[Kt];rfl)) ?_);refine pJ ?_ (by size_fits);unfold raiseNew;refine e3 (wpAny_handled ?_);rw[show A.in1.handled=some (.ref e)from am];dsimp only;generalize ak:((s.heap.update c (tG λx=>x.setIfInBounds 0 Value.none)).push _)=H;have l:wA c s.heap H:=by rw[<-ak];exact(tq ..).extBut.push _
 generalize h:({cls:=.type "StopIteration",dict:=_,data:=_}:Gx)=S;have ao:S.cls=.type "StopIteration":=by rw[<-h]
 obtain⟨VP,a⟩:∃ VP,S.data=.fields VP:=by rw[<-h];exact⟨_,rfl⟩
 have af:2<VP.size:=by
  rw[<-h]at a;cases a;simp;exact WJ
 have m:H.get? e=some oe:=l e oe ar j;have aq:e≠H.objs.size:=hc (hy m);have ap:(H.push S).get? e=some oe:=fw _ m;have p:(h0 e !=h0 H.objs.size)=true:=by simpa using aq
 rw[hz p];have o:(H.push S).get? H.objs.size=some S:=gR _ (by rw[sd a]);refine e3 (hK (pn ap u y ?_));show ht _ _ (setField (.ref H.objs.size) 2 (.ref e)>>=λaw=>throw _) _ _ _;refine e3 (sR o a af (wpAny_throw ?_));have as:((H.push S).update H.objs.size (tG λx=>x.setIfInBounds 2 (h0 e))).get? H.objs.size=some (tG (λx=>x.setIfInBounds 2 (h0 e)) S):=jp _ o (sd (y4 a _));refine e3 (wpAny_isInstance (T:="StopIteration") (b:=true) ⟨_,as,(Obj.cls_mapFields ..).trans ao⟩ isSubtype_stop ?_);refine gq (ab _ λb k ai aa=>?_);have n:=l b k ai aa;rw[ii _ _ (hj (hy n))];exact fw _ n
theorem jZ (m:A.handled=some (.ref e))(g:s.heap.get? e=some oe)(n:oe.data=.fields AZ)(j:oe.cls≠.type "tuple_iterator")(x:AZ[2]?=some .none)(a:qv s.heap t items)(l:∀ h',wA s.heap.objs.size s.heap h'->Q items.toList {s with heap:=h'}):ht (hh prog w) A (zw (.ref t) items.size none) Q E s:=by
 have f:t≠s.heap.objs.size:=by refine ah a λc u y=>?_;exact hc (hy u)
 unfold zw;refine e3 ?_;unfold Hs;refine e3 (Dj a.typeIs slot_tuple_iter.lookup ?_);refine gq ?_;simp only[kZ,wP];refine e3 (hK (iter_tuple a ?_));refine e3 (hK (draw_tuple f items.size 0 _ _ ⟨_,gR _ rfl,rfl,rfl⟩ (a.push _) (by exact Wr) λh₁ o d=>?_));have p:Sg items.size (Sh 0 items.toList)=items.toList:=by
  rw[qS];exact ia (by exact e6 _)
 rw[p,hb (by exact hW _)];have k:qv h₁ t items:=(a.push _).extBut d.extBut f;have v:h₁.get? e=some oe:=d.extBut e oe (hc (hy g)) (fw _ g);refine e3 (hK (lI m v n j x o k (by rw[ki];exact BH (e6 _)) λh₂ q=>?_));simp only[Ga,kZ,wP];exact gq (l h₂ λb c h e=>q b c h (d.extBut b c h (fw _ e)))
end
section
variable{v b:V}{gl:e0 (jg×V)}{f:Uk}
noncomputable def x8 (hn:gN e5)(σ:H):Prop:=match hn with
 |none=>True
 |some n=>∃ a,σ[n]?=some (.gK a)
theorem iK{fr ι}(hk:x8 hn σ)(c:Hand hn A ι)(r:Rel p prog w aa fr ι σ s.heap)(e:qv s.heap t items)(b:∀ h',wA s.heap.objs.size s.heap h'->Q items.toList {s with heap:=h'}):ht (hh prog w) A (zw (.ref t) items.size none) Q E s:=by
 cases hn with
 |none=>exact unpackItems_tuple c e b
 |some j=>
  refine av hk λn m=>?_;refine ah c λa g f=>?_;refine cg (r.obj j a _ g m) λd vs o k l=>?_;exact jZ f k rfl (by intro h;cases h) l e b
theorem Ev.call{pos}(B:Base p prog w aa gl)(aw:cH C)(l:C.A.depth+d<=600)(ai:C.A.units+10*d<=6000)(hf:Ev p prog w aa C ρ (hF c C.env) σ (.fn k) U)(ar:jY p prog w aa C ρ (pp (la pos (hu args C.env))) U vs af)(ax:x6 p prog w aa C.md C.hn d k vs af v ao)(hs:(hu args C.env).any (λt=>t.1)=false)(z:hF (.Call c args [] pos) C.env=(do nI pos (<-hF c C.env) [] (la pos (hu args C.env)) [])):
  Ev p prog w aa C ρ (hF (.Call c args [] pos) C.env) σ v ao:=λι s m Q E b x=>by
 rw[z];refine e3 (hf ι s m _ _ b λaj h₁ ay aA u a y=>?_);cases y with
 |fn e=>
  refine b5 (B.fns k _ e) λh fd q ab=>?_;refine um (o:=h) (fd:=fd) (bq (aI hs pos) (ar aj _ m _ _ (b.step u a) λaq h₂ aD ak g f ae=>⟨⟨g.stays _ _ q,ab⟩,?_⟩));refine sX ?_;refine ax C.A C.fr aq _ _ ak _ aw.frames (b.hand.pre (a.trans f).pre) l ai e g ae λas au ap n am j o=>?_;exact x as au ap n am ((a.trans f).trans j) o
set_option tactic.hygienic true in
theorem TZ.jv{x:e5}{id:jg}{pos' a pos}(h1:Ev p prog w aa C ρ (hF a C.env) σ v U)(h2:Ue p prog w aa C (λwv=>yy C.env id wv) v ρ U au af)
  (hs:ot a (some (.Name id pos')) pos.line C.env=pure false):TZ p prog w aa C (s0 (.Assign [.Name id pos'] a pos) C.env) ρ σ .next au af:=λι k m Q o c f=>by
 refine GP (h1 ι k m _ _ c λaj h₁ n q l b e=>?_) hs;exact h2 aj _ m _ _ _ (c.step l b) e λaq h₂ h g j d=>f aq h₂ h g _ j (b.weaken.trans d) .next
noncomputable def pO (p:P)(prog:ih)(w:jo)(aa:kb)(C:Cfg)(t:fB->fB->FD GK)(o v:V)(σ ae:H):Prop:=
 ∀ ι s a wv (Q:GK->gc->Prop) (E:fB->gc->Prop),Rel p prog w aa C.fr ι σ s.heap->TQ p ι s.heap o a->TQ p ι s.heap v wv->
  (∀ aw h' b,Rel p prog w aa C.fr aw ae h'->Step p.hid C.md C.fr [] ι s.heap aw h'->Q () {s with heap:=h',toks:=b})->ht (hh prog w) C.A (t a wv) Q E s
noncomputable def ma (p:P)(prog:ih)(w:jo)(aa:kb)(C:Cfg)(o i v:V)(σ ae:H):Prop:=
 ∀ ι s b a wv (Q:GK->gc->Prop) (E:fB->gc->Prop),Rel p prog w aa C.fr ι σ s.heap->TQ p ι s.heap o b->TQ p ι s.heap i a->TQ p ι s.heap v wv->
  (∀ aw h' c,Rel p prog w aa C.fr aw ae h'->Step p.hid C.md C.fr [] ι s.heap aw h'->Q () {s with heap:=h',toks:=c})->ht (hh prog w) C.A (setItem b a wv) Q E s
set_option tactic.hygienic true in
theorem TZ.nE{o:k8}{b:jg}{pos' e pos}(h1:Ev p prog w aa C ρ (hF e C.env) σ v U)(h2:Ev p prog w aa C ρ (hF o C.env) U a af)
  (t:pO p prog w aa C (λj wv=>RW j b wv) a v af ao)
  (hs:ot e (some (.Attribute o b pos')) pos.line C.env=pure false):TZ p prog w aa C (s0 (.Assign [.Attribute o b pos'] e pos) C.env) ρ σ .next ρ ao:=λι ae m Q ak f k=>by
 refine nr (h1 ι ae m _ _ f λaj h₁ ai z h d l=>?_) hs;refine h2 aj _ m _ _ (f.step h d) λaq h₂ am q u c n=>?_;refine t aq _ q z _ _ u n (c.rv l) λy ab x s g=>?_;exact k y ab x m _ (f.step s ((d.trans c).trans g)) ((d.trans c).trans g).weaken .next
set_option tactic.hygienic true in
theorem TZ.x9{o i:k8}{pos' g pos}(h1:Ev p prog w aa C ρ (hF g C.env) σ v U)(h2:Ev p prog w aa C ρ (hF o C.env) U a af)(as:Ev p prog w aa C ρ (hF i C.env) af b ao){j:H}
  (z:ma p prog w aa C a b v ao j)
  (hs:ot g (some (.Subscript o i pos')) pos.line C.env=pure false):TZ p prog w aa C (s0 (.Assign [.Subscript o i pos'] g pos) C.env) ρ σ .next ρ j:=λι ar m Q ax c s=>by
 refine wpAny_Assign_Subscript (h1 ι ar m _ _ c λaj h₁ au ai h f t=>?_) hs;refine h2 aj _ m _ _ (c.step h f) λaq h₂ aA x ab e u=>?_;refine as aq _ m _ _ ((c.step h f).step ab e) λak ay aw l y d n=>?_;refine z ak _ x l ai _ _ y (d.rv u) n (d.rv (e.rv t)) λam ap q k ae=>?_;have st:=((f.trans e).trans d).trans ae;exact s am ap q m _ (c.step k st) st.weaken .next
set_option tactic.hygienic true in
theorem TZ.aug{x:e5}{id:jg}{pos' g h pos}(ak:cH C)(hx:p.names[x]?=some id)(hk:C.env.kindOf id=some .local)(ae:ρ.lookup x=some a)(h1:Ev p prog w aa C ρ (hF h C.env) σ b U)
  (h2:bL p prog w aa C (inplaceOp g) a b U v af)(t:Ue p prog w aa C (λwv=>yy C.env id wv) v ρ af au ao):
  TZ p prog w aa C (s0 (.AugAssign (.Name id pos') g h pos) C.env) ρ σ .next au ao:=λι am m Q aw c n=>by
 refine ah (c.vars x id a hx ae) λwv e j=>?_;refine wpAny_AugAssign_Name (kV ak.kind hk c.ns e ?_);refine h1 ι am m _ _ c λaj h₁ as ab l d o=>?_;refine h2 aj _ wv ab _ _ l (d.rv j) o λaq h₂ ax ar u f s=>?_;exact t aq _ m _ _ _ (c.step u (d.trans f)) s λz ai y q ap k=>n z ai y q _ ap ((d.trans f).weaken.trans k) .next
noncomputable def qt (p:P)(prog:ih)(w:jo)(aa:kb)(C:Cfg)(ts:e0 (fB->FD GK))(vs:e0 V)(ρ:e0 (e5×V))(σ:H)(au:e0 (e5×V))(af:H):Prop:=
 ∀ ι s m ws (Q:GK->gc->Prop) (E:fB->gc->Prop),Good p prog w aa C ρ ι σ m s.heap->aT p ι s.heap vs ws->
  (∀ aw h' a b,Good p prog w aa C au aw af b h'->Step p.hid C.md C.fr [C.env.locals] ι s.heap aw h'->Q () {s with heap:=h',toks:=a})->ht (hh prog w) C.A (Mn ts ws) Q E s
theorem qt.nil:qt p prog w aa C [] [] ρ σ ρ σ:=λι s m ws Q E b r a=>by
 cases r;exact gq (a ι s.heap s.toks m b (.refl ..))
theorem qt.cons{t:fB->FD GK}{ts:e0 (fB->FD GK)}{vs:e0 V}(a:Ue p prog w aa C t v ρ σ ai U)(b:qt p prog w aa C ts vs ai U au af):qt p prog w aa C (t::ts) (v::vs) ρ σ au af:=λι s m ws Q E l r e=>by
 cases r with
 |cons r k=>
  show ht _ _ (do zu _ _;Mn _ _) _ _ _;exact e3 (hK (a ι s m _ _ _ l r λaj h₁ o n f c=>b aj _ n _ Q E f (c.lG k) λaq h₂ h g j d=>e aq h₂ h g j (c.trans d)))
theorem Ue.tuple{k pos}(aj:cH C)(t:x8 C.hn σ)(h:qt p prog w aa C ((mV elts C.env).map (λd=>d.2)) vs ρ σ au af)(hn:(mV elts C.env).findIdx? (λd=>d.1)=none)(y:(mV elts C.env).length=vs.length):
  Ue p prog w aa C (rl (.Tuple elts k pos) C.env) (.tup vs) ρ σ au af:=λι s m wv Q E c n v=>by
 cases n with
 |@tup l a ws ai q g=>
  show ht _ _ (do yc pos;QU (.ref a) (mV elts C.env)) _ _ _;refine e3 (ko ?_);unfold QU;rw[hn,y,g.length,<-ig];refine e3 (hK (iK t c.hand c.rel q λh' ae=>?_));refine az (c.rel.ext λb j f=>ae b j (hc (hy f)) f) λx e=>?_;rw[xe];exact h _ _ _ _ _ _ (c.step x (e C.md [])) ((e C.md []).lG g) λaq h₂ ab z o u=>v aq h₂ ab z o ((e C.md [C.env.locals]).trans u)
set_option tactic.hygienic true in
theorem TZ.nF{elts:e0 k8}{k b a pos}(h1:Ev p prog w aa C ρ (hF a C.env) σ v U)(h2:Ue p prog w aa C (rl (.Tuple elts k b) C.env) v ρ U au af)
  (hs:v4 [.Tuple elts k b] a pos.line C.env=pure false)(n:nB [.Tuple elts k b] a C.env=pure none):
  TZ p prog w aa C (s0 (.Assign [.Tuple elts k b] a pos) C.env) ρ σ .next au af:=λι o m Q t d f=>by
 refine Assign_Tuple (h1 ι o m _ _ d λaj h₁ s u q c g=>?_) hs n;exact h2 aj _ m _ _ _ (d.step q c) g λaq h₂ l h j e=>f aq h₂ l h _ j (c.weaken.trans e) .next
theorem aT.reverse{ι h}{l:e0 V}{m:e0 fB}(r:aT p ι h l m):aT p ι h l.reverse m.reverse:=
 r.ind (M:=λl m=>aT p ι h l.reverse m.reverse) .nil λa c b=>by rw[pz,pz];exact b.append (.cons a .nil)
set_option tactic.hygienic true in
theorem TZ.rJ{elts:e0 k8}{k g c pos}{f:e0 jg}{vs:e0 V}(ax:cH C)(hn:x8 C.hn U)(h1:Ev p prog w aa C ρ (hF c C.env) σ (.tup vs) U)(ab:f.length=vs.length)
  (h2:qt p prog w aa C (f.reverse.map λae=>bindName C.env ae) vs.reverse ρ U au af)
  (hs:v4 [.Tuple elts k g] c pos.line C.env=pure false)(t:nB [.Tuple elts k g] c C.env=pure (some f)):
  TZ p prog w aa C (s0 (.Assign [.Tuple elts k g] c pos) C.env) ρ σ .next au af:=λι am m Q as j x=>by
 refine Assign_Tuple_swapped (h1 ι am m _ _ j λaj h₁ ap aw d e y=>?_) hs t;cases y with
 |@tup l a ws ar u o=>
  rw[ab,o.length,<-ig];refine iK hn (j.hand.pre e.pre) d u λh' ao=>?_;refine az (d.ext λb q n=>ao b q (hc (hy n)) n) λz h=>?_;rw[xe];exact h2 _ _ _ _ _ _ ((j.step d e).step z (h C.md [])) ((h C.md []).lG o).reverse λaq h₂ ak ai s v=>x aq h₂ ak ai _ s ((e.weaken.trans (h C.md _)).trans v) .next
theorem Ue.bind{id:jg}(h:Ue p prog w aa C (λwv=>yy C.env id wv) v ρ σ au af):Ue p prog w aa C (λwv=>bindName C.env id wv) v ρ σ au af:=λι s m wv Q E c b a=>wpAny_bindName (h ι s m wv _ _ c b a)
theorem Ue.name{id:jg}{pos}(h:Ue p prog w aa C (λwv=>yy C.env id wv) v ρ σ au af):Ue p prog w aa C (rl (.Name id pos) C.env) v ρ σ au af:=λι s m wv Q E c b a=>
 Mo (h ι s m wv _ _ c b a)
theorem Ue.attr{d:jg}{pos}(h2:Ev p prog w aa C ρ (hF o C.env) σ a U)(h:pO p prog w aa C (λu wv=>RW u d wv) a v U af):
  Ue p prog w aa C (rl (.Attribute o d pos) C.env) v ρ σ ρ af:=λι s m wv Q E f g j=>by
 show ht _ _ (do let c<-zu [wv] (hF o C.env);yc pos.atName;zu [wv,c] (RW c d wv);release [wv,c] []) _ _ _;refine e3 (hK (h2 ι s m _ _ f λaj h₁ x t q b k=>e3 (ko (e3 (hK ?_)))));refine h aj _ t wv _ _ q k (b.rv g) λaq h₂ n l e=>λz p y=>?_;rw[Sem.wp_release];exact j aq h₂ n m (f.step l (b.trans e)) (b.trans e).weaken
end
end
variable{Is:e0 hD}{L:hD}{iter target test:k8}
section
section
variable{s:gc}
theorem b9{target g body h env}(o:ht (hh prog w) A (w8 g) (λr k=>match r with
    |none=>ht (hh prog w) A (execs h env) (λf d=>R (.ok f) d) (s1 (hh prog w) A env λe b=>R (.error e) b) k
    |some c=>ht (hh prog w) A (pc target g c) (λa l=>
      ht (hh prog w) A (rl target env c) (λa m=>ht (hh prog w) A (execs body env) (λf d=>match f with
       | .next| .cont=>kC (hh prog w) A (.forLoop target g body h env) R d
       | .brk=>R (.ok .next) d
       | .ret c=>R (.ok (.ret c)) d) (s1 (hh prog w) A env λe b=>R (.error e) b) m) (s1 (hh prog w) A env λe b=>R (.error e) b) l) (s1 (hh prog w) A env λe b=>R (.error e) b) k) (s1 (hh prog w) A env λe b=>R (.error e) b) s):
  kC (hh prog w) A (.forLoop target g body h env) R s:=by
 refine tY ?_;show ht _ A ((forTurn target g body h env).onRaise (λx=>do AL x env;Dn x)) _ _ s;refine JE ?_;simp only[forTurn];refine e3 (ko (e3 (Mp (ke o (λr k h₁=>?_) λa a h'=>ko h'))));cases r with
 |none=>exact gq ⟨rfl,codeAny_block h₁⟩
 |some c=>
  refine e3 (ke h₁ (λa l n=>?_) λa a h'=>h');refine e3 (ke n (λa m h₂=>e3 (ke h₂ (λf d j=>?_) λa a h'=>h')) λa a h'=>h');cases f with
  |next=>exact gq ⟨rfl,j⟩
  |cont=>exact gq ⟨rfl,j⟩
  |brk=>exact gq j
  |ret c=>exact gq j
theorem eU{test body h env}(l:ht (hh prog w) A (qQ test env (hF test env)) (λb j=>
    if b then ht (hh prog w) A (execs body env) (λf a=>match f with
      | .next| .cont=>kC (hh prog w) A (.whileLoop test body h env) R a
      | .brk=>R (.ok .next) a
      | .ret k=>R (.ok (.ret k)) a) (s1 (hh prog w) A env λe d=>R (.error e) d) j
    else ht (hh prog w) A (execs h env) (λf a=>R (.ok f) a) (s1 (hh prog w) A env λe d=>R (.error e) d) j)
    (s1 (hh prog w) A env λe d=>R (.error e) d) s):
  kC (hh prog w) A (.whileLoop test body h env) R s:=by
 refine tY ?_;show ht _ A ((whileTurn test body h env).onRaise (λx=>do AL x env;Dn x)) _ _ s;refine JE ?_;unfold whileTurn;refine e3 (ke l (λb j h₂=>?_) λg g h'=>h');cases b with
 |false=>
  simp only[kZ,wP]at h₂ ⊢;exact e3 (ke h₂ (λf a c=>gq c) λg g h'=>h')
 |true=>
  simp only[Nt]at h₂ ⊢;refine e3 (ke h₂ (λf a c=>?_) λg g h'=>h');cases f with
  |next=>exact gq ⟨rfl,c⟩
  |cont=>exact gq ⟨rfl,c⟩
  |brk=>exact gq c
  |ret k=>exact gq c
end
noncomputable def Wl (p:P)(prog:ih)(w:jo)(aa:kb)(C:Cfg)(test:k8)(body:e0 rf)(ρ:e0 (e5×V))(σ:H)(f:Uk)(au:e0 (e5×V))(af:H):Prop:=
 ∀ ι s m (X:tc->gc->Prop),Good p prog w aa C ρ ι σ m s.heap->(∀ aw h' b c a,Good p prog w aa C au aw af c h'->Step p.hid C.md C.fr [C.env.locals] ι s.heap aw h'->RF p aw h' f a->X (.ok a) {s with heap:=h',toks:=b})->
  kC (hh prog w) C.A (.whileLoop test body [] C.env) X s
structure cu (hid:Vs)(Is:e0 hD)(h h':kb):Prop where
 keep:∀ b o,b∉Is->h.get? b=some o->h'.get? b=some o
 tup:Kp hid h h'
theorem cu.refl hid Is h:cu hid Is h h:=⟨λa a a b=>b,.refl ..⟩
theorem Step.cL (x:Step hid md fr ex ι h aw h')(k:cu hid Is h' n)(f:∀ a∈Is,h.get? a=none):Step hid md fr ex ι h aw n where
 pre:=x.pre
 c5:=x.c5
 ext:=λa c m j b=>by
  refine ah (x.ext a c m j b) λg d o=>?_;exact⟨g,k.keep _ _ (λe=>by rw[f a e]at b;exact TS b) d,o⟩
 live:=λa c b=>by
  refine av (x.live a c b) λl d=>?_;exact⟨l,k.keep _ _ (λe=>by rw[f a e]at b;exact TS b) d⟩
 tup:=x.tup.trans k.tup
theorem Good.cL{m:jg->gN fB}(g:Good p prog w aa C ρ ι σ m h)(k:cu p.hid Is h h')(r:Rel p prog w aa C.fr ι σ h')(c:C.env.locals∉Is):Good p prog w aa C ρ ι σ m h' where
 rel:=r
 ns:=lH g.ns λa e=>⟨a.slots,k.keep _ _ c e⟩
 dE:=g.dE
 gH:=g.gH
 vars:=λy id v d f=>(g.vars y id v d f).imp λwv=>rZ λb=>b.mono fV k.tup
 cells:=g.cells
 hand:=g.hand
 U0:=g.U0
noncomputable def I2 (p:P)(prog:ih)(w:jo)(aa:kb)(fr:e0 zs)(md:e5->jW)(Is:e0 hD)(P:e5->e0 hD->H->kb->Prop):Prop:=
 ∀ {i ι σ h aw ae h' ex},P i ι σ h->Rel p prog w aa fr ι σ h->Rel p prog w aa fr aw ae h'->Step p.hid md fr ex ι h aw h'->(∀ b∈Is,b∉ex)->(∀ b∈ex,b∉ι)->P i aw ae h'
noncomputable def I3 (p:P)(prog:ih)(w:jo)(aa:kb)(A:t2)(fr:e0 zs)(md:e5->jW)(f:k8)(I:hD)(Is:e0 hD)(e:e5->H->gN (gN V))(P:e5->e0 hD->H->kb->Prop):Prop:=
 ∀ {i ι σ s v} {Q:gN fB->gc->Prop} {E:fB->gc->Prop},P i ι σ s.heap->Rel p prog w aa fr ι σ s.heap->e i σ=some (some v)->
  (∀ h' b wv,Rel p prog w aa fr ι σ h'->Step p.hid md fr Is ι s.heap ι h'->TQ p ι h' v wv->
   (∀ (c:GK->gc->Prop) (d:fB->gc->Prop),(∀ a,Rel p prog w aa fr ι σ a->Step p.hid md fr Is ι h' ι a->P (i+1) ι σ a->c () {s with heap:=a,toks:=b})->
    ht (hh prog w) A (pc f (.ref I) wv) c d {s with heap:=h',toks:=b})->Q (some wv) {s with heap:=h',toks:=b})->ht (hh prog w) A (w8 (.ref I)) Q E s
noncomputable def I4 (p:P)(prog:ih)(w:jo)(aa:kb)(A:t2)(fr:e0 zs)(I:hD)(Is:e0 hD)(b:e5->H->gN (gN V))(P:e5->e0 hD->H->kb->Prop):Prop:=
 ∀ {i ι σ s} {Q:gN fB->gc->Prop} {E:fB->gc->Prop},P i ι σ s.heap->Rel p prog w aa fr ι σ s.heap->b i σ=some none->
  (∀ h' a,Rel p prog w aa fr ι σ h'->cu p.hid Is s.heap h'->Q none {s with heap:=h',toks:=a})->ht (hh prog w) A (w8 (.ref I)) Q E s
noncomputable def I5 (prog:ih)(w:jo)(A:t2)(I:hD)(P:e5->e0 hD->H->kb->Prop):Prop:=
 ∀ {i ι σ s} {Q:fB->gc->Prop} {E:fB->gc->Prop},P i ι σ s.heap->Q (.ref I) s->ht (hh prog w) A (IV (.ref I)) Q E s
structure po (p:P)(prog:ih)(w:jo)(aa:kb)(A:t2)(fr:e0 zs)(md:e5->jW)(tgt:k8)(I:hD)(Is:e0 hD)(nx:e5->H->gN (gN V))(P:e5->e0 hD->H->kb->Prop):Prop where
 stay:I2 p prog w aa fr md Is P
 item:I3 p prog w aa A fr md tgt I Is nx P
 fin:I4 p prog w aa A fr I Is nx P
 self:I5 prog w A I P
noncomputable def Iter (p:P)(prog:ih)(w:jo)(aa:kb)(A:t2)(fr:e0 zs)(md:e5->jW)(d:k8)(v:V)(σ:H)(a:e5->H->gN (gN V)):Prop:=
 ∀ ι s wv (Q:fB->gc->Prop) (E:fB->gc->Prop),Rel p prog w aa fr ι σ s.heap->TQ p ι s.heap v wv->
  (∀ I Is P h' c,po p prog w aa A fr md d I Is a P->(∀ b∈Is,s.heap.get? b=none/\∃ o,h'.get? b=some o)->(∀ b o,s.heap.get? b=some o->h'.get? b=some o)->P 0 ι σ h'->Q (.ref I) {s with heap:=h',toks:=c})->ht (hh prog w) A (IV wv) Q E s
noncomputable def fD (p:P)(prog:ih)(w:jo)(aa:kb)(C:Cfg)(ρ:e0 (e5×V))(md:e5->jW)(e iter:k8)(σ U:H)(a:e5->H->gN (gN V)):Prop:=
 ∀ ι s m (Q:fB->gc->Prop) (E:fB->gc->Prop),Good p prog w aa C ρ ι σ m s.heap->
  (∀ aj h₁ d I Is P,Rel p prog w aa C.fr aj U h₁->Step p.hid C.md C.fr [] ι s.heap aj h₁->po p prog w aa C.A C.fr md e I Is a P->(∀ b∈Is,s.heap.get? b=none/\∃ o,h₁.get? b=some o)->P 0 aj U h₁->Q (.ref I) {s with heap:=h₁,toks:=d})->
  ht (hh prog w) C.A (hF iter C.env) (λx c=>ht (hh prog w) C.A (IV x) Q E c) E s
noncomputable def VJ (p:P)(prog:ih)(w:jo)(aa:kb)(C:Cfg)(d:e5->H->gN (gN V))(target:k8)(body:e0 rf)(i:e5)(ρ:e0 (e5×V))(σ:H)(f:Uk)(au:e0 (e5×V))(af:H):Prop:=
 ∀ I Is (P:e5->e0 hD->H->kb->Prop),po p prog w aa C.A C.fr C.md target I Is d P->C.env.locals∉Is->∀ ι s m (X:tc->gc->Prop),P i ι σ s.heap->Good p prog w aa C ρ ι σ m s.heap->
  (∀ aw h' a c e b,Good p prog w aa C au aw af e a->Step p.hid C.md C.fr (C.env.locals::Is) ι s.heap aw h'->cu p.hid Is h' a->RF p aw a f b->X (.ok b) {s with heap:=a,toks:=c})->
  kC (hh prog w) C.A (.forLoop target (.ref I) body [] C.env) X s
section
variable{v b:V}{gl:e0 (jg×V)}{f:Uk}{nx:e5->H->gN (gN V)}
section
set_option tactic.hygienic true in
theorem Wl.done (h1:Tv p prog w aa C ρ (qQ test C.env (hF test C.env)) σ false U):Wl p prog w aa C test body ρ σ .next ρ U:=λι e m X b c=>by
 refine eU (h1 ι e m _ _ b λaj h₁ d f a=>?_);rw[hb kA];exact pb (c aj h₁ d m _ (b.step f a) a.weaken .next)
set_option tactic.hygienic true in
theorem Wl.turn (h1:Tv p prog w aa C ρ (qQ test C.env (hF test C.env)) σ true U)(h2:TZ p prog w aa C (execs body C.env) ρ U .next ai af)(q:Wl p prog w aa C test body ai af f au ao):Wl p prog w aa C test body ρ σ f au ao:=λι s m X c d=>by
 refine eU (h1 ι s m _ _ c λaj h₁ v u b=>?_);rw[hz rfl];refine h2 aj _ m _ _ (c.step u b) λaq h₂ x k a n g r=>?_;cases r;exact q aq _ k X n λt l e j a o h r=>d t l e j a o ((b.weaken.trans g).trans h) r
theorem Wl.ret (h1:Tv p prog w aa C ρ (qQ test C.env (hF test C.env)) σ true U)(h2:TZ p prog w aa C (execs body C.env) ρ U (.ret v) ai af):Wl p prog w aa C test body ρ σ (.ret v) ai af:=λι s m X b c=>by
 refine eU (h1 ι s m _ _ b λaj h₁ k j a=>?_);rw[hz rfl];refine h2 aj _ m _ _ (b.step j a) λaq h₂ f g d h e r=>?_;have:=c aq h₂ f g d h (a.weaken.trans e) r;cases r;exact this
theorem TZ.while{pos}(x:Wl p prog w aa C test body ρ σ f au af):TZ p prog w aa C (s0 (.While test body [] pos) C.env) ρ σ f au af:=λι s m Q E b a=>
 wpAny_While (x ι s m _ b a)
theorem A3:∀ b∈Is,b∈L::Is:=λc a=>mD _ a
theorem vU:∀ b∈[L],b∈L::Is:=λc a=>gP.mp a▸.head _
theorem A4 (a:L∉Is):∀ b∈Is,b∉[L]:=λe c d=>a (gP.mp d▸c)
theorem uN (a:L∉ι):∀ b∈[L],b∉ι:=λd c=>gP.mp c▸a
variable{i:e5}
set_option tactic.hygienic true in
theorem VJ.done (h1:nx i σ=some none):VJ p prog w aa C nx target body i ρ σ .next ρ σ:=λj Is P h e ι k m X f b c=>
 b9 (h.fin f b.rel h1 λh₁ d g a=>pb (c ι _ h₁ d m _ (b.cL a g e) (.refl ..) a .next))
theorem VJ.turn (h1:nx i σ=some (some v))(h2:Ue p prog w aa C (rl target C.env) v ρ σ ai U)(ap:TZ p prog w aa C (execs body C.env) ai U f au af)(hf:f=.next\/f=.cont)(ak:VJ p prog w aa C nx target body (i+1) au af z ay ao):VJ p prog w aa C nx target body i ρ σ z ay ao:=λab Is P c a ι s m X pi e q=>by
 refine b9 (c.item pi e.rel h1 λh₁ aO wv x n t aA=>?_);refine aA _ _ λaP j d aN=>?_;refine h2 ι _ m _ _ _ ((e.gb x n a).gb j d a) (d.rv t) λaq h₂ aQ ax b l=>?_;have y:=c.stay aN j b.rel l (A4 a) (uN e.dE);refine ap aq _ ax _ _ b λaD aJ ar ae g o h r=>?_;have fin:=ak ab Is P c a aD {s with heap:=aJ,toks:=ar} ae X (c.stay y b.rel o.rel h (A4 a) (uN b.dE)) o λaK aL as aj u g am aw k r=>q aK aL as aj u g am (((((n.trans d).cX A3).trans (l.cX vU)).trans (h.cX vU)).trans aw) k r;rcases hf with rfl|rfl<;>cases r<;>exact fin
theorem VJ.ret (h1:nx i σ=some (some v))(h2:Ue p prog w aa C (rl target C.env) v ρ σ ai U)(u:TZ p prog w aa C (execs body C.env) ai U (.ret v') au af):VJ p prog w aa C nx target body i ρ σ (.ret v') au af:=λaj Is P t b ι s m X pi e f=>by
 refine b9 (t.item pi e.rel h1 λh₁ ak wv n c g z=>?_);refine z _ _ λam l a ao=>?_;refine h2 ι _ m _ _ _ ((e.gb n c b).gb l a b) (a.rv g) λaq h₂ ap y k o=>?_;refine u aq _ y _ _ k λab d x q h ae j r=>?_;have:=f ab d d x q h ae ((((c.trans a).cX A3).trans (o.cX vU)).trans (j.cX vU)) (.refl ..) r;cases r;exact this
end
theorem Good.there{ι m h}(g:Good p prog w aa C ρ ι σ m h):∃ a,h.get? C.env.locals=some a:=let⟨a,_,_,b,_⟩:=g.ns;⟨a,b⟩
theorem fD.of (h1:Ev p prog w aa C ρ (hF iter C.env) σ v U)(h2:Iter p prog w aa C.A C.fr md ak v U nx):fD p prog w aa C ρ md ak iter σ U nx:=λι s m Q E ae o=>by
 refine h1 ι s m _ _ ae λaj h₁ x z d e q=>?_;refine h2 aj _ z _ _ d q λl Is P h₂ ab u a k j=>?_;refine az (d.ext k) λy n=>?_;refine o aj h₂ ab l Is P y (e.trans (n _ _)) u (λb f=>⟨?_,(a b f).2⟩) j;cases h:s.heap.get? b with
 |none=>rfl
 |some g=>refine av (e.live b g h) λaf t=>?_;have c:=(a b f).1;rw[show({s with heap:=h₁,toks:=x}:gc).heap=h₁ from rfl,t]at c;cases c
theorem Good.lock{ι m h}(g:Good p prog w aa C ρ ι σ m h) f7:Good p prog w aa {C with md:=f7} ρ ι σ m h:=⟨g.rel,g.ns,g.dE,g.gH,g.vars,g.cells,g.hand,g.U0⟩
theorem Good.unlock{ι m h}(g:Good p prog w aa {C with md:=f7} ρ ι σ m h):Good p prog w aa C ρ ι σ m h:=⟨g.rel,g.ns,g.dE,g.gH,g.vars,g.cells,g.hand,g.U0⟩
theorem TZ.for{pos}(am:∀ d,f7 d=true->C.md d=true)(h1:fD p prog w aa C ρ f7 target iter σ U nx)(x:VJ p prog w aa {C with md:=f7} nx target body 0 ρ U f au af)(hs:∀ y,sf iter C.env y=pure y):TZ p prog w aa C (s0 (.For target iter body [] pos) C.env) ρ σ f au af:=λι s m Q E e z=>by
 refine MX (h1 ι s m _ _ e λaj h₁ ae u Is P q g ab c t=>?_) hs;have ap:C.env.locals∉Is:=λo=>by
  refine av e.there λaw h=>?_;rw[(c _ o).1]at h;exact TS h
 refine x u Is P ab ap aj {s with heap:=h₁,toks:=ae} m _ t ((e.step q g).lock f7) λj ao ak ai v l as n k r=>z j ak ai v l as.unlock ?_ r;have ar:Step p.hid f7 C.fr (C.env.locals::Is) aj h₁ j ao:=n;refine((g.weaken (ex:=[C.env.locals])).mX (ar.more am) (λb a=>?_) λd b aq ax=>.inl aq).cL k λb a=>(c b a).1;rcases hr.mp a with rfl|a
 .exact .inl (by exact .head _)
 .exact .inr (c b a).1
end
end
variable{elt:k8}{ifs:e0 k8}{scope:Qa}{N:e5}{l:e0 V}{m:jg->gN fB}
section
section
variable{s:gc}
noncomputable abbrev iL (ifs:e0 k8)(env:zs):FD Bool:=forIn ifs true λc r=>if r=true then do let a<-qQ c env (hF c env);pure (xa a)else pure (xa r)
theorem mM elt target iter ifs scope pos it acc env:
  compTurn (.ListComp elt [⟨target,iter,ifs,0⟩] scope pos) 0 it acc env=(yc iter.pos>>=λa=>w8 it>>=λr=>match r with
   |none=>pure (.done .next)
   |some b=>pc target it b>>=λa=>rl target env b>>=λa=>iL ifs env>>=λc=>
    if c then((hF elt env>>=λx=>call (.builtin "list.append") [acc,x]>>=λa=>pure ())>>=λa=>
     SA (.compLoop (.ListComp elt [⟨target,iter,ifs,0⟩] scope pos) 0 it acc env))else SA (.compLoop (.ListComp elt [⟨target,iter,ifs,0⟩] scope pos) 0 it acc env)):=by rfl
theorem fE (t:ht (hh prog w) A (w8 c) (λr h=>match r with
   |none=>R (.ok .next) h
   |some d=>ht (hh prog w) A (pc target c d) (λa j=>ht (hh prog w) A (rl target env d) (λa k=>
     ht (hh prog w) A (iL ifs env) (λok g=>
      if ok=true then ht (hh prog w) A (hF elt env) (λx l=>
       ht (hh prog w) A (call (.builtin "list.append") [f,x]) (λa m=>kC (hh prog w) A (.compLoop (.ListComp elt [⟨target,iter,ifs,0⟩] scope pos) 0 c f env) R m) (s1 (hh prog w) A env λe b=>R (.error e) b) l) (s1 (hh prog w) A env λe b=>R (.error e) b) g
      else kC (hh prog w) A (.compLoop (.ListComp elt [⟨target,iter,ifs,0⟩] scope pos) 0 c f env) R g) (s1 (hh prog w) A env λe b=>R (.error e) b) k) (s1 (hh prog w) A env λe b=>R (.error e) b) j) (s1 (hh prog w) A env λe b=>R (.error e) b) h) (s1 (hh prog w) A env λe b=>R (.error e) b) s):
  kC (hh prog w) A (.compLoop (.ListComp elt [⟨target,iter,ifs,0⟩] scope pos) 0 c f env) R s:=by
 refine tY ?_;show ht _ A ((compTurn (.ListComp elt [⟨target,iter,ifs,0⟩] scope pos) 0 c f env).onRaise (λx=>do AL x env;Dn x)) _ _ s;refine JE ?_;rw[mM];refine e3 (ko (e3 (ke t (λr h h₁=>?_) λa a h'=>h')));cases r with
 |none=>exact gq h₁
 |some d=>
  refine e3 (ke h₁ (λa j p=>?_) λa a h'=>h');refine e3 (ke p (λa k h₂=>e3 (ke h₂ (λok g n=>?_) λa a h'=>h')) λa a h'=>h');cases ok with
  |false=>exact gq ⟨rfl,n⟩
  |true=>
   exact e3 (e3 (ke n (λx l q=>e3 (ke q (λa m o=>gq (gq ⟨rfl,o⟩)) λa a h'=>h')) λa a h'=>h'))
end
noncomputable def Vt (p:P)(prog:ih)(w:jo)(aa:kb)(C:Cfg)(N:e5)(d:e5->H->gN (gN V))(target:k8)(ifs:e0 k8)(elt:k8)(i:e5)(ρ:e0 (e5×V))(σ:H)(au:e0 (e5×V))(af:H):Prop:=
 ∀ I Is (P:e5->e0 hD->H->kb->Prop) iter scope pos,po p prog w aa C.A C.fr C.md target I Is d P->C.env.locals∉Is->C.md N=true->∀ ι s m b (X:tc->gc->Prop),P i ι σ s.heap->Good p prog w aa C ρ ι σ m s.heap->ι[N]?=some b->
  (∀ aw h' a c e,Good p prog w aa C au aw af e a->Step p.hid C.md C.fr (C.env.locals::Is) ι s.heap aw h'->cu p.hid Is h' a->X (.ok .next) {s with heap:=a,toks:=c})->
  kC (hh prog w) C.A (.compLoop (.ListComp elt [⟨target,iter,ifs,0⟩] scope pos) 0 (.ref I) (.ref b) C.env) X s
section
variable{v b:V}{gl:e0 (jg×V)}{f:Uk}{nx:e5->H->gN (gN V)}
theorem Tv.A5:Tv p prog w aa C ρ (iL [] C.env) σ true σ:=λι s m Q E b a=>wpAny_tests_nil (a ι s.heap s.toks b.rel (.refl ..))
theorem Tv.uO{b:jW}(h:Tv p prog w aa C ρ (qQ c C.env (hF c C.env)) σ b U):Tv p prog w aa C ρ (iL [c] C.env) σ b U:=λι s m Q E d a=>wpAny_tests_one (h ι s m _ _ d a)
theorem Rel.append{fr ι h}(r:Rel p prog w aa fr ι σ h){a:hD}(b:ι[N]?=some a)(j:σ[N]?=some (.list l))(g:h.PlainList a ws.toArray)(e:aT p ι h l ws)(c:TQ p ι h v wv)(f:h'.PlainList a (ws.toArray.push wv))(hs:og a h h')(d:md N=true):Rel p prog w aa fr ι (σ.set N (.list (l++[v]))) h'/\Step p.hid md fr [] ι h ι h':=by
 have tp:=cz (hid:=p.hid) hs (r.lt (fz b)).2 (r.nf (fz b));refine r.upd b hs ⟨ws++[wv],by simpa using f,?_⟩ d;exact(e.mono fV tp).append (.cons (c.mono fV tp) .nil)
section
variable{i:e5}
theorem Vt.done (h1:nx i σ=some none):Vt p prog w aa C N nx target ifs elt i ρ σ ρ σ:=λj Is P iter scope pos g e h ι s m k X pi b l c=>
 fE (g.fin pi b.rel h1 λh₁ d f a=>c ι _ h₁ d m (b.cL a f e) (.refl ..) a)
theorem Vt.skip (h1:nx i σ=some (some v))(h2:Ue p prog w aa C (rl target C.env) v ρ σ ai U)(ak:Tv p prog w aa C ai (iL ifs C.env) U false af)(aN:Vt p prog w aa C N nx target ifs elt (i+1) ai af au ao):Vt p prog w aa C N nx target ifs elt i ρ σ au ao:=λab Is P iter scope pos c a aA ι s m aL X pi f as o=>by
 refine fE (c.item pi f.rel h1 λh₁ aO wv y k q aw=>?_);refine aw _ _ λaP h d aK=>?_;refine h2 ι _ m _ _ _ ((f.gb y k a).gb h d a) (d.rv q) λaq h₂ aQ n b j=>?_;have z:=c.stay aK h b.rel j (A4 a) (uN f.dE);refine ak aq _ n _ _ b λax ay am l e=>?_;rw[hb kA];have st:=(((k.trans d).cX A3).trans (j.cX vU)).trans e.weaken;exact aN ab Is P iter scope pos c a aA ax {s with heap:=ay,toks:=am} n aL X (c.stay z b.rel l e (λg g=>h6) (λg x=>nomatch x)) (b.step l e) (bC st.pre as) λaD aJ ap ae t aj ar u=>o aD aJ ap ae t aj (st.trans ar) u
theorem Vt.take (h1:nx i σ=some (some v))(h2:Ue p prog w aa C (rl target C.env) v ρ σ ai U)(aV:Tv p prog w aa C ai (iL ifs C.env) U true af)(aY:Ev p prog w aa C ai (hF elt C.env) af v' ao)(u:ao[N]?=some (.list l))(a8:l.length<=lg)(aP:Vt p prog w aa C N nx target ifs elt (i+1) ai (ao.set N (.list (l++[v']))) au aK):Vt p prog w aa C N nx target ifs elt i ρ σ au aK:=λaD Is P iter scope pos c e ab ι s m ae X pi q a0 ak=>by
 refine fE (c.item pi q.rel h1 λh₁ bb wv ay z ap a1=>?_);refine a1 _ _ λbh t g a4=>?_;refine h2 ι _ m _ _ _ ((q.gb ay z e).gb t g e) (g.rv ap) λaq h₂ bl n f y=>?_;have aA:=c.stay a4 t f.rel y (A4 e) (uN q.dE);refine aV aq _ n _ _ f λa2 be bd j h=>?_;rw[hz rfl];have aQ:=c.stay aA f.rel j h (λb b=>h6) (λb a=>nomatch a);have aj:=f.step j h;refine aY a2 _ n _ _ aj λa3 bi aJ a9 d k aO=>?_;have st:=((((z.trans g).cX A3).trans (y.cX vU)).trans h.weaken).trans k.weaken;have o:=bC st.pre a0;refine(d.obj N ae _ o u).elim λws a=>AM a.1 (λam a7 ar=>?_) (by rw[ig,<-a.2.length];exact a8);have x:=d.append o u a.1 a.2 aO a7 ar ab;exact aP aD Is P iter scope pos c e ab a3 {s with heap:=am,toks:=aJ} n ae X (c.stay (c.stay aQ j d k (λb b=>h6) (λb a=>nomatch a)) d x.1 x.2 (λb b=>h6) (λb a=>nomatch a)) ((aj.step d k).step x.1 x.2) (bC x.2.pre o) λaN as aw a5 a6 aX aL ax=>ak aN as aw a5 a6 aX ((st.trans x.2.weaken).trans aL) ax
end
theorem Rel.sameBut{fr ι h h'}(r:Rel p prog w aa fr ι σ h)(hs:og L h h')(l:L∉ι)(k:aa.get? L=none)(hf:L∉dp fr)(o:∀ ws,¬ qv h L ws)(n:L∉p.hid.t\/∃ e,h'.get? L=some e)(j:L∉p.hid.f):Rel p prog w aa fr ι σ h' where
 len:=r.len
 nodup:=r.nodup
 stays:=λb e c=>(hs.2 b λd=>by rw[d,k]at c;exact TS c).trans (r.stays b e c)
 frames:=dF (λb s e c=>(hs.2 b λd=>hf (d▸s)).trans c) r.frames
 dD:=r.dD
 new:=r.new
 hid:=λa f=>by
  by_cases d:a=L
  .subst d;exact n.resolve_left (λq=>q f)
  .refine av (r.hid a f) λe c=>?_;exact⟨e,(hs.2 a d).trans c⟩
 Uu:=λa f=>nw (r.Uu a f) λe c=>⟨e,(hs.2 a λd=>j (d▸f)).trans c⟩
 obj:=λi a co g m=>(r.obj i a co g m).mono (λe c=>(hs.2 a λd=>l (d▸fz g)).trans c) fV (cz hs o j)
theorem Step.sameBut{md fr ex ι h aw h' k}(x:Step p.hid md fr ex ι h aw h')(hs:og L h' k)(f:h.get? L=none):Step p.hid md fr ex ι h aw k where
 pre:=x.pre
 c5:=x.c5
 ext:=λb d s q c=>by
  refine ah (x.ext b d s q c) λl g u=>?_;exact⟨l,(hs.2 b λe=>by rw[e,f]at c;exact TS c).trans g,u⟩
 live:=λb d c=>by
  refine av (x.live b d c) λo g=>?_;exact⟨o,(hs.2 b λe=>by rw[e,f]at c;exact TS c).trans g⟩
 tup:=⟨λa ws n t=>by
  refine ah (x.tup.t a ws n t) λd c y=>?_;refine ah t λo0 j v=>?_;exact⟨d,(hs.2 a λe=>by rw[e,f]at j;exact TS j).trans c,y⟩,λa m d c=>(hs.2 a λe=>by rw[e,f]at c;exact TS c).trans (x.tup.f a m d c)⟩
noncomputable def inner (C:Cfg)(scope:Qa)(a:e0 (jg×hD))(L:hD)(cm:e0 (e5×e5))(md:e5->jW):Cfg:=⟨compEnvC scope a L C.env,C.A,C.fr,cm,md,C.hn⟩
noncomputable def EL (p:P)(prog:ih)(w:jo)(aa:kb)(C:Cfg)(U af:H)(nx:e5->H->gN (gN V))(ai:e0 (e5×V))(target elt:k8)(ifs:e0 k8)(scope:Qa)(f7:e5->jW)(cm:e0 (e5×e5)):Prop:=
 ∀ a L,cH (inner C scope a L cm f7)->Vt p prog w aa (inner C scope a L cm f7) U.length nx target ifs elt 0 [] (U++[.list []]) ai af
noncomputable def EM (p:P)(prog:ih)(w:jo)(aa:kb)(C:Cfg)(ρ:e0 (e5×V))(σ:H)(scope:Qa)(cm:e0 (e5×e5)):Prop:=
 ∀ ι m h,Good p prog w aa C ρ ι σ m h->∃ a,Kw scope C.env=pure a/\∀ x id n,p.names[x]?=some id->cm.lookup x=some n->C.cm.lookup x=some n/\a.lookup id=C.env.cells.lookup id
structure m0 (p:P)(prog:ih)(w:jo)(aa:kb)(C:Cfg)(ρ:e0 (e5×V))(σ U af:H)(nx:e5->H->gN (gN V))(ai:e0 (e5×V))(target iter elt:k8)(ifs:e0 k8)(scope:Qa)(f7:e5->jW)(cm:e0 (e5×e5)):Prop where
 ok:cH C
 it:fD p prog w aa C ρ f7 target iter σ U nx
 md:∀ n,f7 n=true->C.md n=true\/U.length<=n
 EN:f7 U.length=true
 run:EL p prog w aa C U af nx ai target elt ifs scope f7 cm
 st:∀ y,sf iter C.env y=pure y
 kind:scope.kind=.function
 names:∀ x∈scope.names,x.2=.local->scope.names.lookup x.1=some .local
 cell:∀ x∈scope.names,x.2≠.cell
 clos:EM p prog w aa C ρ σ scope cm
theorem tF (hn:h.Ns L m) ws:¬ qv h L ws:=λt=>by
 obtain⟨f,d,l,j,c⟩:=t;refine fx hn λk e n a b g=>?_;rw[d]at a;cases a;rw[c]at b;cases b
theorem nH{Q:fB->gc->Prop}(H:m0 p prog w aa C ρ σ U af nx ai target iter elt ifs scope f7 cm)(g:Good p prog w aa C ρ ι σ m s.heap)(K:∀ (L a:hD) (aw:e0 hD) (h':kb) (ak:QN) (ap:jg->gN fB),s.heap.get? L=none->aa.get? L=none->L∉dp C.fr->L∉p.hid.t->L∉p.hid.f->L∉aw->h'.Ns L ap->Rel p prog w aa C.fr aw af h'->Step p.hid C.md C.fr [] ι s.heap aw h'->aw[U.length]?=some a->
   compPost (hh prog w) C.A E use Q (.ref a) L (.ok .next) {s with heap:=h',toks:=ak}):
  ht (hh prog w) C.A (comprehension (.ListComp elt [⟨target,iter,ifs,0⟩] scope pos) scope C.env (firstIterPos [⟨target,iter,ifs,0⟩] pos) (newList []) (firstAsync [⟨target,iter,ifs,0⟩]) (firstIter [⟨target,iter,ifs,0⟩] C.env) use) Q E s:=by
 refine ah (H.clos ι m _ g) λaJ a1 aV=>?_;refine wpAny_comprehension_free (use:=use) rfl H.st a1 H.kind H.names (H.it ι s m _ _ g λaj h₂ ao a8 Is P k u z ab a6=>?_);have as:=g.step k u;show ht _ _ (newList []) _ _ _;refine pJ (wpAny_newFunctionEnv H.cell (by intro y a3;simp at a3) (λl aD ax=>?_) H.kind);simp only[rI,Nu]at aD ax ⊢
 -- I7 A6,then I7 names
 have f:=k.alloc (co:=.list []) (o:={cls:=.type "list",dict:=Option.none,data:=.seq ([]:e0 fB).toArray}) ⟨[],⟨0,gR _ rfl⟩,.nil⟩;have aX:=Step.alloc p.hid f7 C.fr [] aj h₂ {cls:=.type "list",dict:=Option.none,data:=.seq ([]:e0 fB).toArray};have bh:∀ b e,(h₂.push {cls:=.type "list",dict:=Option.none,data:=.seq ([]:e0 fB).toArray}).get? b=some e->l.get? b=some e:=λb e c=>
  ax.extBut b e (hc (hy c)) (fw _ c)
 refine az (f.ext bh) λar aA=>?_;have au:(h₂.push {cls:=.type "list",dict:=Option.none,data:=.seq ([]:e0 fB).toArray}).objs.size=h₂.objs.size+1:=uQ ..;generalize bi:(h₂.push {cls:=.type "list",dict:=Option.none,data:=.seq ([]:e0 fB).toArray})=d at*
 let q:=inner C scope aJ d.objs.size cm f7
 have aQ:d.objs.size∉dp C.fr:=λh=>by
  obtain⟨_,e,c,_⟩:=f.frames.mem h;exact iv (hy c) (hW _)
 have bm:d.objs.size∉aj++[h₂.objs.size]:=λh=>hW _ (f.kH h);have ay:aa.get? d.objs.size=Option.none:=f.stays.fresh;have be:cH q:=⟨H.kind,H.ok.glob,H.ok.blt,H.ok.frames,H.ok.handled,H.ok.depth,H.ok.units⟩;have bn:Good p prog w aa q [] (aj++[h₂.objs.size]) (U++[.list []]) _ l:=
  ⟨ar,aD,bm,ay,λx id v bo c=>by simp at c,λx id n aL aY=>by
   refine az (aV x id n aL aY) λj a4=>?_;refine ah (as.cells x id n aL j) λa a7 a2=>?_;exact⟨a,bC (e1 ..) a7,a4.trans a2⟩,(as.hand).pre (e1 ..),f.l9 (aW _)⟩
 have a9:d.objs.size∉p.hid.f:=f.l9 (aW _);have bd:d.objs.size∉p.hid.t:=λh=>by
  refine av (f.hid _ h) λe c=>?_;exact iv (hy c) (hW _)
 have aO:s.heap.get? d.objs.size=Option.none:=by
  cases ae:s.heap.get? d.objs.size with
  |none=>rfl
  |some e=>
   refine av (u.live _ e ae) λbb c=>?_;have j:=hy c;rw[au]at j;exact iv (pM j) (hW _)
 have a5:q.env.locals∉Is:=λh=>by
  refine av ((ab _ h).2) λe c=>?_;have j:d.objs.size<h₂.objs.size:=hy c;rw[au]at j;exact iv (pM j) (hW _)
 have aK:=z.stay (z.stay a6 k f aX (by simp) (by simp)) f ar (aA _ []) (by simp) (by simp);have a0:q.md U.length=true:=H.EN;have run:∀ aq:gc,aq={s with heap:=l,toks:=ao}->kC (hh prog w) C.A (.compLoop (.ListComp elt [⟨target,iter,ifs,0⟩] scope pos) 0 (.ref a8) (.ref h₂.objs.size) q.env)
   (compPost (hh prog w) C.A E use Q (.ref h₂.objs.size) d.objs.size) aq:=by
  rintro aq rfl;refine(H.run aJ d.objs.size be) _ _ _ _ _ _ z a5 a0 _ {s with heap:=l,toks:=ao} _ _ _ aK bn (by rw[<-k.len];simp) λaw bs h' ak ap am aN bl=>?_;refine K d.objs.size _ aw h' ak ap aO ay aQ bd a9 am.dE am.ns am.rel ?_ ?_
  .have st:Step p.hid C.md C.fr [] ι s.heap (aj++[h₂.objs.size]) l:=by
    refine u.trans ?_;have aP:=Step.alloc p.hid C.md C.fr [] aj h₂ {cls:=.type "list",dict:=Option.none,data:=.seq ([]:e0 fB).toArray};rw[bi]at aP;exact aP.trans (aA C.md [])
   refine((st.mX aN (λb o=>?_) λn b t c=>?_).cL bl λb o=>(ab b o).1)
   .rcases hr.mp o with rfl|o
    .exact .inr aO
    .exact .inr (ab b o).1
   .rcases H.md n t with t|t
    .exact .inl t
    .rw[gO (by rw[k.len];exact t)]at c
     have:=fz c;simp at this;subst this;refine .inr ?_;cases ae:s.heap.get? h₂.objs.size with
     |none=>rfl
     |some e=>
      refine av (u.live _ e ae) λbb c=>?_;exact iv (hy c) (hW _)
  .refine bC aN.pre ?_
   rw[<-k.len];simp
 exact codeAny_compStart_list (run _ rfl) (z.self (s:={s with heap:=l,toks:=ao}) aK (run _ rfl))
theorem Ev.comp (H:m0 p prog w aa C ρ σ U af nx ai target iter elt ifs scope f7 cm):
  Ev p prog w aa C ρ (hF (.ListComp elt [⟨target,iter,ifs,0⟩] scope pos) C.env) σ (.h U.length) af:=λι s m Q E o f=>
 nH (use:=Option.none) H o λL a aw h' e k h d l g t q c r st j=>⟨k,c,λn b=>f aw n e _ (r.sameBut b q d l (tF c) (.inl g) t) (st.sameBut b h) (.h j)⟩
end
end
variable{I:hD}{vs:uf fB}{x:gN V}{tgt:k8}
section
section
variable{fr:e0 zs}{md:e5->jW}
noncomputable def dH (p:P)(aa:kb)(fr:e0 zs)(Is ι:e0 hD)(h:kb):Prop:=
 ∀ b∈Is,b∉ι/\b∉dp fr/\aa.get? b=none/\(b∉p.hid.t/\b∉p.hid.f)/\∃ o,h.get? b=some o/\∀ xs n,o.data≠.seq xs n
theorem dH.new (r:Rel p prog w aa fr ι σ h)(hn:∀ c∈Is,h.get? c=none/\∃ d,h'.get? c=some d/\∀ xs e,d.data≠.seq xs e):dH p aa fr Is ι h':=λc g=>by
 refine az (hn c g) λb f=>?_;refine lC (λa=>?_) (λa=>?_) ?_ ⟨λa=>?_,λa=>?_⟩ f
 .exact r.VA b a
 .exact r.EC b a
 .exact r.n0 b
 .exact r.UT b a
 .exact r.nz b a
theorem Rel.cL (r:Rel p prog w aa fr ι σ h)(f:dH p aa fr Is ι h)(k:∀ e b,e∉Is->h.get? e=some b->h'.get? e=some b):Rel p prog w aa fr ι σ h'/\cu p.hid Is h h':=by
 have tp:Kp p.hid h h':=⟨λa ws x t=>by
  obtain⟨b,c,u,q,n⟩:=t;refine⟨b,k a b (λd=>?_) c,u,q,n⟩;obtain⟨_,_,_,_,y,j,o⟩:=f a d;rw[c]at j;cases j;exact o _ _ n,λa m b c=>k a b (λd=>(f a d).2.2.2.1.2 m) c⟩
 refine⟨⟨r.len,r.nodup,λe b c=>k e b (λd=>by rw[(f e d).2.2.1]at c;exact TS c) (r.stays e b c),dF (λe v b c=>k e b (λd=>(f e d).2.1 v) c) r.frames,r.dD,r.new,
  λa g=>(r.hid a g).imp λb=>k a b λd=>(f a d).2.2.2.1.1 g,λa g=>nw (r.Uu a g) λb c=>⟨b,k a b (λd=>(f a d).2.2.2.1.2 g) c⟩,λi a co l s=>(r.obj i a co l s).mono (λb c=>k a b (λd=>(f a d).1 (fz l)) c) fV tp⟩,k,tp⟩
theorem cu.step (k:cu hid Is h h')(f:∀ b∈Is,∃ a,h'.get? b=some a):Step hid md fr Is ι h ι h' where
 pre:=fV
 c5:=λc c x=>.inl x
 ext:=λb a g c d=>⟨a.slots,k.keep b a g d,λc=>rfl⟩
 live:=λb a d=>by
  by_cases e:b∈Is
  .exact f b e
  .exact⟨a,k.keep b a e d⟩
 tup:=k.tup
theorem Step.exact (x:Step hid md fr ex ι h aw h')(f:b∉ex)(c:b∉ι)(hf:b∉dp fr)(e:h.get? b=some o):h'.get? b=some o:=by
 refine ah (x.ext b o f (λn j d=>c (fz d)) e) λk a g=>?_;have:=g hf;subst this;exact a
theorem dH.stay (e:dH p aa fr Is ι h)(x:Step p.hid md fr ex ι h aw h')(k:∀ a∈Is,a∉ex):dH p aa fr Is aw h'/\∀ a∈Is,∀ b,h.get? a=some b->h'.get? a=some b:=by
 have ex:∀ a∈Is,∀ b,h.get? a=some b->h'.get? a=some b:=λa c b d=>x.exact (k a c) (e a c).1 (e a c).2.1 d;refine⟨λa c=>?_,ex⟩;obtain⟨j,m,f,l,b,d,g⟩:=e a c;refine⟨λo=>(x.new a o).elim j (λn=>by rw[n]at d;exact TS d),m,f,l,b,ex a c b d,g⟩
noncomputable def iY (n:e5):e5->H->gN (gN V):=λi σ=>match σ[n]? with
 |some (.list l)=>some l[i]?
 |_=>none
noncomputable def m5 (n:e5):e5->H->gN (gN V):=λi σ=>match σ[n]? with
 |some (.dict d)=>some (d[i]?.map λx=>x.1.v)
 |_=>none
noncomputable def qw (l:e0 e5):e5->H->gN (gN V):=λi a=>some (l[i]?.map λc=>.str [c])
noncomputable def iM (n:hA):e5->H->gN (gN V):=λi a=>some (if(i:hA)<n then some (.int i)else none)
noncomputable def kN (n:e5):e5->H->gN (gN V):=λi σ=>match σ[n]? with
 |some (.list l)=>some (l[i]?.map λv=>.tup [.int i,v])
 |_=>none
theorem aT.get'{w:e0 fB}(r:aT p ι h v w){i:e5}(e:v[i]?=none):w[i]?=none:=lF (r.length▸tb.mp e)
noncomputable abbrev ye:e0 String:=["enumerate","zip","dict_itemiterator","dict_reverseitemiterator","odict_iterator","itertools.zip_longest","itertools.pairwise"]
theorem vV{Q:GK->gc->Prop}(e:s.heap.get? I=some o)(d:o.cls=.type n)(f:o.data=.fields vs)(hn:ye.contains n=false)(b:Q () s):ht (hh prog w) A (pc target (.ref I) wv) Q E s:=by
 have c:ht (hh prog w) A (pc (.Tuple [] 0 ⟨0,0,0,0⟩) (.ref I) wv) Q E s:=by
  cases wv with
  |ref a=>
   refine e3 (Gb e ?_);rw[d,f];show ht _ A (if(ye.contains n&&vs[0]?==some (tA a))=true then _ else _) Q E s;rw[hn];exact gq b
  |_=>exact gq b
 cases target with
 |Tuple=>exact c
 |List=>exact c
 |_=>exact gq b
theorem uS (b:e5->e0 hD->kb->Prop)(ai:∀ {i ι h},b i ι h->∃ a m vs,h.get? I=some a/\a.cls=.type m/\a.data=.fields vs/\ye.contains m=false)(as:∀ {i ι σ h aw h' ex},b i ι h->Rel p prog w aa fr ι σ h->Step p.hid md fr ex ι h aw h'->(∀ ap∈ex,ap∉ι)->(∀ a,h.get? I=some a->h'.get? I=some a)->b i aw h')(y:∀ {i ι σ s v} {Q:gN fB->gc->Prop} {E:fB->gc->Prop},b i ι s.heap->Rel p prog w aa fr ι σ s.heap->I∉ι->z i σ=some (some v)->
   (∀ h' l wv,og I s.heap h'->b (i+1) ι h'->TQ p ι s.heap v wv->Q (some wv) {s with heap:=h',toks:=l})->ht (hh prog w) A (w8 (.ref I)) Q E s) (fin:∀ {i ι σ s} {Q:gN fB->gc->Prop} {E:fB->gc->Prop},b i ι s.heap->Rel p prog w aa fr ι σ s.heap->z i σ=some none->(∀ h',wA I s.heap h'->Q none {s with heap:=h'})->ht (hh prog w) A (w8 (.ref I)) Q E s) (self:∀ {i ι s} {Q:fB->gc->Prop} {E:fB->gc->Prop},b i ι s.heap->Q (.ref I) s->ht (hh prog w) A (IV (.ref I)) Q E s):
  po p prog w aa A fr md tgt I [I] z (λi ι o h=>dH p aa fr [I] ι h/\b i ι h) where
 stay:=λx r o st n hx=>by
  refine az (x.1.stay st n) λak q=>?_;exact⟨ak,as x.2 r st hx (q _ (.head _))⟩
 item:=λ{i ι σ s v Q E} x r hx g=>y x.2 r (x.1 _ (.head _)).1 hx λh' l wv ae u ab=>by
  refine qm (ai u) λa m vs d e hd ar=>?_;refine az (r.cL (Is:=[I]) (h':=h') x.1 λc a e d=>(ae.2 c λf=>e (gP.mpr f)).trans d) λk j=>?_;refine g h' l wv k (j.step λc e=>⟨a,gP.mp e▸d⟩) (ab.mono fV j.tup) λax au ao=>?_;refine vV d e hd ar (ao h' k (.refl ..) ⟨λc t=>?_,u⟩);refine xw (x.1 c t) λaq af aj am o=>?_;exact⟨aq,af,aj,am,a,gP.mp t▸d,λxs q f=>by rw[hd]at f;cases f⟩
 fin:=λ{i ι σ s Q E} x r hx g=>fin x.2 r hx λh' n=>by
  refine az (r.cL (Is:=[I]) (h':=h') x.1 λc a e d=>n c a (λf=>e (gP.mpr f)) d) λk j=>?_;exact g h' s.toks k j
 self:=λx g=>self x.2 g
theorem uT (b:h.get? I=none)(h1:h'.get? I=some o):∀ a∈[I],h.get? a=none/\∃ o,h'.get? a=some o:=λa c=>gP.mp c▸⟨b,o,h1⟩
theorem dH.one (r:Rel p prog w aa fr ι σ h)(c:h.get? I=none)(h1:h'.get? I=some o)(e:o.data=.fields vs):dH p aa fr [I] ι h':=
 dH.new r λb d=>gP.mp d▸⟨c,o,h1,λxs k a=>by rw[e]at a;cases a⟩
theorem dH.next (f:dH p aa fr Is ι h)(r:Rel p prog w aa fr ι σ h)(k:∀ c b,c∉Is->h.get? c=some b->h'.get? c=some b)(d:∀ m∈Is,∃ b vs,h'.get? m=some b/\b.data=.fields vs):Rel p prog w aa fr ι σ h'/\Step p.hid md fr Is ι h ι h'/\dH p aa fr Is ι h':=by
 refine az (r.cL f k) λo l=>?_;refine⟨o,l.step λc a=>(d c a).imp λb a=>a.elim λj a=>a.1,λc a=>?_⟩;refine xw (f c a) λn t g s j=>?_;refine b5 (d c a) λb vs e q=>?_;exact⟨n,t,g,s,b,e,λxs k a=>by rw[q]at a;cases a⟩
theorem dH.two (h1:h.get? I=some o)(c:o.data=.fields vs)(f:h.get? j=some b)(d:b.data=.fields e):∀ a∈[I,j],∃ o vs,h.get? a=some o/\o.data=.fields vs:=
 gx.mpr ⟨⟨o,vs,h1,c⟩,λa g=>gP.mp g▸⟨b,e,f,d⟩⟩
theorem mc (h:iY n i σ=some x):∃ l,σ[n]?=some (.list l)/\l[i]?=x:=by
 have h':(match σ[n]? with|some (.list l)=>some l[i]?|_=>none)=some x:=h;cases a:σ[n]? with
 |none=>rw[a]at h';exact TS h'
 |some b=>
  rw[a]at h';cases b with
  |list l=>exact xH l rfl (fZ h')
  |_=>exact TS h'
theorem Iter.list (ak:A.handled=none)(aj:σ[n]?=some (.list l)):Iter p prog w aa A fr md tgt (.h n) σ (iY n):=λι s wv Q o r x d=>by
 cases x with
 |@h n a v=>
 refine ah (r.obj n a _ v aj) λws ae aq=>?_;refine zx (ha ae) (d s.heap.objs.size _ _ _ s.toks (uS (λi ι h=>ι[n]?=some a/\h.IsListIter s.heap.objs.size a i) ?_ ?_ ?_ ?_ ?_) (uT (aW _) (gR _ rfl)) (λb f c=>fw _ c) ⟨dH.one r (aW _) (gR _ rfl) rfl,v,_,gR _ rfl,rfl,rfl⟩)
 .rintro i ι h ⟨_,f,c,q,j⟩
  exact nk f _ _ c q j (by decide+kernel)
 .rintro i ι σ h aw h' ar ⟨e,f,c,q,j⟩ _ st _ af
  exact⟨bC st.pre e,f,af f c,q,j⟩
 .rintro i ι σ u ap Q o ⟨e,g⟩ r _ hx d
  refine ah (mc hx) λz c hx=>?_;refine ah (r.obj n a _ e c) λab m k=>?_;refine ah (k.get hx) λt am ao=>?_;exact uR g (ha m) (x:=t) (h7.trans am) λh' ai y=>d h' _ t y ⟨e,ai⟩ ao
 .rintro i ι σ u Q o ⟨e,g⟩ r hx d
  refine ah (mc hx) λz c hx=>?_;refine ah (r.obj n a _ e c) λab m k=>?_;exact vr ak g (ha m) (h7.trans (k.get' hx)) d
 .rintro i ι u Q o ⟨_,g⟩ d
  exact wpAny_pyIter_listiter g d
theorem Key.rv{k:Key}{v:fB}(hk:k.is v=true):TQ p ι h k.v v:=by
 cases k with
 |int i=>
  cases v<;>simp[Key.is,ui]at hk;subst hk;exact .int _ _
 |str a=>
  cases v<;>simp[Key.is,tE]at hk;subst hk;exact .str _ _
theorem Pairs.uniq (x:Qd (keyKind prog w) es k)(y:Qd (keyKind prog w) es b):k=b:=by
 induction x generalizing b with
 |nil=>cases y;rfl
 |@cons t g es s f n _ p=>
  cases y with
  |@cons _ j _ q l m y=>
   rw[p y];obtain⟨a,d⟩:=g;obtain⟨h,c⟩:=j;have o:a=h:=(keyKind prog w).inj _ _ _ f l;have e:d=c:=n.symm.trans m;rw[o,e]
theorem DictAt.keys{a:hD}(x:h.DictAt (keyKind prog w) a kvs ep)(y:h.DictOf (keyKind prog w) a f):kvs=f:=by
 refine iV x λl k e b hd b g b=>?_;refine s7 y λm o n c b d b j b=>?_;rw[e]at c;cases c;rw[hd]at d;cases d;exact Pairs.uniq g j
theorem mf (h:m5 n i σ=some x):∃ d,σ[n]?=some (.dict d)/\(d[i]?.map λx=>x.1.v)=x:=by
 have h':(match σ[n]? with|some (.dict d)=>some (d[i]?.map λx=>x.1.v)|_=>none)=some x:=h;cases a:σ[n]? with
 |none=>rw[a]at h';exact TS h'
 |some b=>
  rw[a]at h';cases b with
  |dict d=>exact xH d rfl (fZ h')
  |_=>exact TS h'
theorem Iter.keys (aQ:A.handled=none)(a2:∃ g,aa.get? kM=some g){d:e0 (Key×V)}(aL:σ[n]?=some (.dict d))(a0:md n=false):Iter p prog w aa A fr md tgt (.h n) σ (m5 n):=λι s wv Q x r ap j=>by
 cases ap with
 |@h n a u=>
 refine ba (r.obj n a _ u aL) λt k hk a5=>?_;refine av k.dictAt λaf e=>?_;have lo:(a==kM)=false:=by
  refine av a2 λg c=>?_;cases l:a==kM with
  |false=>rfl
  |true=>rw[eq_of_beq l]at u;rw[r.new _ (fz u)]at c;exact TS c
 refine wpAny_pyIter_dict lo e (j s.heap.objs.size _ _ _ s.toks (uS (λi ι h=>ι[n]?=some a/\h.DictAt (keyKind prog w) a t af/\h.IsKeyIter s.heap.objs.size a i t.length af) ?_ ?_ ?_ ?_ ?_) (uT (aW _) (gR _ rfl)) (λb g c=>fw _ c) ⟨dH.one r (aW _) (gR _ rfl) rfl,u,e.push _,_,gR _ rfl,rfl,rfl⟩)
 .rintro i ι h ⟨_,_,g,c,y,k⟩
  exact nk g _ _ c y k (by decide+kernel)
 .rintro i ι σ h aw h' a6 ⟨f,e,g,c,y,k⟩ r st hx au
  refine⟨bC st.pre f,?_,g,au g c,y,k⟩;refine b5 e λaj aA ay rest=>?_;have ab:=fz f;refine ah (st.ext a aj (λl=>hx a l ab) (λm am l=>by
   have a1:=e4.mp f;have ax:=e4.mp l;have:=(nu r.nodup).mp (a1.2.trans ax.2.symm);rw[<-this,a0]at am;exact UC am) ay) λa3 aY o=>?_
  exact eT aj aA (by rw[aY,o (r.dD a ab)]) rest
 .rintro i ι σ ai a4 Q x ⟨f,e,q⟩ r aq hx j
  refine ah (mf hx) λak c hx=>?_;refine ba (r.obj n a _ f c) λar z v as=>?_;obtain rfl:=DictAt.keys e z
  (refine ah (hI.mp hx) λaV aD aJ=>?_;rcases aJ with rfl)
  have:(t.map (λo=>o.1))[i]?=some aV.1:=by rw[v,jb,aD];rfl
  rw[jb]at this;refine ah (hI.mp this) λao aX aP=>?_;refine wpAny_pyNext_dict_item q e (k:=ao.1) (v:=ao.2) aX λkey h' aN aK ae=>j h' _ key ae ⟨f,e.extBut ae.extBut (λo=>aq (o▸fz f)),aK⟩ (Key.rv (aP▸aN))
 .rintro i ι σ ai Q x ⟨f,e,q⟩ r hx j
  refine ah (mf hx) λak c hx=>?_;refine ba (r.obj n a _ f c) λar z v as=>?_;obtain rfl:=DictAt.keys e z;have aO:t.length=ak.length:=by have:=hC nl v;rwa[g0,g0]at this
  exact wpAny_pyNext_dict_end aQ q e (lF (aO▸tb.mp (rn.mp hx))) j
 .rintro i ι ai Q x ⟨_,_,q⟩ j
  exact wpAny_pyIter_keyiter q j
theorem mh (h:kN n i σ=some x):∃ l,σ[n]?=some (.list l)/\(l[i]?.map λa=>.tup [.int i,a])=x:=by
 have h':(match σ[n]? with|some (.list l)=>some (l[i]?.map λa=>.tup [.int i,a])|_=>none)=some x:=h;cases b:σ[n]? with
 |none=>rw[b]at h';exact TS h'
 |some c=>
  rw[b]at h';cases c with
  |list l=>exact⟨l,rfl,fZ h'⟩
  |_=>exact TS h'
end
end
variable{Q:fB->gc->Prop}{vs:e0 V}{ox:Gx}{od:gN Gx}
section
section
variable{E:fB->gc->Prop}{s:gc}
theorem c7 (hf:∀ a,f≠.ref a)(e:args.any (λb=>b.1)=false)(h:ht M A (GO f true args []) (λa d=>ht M A (call f (first++a.pos) a.kw) Q E d) E s):
  ht M A (nI pos f first args []) Q E s:=by
 unfold nI;refine e3 (hK (ke h (λa d h₁=>e3 (ko ?_)) λc c x=>x));rw[show(args.any (λb=>b.1)||Kx [] (λb:gN jg×FD fB=>b.1.isNone))=false from by rw[e];rfl];have hk:GS f=pure .machine:=by
  cases f<;>first|rfl|exact iv rfl (hf _)
 rw[hk];refine e3 (gq ?_);exact e3 (ke h₁ (λr j g=>e3 (hK (D0 (gq g)))) λc c x=>x)
end
noncomputable def Bi (p:P)(prog:ih)(w:jo)(aa:kb)(C:Cfg)(f:fB)(vs:e0 V)(σ:H)(v:V)(ae:H):Prop:=
 ∀ ι s ws (Q:fB->gc->Prop) (E:fB->gc->Prop),Rel p prog w aa C.fr ι σ s.heap->aT p ι s.heap vs ws->
  (∀ aw h' a wv,Rel p prog w aa C.fr aw ae h'->Step p.hid C.md C.fr [] ι s.heap aw h'->TQ p aw h' v wv->Q wv {s with heap:=h',toks:=a})->
  ht (hh prog w) C.A (call f ws) Q E s
noncomputable def jx (σ:H):V->gN yA
 | .str _=>some "str"
 | .int _=>some "int"
 | .tup _=>some "tuple"
 | .h n=>match σ[n]? with
  |some (.list _)=>some "list"
  |some (.dict _)=>some "dict"
  |_=>none
 |_=>none
section
variable{C:Cfg}{v b:V}{gl:e0 (jg×V)}
theorem ik (h:σ[n]?=some (.list l)):jx σ (.h n)=some "list":=by
 show(match σ[n]? with|some (.list _)=>some "list"|some (.dict _)=>some "dict"|_=>none)=_;rw[h]
theorem m6{l:e0 (Key×V)}(h:σ[n]?=some (.dict l)):jx σ (.h n)=some "dict":=by
 show(match σ[n]? with|some (.list _)=>some "list"|some (.dict _)=>some "dict"|_=>none)=_;rw[h]
theorem uU (h:jx σ (.h n)=some T):(∃ l,σ[n]?=some (.list l)/\"list"=T)\/∃ d,σ[n]?=some (.dict d)/\"dict"=T:=by
 have h':(match σ[n]? with|some (.list _)=>some "list"|some (.dict _)=>some "dict"|_=>none)=some T:=h;cases a:σ[n]? with
 |none=>rw[a]at h';exact TS h'
 |some b=>
  rw[a]at h';cases b with
  |list l=>exact .inl ⟨l,rfl,fZ h'⟩
  |dict d=>exact .inr ⟨d,rfl,fZ h'⟩
  |_=>exact TS h'
theorem Rel.typeIs{fr ι}{s:gc}(r:Rel p prog w aa fr ι σ s.heap)(k:TQ p ι s.heap v wv)(h:jx σ v=some T):s.TypeIs wv T:=by
 cases k with
 |str x t=>exact fZ h▸BI _ _ _
 |int i t=>exact fZ h▸typeIs_int _ _ _
 |tup c m _=>exact m.elim λj b=>fZ h▸⟨j,b.1,b.2.1⟩
 |@h c a f=>
  rcases uU h with⟨l,e,rfl⟩|⟨d,e,rfl⟩
  .exact(r.obj c a _ f e).elim λws b=>b.1.elim λo g=>⟨_,g,rfl⟩
  .exact(r.obj c a _ f e).elim λn b=>b.1.typeIs
 |_=>exact TS h
theorem Rel.noDict{fr ι}{s:gc}(r:Rel p prog w aa fr ι σ s.heap)(m:TQ p ι s.heap v wv)(h:jx σ v=some T)(o:T≠"tuple"):∀ a,wv=.ref a->∃ ob,s.heap.get? a=some ob/\ob.dict=none:=λc n=>by
 subst n;cases m with
 |tup f x _=>exact iv (fZ h).symm o
 |@h f a g=>
  rcases uU h with⟨l,e,rfl⟩|⟨d,e,rfl⟩
  .exact(r.obj f _ _ g e).elim λws b=>b.1.elim λq j=>⟨_,j,rfl⟩
  .exact(r.obj f _ _ g e).elim λu b=>b.1.elim λk b=>b.elim λt b=>b.elim λq b=>⟨k,b.1,b.2.1.2.1⟩
 |fn e=>exact TS h
 |ab e=>exact TS h
theorem Ev.bi{id:jg}(B:Base p prog w aa gl)(b:cH C)(hk:C.env.kindOf id=some .globalImplicit)(hf:p.bl.lookup id=some f)(e:∀ a,f≠.ref a)(g:(id==("__debug__":jg))=false)(ai:jY p prog w aa C ρ (pp (la pos (hu args C.env))) σ vs U)(hs:(hu args C.env).any (λk=>k.1)=false)(h:Bi p prog w aa C f vs U v af):
  Ev p prog w aa C ρ (hF (.Call (.Name id np) args [] pos) C.env) σ v af:=λι s m Q E c n=>by
 have t:hF (.Call (.Name id np) args [] pos) C.env=(do nI pos (<-hF (.Name id np) C.env) [] (la pos (hu args C.env)) []):=rfl;rw[t];refine cg B.blt λao ar ae z x=>?_;refine az (x id f hf) λd l2=>?_;refine e3 (mR b.kind hk (tK (b.glob▸ae.keeps c.rel.stays) d (b.blt▸z.keeps c.rel.stays) l2 ?_) g);refine c7 e (aI hs pos) (bq (aI hs pos) (ai ι s m _ _ c λaj h₁ ap ak j o q=>?_));exact h aj _ ak _ _ j q λaq h₂ am y ab l u=>n aq h₂ am y ab (o.trans l) u
theorem Ev.Dh{id:yA}(aD:wj o name C.env (hF o C.env)=hF o C.env)(aw:((la pos (hu args C.env)).all (λx=>!x.1)&&(KA pos (D1 [] C.env)).all (λx=>x.1.isSome)
   &&decide (args.length+([]:e0 Ny).length+(if([]:e0 Ny).isEmpty then 0 else 1)<30))=true) (t:(z.endLine==pos.line)=true) (aJ:QW T) (ay:Slot T name id) (ab:QX (.builtin id)=pure (.type "method_descriptor")) (q:Ev p prog w aa C ρ (hF o C.env) σ a U) (f:jx U a=some T) (ar:T≠"tuple") (as:jY p prog w aa C ρ (pp (la pos (hu args C.env))) U vs af) (hs:(hu args C.env).any (λu=>u.1)=false) (h:Bi p prog w aa C (.builtin id) (a::vs) af v ao):
  Ev p prog w aa C ρ (hF (.Call (.Attribute o name z) args [] pos) C.env) σ v ao:=λι s m Q E j y=>by
 refine AN aD aw t (q ι s m _ _ j λaj h₁ g au b e c=>?_);refine lD T id aJ ay ab (Rel.typeIs (s:={s with heap:=h₁,toks:=g}) b c f) (Rel.noDict (s:={s with heap:=h₁,toks:=g}) b c f ar) ?_;refine BJ (aI hs pos) (bq (aI hs pos) (as aj _ m _ _ (j.step b e) λaq h₂ aK ai am d ae=>?_));exact h aq _ (au::ai) _ _ am (.cons (d.rv c) ae) λax aA ap l ak k n=>y ax aA ap l ak ((e.trans d).trans k) n
theorem Ev.sub{id:yA}(h1:Ev p prog w aa C ρ (hF ap C.env) σ a U)(h2:Ev p prog w aa C ρ (hF e C.env) U b af)(ab:bL p prog w aa C yd a b af v ao)(x:jx af a=some T)(u:t4 (.type T) "__getitem__"=pure (some (.builtin id)))(hs:∀ c i,D3 e false c i=Nz [c,i] (yd c i)):
  Ev p prog w aa C ρ (hF (.Subscript ap e pos) C.env) σ v ao:=λι s m Q E j q=>by
 refine BN (h1 ι s m _ _ j λaj h₁ as ai o f g=>h2 aj _ m _ _ (j.step o f) λaq h₂ ar y h d t=>?_);refine tail_any (Rel.typeIs (s:={s with heap:=h₂,toks:=ar}) h (d.rv g) x) u ?_ (hs _ _);exact ab aq _ ai y _ _ h (d.rv g) t λak am ae l z k n=>q ak am ae l z ((f.trans d).trans k) n
theorem Ev.attr{b:jg}(h1:Ev p prog w aa C ρ (hF o C.env) σ a U)(h2:tw p prog w aa C (λx=>GU x b true) a U v af)(n:hF (.Attribute o b pos) C.env=(do
   let c<-hF o C.env
   yc pos.atName
   let r<-zu [c] (GU c b true)
   y6 o c r
   pure r)):Ev p prog w aa C ρ (hF (.Attribute o b pos) C.env) σ v af:=λι s m Q E q f=>
 Attribute_any_ (h1 ι s m _ _ q λaj h₁ y t k g h=>h2 aj _ t _ _ k h λaq h₂ j u d e l=>f aq h₂ j u d (g.trans e) l) n
structure qy (K:AO)(c:hD)(name:jg):Prop where
 g:plainGet K c name=true
 h:M7 K c=true
 a:∃ attr,u0 K (.ref c) name=some attr/\noGet K attr=true
 o:EQ K c=true
 t:G2 K c name=some none
 s:u0 K (.ref c) "__setattr__"=some (some (.builtin "object.__setattr__"))
theorem UJ.get{ι h}(g:p.names.Nodup){l:e0 (e5×V)}(r:UJ p ι h l es):∀ {x:e5} {id:jg} {v:V},p.names[x]?=some id->l.lookup x=some v->∃ wv,SP id es=some (some wv)/\TQ p ι h v wv:=by
 induction r with
 |nil=>exact λs b=>TS b
 |@cons k j w m u t l es f r _ o=>
  intro x id v hx b;by_cases d:x=k
  .subst d
   obtain rfl:=fZ (hx.symm.trans f);rw[hL,ij]at b;have c:D4 (.str id t) id=true:=ij id;refine⟨m,?_,fZ b▸r⟩;unfold SP;rw[pd];dsimp only;rw[c]
  .rw[hL,kB d]at b
   refine ah (o hx b) λwv a n=>?_;have c:D4 (.str j t) id=false:=kB λq=>d (gd g hx (q▸f));refine⟨wv,?_,n⟩;unfold SP at a ⊢;rw[pd];dsimp only;rw[c];cases e:es.find? (λx=>x.key.isStr id)with
   |some y=>rw[e]at a;exact a
   |none=>rw[e]at a;dsimp only at a;split at a<;>(first|exact TS a|cases a)
theorem nJ{ι h}(r:TQ p ι h v wv):handedIn wv=true:=by cases r<;>rfl
theorem tw.getAttr{x:e5}{id:jg}(B:Base p prog w aa gl)(q:σ[n]?=some (.inst k f))(hn:σ[f]?=some (.ns ak))(hx:p.names[x]?=some id)(aj:ak.lookup x=some v)(ao:p.ca[k]?=some c)(e:qy p.K c id):tw p prog w aa C (λz=>Mq z id true) (.h n) σ v σ:=λι s aq Q E r b af=>by
 cases b with
 |@h ar ad ai=>
 refine cg (r.obj n ad _ ai q) λap d g m ae=>?_;rw[ao]at g;cases g;refine b5 (r.obj f d _ m hn) λab t u o=>?_;refine ah (o.get B.nodup hx aj) λwv g1 b=>?_;refine ah e.a λattr am l=>?_;have X:p.K.In s.heap:=λa j y=>r.stays _ _ (B.qq a j y);exact get_value X (ox:=⟨.ref c,some d,.plain,#[]⟩) (od:=some (wS ab t)) ⟨ae,rfl,rfl,u⟩ (plainGet_of e.g).1 (Qe e.h am l g1) (nJ b) (af ι s.heap _ wv r (.refl ..) b)
end
noncomputable def m7 (K:AO)(C:hD):Prop:=∃ cd,clsIn K C=some cd/\cd.mro=[.ref C,.type "Exception",.type "BaseException",.type "object"]
structure nK (K:AO)(c:hD)(name:jg):Prop where
 g:u0 K (.ref c) "__getattribute__"=some (some (.builtin "BaseException.__getattribute__"))
 g2:u0 K (.ref c) "__getattr__"=some none
 b:RX K c (.type "BaseException")=some true
 h:M7 K c=true
 a:∃ attr,u0 K (.ref c) name=some attr/\noGet K attr=true
 o:m7 K c
 t:G2 K c name=some none
 s:u0 K (.ref c) "__setattr__"=some (some (.builtin "object.__setattr__"))
section
variable{E:fB->gc->Prop}{s:gc}{K:AO}{x C:hD}{name:jg}{expr:jW}{R:tc->gc->Prop}
theorem rM (X:K.In s.heap)(I:InstAt s.heap x ox C od)(b:u0 K (.ref C) "__getattribute__"=some (some (.builtin "BaseException.__getattribute__")))(f:u0 K (.ref C) "__getattr__"=some none)(n:RX K C (.type "BaseException")=some true)(hf:findObj K C od name=some (.value v))(c:handedIn v=true)(h:Q v {s with toks:=s.toks+1}):ht (hh prog w) A (GU (.ref x) name expr) Q E s:=by
 obtain⟨m,o,d,t,os⟩:=s;have a:=I.type (M:=hh prog w);have g:=yf (M:=hh prog w) X b;have j:=yf (M:=hh prog w) X f;have k:=looks_find (M:=hh prog w) X I hf;have l:vz (hh prog w) m (Gi (.ref x) (.type "BaseException")) true:=a.andThen (D7 X n);have FB:=KC;unfold GU M8;refine e3 (BS (hK (e3 (a.at (e3 (g.at ?_))))));have e:(zB "BaseException.__getattribute__"==zB "object.__getattribute__")=false:=by decide+kernel
 dsimp only;rw[e,ve,hb J];unfold Do QY IX;rw[show M9 (.ref C)=true from rfl,hz rfl,show M9 (zB "BaseException.__getattribute__")=false from rfl,ve,hb J];refine e3 (j.at ?_);refine e3 (FI (hK ?_));unfold KP;rw[FB.ga.bind];refine e3 (gq ?_);refine sX ?_;refine Es FB.ga.plain Pu (@KQ (hh prog w) _ _ _ "BaseException.__getattribute__" "BaseException" "__getattribute__" (.ref x) [.str name t] [] _ (by decide+kernel) (by decide+kernel) l (Qf (.ref x) (.str name t)) ?_);refine e3 (gq (e3 (gq (e3 (a.at (e3 (k.at ?_)))))));refine gq ?_;show ht _ _ (handedOut v) _ _ _;rw[handedOut_of c];exact gq h
open Builtin Builtin.ObjectAttr in
theorem nL{c:QN}{v:fB}{r:gN fB}(X:K.In s.heap)(I:InstAt s.heap x ox C od)(g:EQ K C=true\/m7 K C)(n:G2 K C name=some r)
  (h:∀ f,ht (hh prog w) A.in1 (match r with|some a=>setByDescriptor a (.ref x) v|none=>storeInOwnDict (.ref x) (.ref C) (.str name c) name v f)
   (λfin d=>match fin with| .done q=>R (.ok q) d| .again k=>k.quiet=true/\kC (hh prog w) A k R d) (λe d=>R (.error e) d) s):
  kC (hh prog w) A (.call (.builtin "object.__setattr__") ⟨[.ref x,.str name c,v],[]⟩) R s:=by
 rcases g with g|⟨cd,m,j⟩
 .exact osa_open X I g n h
 have b:=Qg;have sub:vz (hh prog w) s.heap (Gi (.ref x) (.type "object")) true:=I.type.andThen (D7 X (by unfold RX;rw[m,Option.bind_some,hb (by rw[j];exact kA),j];rfl));refine Es b.slot.plain b.entry (@KQ (hh prog w) _ _ s "object.__setattr__" "object" "__setattr__" (.ref x) [.str name c,v] [] _ b.kind b.split sub (b.args (.ref x) (.str name c) v) ?_);refine ah (mA.mp n) λattr u l=>?_;have p:vz (hh prog w) s.heap (RY (.ref C)) cd.mro:=(JF X m).andThen .now;have t:vz (hh prog w) s.heap (storeTaker? attr) r:=by
  cases attr with
  |none=>cases l;exact .now
  |some a=>
   (refine ah (hI.mp l) λf y o=>?_;subst o)
   refine(looks_takesIn X y).andThen ?_;cases f<;>exact .now
 rw[osa_eq,refuse_eq];refine e3 (e3 (I.type.here (e3 (p.here ?_))));rw[j,refuseLoop_ref,Na.passes];refine gq (e3 (I.type.here (e3 ((yf X u).here (e3 (t.here ?_))))));exact h _
end
end
variable{l:e0 (e5×V)}
section
section
variable{R:tc->gc->Prop}{s:gc}{K:AO}{x C:hD}
set_option tactic.hygienic true in
theorem rN{ox od:Gx}{d:hD}{name:jg}{u:QN}{v:fB}{es:e0 yw}{n:e5}(X:K.In s.heap)
  (I:InstAt s.heap x ox C (some od))(f:ox.dict=some d)(m:EQ K C=true\/m7 K C)(o:G2 K C name=some none)(y:(clsIn K C).any (λc=>c.hasDict)=true)
  (b:(QZ name od).isSome=true)(ak:od.isFreed=false)
  (e:(oh name (i3 w.params name) (.str name s.toks) v od).data=.dict es.toArray n)(p:es.length<=1000)
  (h:R (.ok (.ret .none)) {s with heap:=s.heap.update d (oh name (i3 w.params name) (.str name s.toks) v),toks:=s.toks+1}):
  kC (hh prog w) A (.call (.builtin "object.__setattr__") ⟨[.ref x,.str name u,v],[]⟩) R s:=by
 refine nL X I m o λaq=>?_;refine ah (any_some y) λcd aa ab=>?_;obtain⟨hx,g,ar,a⟩:=I;obtain⟨ap,aj,af,ai⟩:=ox;dsimp only at g f a;subst g f;have a:s.heap.get? d=some od:=a;have z:=jp (oh name (i3 w.params name) (.str name s.toks) v) a (by
  generalize oh name (i3 w.params name) (.str name s.toks) v od=t at e;obtain⟨_,_,ao,_⟩:=t;cases e;rfl)
 refine e3 (gq (e3 (e3 (y7 hx (e3 ((JF X aa).here ?_))))));rw[ab];refine gq (a:=some d) (e3 (gq (e3 ?_)));unfold nsSet;refine e3 (e3 (IY (gq (e3 (BS (e3 (y7 a ?_)))))));unfold QZ at b;split at b
 .rename_i k am c
  rw[c];dsimp only;have ae:(!k.any (·.key.isStr name)&&k.any (λc=>c.refKey))=false:=by
   rw[<-IZ,<-IZ];split at b
   .rename_i q l
    rw[AP.mpr ⟨q,List.mem_of_find?_eq_some l,List.find?_some l⟩];rfl
   .split at b
    .exact UC b
    .rename_i j;rw[Bool.not_eq_true]at j;rw[j,ve]
  rw[BZ,ae];refine I0 a ?_;refine e3 (I1 z (by rw[e];exact I6 (by rw[ig,Qh];exact WK p)) ?_);exact gq h
 .exact UC b
end
noncomputable def aB:e0 (e5×V)->e5->V->e0 (e5×V)
 |[],x,v=>[(x,v)]
 |(y,u)::r,x,v=>if y=x then(x,v)::r else(y,u)::aB r x v
section
variable{C:Cfg}{v b:V}{gl:e0 (jg×V)}
theorem UJ.put{ι h}(e:p.names.Nodup){x:e5}{id:jg}{wv:fB}{hs:hA}{t:QN}(hx:p.names[x]?=some id)(c:TQ p ι h v wv){l:e0 (e5×V)}{es:e0 yw}(r:UJ p ι h l es):UJ p ι h (aB l x v) (Si id hs (.str id t) wv es):=by
 induction r with
 |nil=>exact .cons hx c .nil
 |@cons f d s n o q l es b r m j=>
  by_cases a:f=x
  .have g:d=id:=fZ (b.symm.trans (a▸hx))
   rw[aB,hz a,Si,g,D4,ij];exact .cons hx c m
  .have hid:d≠id:=λk=>a (gd e b (k▸hx))
   rw[aB,hb a,Si,D4,kB hid];exact .cons b r j
theorem UJ.length{ι h}(r:UJ p ι h l es):l.length=es.length:=by
 induction r with
 |nil=>rfl
 |cons _ _ _ a=>exact hC (λb=>b+1) a
theorem UJ.noRef{ι h}(r:UJ p ι h l es):es.any (λb=>b.refKey)=false:=by
 induction r with
 |nil=>rfl
 |cons _ _ _ a=>rw[zH,a];rfl
theorem UJ.looks{ι h}(x:UJ p ι h l es) name:(SP name es).isSome=true:=by
 unfold SP;split
 .rfl
 .rw[x.noRef];rfl
theorem kO name hs k v es:(Si name hs k v es).length<=es.length+1:=by
 induction es with
 |nil=>exact e6 _
 |cons b r a=>
  unfold Si;split
  .exact jr _
  .exact hm a
theorem pO.setAttr{x:e5}{id:jg}(B:Base p prog w aa gl)(ab:σ[n]?=some (.inst k e))(hn:σ[e]?=some (.ns j))(hx:p.names[x]?=some id)(as:p.ca[k]?=some c)(f:qy p.K c id)(au:j.length<1000)(ar:C.md e=true):pO p prog w aa C (λo wv=>PySem.setAttr o id wv) (.h n) v σ (σ.set e (.ns (aB j x v))):=λι s o wv Q E r z ao aj=>by
 cases z with
 |@h ax ad ap=>
 refine cg (r.obj n ad _ ap ab) λaw d u b ai=>?_;rw[as]at u;cases u;refine b5 (r.obj e d _ b hn) λq ae m g=>?_;have X:p.K.In s.heap:=λa y af=>r.stays _ _ (B.qq a y af);have I:InstAt s.heap ad ⟨.ref c,some d,.plain,#[]⟩ c (some (wS q ae)):=⟨ai,rfl,rfl,m⟩;have am:(Si id (i3 w.params id) (.str id (s.toks+1)) wv q).length<=1000:=e2 (kO ..) (GI (g.length▸au));refine Nb X I f.s (rN (s:={s with toks:=s.toks+1}) X I rfl (.inl f.o) f.t f.h (g.looks id) rfl (by rw[s2]) am ?_);have t:=jp (oh id (i3 w.params id) (.str id (s.toks+1)) wv) m (by rw[s2];rfl);rw[s2]at t;have l:=tq s.heap d (oh id (i3 w.params id) (.str id (s.toks+1)) wv);have tp:=cz (hid:=p.hid) l (r.lt (fz b)).2 (r.nf (fz b));refine az (r.upd (co:=.ns (aB j x v)) b l ⟨_,_,t,(g.mono fV tp).put B.nodup hx (ao.mono fV tp)⟩ ar) λak aq=>?_;exact aj ι _ _ ak aq
end
end
variable{l:e0 V}{d:e0 (Key×V)}{k:Key}{kvs:e0 (Key×fB)}{a:hA}{x y:e0 e5}
section
section
variable{b:hA}{v:V}
theorem rO x(y:e0 e5):(⟨x.toArray⟩:jg)++(⟨y.toArray⟩:jg)=⟨(x++y).toArray⟩:=by
 show Q2 _ _=_;unfold Q2;simp
theorem dj (x:e0 e5):(⟨x.toArray⟩:jg).length=x.length:=by unfold Str.length;simp
theorem str_beq x(y:e0 e5):((⟨x.toArray⟩:jg)==⟨y.toArray⟩)=decide (x=y):=by
 by_cases h:x=y
 .subst h;simp
 .simp[h]
theorem nM a(b:hA):(a==b)=decide (a=b):=by
 by_cases h:a=b
 .subst h;simp
 .rw[je h];exact jP.mpr h
theorem bL.add:bL p prog w aa C (y1 .Add) (.int a) (.int b) σ (.int (a+b)) σ:=λι s g f Q E r ra e d=>by
 refine ra.bW λc=>?_;refine e.bW λc=>?_;exact add_int (d ι s.heap _ _ r (.refl ..) (.int _ _))
theorem bL.sub:bL p prog w aa C (y1 .Sub) (.int a) (.int b) σ (.int (a -b)) σ:=λι s g f Q E r ra e d=>by
 refine ra.bW λc=>?_;refine e.bW λc=>?_;exact sub_int (d ι s.heap _ _ r (.refl ..) (.int _ _))
theorem bL.mul (e:IntMulOk a b):bL p prog w aa C (y1 .Mult) (.int a) (.int b) σ (.int (a*b)) σ:=λι s h g Q E r ra f d=>by
 refine ra.bW λc=>?_;refine f.bW λc=>?_;exact mul_int (d ι s.heap _ _ r (.refl ..) (.int _ _)) e
theorem bL.mod (f:b≠0):bL p prog w aa C (y1 .Mod) (.int a) (.int b) σ (.int (a.fmod b)) σ:=λι s h g Q E r ra e d=>by
 refine ra.bW λc=>?_;refine e.bW λc=>?_;exact mod_int' f (d ι s.heap _ _ r (.refl ..) (.int _ _))
theorem bL.iadd:bL p prog w aa C (inplaceOp .Add) (.int a) (.int b) σ (.int (a+b)) σ:=λι s g f Q E r ra e d=>by
 refine ra.bW λc=>?_;refine e.bW λc=>?_;exact iadd_int (d ι s.heap _ _ r (.refl ..) (.int _ _))
theorem bL.cD (d:x.length+y.length<=lg):bL p prog w aa C (y1 .Add) (.str x) (.str y) σ (.str (x++y)) σ:=λι s h f Q E r ra c b=>by
 refine ra.str' λa=>?_;refine c.str' λa=>?_;refine add_str (λg e=>?_) (by rw[dj,dj];exact d);rw[rO];exact b ι s.heap _ _ r (.refl ..) (.str _ _)
theorem Rel.list{fr ι}{s:gc}(r:Rel p prog w aa fr ι σ s.heap)(f:σ[n]?=some (.list l))(c:TQ p ι s.heap (.h n) wv):
  ∃ a ws,wv=.ref a/\ι[n]?=some a/\s.heap.PlainList a ws.toArray/\aT p ι s.heap l ws:=by
 cases c with
 |@h n a b=>refine ah (r.obj n a _ b f) λws e d=>?_;exact xI a ws rfl b e d
@[elab_as_elim] theorem Rel.list' {fr ι} {s:gc} {P:fB->Prop} (r:Rel p prog w aa fr ι σ s.heap) (d:σ[n]?=some (.list l)) (c:TQ p ι s.heap (.h n) wv) (k:∀ a ws,ι[n]?=some a->s.heap.PlainList a ws.toArray->aT p ι s.heap l ws->P (.ref a)):P wv:=(r.list d c).elim λa b=>b.elim λws b=>b.1▸k a ws b.2.1 b.2.2.1 b.2.2.2
theorem Rel.dict{fr ι}{s:gc}(k:∃ e,aa.get? kM=some e)(r:Rel p prog w aa fr ι σ s.heap)(m:σ[n]?=some (.dict d))(g:TQ p ι s.heap (.h n) wv):
  ∃ a kvs,wv=.ref a/\ι[n]?=some a/\s.heap.DictOf (keyKind prog w) a kvs/\kvs.map (λb=>b.1)=d.map (λb=>b.1)/\aT p ι s.heap (d.map (λb=>b.2)) (kvs.map (λb=>b.2))/\(a==kM)=false:=by
 cases g with
 |@h n a c=>
  refine ba (r.obj n a _ c m) λkvs l hk j=>?_;refine lD a kvs rfl c l hk j ?_;refine av k λe f=>?_;cases o:a==kM with
  |false=>rfl
  |true=>have:=eq_of_beq o;subst this;rw[r.new _ (fz c)]at f;exact TS f
@[elab_as_elim] theorem Rel.dict' {fr ι} {s:gc} {P:fB->Prop} (f:∃ c,aa.get? kM=some c) (r:Rel p prog w aa fr ι σ s.heap) (g:σ[n]?=some (.dict d)) (e:TQ p ι s.heap (.h n) wv) (k:∀ a kvs,ι[n]?=some a->s.heap.DictOf (keyKind prog w) a kvs->kvs.map (λb=>b.1)=d.map (λb=>b.1)->aT p ι s.heap (d.map (λb=>b.2)) (kvs.map (λb=>b.2))->(a==kM)=false->P (.ref a)):P wv:=(r.dict f g e).elim λa b=>b.elim λkvs b=>b.1▸k a kvs b.2.1 b.2.2.1 b.2.2.2.1 b.2.2.2.2.1 b.2.2.2.2.2
theorem bL.yh{k:hA}(h:σ[n]?=some (.list l))(j:0<=k)(h1:k<2^63)(o:l[k.toNat]?=some v):bL p prog w aa C yd (.h n) (.int k) σ v σ:=λι s t q Q E r ra f b=>by
 refine r.list' h ra λad ws u c d=>?_;refine av c λm g=>?_;refine ah (d.get o) λwv e a=>?_;cases f;exact wpAny_getItem_list (ha ⟨m,g⟩) j h1 (x:=wv) (by exact h7.trans e) (b ι s.heap s.toks _ r (.refl ..) a)
theorem bL.A7{k:hA}(g:-2^63<=k)(h1:k<2^63)(m:I8 k l.length=some j)(h:l[j]?=some v):bL p prog w aa C yd (.tup l) (.int k) σ v σ:=λι s q n Q E r ra d c=>by
 cases ra with
 |@tup l ad ws o f a=>
 refine ah (a.get h) λwv e b=>?_;cases d;exact getItem_tuple f g h1 (by simpa[<-a.length]using m) (x:=wv) (by exact h7.trans e) (c ι s.heap s.toks _ r (.refl ..) b)
theorem bL.A8{k:hA}(e:0<=k)(h1:k<2^63)(f:(I8 k x.length).bind (λi=>x[i]?)=some c):bL p prog w aa C yd (.str x) (.int k) σ (.str [c]) σ:=λι s h g Q E r ra d b=>by
 refine ra.str' λa=>?_;refine d.bW λa=>?_;refine getItem_str (c:=c) (by rw[je (mm.mpr (g7 J e)),je (Q3.mpr h1)];rfl) ?_ (b ι s.heap _ _ r (.refl ..) (.str [c] _));rw[dj];simpa using f
noncomputable def atK (d:e0 (Key×V))(k:Key):gN V:=(d.find? λa=>a.1=k).map (λq=>q.2)
inductive Vi (p:P)(ι:e0 hD)(h:kb):e0 (Key×V)->e0 (Key×fB)->Prop
 |nil:Vi p ι h [] []
 |cons {k:Key} {v:V} {wv:fB} {d:e0 (Key×V)} {kvs:e0 (Key×fB)}:TQ p ι h v wv->Vi p ι h d kvs->Vi p ι h ((k,v)::d) ((k,wv)::kvs)
theorem Vi.of{ι h}:∀ {kvs:e0 (Key×fB)},kvs.map (λa=>a.1)=d.map (λa=>a.1)->aT p ι h (d.map (λa=>a.2)) (kvs.map (λa=>a.2))->Vi p ι h d kvs:=by
 induction d with
 |nil=>intro kvs b _;rw[Ff.mp b];exact .nil
 |cons a d n=>
  intro kvs b r;cases kvs with
  |nil=>cases b
  |cons f kvs=>
   refine az (tV b) λo g=>?_;refine cg r.cons_inv λs vs q j m=>?_
   (refine az (tV q) λl c=>?_;subst l;subst c)
   obtain⟨k,v⟩:=a;obtain⟨e,t⟩:=f;obtain rfl:e=k:=o;exact .cons j (n g m)
theorem Vi.to{ι h}(x:Vi p ι h d kvs):kvs.map (λa=>a.1)=d.map (λa=>a.1)/\aT p ι h (d.map (λa=>a.2)) (kvs.map (λa=>a.2)):=by
 induction x with
 |nil=>exact⟨rfl,.nil⟩
 |cons r _ b=>exact⟨hC (_::·) b.1,.cons r b.2⟩
theorem fb{ι h}(e:kvs.map (λb=>b.1)=d.map (λb=>b.1))(r:aT p ι h (d.map (λb=>b.2)) (kvs.map (λb=>b.2))) k:VB p ι h (atK d k) (Cb kvs k):=by
 have x:=Vi.of e r;clear e r;induction x with
 |nil=>exact .none
 |@cons a v wv d kvs r _ c=>
  unfold atK Cb at c ⊢;rw[pd,pd];by_cases b:a=k
  .rw[h8 b];exact .some r
  .rw[je b];exact c
theorem Key.jy{ι h}(a:TQ p ι h k.v wv):(keyKind prog w).is k wv=true:=by
 cases k with
 |int i=>cases a;simp[keyKind,Key.is,ui]
 |str b=>cases a;simp[keyKind,Key.is,tE]
theorem bL.yi (e:∃ a,aa.get? kM=some a)(h:σ[n]?=some (.dict d))(j:atK d k=some v):bL p prog w aa C yd (.h n) k.v σ v σ:=λι s m l Q E r ra f c=>by
 refine r.dict' e h ra λad kvs o hd hk g lo=>?_;have ro:=fb hk g k;rw[j]at ro;generalize hx:Cb kvs k=x at ro;cases ro with
 |some b=>exact wpAny_getItem_of (Key.jy f) hd.mapOf hx (c ι s.heap _ _ r (.refl ..) b)
theorem bL.inDict (c:∃ a,aa.get? kM=some a)(g:σ[n]?=some (.dict d)):bL p prog w aa C (n2 .In) k.v (.h n) σ (.bool (atK d k).isSome) σ:=λι s j h Q E r ra e b=>by
 refine r.dict' c g e λad kvs l hd hk f lo=>?_;have ro:=fb hk f k;refine wpAny_in_of (Key.jy ra) lo hd.mapOf (b ι s.heap _ _ r (.refl ..) ?_);generalize Cb kvs k=x at ro;generalize atK d k=y at ro ⊢;cases ro<;>exact TQ.bool _
theorem bL.tH (c:∃ a,aa.get? kM=some a)(g:σ[n]?=some (.dict d)):bL p prog w aa C (n2 .NotIn) k.v (.h n) σ (.bool (!(atK d k).isSome)) σ:=λι s j h Q E r ra e b=>by
 refine r.dict' c g e λad kvs l hd hk f lo=>?_;have ro:=fb hk f k;refine wpAny_notIn_of (Key.jy ra) lo hd.mapOf (b ι s.heap _ _ r (.refl ..) ?_);generalize Cb kvs k=x at ro;generalize atK d k=y at ro ⊢;cases ro<;>exact TQ.bool _
noncomputable def putK:e0 (Key×V)->Key->V->e0 (Key×V)
 |[],k,v=>[(k,v)]
 |(a,b)::r,k,v=>if a=k then(a,v)::r else(a,b)::putK r k v
theorem kP:(zN kvs k wv).map (λa=>a.1)=if kvs.any (λb=>b.1=k)then kvs.map (λa=>a.1)else kvs.map (λa=>a.1)++[k]:=by
 unfold zN;split
 .rw[keys_map_store]
 .simp
theorem nN{ι h}(f:TQ p ι h v wv)(hn:(kvs.map (λb=>b.1)).Nodup)(e:kvs.map (λb=>b.1)=d.map (λb=>b.1))(r:aT p ι h (d.map (λb=>b.2)) (kvs.map (λb=>b.2))):
  (zN kvs k wv).map (λb=>b.1)=(putK d k v).map (λb=>b.1)/\aT p ι h ((putK d k v).map (λb=>b.2)) ((zN kvs k wv).map (λb=>b.2)):=by
 refine Vi.to ?_;have x:=Vi.of e r;clear e r;induction x with
 |nil=>exact .cons f .nil
 |@cons a v c d kvs r x g=>
  rw[iO,ku]at hn;by_cases b:a=k
  .subst b
   have e:zN ((a,c)::kvs) a wv=(a,wv)::kvs:=by
    unfold zN;rw[hz (by rw[zH,h8 rfl,NF]),iO,hz rfl,map_store_of_not_mem kvs a wv hn.1]
   rw[e,putK,hz rfl];exact .cons f x
  .have e:zN ((a,c)::kvs) k wv=(a,c)::zN kvs k wv:=by
    unfold zN;rw[zH,je b,FY,iO,hb b];split<;>rfl
   rw[e,putK,hb b];exact .cons r (g hn.2)
theorem ma.dict (h:∃ e,aa.get? kM=some e)(q:σ[n]?=some (.dict d))(j:d.length<=lg)(y:C.md n=true):ma p prog w aa C (.h n) k.v v σ (σ.set n (.dict (putK d k v))):=λι s ai af wv Q E r ro ab f m=>by
 refine r.dict' h q ro λad kvs a hd hk z lo=>?_;have b:(kvs.map (λl=>l.1)).Nodup:=let⟨_,_,_,_,_,_,_,_,b⟩:=hd;b
 have t:kvs.length=d.length:=by have:=hC nl hk;rwa[g0,g0]at this
 refine wpAny_setItem_pairs (Key.jy ab) hd (λh' ae c=>?_) (by rw[t];exact j);have tp:=cz (hid:=p.hid) c (r.lt (fz a)).2 (r.nf (fz a));refine az (nN f (k:=k) b hk z) λu g=>?_;refine az (r.upd (co:=.dict (putK d k v)) a c ⟨_,ae,u,g.mono fV tp⟩ y) λo x=>?_;exact m ι h' _ o x
end
end
variable{vs:e0 fB}{u:V}
section
section
variable{b:hA}{v:V}
theorem Bi.c8 (e:(x.length:hA)<2^63):Bi p prog w aa C (.builtin "len") [.str x] σ (.int x.length) σ:=λι s ws Q E r d b=>by
 refine d.one' λa c=>?_;refine c.str' λa=>?_;refine Su (by rw[dj];exact Q3.mpr e) ?_;rw[dj];exact b ι s.heap _ _ r (.refl ..) (.int _ _)
theorem Bi.kQ (g:σ[n]?=some (.list l))(h:(l.length:hA)<2^63):Bi p prog w aa C (.builtin "len") [.h n] σ (.int l.length) σ:=λι s ws Q E r f b=>by
 refine f.one' λk d=>?_;refine r.list' g d λad vs m c a=>?_;refine av c λj e=>?_;refine Calls.call_len_list (ha ⟨j,e⟩) (by rw[ig,<-a.length];exact h) ?_;rw[ig,<-a.length];exact b ι s.heap _ _ r (.refl ..) (.int _ _)
theorem Bi.yj (e:∃ b,aa.get? kM=some b)(h:σ[n]?=some (.dict d))(j:(d.length:hA)<2^63):Bi p prog w aa C (.builtin "len") [.h n] σ (.int d.length) σ:=λι s ws Q E r g c=>by
 refine g.one' λk f=>?_;refine r.dict' e h f λad kvs m hd hk l lo=>?_;have a:kvs.length=d.length:=by simpa using congrArg nl hk
 refine call_len_dict lo hd (by rw[a];exact j) ?_;rw[a];exact c ι s.heap _ _ r (.refl ..) (.int _ _)
theorem Bi.abs:Bi p prog w aa C (.builtin "abs") [.int a] σ (.int (if a<0 then -a else a)) σ:=λι s ws Q E r e c=>by
 refine e.one' λb d=>?_;refine d.bW λb=>?_;exact call_abs_int λu f=>c ι s.heap _ _ r (.refl ..) (.int _ _)
theorem Bi.ord:Bi p prog w aa C (.builtin "ord") [.str [c]] σ (.int c) σ:=λι s ws Q E r b a=>by
 refine b.one' λd e=>?_;refine e.str' λd=>?_;exact ord_of_one (by rw[dj];rfl) (a ι s.heap _ _ r (.refl ..) (.int _ _))
theorem Bi.chr (h:(decide (a<0)||decide (a>1114111))=false):Bi p prog w aa C (.builtin "chr") [.int a] σ (.str [a.toNat]) σ:=λι s ws Q E r c b=>by
 refine c.one' λd e=>?_;refine e.bW λd=>?_;exact Q4 h (b ι s.heap _ _ r (.refl ..) (.str [a.toNat] _))
noncomputable def aG (i:hA):e0 Nat:=(al (toString i)).cps.toList
theorem Bi.aG (h:a.natAbs.log2<1920):Bi p prog w aa C (.type "str") [.int a] σ (.str (aG a)) σ:=λι s ws Q E r c b=>by
 refine c.one' λd e=>?_;refine e.bW λd=>?_;refine Q5 h (b ι s.heap _ _ r (.refl ..) ?_);have:=TQ.str (p:=p) (ι:=ι) (h:=s.heap) (Mine.Internal.aG a) s.toks;simpa[Mine.Internal.aG]using this
theorem Bi.append (c:σ[n]?=some (.list l))(u:l.length<=lg)(h:C.md n=true):Bi p prog w aa C (.builtin "list.append") [.h n,v] σ .none (σ.set n (.list (l++[v]))):=λι s ws Q E r m g=>by
 refine m.two' λe e k o=>?_;refine r.list' c k λad vs t b a=>?_;refine AM b (λh' q f=>?_) (by rw[ig,<-a.length];exact u);refine az (r.append t c b a o q f h) λj d=>?_;exact g ι h' _ _ j d .none
theorem Bi.Jc (f:∃ b,aa.get? kM=some b)(m:σ[n]?=some (.dict d)):Bi p prog w aa C (.builtin "dict.get") [.h n,k.v,v] σ ((atK d k).getD v) σ:=λι s ws Q E r j e=>by
 refine j.AX λa a a h l c=>?_;refine r.dict' f m h λad kvs o hd hk g lo=>?_;have ro:=fb hk g k;refine G5 Dy hd.typeIs NG (Nc _ _ _) (meets_dict_get_default (keyKind prog w) ad (Key.jy l) lo _) ⟨_,hd.mapOf,e ι s.heap _ _ r (.refl ..) ?_⟩;generalize Cb kvs k=x at ro ⊢;generalize atK d k=y at ro ⊢;cases ro
 .exact c
 .assumption
noncomputable def ins (a:hA):e0 hA->e0 hA
 |[]=>[a]
 |b::l=>if a<=b then a::b::l else b::ins a l
noncomputable def iw:e0 hA->e0 hA
 |[]=>[]
 |a::l=>ins a (iw l)
theorem lJ a (l):(ins a l).Perm (a::l):=by
 induction l with
 |nil=>exact .refl _
 |cons b l c=>
  unfold ins;split
  .exact .refl _
  .exact(K0 b c).trans (SD a b l)
theorem dk (l):(iw l).Perm l:=by
 induction l with
 |nil=>exact .refl _
 |cons a l b=>exact(lJ a _).trans (K0 a b)
set_option tactic.hygienic true in
theorem rP (a:hA)(l:e0 hA)(h:l.Pairwise (λq r=>q<=r)):(ins a l).Pairwise (λq r=>q<=r):=by
 induction l with
 |nil=>exact .cons (λj h=>nomatch h) .nil
 |cons b l g=>
  have h':=List.pairwise_cons.mp h;by_cases d:a<=b
  .rw[ins,hz d]
   exact .cons (gx.mpr ⟨d,λc e=>g7 d (h'.1 c e)⟩) h
  .rw[ins,hb d]
   refine .cons (λc e=>?_) (g h'.2);rcases hr.mp ((lJ a l).mem_iff.mp e)with f|e
   .exact f▸(Int.le_of_not_le d)
   .exact h'.1 c e
theorem ix (l):(iw l).Pairwise (λq r=>q<=r):=by
 induction l with
 |nil=>exact .nil
 |cons a l b=>exact rP a _ b
theorem kR{l:e0 hA}(h:l.Perm c)(h1:l.Pairwise (λq r=>q<=r))(h2:c.Pairwise (λq r=>q<=r)):l=c:=h.eq_of_pairwise (λa a a a=>JM) h1 h2
theorem ints_of:∀ {vs:e0 fB},vs.length=ks.length->(∀ (j:e5) (v:fB) (k:hA),vs[j]?=some v->ks[j]?=some k->∃ t,v=.int k t)->ES vs ks:=by
 induction ks with
 |nil=>intro vs a _;rw[kx a];exact .nil
 |cons k ks d=>
  intro vs a b;cases vs with
  |nil=>cases a
  |cons v vs=>
   (refine av (b 0 v k rfl rfl) λt c=>?_;subst c)
   exact .cons _ _ (d (s3 a) λj=>b (j+1))
theorem vX{ι h}(x:ES vs ks):aT p ι h (ks.map V.int) vs:=by
 induction x with
 |nil=>exact .nil
 |cons b t _ a=>exact .cons (.int _ _) a
theorem Bi.yk (aj:∃ c,aa.get? kM=some c)(aL:cH C)(ak:C.hn=none)(as:σ[n]?=some (.dict d))(hk:d.map (λj=>j.1)=ks.map Key.int)(o:ks.length<64):
  Bi p prog w aa C (.builtin "sorted") [.h n] σ (.h σ.length) (σ++[.list ((iw ks).map V.int)]):=λι s ws Q E r aD aq=>by
 refine aD.one' λaO ar=>?_;refine r.dict' aj as ar λad kvs aV hd z aX lo=>?_;refine av hd.dictAt λam ax=>?_;have l:kvs.length=ks.length:=by
  have:=hC nl (z.trans hk);simpa using this
 refine Calls.call_function_entry kind_sorted plain_sorted entry_sorted (args_sorted1 _) ?_;unfold Builtin.«sorted»;refine e3 (m:=checkCount "sorted" 1 1 _) (gq ?_);refine e3 (kdu_collect (A:=C.A.in1) (kdl_dict (knd:=keyKind prog w) (kvs:=kvs) (ep:=am) lo) (aL.handled ak) ax (by rw[l];exact tl (gB o) rfl) λh₁ aQ a u h=>?_);have ae:ES a.toList ks:=ints_of (by rw[Fg];exact h.1.trans l) λt v k aJ ay=>by
  refine b5 (h.2 t v (by rw[<-Array.getElem?_toList];exact aJ)) λaP x f ap=>?_;have e:=hC (·[t]?) (z.trans hk);simp only[jb,f,ay,Dp]at e;cases e;exact(Key.rv (p:=p) (ι:=[]) (h:=s.heap) (k:=.int k) (show Key.is (.int k) v=true from ap)).int_inv
 have q:a.toList.length=ks.length:=by rw[Fg];exact h.1.trans l
 refine e3 (wpAny_newList ?_ (by rw[q];exact tl (gB o) rfl));have m:(h₁.push (Q6 "list" a.toList.toArray 0)).get? h₁.objs.size=some (Q6 "list" a.toList.toArray 0):=gR _ rfl;have au:s.heap.get? h₁.objs.size=none:=by
  cases ao:s.heap.get? h₁.objs.size with
  |none=>rfl
  |some c=>exact iv (hy (u _ _ ao)) (hW _)
 refine e3 (hK (vN slot_list_sort ⟨_,m,rfl⟩ entry_list_sort (list_sort_tree m ae (by rw[q];exact o) λg aA aK ab ai=>⟨_,rfl,?_⟩) (args_list_sort _)));refine gq ⟨_,rfl,?_⟩;have aw:aA=iw ks:=kR (ab.trans (dk ks).symm) ai (ix ks);subst aw;refine av (sortedHeap_at (out:=g) m) λe aN=>?_;have af:∀ b c,s.heap.get? b=some c->(Q7 (h₁.push (Q6 "list" a.toList.toArray 0)) h₁.objs.size a.toList g).get? b=some c:=λb c j=>by
  have f:=u b c j;have y:=hy f;rw[sortedHeap_old (hc y) (by rw[uQ];exact m1 y)];exact fw _ f
 have x:=r.kJ (h':=Q7 (h₁.push (Q6 "list" a.toList.toArray 0)) h₁.objs.size a.toList g) (c:=.list ((iw ks).map V.int)) af au ⟨g.toList,⟨e,by exact aN⟩,vX aK⟩;exact aq _ _ _ _ x.1 (x.2.1 _ _) x.2.2
end
end
section
set_option backward.match.sparseCases false
set_option genCtorIdx false in
mutual
inductive X where
 |no
 |bo (b:jW)
 |i (i:hA)
 |s (l:e0 e5)
 |lo (x:e5)
 |ce (x:e5)
 |fr (x:e5)
 |gl (x:e5)
 |bin (op:K6)(a b:X)
 |cmp (op:Lc)(a b:X)
 |lK (o o':Lc)(a b c:X)
 |dL (op:SE)(xs:Xs)
 |UT (a:X)
 |fy (t a b:X)
 |li (xs:Xs)
 |tu (xs:Xs)
 |UO (ks vs:Xs)
 |sub (a i:X)
 |UI (a lo:X)
 |st (a hi:X)
 |sb (a lo hi:X)
 |dr (a:X)(x:e5)
 |call (f:X)(xs:Xs)
 |bi (x:e5)(xs:Xs)
 |me (a:X)(x:e5)(xs:Xs)
 |mO (x y:e5)(a:X)
 |lits (x y:e5)(a:X)
 |comp (elt tgt it:X)(ifs:Xs)(sc:e0 (e5×oL))
inductive Xs where
 |n
 |c (x:X)(xs:Xs)
end
set_option genCtorIdx false in
mutual
inductive S where
 |ex (e:X)
 |re (e:X)
 |r0
 |asg (t e:X)
 |yl (ts es:Xs)
 |aug (x:e5)(op:K6)(e:X)
 |iff (t:X)(a b:Ss)
 |iy (t:X)(b:Ss)
 |fo (t it:X)(b:Ss)
 |ra (x:e5)(xs:Xs)
 |tr (b:Ss)(x y:e5)(h:Ss)
 |co
 |de (x:e5)(ps:e0 (e5×JC))(b:Ss)(sc:e0 (e5×oL))
inductive Ss where
 |n
 |c (s:S)(ss:Ss)
end
noncomputable def X.il:X->jW
 | .comp ..=>false
 |_=>true
noncomputable def Xs.len:Xs->e5
 | .n=>0
 | .c _ xs=>xs.len+1
noncomputable def eN (nm:e5->jg)(a:e0 (e5×oL)):e0 (jg×oL):=a.map λq=>(nm q.1,q.2)
noncomputable def bp (nm:e5->jg)(a:e0 (e5×oL)):Scope:=⟨.function,eN nm a,false,false,[]⟩
noncomputable def kids:k8->e0 k8
 | .BinOp a _ b _=>[a,b]
 | .Compare a _ l _=>a::l
 | .BoolOp _ l _=>l
 | .UnaryOp _ a _=>[a]
 | .IfExp t a b _=>[t,a,b]
 | .List l _=>l
 | .Tuple l _ _=>l
 | .Dict k v p=>[.List (k.filterMap id) p,.List v p]
 | .Subscript a i _=>[a,i]
 | .Slice a b _ _=>a.toList++b.toList
 | .Attribute a _ _=>[a]
 | .Call f l _ _=>f::l
 | .ListComp e [⟨t,i,l,_⟩] _ _=>e::t::i::l
 |_=>[]
noncomputable def kid (t:k8)(i:e5):Expr:=(kids t).getD i default
noncomputable def ER (l:e5)(e:k8):Expr:=.List (kids e) ⟨l,e.pos.col,e.pos.endLine,e.pos.endCol⟩
noncomputable def Jd (l n:e5)(L:e0 k8):e0 Expr:=(Ld n).map λi=>ER l (L.getD i default)
noncomputable def Je (p q:JC):Pos:=⟨p.line,p.col,q.line,p.endCol⟩
mutual
noncomputable def X.e (nm:e5->jg):X->k8->k8
 | .no,t=>.Constant .none 0 t.pos
 | .bo b,t=>.Constant (.bool b) 0 t.pos
 | .i i,t=>.Constant (.int i) 0 t.pos
 | .s l,t=>.Constant (.str ⟨l.toArray⟩) 0 t.pos
 | .lo x,t=>.Name (nm x) t.pos
 | .ce x,t=>.Name (nm x) t.pos
 | .fr x,t=>.Name (nm x) t.pos
 | .gl x,t=>.Name (nm x) t.pos
 | .bin d a b,t=>.BinOp (a.e nm (kid t 0)) d (b.e nm (kid t 1)) t.pos
 | .cmp d a b,t=>.Compare (a.e nm (kid t 0)) [d] [b.e nm (kid t 1)] t.pos
 | .lK o h a b c,t=>.Compare (a.e nm (kid t 0)) [o,h] [b.e nm (kid t 1),c.e nm (kid t 2)] t.pos
 | .dL d xs,t=>.BoolOp d (xs.es nm (kids t)) t.pos
 | .UT a,t=>.UnaryOp .Not (a.e nm (kid t 0)) t.pos
 | .fy c a b,t=>.IfExp (c.e nm (kid t 0)) (a.e nm (kid t 1)) (b.e nm (kid t 2)) t.pos
 | .li xs,t=>.List (xs.es nm (kids t)) t.pos
 | .tu xs,t=>.Tuple (xs.es nm (kids t)) 0 t.pos
 | .UO ks vs,t=>.Dict ((ks.es nm (kids (kid t 0))).map some) (vs.es nm (kids (kid t 1))) t.pos
 | .sub a i,t=>.Subscript (a.e nm (kid t 0)) (i.e nm (kid t 1)) t.pos
 | .UI a lo,t=>.Subscript (a.e nm (kid t 0)) (.Slice (some (lo.e nm (kid (kid t 1) 0))) none none (kid t 1).pos) t.pos
 | .st a hi,t=>.Subscript (a.e nm (kid t 0)) (.Slice none (some (hi.e nm (kid (kid t 1) 0))) none (kid t 1).pos) t.pos
 | .sb a lo hi,t=>.Subscript (a.e nm (kid t 0)) (.Slice (some (lo.e nm (kid (kid t 1) 0))) (some (hi.e nm (kid (kid t 1) 1))) none (kid t 1).pos) t.pos
 | .dr a x,t=>.Attribute (a.e nm (kid t 0)) (nm x) t.pos
 | .call f xs,t=>.Call (f.e nm (kid t 0)) (xs.es nm (kids t).tail) [] t.pos
 | .bi x xs,t=>.Call (.Name (nm x) (kid t 0).pos) (xs.es nm (kids t).tail) [] t.pos
 | .me a x xs,t=>.Call (.Attribute (a.e nm (kid (kid t 0) 0)) (nm x) (Je (kid t 0).pos t.pos)) (xs.es nm (kids t).tail) [] t.pos
 | .mO x y a,t=>.Call (.Name (nm x) (kid t 0).pos) [a.e nm (kid t 1),.Name (nm y) (kid t 2).pos] [] t.pos
 | .lits x y a,t=>.Call (.Name (nm x) (kid t 0).pos) [.Call (.Attribute (a.e nm (kid (kid (kid t 1) 0) 0)) (nm y) (Je (kid (kid t 1) 0).pos (kid t 1).pos)) [] [] (kid t 1).pos] [] t.pos
 | .comp elt tgt j ifs g,t=>.ListComp (elt.e nm (kid t 0)) [⟨tgt.e nm (kid t 1),j.e nm (kid t 2),ifs.es nm ((kids t).drop 3),0⟩] (bp nm g) t.pos
noncomputable def Xs.es (nm:e5->jg):Xs->e0 k8->e0 k8
 | .n,_=>[]
 | .c x xs,l=>x.e nm (l.getD 0 default)::xs.es nm l.tail
end
noncomputable def trees:rf->e0 k8
 | .Expr e _=>[e]
 | .Return (some e) _=>[e]
 | .Assign ts e _=>e::ts
 | .AugAssign a _ e _=>[e,a]
 | .If t _ _ _=>[t]
 | .While t _ _ _=>[t]
 | .For t i _ _ _=>[t,i]
 | .Raise (some e) _ _=>[e]
 | .Try _ [.ExceptHandler (some e) _ _ p] _ _ _=>[e,.List [] p]
 |_=>[]
noncomputable def blocks:rf->e0 (e0 rf)
 | .If _ a b _=>[a,b]
 | .While _ b _ _=>[b]
 | .For _ _ b _ _=>[b]
 | .Try b [.ExceptHandler _ _ h _] _ _ _=>[b,h]
 | .FunctionDef _ _ b _ _ _ _ _ _ _=>[b]
 |_=>[]
noncomputable def tree (t:rf)(i:e5):Expr:=(trees t).getD i default
noncomputable def block (t:rf)(i:e5):e0 Stmt:=(blocks t).getD i []
mutual
noncomputable def S.s (nm:e5->jg):S->rf->rf
 | .ex e,t=>.Expr (e.e nm (tree t 0)) t.pos
 | .re e,t=>.Return (some (e.e nm (tree t 0))) t.pos
 | .r0,t=>.Return none t.pos
 | .asg a e,t=>.Assign [a.e nm (bif e.il then tree t 1 else ER (tree t 0).pos.line (tree t 1))] (e.e nm (tree t 0)) t.pos
 | .yl ts es,t=>.Assign [.Tuple (ts.es nm (Jd (tree t 1).pos.line ts.len (kids (tree t 1)))) 0 (tree t 1).pos] (.Tuple (es.es nm (kids (tree t 0))) 0 (tree t 0).pos) t.pos
 | .aug x f e,t=>.AugAssign (.Name (nm x) (tree t 1).pos) f (e.e nm (tree t 0)) t.pos
 | .iff c a b,t=>.If (c.e nm (tree t 0)) (a.ss nm (block t 0)) (b.ss nm (block t 1)) t.pos
 | .iy c b,t=>.While (c.e nm (tree t 0)) (b.ss nm (block t 0)) [] t.pos
 | .fo a g b,t=>.For (a.e nm (tree t 0)) (g.e nm (tree t 1)) (b.ss nm (block t 0)) [] t.pos
 | .ra x xs,t=>.Raise (some (.Call (.Name (nm x) (kid (tree t 0) 0).pos) (xs.es nm (kids (tree t 0)).tail) [] (tree t 0).pos)) none t.pos
 | .tr b x y h,t=>.Try (b.ss nm (block t 0)) [.ExceptHandler (some (.Name (nm x) (tree t 0).pos)) (some (nm y)) (h.ss nm (block t 1)) (tree t 1).pos] [] [] t.pos
 | .co,t=>.Continue t.pos
 | .de x ps b d,t=>.FunctionDef (nm x) ⟨[],ps.map (λq=>⟨nm q.1,none,q.2⟩),none,[],[],none,[]⟩ (b.ss nm (block t 0)) [] none [] (bp nm d) none (nm x) t.pos
noncomputable def Ss.ss (nm:e5->jg):Ss->e0 rf->e0 rf
 | .n,_=>[]
 | .c s a,l=>s.s nm (l.getD 0 (.Pass default))::a.ss nm l.tail
end
inductive Vu where
 |len|sorted|ord|chr|abs|min|str|dict|list|enumerate|zip|range
inductive Mt where
 |join|split|strip|pop|append|partition|extend|index|get|upper
 deriving PW
noncomputable abbrev sz:Nat:=16777216
noncomputable def V.key:V->gN Key
 | .int i=>some (.int i)
 | .str s=>some (.str s)
 |_=>Option.none
noncomputable def aE (d:e0 (hA×e0 e5)):e0 (Key×V):=d.map λq=>(Key.int q.1,V.str q.2)
noncomputable def Jf:V->V->gN jW
 | .int a,.int b=>some (decide (a=b))
 | .str a,.str b=>some (decide (a=b))
 | .none,.none=>some true
 | .none,.int _=>some false
 | .int _,.none=>some false
 |_,_=>none
noncomputable def eqB:V->V->gN jW
 | .int a,.int b=>some (decide (a=b))
 | .str a,.str b=>some (decide (a=b))
 |_,_=>none
noncomputable def jz (v:V):e0 V->gN jW
 |[]=>some false
 |a::l=>(eqB a v).bind λx=>(jz v l).map (x||·)
noncomputable def Jg (a b:V)(_:H):gN Bool:=Jf a b
noncomputable def A9 (a b:V):gN Bool:=match a,b with
 | .int a,.int b=>some (decide (a<b))
 |_,_=>none
noncomputable def Nk (a b:V):gN Bool:=match a,b with
 | .int a,.int b=>some (decide (a<=b))
 | .str a,.str b=>some (!decide (b<a))
 |_,_=>none
noncomputable def V.qz:V->jW
 | .none=>true
 |_=>false
noncomputable def Ba (a b:V):gN Bool:=if b.qz then some a.qz else none
noncomputable def inR (a b:V)(σ:H):gN Bool:=match b with
 | .str x=>match a with
  | .str [c]=>some (x.contains c)
  |_=>none
 | .tup l=>jz a l
 | .h n=>match σ[n]? with
  |some (.list l)=>jz a l
  |_=>none
 |_=>none
noncomputable def jA (c:Lc)(a b:V)(σ:H):gN Bool:=match c with
 | .Eq=>Jg a b σ
 | .NotEq=>(Jg a b σ).map (λq=>!q)
 | .Lt=>A9 a b
 | .LtE=>Nk a b
 | .Gt=>A9 b a
 | .GtE=>(A9 a b).map (λq=>!q)
 | .Is=>Ba a b
 | .IsNot=>(Ba a b).map (λq=>!q)
 | .In=>inR a b σ
 | .NotIn=>(inR a b σ).map (λq=>!q)
noncomputable def bg{α:Type}(l:e0 α)(lo hi:hA):e0 α:=(l.take hi.toNat).drop lo.toNat
theorem qA{l:e0 α}:(bg l a b).length<=l.length:=by rw[bg,vO,nv];exact e2 (Nat.sub_le ..) (AQ ..)
noncomputable def pairsOf:e0 V->gN (e0 (Key×V))
 |[]=>some []
 | .tup [a,b]::r=>match a.key,pairsOf r with
  |some k,some l=>some ((k,b)::l)
  |_,_=>none
 |_=>none
noncomputable def putAll (d:e0 (Key×V)):e0 (Key×V)->e0 (Key×V)
 |[]=>d
 |(k,v)::r=>putAll (putK d k v) r
noncomputable def fc (d:e0 (Key×V))(k:Key):e0 (Key×V):=d.filter λq=>decide (q.1≠k)
noncomputable def strsOf:e0 V->gN (e0 (e0 e5))
 |[]=>some []
 | .str s::r=>(strsOf r).map (s::·)
 |_=>none
noncomputable def aU (y x:e0 e5):e0 Nat:=((x.dropWhile y.contains).reverse.dropWhile y.contains).reverse
noncomputable def br (c:e5):e0 e5->e0 (e0 e5)
 |[]=>[[]]
 |a::r=>if a=c then[]::br c r else match br c r with
  |[]=>[[a]]
  |p::ps=>(a::p)::ps
noncomputable def bR (c:e5):e0 e5->e0 e5×e0 e5×e0 e5
 |[]=>([],[],[])
 |a::r=>if a=c then([],[c],r)else let q:=bR c r;(a::q.1,q.2.1,q.2.2)
noncomputable def dM (b:e0 e5):e0 (e0 e5)->e0 e5
 |[]=>[]
 |[a]=>a
 |a::r=>a++b++dM b r
end
variable{a:e0 e5}
section
open Builtin Builtin.Str
noncomputable abbrev mk (x:e0 e5):Str:=⟨x.toArray⟩
theorem eo x:(mk x).length=x.length:=dj x
theorem qB (h:c∉a):br c a=[a]:=by
 induction a with
 |nil=>rfl
 |cons d r e=>rw[br,hb λb:d=c=>h (b▸.head _),e λb=>h (.tail _ b)]
theorem jB (h:c∉a):br c (a++c::r)=a::br c r:=by
 induction a with
 |nil=>rw[Dr,br,hz rfl]
 |cons d a e=>rw[List.cons_append,br,hb λb:d=c=>h (b▸.head _),e λb=>h (.tail _ b)]
theorem qC (hn:ps≠[])(h:∀ p∈ps,c∉p):br c (dM [c] ps)=ps:=by
 induction ps with
 |nil=>exact iv rfl hn
 |cons a l e=>cases l with
  |nil=>exact qB (h a (.head _))
  |cons b r=>
   show br c (a++[c]++dM [c] (b::r))=_;rw[lE,Dz,jB (h a (.head _)),e nofun λp d=>h p (.tail _ d)]
theorem pP sep ps:(SF sep ps).cps.toList=dM sep.cps.toList (ps.map λp=>p.cps.toList):=by
 induction ps with
 |nil=>rfl
 |cons a l c=>cases l with
  |nil=>rfl
  |cons b r=>
   show((a++sep)++SF sep (b::r)).cps.toList=a.cps.toList++sep.cps.toList++dM sep.cps.toList ((b::r).map λp=>p.cps.toList);rw[Lf,Lf,Fh,Fh,c]
theorem vY x y:Txt.split x y≠[]:=by
 unfold Txt.split;split
 .simp
 .split
  .simp
  .unfold partsBetween
   cases h:occurrences x y 0 x.length (x.length+1)<;>simp
theorem vZ x c:(Txt.split (mk x) ⟨#[c]⟩).map (λp=>p.cps.toList)=br c x:=by
 have f:=Re (mk x) ⟨#[c]⟩;have j:=Rh (mk x) c;have d:=vY (mk x) ⟨#[c]⟩;have a:=hC (λh:jg=>h.cps.toList) f;rw[pP]at a;have a:dM [c] ((Txt.split (mk x) ⟨#[c]⟩).map λp=>p.cps.toList)=x:=a;rw[<-qC (c:=c) (ps:=(Txt.split (mk x) ⟨#[c]⟩).map λp=>p.cps.toList) (by simpa using d) (λp g=>by
  (refine ah (h4.mp g) λq b e=>?_;subst e);exact j q b),a]
theorem nO x c limit (j:1<=limit):(occurrences (mk x) ⟨#[c]⟩ 0 (mk x).length limit=[]/\c∉x)\/∃ i r,occurrences (mk x) ⟨#[c]⟩ 0 (mk x).length limit=i::r/\x[i]?=some c/\∀ k,k<i->x[k]?≠some c:=by
 have a:∀ i,SU (mk x) ⟨#[c]⟩ (mk x).length i↔x[i]?=some c:=λi=>by
  have:=RZ (mk x) c i;exact this
 rcases Sj (mk x) ⟨#[c]⟩ limit j with⟨b,d⟩|⟨i,r,b,d,e⟩
 .refine .inl ⟨b,λf=>?_⟩
  refine av (nD f) λi h=>?_;exact d i ((a i).mpr h)
 .exact .inr ⟨i,r,b,(a i).mp d,λk hk g=>e k hk ((a k).mpr g)⟩
theorem v0 (h1:x[i]?=some c)(h2:∀ k,k<i->x[k]?≠some c):x.idxOf? c=some i:=by
 have:x.idxOf? c=x.findIdx? (·==c):=by exact rfl
 rw[this,List.findIdx?_eq_some_iff_getElem];refine av (e4.mp h1) λa d=>?_;refine⟨a,by exact hz d,λe b=>?_⟩;have:=h2 e b;rw[hv (hO b a)]at this;simpa using this
theorem rQ (h:c∉x):bR c x=(x,[],[]):=by
 induction x with
 |nil=>rfl
 |cons a r d=>rw[bR,hb λb:a=c=>h (b▸.head _),d λb=>h (.tail _ b)]
theorem rR (h:x[i]?=some c)(h2:∀ k,k<i->x[k]?≠some c):bR c x=(x.take i,[c],x.drop (i+1)):=by
 induction x generalizing i with
 |nil=>exact TS (uI▸h)
 |cons a r d=>cases i with
  |zero=>rw[bR,hz (fZ h)];rfl
  |succ i=>rw[bR,hb λb:a=c=>h2 0 (xu _) (hC some b),d (i:=i) h λk hk=>h2 (k+1) (I9 hk)];rfl
theorem rS p (x:e0 e5):x.drop (x.takeWhile p).length=x.dropWhile p:=by
 induction x with
 |nil=>rfl
 |cons a r b=>
  by_cases h:p a=true
  .simp[p0,xh,h,b]
  .simp[p0,xh,h]
theorem v5 p (z:e0 e5):z.take (z.length -(z.reverse.takeWhile p).length)=(z.reverse.dropWhile p).reverse:=by
 have h:=vp (p:=p) (l:=z.reverse);have a:z=(z.reverse.dropWhile p).reverse++(z.reverse.takeWhile p).reverse:=by
  rw[<-List.reverse_append,h,List.reverse_reverse]
 have b:z.length -(z.reverse.takeWhile p).length=(z.reverse.dropWhile p).reverse.length:=by
  have:=hC nl h;rw[hg,Fi]at this;rw[Fi];exact(Nat.eq_sub_of_add_eq' this).symm
 rw[b]
 conv=>lhs;arg 2;rw[a]
 rw[List.take_left]
theorem strip_eq x y:(Lj (mk x) (mk y)).cps.toList=aU y x:=by
 have a:(mk y).cps.contains=y.contains:=by funext n;simp[mk]
 unfold Lj;rw[Nd,vC,a];have lo:stripLo y.contains true (mk x)=(x.takeWhile y.contains).length:=rfl;have b:stripHi y.contains true (mk x) (x.takeWhile y.contains).length=x.length -((x.dropWhile y.contains).reverse.takeWhile y.contains).length:=by
  show(mk x).length -((x.drop (x.takeWhile y.contains).length).reverse.takeWhile y.contains).length=_;rw[eo,rS]
 rw[lo,b];show(x.drop (x.takeWhile y.contains).length).take _=_;rw[rS];unfold aU;have c:x.length=(x.takeWhile y.contains).length+(x.dropWhile y.contains).length:=by
  rw[<-hg,vp]
 rw[<-v5];congr 1;exact MF c
theorem join_eq sep ps:(Txt.join (mk sep) (ps.map mk)).cps.toList=dM sep ps:=by
 show(glued _ _).cps.toList=_;rw[PA,pP];simp[mk,sj]
theorem ET{l:e0 e5}(h:s.cps.toList=l):s=mk l:=by subst h;simp[mk]
theorem tI sep ps (hn:ps≠[]):(dM sep ps).length+sep.length=(ps.map λp=>p.length+sep.length).sum:=by
 induction ps with
 |nil=>exact iv rfl hn
 |cons a l c=>cases l with
  |nil=>rfl
  |cons b r=>
   show(a++sep++dM sep (b::r)).length+sep.length=a.length+sep.length+((b::r).map λp=>p.length+sep.length).sum;rw[hg,hg,Ml,c nofun]
section
variable{v:V}
theorem TQ.ofStr{ι h}{l:e0 e5}{t:QN}(e:s.cps.toList=l):TQ p ι h (.str l) (.str s t):=by
 rw[ET e];exact .str l t
theorem Bi.strip (f:x.length<=lg):Bi p prog w aa C (.builtin "str.strip") [.str x,.str y] σ (.str (aU y x)) σ:=λι s ws Q E r d b=>by
 refine d.two' λa a c e=>?_;refine c.str' λa=>?_;refine e.str' λa=>?_;exact SC.stripChars (λg k=>b ι s.heap _ _ r (.refl ..) (TQ.ofStr (strip_eq x y))) (by rw[eo];exact f)
theorem Bi.qD (hi:x.idxOf? c=some i):Bi p prog w aa C (.builtin "str.index") [.str x,.str [c]] σ (.int i) σ:=λι s ws Q E r g d=>by
 refine g.two' λa a f j=>?_;refine f.str' λa=>?_;refine j.str' λa=>?_;rcases nO x c 1 (e6 _)with⟨_,h⟩|⟨l,rest,e,k,b⟩
 .have:x.idxOf? c=none:=by simpa using h
  rw[this]at hi;exact TS hi
 .rw[v0 k b]at hi;cases hi
  exact SC.index e (d ι s.heap _ _ r (.refl ..) (.int _ _))
theorem rT{ι h}(r:aT p ι h l ws)(e:strsOf l=some b):∃ ts:e0 (jg×QN),ws=Nf ts/\ts.map (λc=>c.1)=b.map mk:=
 r.ind (M:=λl ws=>∀ b,strsOf l=some b->∃ ts:e0 (jg×QN),ws=Nf ts/\ts.map (λc=>c.1)=b.map mk) (λb e=>⟨[],rfl,fZ e▸rfl⟩) (λa o m b e=>by
  cases a with
  |str d t=>
   (refine ah (hI.mp e) λn k f=>?_;subst f)
   refine ah (m _ k) λts g j=>?_;exact⟨(mk d,t)::ts,g▸rfl,hC (mk d::·) j⟩
  |_=>exact TS e) b e
theorem nP (e:strsOf l=some b):b.length=l.length:=by
 induction l generalizing b with
 |nil=>exact fZ e▸rfl
 |cons v l c=>
  cases v with
  |str h=>
   (refine ah (hI.mp e) λg d a=>?_;subst a)
   exact hC (λf=>f+1) (c d)
  |_=>exact TS e
theorem Bi.join (t:σ[n]?=some (.list l))(hs:strsOf l=some c)(af:(dM x c).length+x.length<=lg):Bi p prog w aa C (.builtin "str.join") [.str x,.h n] σ (.str (dM x c)) σ:=λι s ws Q E r v m=>by
 refine v.two' λd d o q=>?_;refine o.str' λd=>?_;refine r.list' t q λad vs aj ab ae=>?_;refine av ab λg f=>?_;refine ah (rT ae hs) λts z j=>?_;subst z;refine SC.join (texts:=c.map mk) (ha ⟨g,f⟩) j ?_ λai k=>m ι s.heap _ _ r (.refl ..) (TQ.ofStr (join_eq x c));unfold JoinOk;rw[R1];have:((c.map mk).map (λb=>b.length)).sum+(c.map mk).length*(mk x).length<=sizeLine:=by
  cases c with
  |nil=>simp
  |cons a r=>
   have u:=tI x (a::r) (by intro h;cases h);have y:∀ b:e0 (e0 e5),((b.map mk).map (λb=>b.length)).sum+(b.map mk).length*x.length=(b.map λp=>p.length+x.length).sum:=by
    intro b;induction b with
    |nil=>simp
    |cons ak b e=>simp only[iO,List.sum_cons,ol,eo,Nat.succ_mul]at e ⊢;exact MG e
   rw[eo,y,<-u];exact af
 simpa[tooLong]using this
theorem Bi.partition (ai:x.length<=lg):Bi p prog w aa C (.builtin "str.partition") [.str x,.str [c]] σ (.tup [.str (bR c x).1,.str (bR c x).2.1,.str (bR c x).2.2]) σ:=λι s ws Q E r ae u=>by
 refine ae.two' λf f y z=>?_;refine y.str' λf=>?_;refine z.str' λf=>?_;refine vT F.slot_str_partition (BI _ _ _) F.entry_str_partition (F.args_str_partition_2 _ _) (meets_str_partition (mk x) _ _ _ rfl (by rw[eo];exact ai)) ?_;have fin:∀ (a e d:jg) (j k n:QN) h,a.cps.toList=(bR c x).1->e.cps.toList=(bR c x).2.1->d.cps.toList=(bR c x).2.2->
   Q (.ref s.heap.objs.size) {s with toks:=h,heap:=s.heap.push {cls:=.type "tuple",data:=.seq [.str a j,.str e k,.str d n].toArray}}:=λa e d j k n h af o t=>by
  have st:=Step.push p.hid C.md C.fr [] ι s.heap {cls:=.type "tuple",data:=.seq [.str a j,.str e k,.str d n].toArray};exact u _ _ h _ (r.push _) st (.tup (λq=>by
   refine av (r.hid _ q) λaj v=>?_;exact iv (hy v) (hW _)) ⟨_,gR _ rfl,rfl,0,rfl⟩ (.cons (TQ.ofStr af) (.cons (TQ.ofStr o) (.cons (TQ.ofStr t) .nil))))
 rcases nO x c 1 (e6 _)with⟨m,g⟩|⟨b,rest,m,g,ab⟩
 .have l:occurrences ⟨x.toArray⟩ ⟨[c].toArray⟩ 0 (⟨x.toArray⟩:jg).length 1=[]:=m
  rw[l];rw[rQ g]at fin;exact fin (mk x) Ja Ja _ _ _ _ rfl rfl rfl
 .have l:occurrences ⟨x.toArray⟩ ⟨[c].toArray⟩ 0 (⟨x.toArray⟩:jg).length 1=b::rest:=m
  rw[l];rw[rR g ab]at fin;refine fin (strSub (mk x) 0 b) ⟨[c].toArray⟩ (strSub (mk x) (b+(⟨[c].toArray⟩:jg).length) (mk x).length) _ _ _ _ ?_ rfl ?_
  .rw[vC];simp[mk]
  .rw[vC]
   show(x.drop (b+1)).take ((mk x).length -(b+1))=x.drop (b+1);rw[eo];exact ia (by simp)
theorem qE{ι h} ps k:aT p ι h (ps.map λc=>V.str c.cps.toList) (strsFrom k ps):=by
 induction ps generalizing k with
 |nil=>exact .nil
 |cons a r b=>exact .cons (TQ.ofStr rfl) (b (k+1))
theorem Bi.split (v:x.length<=1000000):Bi p prog w aa C (.builtin "str.split") [.str x,.str [c]] σ (.h σ.length) (σ++[.list ((br c x).map V.str)]):=λι s ws Q E r n k=>by
 refine n.two' λf f m q=>?_;refine m.str' λf=>?_;refine q.str' λf=>?_;have fin:∀ (vs:e0 fB) d,(∀ ι h,aT p ι h ((br c x).map V.str) vs)->Q (.ref s.heap.objs.size) {s with toks:=d,heap:=s.heap.push {cls:=.type "list",data:=.seq vs.toArray}}:=λvs d y=>by
  have st:=Step.alloc p.hid C.md C.fr [] ι s.heap {cls:=.type "list",data:=.seq vs.toArray};refine k _ _ d _ (r.alloc ⟨vs,⟨0,gR _ rfl⟩,y _ _⟩) st (.h ?_);rw[<-r.len];simp
 have g:=vZ x c;have u:(mk x).length<=sizeLine:=by rw[eo];exact tl v rfl
 have j:∀ {t:QN},Txt.split (mk x) ⟨#[c]⟩=[mk x]->∀ ι h,aT p ι h ((br c x).map V.str) [.str ⟨x.toArray⟩ t]:=λe ι h=>by
  rw[e]at g;rw[<-g];exact .cons (.str x _) .nil
 cases a:(decide ((mk x).length<(mk [c]).length)||decide (strKind (mk x)<strKind (mk [c])))with
 |true=>
  refine vT F.slot_str_split (BI _ _ _) F.entry_str_split (F.args_str_split_2 _ _) (meets_str_split_cannot_occur (mk x) _ _ _ a) ?_;exact fin [.str ⟨x.toArray⟩ _] _ (j (by unfold Txt.split;rw[hz a]))
 |false=>
  cases b:(occurrences (mk x) (mk [c]) 0 (mk x).length ((mk x).length+1)).isEmpty with
  |true=>
   refine vT F.slot_str_split (BI _ _ _) F.entry_str_split (F.args_str_split_2 _ _) (meets_str_split_not_found (mk x) _ _ _ a rfl b) ?_;exact fin [.str ⟨x.toArray⟩ _] _ (j (by unfold Txt.split;rw[hb (by rw[show(⟨#[c]⟩:jg)=mk [c]from rfl,a];simp),hz b]))
  |false=>
   have o:(partsBetween (mk x) (occurrences (mk x) (mk [c]) 0 (mk x).length ((mk x).length+1)) (mk [c]).length).length<=sizeLine:=by
    have:=PI (mk x) (mk [c]) 0 (mk x).length ((mk x).length+1);rw[eo]at this;unfold partsBetween lg;simp only[g0,List.length_zip,ol,hg,rI];rw[eo];lia
   refine vT F.slot_str_split (BI _ _ _) F.entry_str_split (F.args_str_split_2 _ _) (meets_str_split_sep (mk x) _ _ _ a rfl b u o) ?_;refine fin _ _ λι h=>?_;have l:Txt.split (mk x) ⟨#[c]⟩=partsBetween (mk x) (occurrences (mk x) (mk [c]) 0 (mk x).length ((mk x).length+1)) (mk [c]).length:=by
    unfold Txt.split;rw[hb (by rw[show(⟨#[c]⟩:jg)=mk [c]from rfl,a];simp),hb (by rw[show(⟨#[c]⟩:jg)=mk [c]from rfl,b];simp)]
   have:=qE (p:=p) (ι:=ι) (h:=h) (Txt.split (mk x) ⟨#[c]⟩) s.toks;rw[<-g,yg];rw[<-l];exact this
end
end
section
set_option backward.match.sparseCases false
section
variable{s:gc}
noncomputable def Jh (A:t2)(s:gc)(a b:fB)(x:jW):Prop:=Ri A s a b x/\NH A s a b (!x)
theorem uV (c:TQ p ι s.heap v wv)(a:TQ p ι s.heap v' f)(e:Jf v v'=some b):Jh A s wv f b:=by
 cases v with
 |int i=>
  refine c.bW λt=>?_;cases v' with
  |int g=>
   refine a.bW λd=>?_;cases e;rw[<-nM];exact⟨Rj _ _ _ _,Qk _ _ _ _⟩
  |none=>
   obtain rfl:=a.none_inv;cases e;exact⟨QE _ _,PK _ _⟩
  |_=>exact TS e
 |str x=>
  refine c.str' λt=>?_;cases v' with
  |str y=>
   refine a.str' λd=>?_;cases e;rw[<-str_beq];exact⟨RN _ _ _ _,Qo _ _ _ _⟩
  |_=>exact TS e
 |none=>
  obtain rfl:=c.none_inv;cases v' with
  |none=>
   obtain rfl:=a.none_inv;cases e;exact⟨Qr,NI⟩
  |int g=>
   refine a.bW λd=>?_;cases e;exact⟨QF _ _,PL _ _⟩
  |_=>exact TS e
 |_=>exact TS e
end
end
variable{a:V}{x:jW}{wa wb:fB}{op:Lc}
section
set_option backward.match.sparseCases false
noncomputable def yn (prog:ih)(w:jo)(A:t2)(s:gc)(op:Lc)(a b:fB)(x:jW):Prop:=
 ∀ (Q:fB->gc->Prop) (E:fB->gc->Prop),(∀ c,Q (.bool x) {s with toks:=c})->ht (hh prog w) A (n2 op a b) Q E s
section
variable{gl:e0 (jg×V)}{fr:e0 zs}{s:gc}
noncomputable def jf (wv y:fB):Bool:=match y,wv with
 | .int a _,.int b _=>a==b
 | .str a _,.str b _=>a==b
 |_,_=>false
theorem Bb{y:fB}(b:TQ p ι s.heap a y)(c:TQ p ι s.heap v wv)(e:eqB a v=some x):ru A s y wv (jf wv y)/\jf wv y=x:=by
 cases a with
 |int i=>
  refine b.bW λt=>?_;cases v with
  |int d=>
   refine c.bW λf=>?_;cases e;exact⟨Gj _ _ _ _,nM _ _⟩
  |_=>exact TS e
 |str i=>
  refine b.str' λt=>?_;cases v with
  |str d=>
   refine c.str' λf=>?_;cases e;exact⟨t5 _ _ _ _,str_beq _ _⟩
  |_=>exact TS e
 |_=>exact TS e
theorem rU (d:TQ p ι s.heap v wv)(r:aT p ι s.heap l ws)(h:jz v l=some x):
  (∀ y∈ws,ru A s y wv (jf wv y))/\ws.any (jf wv)=x:=
 r.ind (M:=λl ws=>∀ x,jz v l=some x->(∀ y∈ws,ru A s y wv (jf wv y))/\ws.any (jf wv)=x) (λx h=>⟨λe j=>(nomatch j),fZ h⟩) (λra e c x h=>by
  refine ah (mA.mp h) λm f k=>?_
  (refine ah (hI.mp k) λn a g=>?_;subst g)
  have b:=Bb (A:=A) ra d f;exact⟨gx.mpr ⟨b.1,(c _ a).1⟩,by rw[zH,b.2,(c _ a).2]⟩) x h
theorem uW (r:Rel p prog w aa fr ι σ s.heap)(o:TQ p ι s.heap a wa)(n:TQ p ι s.heap b wb)(e:inR a b σ=some x):
  yn prog w A s .In wa wb x/\yn prog w A s .NotIn wa wb (!x):=by
 cases b with
 |str j=>
  cases a with
  |str l=>
   cases l with
   |nil=>exact TS e
   |cons k l=>cases l with
    |nil=>
     cases e;refine o.str' λt=>?_;refine n.str' λaj=>?_;have d:(!(Ng ⟨j.toArray⟩ ⟨[k].toArray⟩ 0 (⟨j.toArray⟩:jg).length 1).isEmpty)=j.contains k:=
      (R2 (mk j) k).trans (EE k j).symm
     exact⟨λQ E c=>in_str (d▸c s.toks),λQ E c=>R3 (d▸c s.toks)⟩
    |cons=>exact TS e
  |_=>exact TS e
 |tup l=>
  cases n with
  |@tup _ ad ws n1 ab af=>
  refine az (rU (A:=A.in1) o af e) λu d=>?_;obtain rfl:=Jb.trans d;have g:∀ y∈ws.toArray,ru A.in1 s y wa (jf wa y):=λy m=>u y (Ji.mp m);exact⟨λQ E c=>SeqAt.in_tupleAt (jf wa) ab g (c s.toks),λQ E c=>SeqAt.notIn_tupleAt (jf wa) ab g (c s.toks)⟩
 |h z=>
  have f:(match σ[z]? with|some (.list l)=>jz a l|_=>none)=some x:=e;cases q:σ[z]? with
  |none=>rw[q]at f;exact TS f
  |some ae=>
   rw[q]at f;cases ae with
   |list l=>
    refine r.list' q n λad ws ak v ai=>?_;refine az (rU (A:=A.in1) o ai f) λu d=>?_;obtain rfl:=Jb.trans d;have g:∀ y∈ws.toArray,ru A.in1 s y wa (jf wa y):=λy m=>u y (Ji.mp m);exact⟨λQ E c=>SeqAt.in_listAt (jf wa) (ha v) g (c s.toks),λQ E c=>SeqAt.notIn_listAt (jf wa) (ha v) g (c s.toks)⟩
   |_=>exact TS f
 |_=>exact TS e
theorem yo{b:V}(h:b.qz=true):b=.none:=by cases b<;>first|rfl|exact UC h
theorem uX (d:TQ p ι s.heap a wa)(f:TQ p ι s.heap b wb)(e:Ba a b=some x):
  yn prog w A s .Is wa wb x/\yn prog w A s .IsNot wa wb (!x):=by
 unfold Ba at e;by_cases h:b.qz=true
 .rw[hz h]at e
  cases e;obtain rfl:=yo h;obtain rfl:=f.none_inv;have hx:(wa==Value.none)=a.qz:=by cases d<;>rfl
  exact⟨λQ E c=>is_none (hx▸c s.toks),λQ E c=>isNot_none (hx▸c s.toks)⟩
 .rw[hb h]at e;exact TS e
theorem nQ (e:A9 a b=some x):∃ i c,a=.int i/\b=.int c/\decide (i<c)=x:=by
 cases a with
 |int i=>cases b with
  |int c=>cases e;exact gD i c rfl rfl rfl
  |_=>exact TS e
 |_=>exact TS e
theorem yp (r:Rel p prog w aa fr ι σ s.heap)(f:TQ p ι s.heap a wa)(g:TQ p ι s.heap b wb)(e:jA op a b σ=some x):
  yn prog w A s op wa wb x:=by
 cases op with
 |Eq=>exact λQ E c=>(uV f g e).1 prog w E Q (c s.toks)
 |NotEq=>
  (refine ah (hI.mp e) λy j d=>?_;subst d)
  exact λQ E c=>(uV f g j).2 prog w E Q (c s.toks)
 |Lt=>
  (refine cg (nQ e) λi k d l m=>?_;subst d;subst l;subst m)
  refine f.bW λt=>?_;refine g.bW λn=>?_;exact λQ E c=>lt_int (c s.toks)
 |LtE=>
  cases a with
  |int i=>cases b with
   |int k=>
    cases e;refine f.bW λt=>?_;refine g.bW λn=>?_;exact λQ E c=>le_int (c s.toks)
   |_=>exact TS e
  |str i=>cases b with
   |str k=>
    cases e;refine f.str' λt=>?_;refine g.str' λn=>?_;exact λQ E c=>SG (c s.toks)
   |_=>exact TS e
  |_=>exact TS e
 |Gt=>
  (refine cg (nQ e) λi k d l m=>?_;subst d;subst l;subst m)
  refine f.bW λt=>?_;refine g.bW λn=>?_;exact λQ E c=>gt_int (c s.toks)
 |GtE=>
  (refine ah (hI.mp e) λy j d=>?_;subst d)
  (refine cg (nQ j) λi k d l m=>?_;subst d;subst l;subst m)
  refine f.bW λt=>?_;refine g.bW λn=>?_;have h:decide (k<=i)=!decide (i<k):=by rw[<-Gk];exact vW.mpr mm.symm
  exact λQ E c=>ge_int (h▸c s.toks)
 |Is=>exact(uX f g e).1
 |IsNot=>
  (refine ah (hI.mp e) λy j d=>?_;subst d)
  exact(uX f g j).2
 |In=>exact(uW r f g e).1
 |NotIn=>
  (refine ah (hI.mp e) λy j d=>?_;subst d)
  exact(uW r f g j).2
theorem bL.cmp (B:Base p prog w aa gl)(g:cH C)(e:jA op a b σ=some x):bL p prog w aa C (n2 op) a b σ (.bool x) σ:=λι s wa wb Q E r ra f d=>
 yp r ra f e Q E λc=>d ι s.heap c _ r (.refl ..) (.bool x)
end
end
section
set_option backward.match.sparseCases false
open Builtin Builtin.Str
section
variable{gl:e0 (jg×V)}{v b:V}
set_option tactic.hygienic true in
theorem nR{a:hA}(h:a.natAbs<4294967296):Fj a<=64:=by
 unfold Fj;split
 .exact hq _
 .rename_i b
  have c:a.natAbs≠0:=by simpa using b
  have:a.natAbs.log2<32:=(Qu c).mpr (by exact h);exact tl this rfl
theorem bL.rV{m:e5}(h1:σ[n]?=some (.list l))(h2:σ[m]?=some (.list c))(k:l.length+c.length<=lg):
  bL p prog w aa C (y1 .Add) (.h n) (.h m) σ (.h σ.length) (σ++[.list (l++c)]):=λι s wa wb Q E r ra g f=>by
 refine r.list' h1 ra λo ws u a d=>?_;refine av a λt h=>?_;refine r.list' h2 g λab b v a e=>?_;refine av a λq j=>?_;refine Sk h j ?_ (by simp only[ig];rw[<-d.length,<-e.length];exact k);rw[List.append_toArray];have st:=Step.alloc p.hid C.md C.fr [] ι s.heap {cls:=.type "list",data:=.seq (ws++b).toArray};refine f _ _ s.toks _ (r.alloc ⟨ws++b,⟨0,gR _ rfl⟩,(st.lG d).append (st.lG e)⟩) st (.h ?_);rw[<-r.len];simp
theorem kT{k:hA}(a:0<=k)(h1:k.toNat<n):I8 k n=some k.toNat:=by
 unfold I8;rw[hb (mm.mpr a)];exact hz (by rw[h8 a,h8 ((NJ a).mp h1)];rfl)
theorem qF:t4 (.type "str") "__getitem__"=pure (some (.builtin "str.__getitem__")):=Mr.lookup
theorem nS:t4 (.type "tuple") "__getitem__"=pure (some (.builtin "tuple.__getitem__")):=Lk.lookup
theorem yq (n i:e5):max (0:hA) (min (if(i:hA)<0 then(i:hA)+n else i) n)=((min i n:e5):hA):=by
 rw[hb (mm.mpr (h3 i))];rcases Hi i n with h|h
 .rw[pe h,Int.min_eq_left (kf.mpr h),Jn (h3 _)]
 .rw[AV h,Int.min_eq_right (kf.mpr h),Jn (h3 _)]
theorem uY n (lo hi:gN e5):strSliceIndices (lo.map sY) (hi.map sY) 1 n=(Ld (min (hi.getD n) n -min (lo.getD 0) n)).map (min (lo.getD 0) n+·):=by
 rw[<-sliceRange_one];have e:∀ i d c b:hA,i=c->d=b->RO i d 1=RO c b 1:=λa a a a h h'=>h▸h'▸rfl;refine e _ _ _ _ ?_ ?_
 .cases lo with
  |none=>rw[Jo,Nat.zero_min];rfl
  |some i=>exact yq n i
 .cases hi with
  |none=>rw[Jo,NK];rfl
  |some i=>exact yq n i
theorem uZ (x:e0 e5) A B:(x.drop (min A x.length)).take (min B x.length -min A x.length)=(x.take B).drop A:=by
 rw[List.drop_take];rcases Hi A x.length with h|h
 .rw[pe h]
  rcases Hi B x.length with a|a
  .rw[pe a]
  .rw[AV a,ia (by rw[vO];exact e6 _),ia (by rw[vO];exact EF a A)]
 .rw[AV h,A0,Ce h,F1,F1]
set_option tactic.hygienic true in
theorem lL (x:e0 e5)(lo hi:gN e5):(Sn (mk x) (lo.map sY) (hi.map sY)).cps.toList=(x.take (hi.getD x.length)).drop (lo.getD 0):=by
 unfold Sn;rw[eo];split
 .rename_i h
  have a:=eq_of_beq h;rw[uY,g0,List.length_range]at a;rw[<-uZ];rcases Nat.eq_zero_or_pos x.length with b|b
  .rw[kx b,List.drop_nil,F1]
  .have c:min (lo.getD 0) x.length=0:=Nat.le_zero.mp (rx.mp λd=>by
    have:=Nat.sub_lt_of_pos_le d (e2 (AQ _ _) (e6 _));exact hW _ (a▸hQ (EF (AQ _ _) _) this))
   rw[a,c];exact(List.take_length (l:=x)).symm
 .rw[uY];exact(pick_run (mk x).cps _ _).trans (uZ x _ _)
end
end
variable{xc d:hD}{B:kb}{fl:fB}{outer:e0 zs}{Q:GK->gc->Prop}
section
structure yr (xc:hD)(B h:kb)(e d:hD)(fl:fB):Prop where
 new:B.get? e=none
 it:∃ vs,h.get? e=some ⟨.ref xc,some d,.fields vs,#[]⟩/\vs[2]?=some .none/\
  (vs[1]?=some .none\/∃ T oT ts,vs[1]?=some (.ref T)/\B.get? T=none/\T≠e/\h.get? T=some oT/\oT.data=.fields ts/\ts[3]?=some fl)
structure tJ (xc:hD)(B h:kb)(e d:hD)(fl:fB):Prop where
 new:B.get? e=none
 it:∃ vs T oT ts,h.get? e=some ⟨.ref xc,some d,.fields vs,#[]⟩/\vs[2]?=some .none/\
  vs[1]?=some (.ref T)/\B.get? T=none/\T≠e/\h.get? T=some oT/\oT.data=.fields ts/\ts[3]?=some fl
theorem tJ.o (x:tJ xc B h e d fl):yr xc B h e d fl:=
 let⟨vs,f,b,ts,a,c,g⟩:=x.it;⟨x.new,vs,a,c,.inr ⟨f,b,ts,g⟩⟩
section
variable{E:fB->gc->Prop}{s:gc}
theorem nT{vs:uf fB}(af:A.frames=some (env::outer))(l:s.heap.FunFrames B (env::outer))(hf:env.frame=some L)(ab:s.heap.get? e=some ⟨.ref xc,some d,.fields vs,#[]⟩)(am:B.StaysIn s.heap)(ae:B.get? e=none)(u:1<vs.size)(h2:vs[2]?=some .none)(h:∀ h',B.StaysIn h'->h'.FunFrames B (env::outer)->tJ xc B h' e d (tA L)->s.heap.UpToSlots h'->Q () {s with heap:=h'}):
  ht M A (do let a<-frameOf env;let z<-entryPlaceOf L ar;let b<-Fk head a .none (tA L) .none z;setField (.ref e) 1 b) Q E s:=by
 have ai:e∉(env::outer).filterMap (λf=>f.frame):=λq=>by
  obtain⟨_,c,w,ao⟩:=l.mem q;rw[ab]at w;cases w;exact ao vs rfl
 refine e3 (wpAny_frameOf_fun af l hf λh₁ k=>e3 (wpAny_entryPlaceOf λz aa=>?_));unfold Fk newFields;refine e3 (pJ ?_ (aa.sizeOk5 _ _ _ _ _));have p:h₁.get? e=some ⟨.ref xc,some d,.fields vs,#[]⟩:=(k.2.1 e ai).trans ab;have y:B.StaysIn h₁:=λb c f=>(k.2.1 b λq=>by rw[(l.mem q).1]at f;exact TS f).trans (am b c f);have u1:s.heap.UpToSlots h₁:=λb c f aq=>k.2.2 b c f;have f1:h₁.FunFrames B (env::outer):=l.of_slotsOnly k;generalize aj:({cls:=.type "traceback",dict:=none,data:=.fields _}:Gx)=m;have g:∃ ts,m.data=.fields ts/\ts[3]?=some (tA L):=by
  rw[<-aj];exact⟨_,rfl,by first|(simp;done)|(rcases aa with rfl|⟨_,_,_,_,_,_,_,rfl⟩<;>simp)⟩
 (refine ah g ?_;clear g;intro ts g ap)
 have x:(h₁.push m).get? e=some ⟨.ref xc,some d,.fields vs,#[]⟩:=fw _ p;have t:h₁.objs.size≠e:=hj (hy p);refine sR x rfl u ?_;have n:∀ b c,b≠e->h₁.get? b=some c->((h₁.push m).update e (tG (·.setIfInBounds 1 (h0 h₁.objs.size)))).get? b=some c:=λb c ak f=>by
  rw[ii _ _ (Ne.symm ak)];exact fw _ f
 have v:∀ b c,h₁.get? b=some c->(∀ vs,c.data≠.fields vs)->b≠e:=λb c f j o=>by
  subst o;rw[p]at f;cases f;exact j vs rfl
 refine h _ (λb c f=>n b c (λo=>by rw[o,ae]at f;exact TS f) (y b c f)) (f1.of_keeps λb c f j=>⟨c,n b c (v b c f j) f,rfl⟩)
  ⟨ae,_,h₁.objs.size,m,ts,jp _ x rfl,?_,?_,y.fresh,t,?_,g,ap⟩ (u1.trans λb c f j=>⟨c.slots,n b c (v b c f j) f⟩)
 .rw[Array.getElem?_setIfInBounds_ne J];exact h2
 .simp[u]
 .rw[ii _ _ (Ne.symm t)]
  exact gR _ (sd g)
theorem yt (t:A.frames=some (env::outer))(y:s.heap.FunFrames B (env::outer))(hf:env.frame=some L)(z:B.StaysIn s.heap)(hx:yr xc B s.heap e d .none)(h:∀ h',B.StaysIn h'->h'.FunFrames B (env::outer)->tJ xc B h' e d (tA L)->s.heap.UpToSlots h'->Q () {s with heap:=h'}):ht M A (AL (.ref e) env) Q E s:=by
 obtain⟨aa,vs,m,w,k|⟨n,aj,ts,k,af,ae,p,q,ab⟩⟩:=hx
 .unfold AL
  simp only[hf];refine e3 (nG m rfl k ?_);rw[hb J];exact nT t y hf m z aa (k4.mp k).1 w h
 .unfold AL
  simp only[hf];refine e3 (nG m rfl k ?_);rw[hz (show(h0 n !=Value.none)=true from by exact rfl)];refine e3 (nG p q ab ?_);rw[hb (show ¬ ((Value.none==tA L)=true)from by intro h;exact UC h)];refine e3 (sR p q (k4.mp ab).1 ?_);have l:∀ b,b≠n->(s.heap.update n (tG (·.setIfInBounds 3 Value.none))).get? b=s.heap.get? b:=λb ai=>ii _ _ (Ne.symm ai);have v:∀ b g,s.heap.get? b=some g->(∀ vs,g.data≠.fields vs)->b≠n:=λb g f j o=>by
   subst o;rw[p]at f;cases f;exact j ts q
  refine nT t (y.of_keeps λb g f j=>⟨g,(l b (v b g f j)).trans f,rfl⟩) hf ((l e (Ne.symm ae)).trans m) (λb g f=>(l b λo=>by rw[o,af]at f;exact TS f).trans (z b g f)) aa
   (k4.mp k).1 w λh' a b c u=>h h' a b c λx g f j=>u x g ((l x (v x g f j)).trans f) j
theorem jC{l:e0 zs}(y:s.heap.FunFrames B l)(aa:B.StaysIn s.heap)(hx:tJ xc B s.heap e d fl)(h:∀ h',B.StaysIn h'->h'.FunFrames B l->tJ xc B h' e d .none->s.heap.UpToSlots h'->Q () {s with heap:=h'}):ht M A (setFlight (.ref e) none) Q E s:=by
 obtain⟨ab,vs,g,ae,ts,u,x,t,q,o,n,k,v⟩:=hx;have j:∀ a,a≠g->(s.heap.update g (tG (·.setIfInBounds 3 ((none:gN hD).elim Value.none λw=>tA w)))).get? a=s.heap.get? a:=λa z=>ii _ _ (Ne.symm z);have p:∀ a c,s.heap.get? a=some c->(∀ vs,c.data≠.fields vs)->a≠g:=λa c b f m=>by
  subst m;rw[n]at b;cases b;exact f ts k
 unfold setFlight;refine e3 (nG u rfl t ?_);rw[hz (show(h0 g !=Value.none)=true from by exact rfl)];refine sR n k (k4.mp v).1 (h _ (λa c b=>(j a λm=>by rw[m,q]at b;exact TS b).trans (aa a c b)) (y.of_keeps λa c b f=>⟨c,(j a (p a c b f)).trans b,rfl⟩)
  ⟨ab,vs,g,_,_,(j e (Ne.symm o)).trans u,x,t,q,o,jp _ n (sd (y4 k _)),y4 k _,?_⟩ λa c b f=>⟨c.slots,(j a (p a c b f)).trans b⟩)
 simp[(k4.mp v).1]
theorem v6 (j:A.frames=some (env::outer))(n:s.heap.FunFrames B (env::outer))(hf:env.frame=some L)(l:B.StaysIn s.heap)(hx:yr xc B s.heap e d .none)(h:∀ h',B.StaysIn h'->h'.FunFrames B (env::outer)->tJ xc B h' e d .none->s.heap.UpToSlots h'->Q () {s with heap:=h'}):ht M A (Nr env (.ref e)) Q E s:=by
 unfold Nr;refine e3 (yt j n hf l hx λh₁ a b c u=>?_);exact jC b a c λh₂ m k g f=>h h₂ m k g (u.trans f)
end
end
variable{func:k8}{k:e5}{rest:e0 k8}{t:V}{qG:e0 hD}{h'':kb}
section
structure nU (p:P)(aa:kb)(fr:e0 zs)(ι:e0 hD)(h h':kb)(e:hD)(c t:V)(B:kb)(d:hD):Prop where
 base:aa.StaysIn B
 stays:B.StaysIn h'
 frames:h'.FunFrames B fr
 Bd:yr p.xc B h' e d .none
 dict:∃ es n,B.get? d=some (wS es n)/\UJ p ι h' [(p.ph,c),(p.pj,t)] es
 mj:h.get? d=none/\d∉ι
 kept:∀ b o,h'.get? b=some o->((∃ o0,h.get? b=some o0)\/b∈ι)->b∉dp fr->B.get? b=some o
noncomputable def nV (p:P)(aa:kb)(fr:e0 zs)(ι:e0 hD)(h h':kb)(e:hD)(c t:V):Prop:=∃ B d,nU p aa fr ι h h' e c t B d
section
variable{md:e5->jW}{fr:e0 zs}{ex:e0 hD}{e:hD}{c:V}
theorem jD (u:h'.UpToSlots h''):∀ a ws,qv h' a ws->qv h'' a ws:=λa ws x=>by
 obtain⟨f,e,h,g,b⟩:=x;refine av (u a f e λvs c=>by rw[b]at c;cases c) λj d=>?_;exact⟨_,d,h,g,b⟩
theorem nU.go (f:nU p aa fr ι h h' e c t B d)(r:Rel p prog w aa fr ι σ h')(x:Step p.hid md fr ex qG h ι h')(af:(∀ a∈p.hid.t,∃ b,h.get? a=some b)/\∀ a∈p.hid.f,∃ b,h.get? a=some b)(h1:B.StaysIn h'')(h2:h''.FunFrames B fr)(aA:yr p.xc B h'' e d .none)(u:h'.UpToSlots h''):
  Rel p prog w aa fr ι σ h''/\Step p.hid md fr ex qG h ι h''/\nU p aa fr ι h h'' e c t B d:=by
 have tp:Kp p.hid h' h'':=⟨λa ws s=>jD u a ws,λa m b j=>h1 a b (f.kept a b j (.inl (af.2 a m)) (r.Uu a m).2.1)⟩;have as:∀ a∈ι,∀ b,h'.get? a=some b->h''.get? a=some b:=λa n b j=>h1 a b (f.kept a b j (.inr n) (r.dD a n));have am:∀ g b,h'.get? g=some b->(∃ o0,h.get? g=some o0)->∃ o,h''.get? g=some {b with slots:=o}/\(g∉dp fr->o=b.slots):=λg b j q0=>by
  by_cases z:g∈dp fr
  .obtain⟨_,l,ak,ar⟩:=r.frames.mem z
   rw[j]at ak;cases ak;refine av (u g b j ar) λo y=>?_;exact⟨o,y,λq=>iv z q⟩
  .exact⟨b.slots,h1 g b (f.kept g b j (.inl q0) z),λs=>rfl⟩
 have ae:∀ g b,h.get? g=some b->∃ l,h''.get? g=some l:=λg b j=>by
  refine av (x.live g b j) λl ai=>?_;refine ah (am g l ai ⟨b,j⟩) λo y s=>?_;exact⟨_,y⟩
 refine⟨⟨r.len,r.nodup,λg b j=>h1 g b (f.base g b j),funFrames_base f.base h2,r.dD,r.new,λa n=>(af.1 a n).elim (ae a),λa n=>nw (r.Uu a n) λs s=>(af.2 a n).elim (ae a),λi a co ao ap=>(r.obj i a co ao ap).mono (as a (fz ao)) fV tp⟩,
  ⟨x.pre,x.c5,λg b v aJ j=>?_,ae,x.tup.trans tp⟩,⟨f.base,h1,h2,aA,?_,f.mj,λg b j v ay=>?_⟩⟩
 .refine ah (x.ext g b v aJ j) λo aj ab=>?_
  refine ah (am g _ aj ⟨b,j⟩) λax au aq=>?_;exact⟨ax,au,λq=>(aq q).trans (ab q)⟩
 .refine b5 f.dict λaw q aj ab=>?_
  exact eT aw q aj (ab.mono fV tp)
 .have:∃ l,h'.get? g=some l:=v.elim (λj=>j.elim (x.live g)) λaD=>(r.lt aD).1
  refine av this λl ai=>?_;have k:=f.kept g l ai v ay;have:=h1 g l k;rw[j]at this;cases this;exact k
theorem nV.mono (f:nV p aa fr ι h h' e c t)(l:∀ j b,g.get? j=some b->∃ k,h.get? j=some k):nV p aa fr ι g h' e c t:=by
 (refine lB f ?_;clear f;intro B d f)
 refine⟨B,d,f.base,f.stays,f.frames,f.Bd,f.dict,⟨?_,f.mj.2⟩,λj b a o m=>f.kept j b a (o.imp (λa=>a.elim (l j)) id) m⟩;cases n:g.get? d with
 |none=>rfl
 |some b=>refine av (l d b n) λk a=>?_;rw[f.mj.1]at a;exact TS a
noncomputable def nW (p:P)(prog:ih)(w:jo)(aa:kb)(C:Cfg)(ρ:e0 (e5×V))(t:FD fB)(σ:H)(c u:V)(ae:H):Prop:=
 ∀ ι s m (Q:fB->gc->Prop) (E:fB->gc->Prop),Good p prog w aa C ρ ι σ m s.heap->
  (∀ aw h' a e,Rel p prog w aa C.fr aw ae h'->Step p.hid C.md C.fr [] ι s.heap aw h'->nV p aa C.fr aw s.heap h' e c u->E (.ref e) {s with heap:=h',toks:=a})->
  ht (hh prog w) C.A t Q E s
noncomputable def ml (p:P)(prog:ih)(w:jo)(aa:kb)(C:Cfg)(ρ:e0 (e5×V))(t:FD (e0 fB))(σ:H)(c u:V)(ae:H):Prop:=
 ∀ ι s m (Q:e0 fB->gc->Prop) (E:fB->gc->Prop),Good p prog w aa C ρ ι σ m s.heap->
  (∀ aw h' a e,Rel p prog w aa C.fr aw ae h'->Step p.hid C.md C.fr [] ι s.heap aw h'->nV p aa C.fr aw s.heap h' e c u->E (.ref e) {s with heap:=h',toks:=a})->
  ht (hh prog w) C.A t Q E s
noncomputable def gg (p:P)(prog:ih)(w:jo)(aa:kb)(C:Cfg)(t:FD Km)(ρ:e0 (e5×V))(σ:H)(c u:V)(am:e0 (e5×V))(ae:H):Prop:=
 ∀ ι s m (Q:Km->gc->Prop) (E:fB->gc->Prop),Good p prog w aa C ρ ι σ m s.heap->
  (∀ aw h' a b e,Good p prog w aa C am aw ae b h'->Step p.hid C.md C.fr [C.env.locals] ι s.heap aw h'->nV p aa C.fr aw s.heap h' e c u->E (.ref e) {s with heap:=h',toks:=a})->
  ht (hh prog w) C.A t Q E s
noncomputable def rW (p:P)(prog:ih)(w:jo)(aa:kb)(md:e5->jW)(hn:gN e5)(d:e5)(k:e5)(args:e0 V)(σ:H)(c u:V)(ae:H):Prop:=
 ∀ (A:t2) (fr:e0 zs) ι s (a:hD) ws (X:tc->gc->Prop),A.frames=some fr->Hand hn A ι->A.depth+d<=600->A.units+10*d<=6000->p.fa[k]?=some a->
  Rel p prog w aa fr ι σ s.heap->aT p ι s.heap args ws->
  (∀ aw h' b e,Rel p prog w aa fr aw ae h'->Step p.hid md fr [] ι s.heap aw h'->nV p aa fr aw s.heap h' e c u->X (.error (.ref e)) {s with heap:=h',toks:=b})->
  kC (hh prog w) A (.call (.ref a) ⟨ws,[]⟩) X s
end
section
variable{v b c:V}{gl:e0 (jg×V)}{f:Uk}
theorem nW.callee{pos}{vs:e0 V}{d:e5}(B:Base p prog w aa gl)(au:cH C)(n:C.A.depth+d<=600)(ae:C.A.units+10*d<=6000)(hf:Ev p prog w aa C ρ (hF func C.env) σ (.fn k) U)(ap:jY p prog w aa C ρ (pp (la pos (hu args C.env))) U vs af)(aw:rW p prog w aa C.md C.hn d k vs af c u ao)(hs:(hu args C.env).any (λt=>t.1)=false)(y:hF (.Call func args [] pos) C.env=(do nI pos (<-hF func C.env) [] (la pos (hu args C.env)) [])):
  nW p prog w aa C ρ (hF (.Call func args [] pos) C.env) σ c u ao:=λι s m Q E f v=>by
 rw[y];refine e3 (hf ι s m _ _ f λaj h₁ ax ay q a x=>?_);cases x with
 |fn g=>
  refine b5 (B.fns k _ g) λj fd o z=>?_;refine um (o:=j) (fd:=fd) (bq (aI hs pos) (ap aj _ m _ _ (f.step q a) λaq h₂ aA ai h b ab=>⟨⟨h.stays _ _ o,z⟩,?_⟩));refine sX ?_;refine aw C.A C.fr aq _ _ ai _ au.frames (f.hand.pre (a.trans b).pre) n ae g h ab λar as am e ak l fl=>?_;exact v ar as am e ak ((a.trans b).trans l) (fl.mono (a.trans b).live)
theorem nW.args{args:e0 k8}{pos}(B:Base p prog w aa gl)(hf:Ev p prog w aa C ρ (hF func C.env) σ (.fn k) U)(q:ml p prog w aa C ρ (pp (la pos (hu args C.env))) U c u af)(hs:(hu args C.env).any (λo=>o.1)=false)(n:hF (.Call func args [] pos) C.env=(do nI pos (<-hF func C.env) [] (la pos (hu args C.env)) [])):
  nW p prog w aa C ρ (hF (.Call func args [] pos) C.env) σ c u af:=λι s m Q E b h=>by
 rw[n];refine e3 (hf ι s m _ _ b λaj h₁ x ab v a j=>?_);cases j with
 |fn t=>
  refine b5 (B.fns k _ t) λd fd z y=>?_;refine um (o:=d) (fd:=fd) (bq (aI hs pos) (q aj _ m _ _ (b.step v a) λaq h₂ l e f g fl=>?_));exact h aq h₂ l e f (a.trans g) (fl.mono a.live)
theorem ml.head{pos}(h1:nW p prog w aa C ρ (hF e C.env) σ c u U)(b:hu (e::rest) C.env=(false,hF e C.env)::hu rest C.env):ml p prog w aa C ρ (pp (la pos (hu (e::rest) C.env))) σ c u U:=λι s m Q E d a=>
 lb (h1 ι s m _ _ d a) b
theorem ml.tail{pos}(h1:Ev p prog w aa C ρ (hF e C.env) σ v U)(h2:ml p prog w aa C ρ (pp (la pos (hu rest C.env))) U c u af)(j:hu (e::rest) C.env=(false,hF e C.env)::hu rest C.env):ml p prog w aa C ρ (pp (la pos (hu (e::rest) C.env))) σ c u af:=λι s m Q E b g=>by
 refine lb (h1 ι s m _ _ b λaj h₁ l o k a n=>?_) j;exact h2 aj _ m _ _ (b.step k a) λaq h₂ h e d f fl=>g aq h₂ h e d (a.trans f) (fl.mono a.live)
theorem gg.expr{pos}(h1:nW p prog w aa C ρ (hF e C.env) σ c u U)(hi:wQ C.env=false)(hs:ot e none pos.line C.env=pure false):
  gg p prog w aa C (s0 (.Expr e pos) C.env) ρ σ c u ρ U:=λι s m Q E b f=>
 Ll (h1 ι s m _ _ b λaj h₁ d e g a fl=>f aj h₁ d m e (b.step g a) a.weaken fl) hi hs
theorem gg.jv{id:jg}{pos' a pos}(h1:nW p prog w aa C ρ (hF a C.env) σ c u U)
  (hs:ot a (some (.Name id pos')) pos.line C.env=pure false):gg p prog w aa C (s0 (.Assign [.Name id pos'] a pos) C.env) ρ σ c u ρ U:=λι s m Q E d g=>
 GP (h1 ι s m _ _ d λaj h₁ f e h b fl=>g aj h₁ f m e (d.step h b) b.weaken fl) hs
theorem gg.nE{pos' a pos}(h1:nW p prog w aa C ρ (hF a C.env) σ c u U)(hs:ot a (some (.Attribute o j pos')) pos.line C.env=pure false):gg p prog w aa C (s0 (.Assign [.Attribute o j pos'] a pos) C.env) ρ σ c u ρ U:=λι s m Q E d g=>
 nr (h1 ι s m _ _ d λaj h₁ f e h b fl=>g aj h₁ f m e (d.step h b) b.weaken fl) hs
theorem gg.head{st:rf}{rest:e0 rf}(h1:gg p prog w aa C (s0 st C.env) ρ σ c u ai U):gg p prog w aa C (execs (st::rest) C.env) ρ σ c u ai U:=λι s m Q E b a=>
 kE (h1 ι s m _ _ b a)
set_option tactic.hygienic true in
theorem gg.tail{st:rf}{rest:e0 rf}(h1:TZ p prog w aa C (s0 st C.env) ρ σ .next ai U)(h2:gg p prog w aa C (execs rest C.env) ai U c u au af):
  gg p prog w aa C (execs (st::rest) C.env) ρ σ c u au af:=λι s m Q E k d=>by
 refine kE (h1 ι s m _ _ k λaj h₁ n l fl f a r=>?_);cases r;exact h2 aj _ l _ _ f λaq h₂ h g e j b fl=>d aq h₂ h g e j (a.trans b) (fl.mono a.live)
theorem gg.iff{t:k8}{x y:e0 rf}{pos}{b:jW}(h1:Tv p prog w aa C ρ (qQ t C.env (hF t C.env)) σ b U)(h2:gg p prog w aa C (execs (if b then x else y) C.env) ρ U c u au af):
  gg p prog w aa C (s0 (.If t x y pos) C.env) ρ σ c u au af:=λι s m Q E j k=>by
 refine wpAny_If (h1 ι s m _ _ j λaj h₁ n l a=>?_);cases b
 .exact h2 aj _ m _ _ (j.step l a) λaq h₂ g f e h d fl=>k aq h₂ g f e h (a.weaken.trans d) (fl.mono a.live)
 .exact h2 aj _ m _ _ (j.step l a) λaq h₂ g f e h d fl=>k aq h₂ g f e h (a.weaken.trans d) (fl.mono a.live)
theorem nV.leave (q:A.frames=some (env::fr))(hf:env.frame=some L)(af:h.get? L=none)(o:L∉ι)(f:nV p aa (env::fr) ι h s.heap e c u)(r:Rel p prog w aa fr ι σ s.heap)(x:Step p.hid md fr [] qG h ι s.heap)(v:(∀ a∈p.hid.t,∃ j,h.get? a=some j)/\∀ a∈p.hid.f,∃ j,h.get? a=some j)(t:∀ h',Rel p prog w aa fr ι σ h'->Step p.hid md fr [] qG h ι h'->nV p aa fr ι h h' e c u->Q () {s with heap:=h'}):
  ht (hh prog w) A (Nr env (.ref e)) Q E s:=by
 (refine lB f ?_;clear f;intro B d f)
 refine v6 q f.frames hf f.stays f.Bd λh'' a b ai z=>?_;have n:nU p aa fr ι h s.heap e c u B d:=⟨f.base,f.stays,f.frames.2.2,f.Bd,f.dict,f.mj,λb j k l ae=>f.kept b j k l λg=>by
  have g:b∈dp (env::fr):=g;simp only[dp,m8,hf]at g;rcases hr.mp g with g|g
  .subst g
   exact l.elim (λk=>k.elim λj k=>TS (af.symm.trans k)) o
  .exact ae g⟩
 refine eR (n.go r x v a b.2.2 ai.o z) λy m ab=>?_;exact t h'' y m ⟨B,d,ab⟩
end
end
variable{hi value:k8}{sp:JC}{x:e0 e5}{j:e5}
section
set_option backward.match.sparseCases false
section
variable{gl:e0 (jg×V)}{v b:V}
theorem jR{lo hi:gN k8} o i:D3 (.Slice lo hi none sp) false o i=Nz [i,o] (yd o i):=rfl
theorem nX{x:jg}{t:QN} r:y6 value (.str x t) r=pure ():=by cases value<;>rfl
theorem yu (aa:kb):KeptH (λh'=>∀ b a,aa.get? b=some a->h'.get? b=some a):=λh ob k b a c=>fw _ (k b a c)
theorem Ev.Jj{lo:k8}{i:e5}(h1:Ev p prog w aa C ρ (hF value C.env) σ (.str x) U)(h2:Ev p prog w aa C ρ (hF lo C.env) U (.int i) af)(y:Ev p prog w aa C ρ (hF hi C.env) af (.int j) ao)(ak:x.length<=lg):Ev p prog w aa C ρ (hF (.Subscript value (.Slice (some lo) (some hi) Option.none sp) pos) C.env) σ (.str (bg x i j)) ao:=λι s m Q E b l=>by
 refine BN (h1 ι s m _ _ b λaj h₁ au aw c a n=>EG (p2 (h2 aj _ m _ _ (b.step c a) λaq h₂ ax ar z d t=>p2 (y aq _ m _ _ ((b.step c a).step z d) λae e ab am v g h=>m9 ?_))));refine n.str' λta=>?_;refine t.bW λas=>?_;refine h.bW λay=>?_;refine EH (SBH.sliceItem_ss (s:={s with heap:=e,toks:=ab}) (yu e) (λf f q=>q) (λh' ap k u=>?_) (by rw[eo];exact ak)) (jR _ _) nX;refine az (v.ext u) λo ai=>?_;exact l ae h' k _ o (((a.trans d).trans g).trans (ai _ _)) (TQ.ofStr (lL x (some i) (some j)))
theorem Ev.Jk{lo:k8}{i:e5}(h1:Ev p prog w aa C ρ (hF value C.env) σ (.str x) U)(h2:Ev p prog w aa C ρ (hF lo C.env) U (.int i) af)(u:x.length<=lg):Ev p prog w aa C ρ (hF (.Subscript value (.Slice (some lo) Option.none Option.none sp) pos) C.env) σ (.str (bg x i x.length)) af:=λι s m Q E b f=>by
 refine BN (h1 ι s m _ _ b λaj h₁ ab ae d a g=>EG (p2 (h2 aj _ m _ _ (b.step d a) λaq h₂ t y o e l=>m9 (m9 ?_))));refine g.str' λta=>?_;refine l.bW λz=>?_;refine EH (SBH.sliceItem_sn (s:={s with heap:=h₂,toks:=t}) (yu h₂) (λc c j=>j) (λh' v k n=>?_) (by rw[eo];exact u)) (jR _ _) nX;refine az (o.ext n) λh q=>?_;exact f aq h' k _ h ((a.trans e).trans (q _ _)) (TQ.ofStr (lL x (some i) Option.none))
theorem Ev.Jl (h1:Ev p prog w aa C ρ (hF value C.env) σ (.str x) U)(h2:Ev p prog w aa C ρ (hF hi C.env) U (.int j) af)(v:x.length<=lg):Ev p prog w aa C ρ (hF (.Subscript value (.Slice Option.none (some hi) Option.none sp) pos) C.env) σ (.str (bg x 0 j)) af:=λι s m Q E b f=>by
 refine BN (h1 ι s m _ _ b λaj h₁ ae ai d a g=>EG (m9 (p2 (h2 aj _ m _ _ (b.step d a) λaq h₂ u z q e n=>m9 ?_))));refine g.str' λta=>?_;refine n.bW λab=>?_;refine EH (SBH.sliceItem_ns (s:={s with heap:=h₂,toks:=u}) (yu h₂) (λc c l=>l) (λh' y k o=>?_) (by rw[eo];exact v)) (jR _ _) nX;refine az (q.ext o) λh t=>?_;exact f aq h' k _ h ((a.trans e).trans (t _ _)) (TQ.ofStr (lL x Option.none (some j)))
theorem aT.take{ι h} k (r:aT p ι h l ws):aT p ι h (l.take k) (ws.take k):=
 r.ind (M:=λl ws=>∀ k,aT p ι h (l.take k) (ws.take k)) (λk=>by cases k<;>exact .nil) (λa c b k=>by
  cases k with
  |zero=>exact .nil
  |succ k=>exact .cons a (b k)) k
theorem aT.set{ι h}(r:TQ p ι h u c) k (x:aT p ι h l ws):aT p ι h (l.set k u) (ws.set k c):=
 x.ind (M:=λl ws=>∀ k,aT p ι h (l.set k u) (ws.set k c)) (λe=>.nil) (λa b d k=>by
  cases k with
  |zero=>exact .cons r b
  |succ k=>exact .cons a (d k)) k
theorem ma.list{k:hA}(ai:σ[n]?=some (.list l))(z:0<=k)(h1:k<2^63)(hk:k.toNat<l.length)(ao:C.md n=true):ma p prog w aa C (.h n) (.int k) v σ (σ.set n (.list (l.set k.toNat v))):=λι s as ar wv Q E r ro aq u ab=>by
 refine r.list' ai ro λf ws g ap q=>?_;refine av ap λe c=>?_;refine aq.bW λt=>?_;have aj:=q.length;have ax:=c;refine ki_setAt (n:=e) c z h1 (by rw[ig,<-aj];exact Int.lt_of_toNat_lt hk) ?_;have j:=tq s.heap f (y8 (·.setIfInBounds k.toNat wv));have ak:(s.heap.update f (y8 (·.setIfInBounds k.toNat wv))).PlainList f ((ws.set k.toNat wv).toArray):=by
  have y:ws.toArray.setIfInBounds k.toNat wv=(ws.set k.toNat wv).toArray:=by simp
  rw[<-y];refine av (Obj.data_mapSeq (o:=listOf ws.toArray e) rfl (·.setIfInBounds k.toNat wv)) λaf a=>?_;refine⟨af,(jp _ c (Obj.isFreed_of_seq a)).trans ?_⟩;generalize h:y8 (λx=>x.setIfInBounds k.toNat wv) (listOf ws.toArray e)=b at a ⊢;have h1:b.cls=.type "list":=by rw[<-h];rfl
  have m:b.dict=none:=by rw[<-h];rfl
  have o:b.slots=#[]:=by rw[<-h];rfl
  obtain⟨ay,d,aw,au⟩:=b;dsimp only at h1 m o a;subst h1 m o a;rfl
 have tp:=cz (hid:=p.hid) j (r.lt (fz g)).2 (r.nf (fz g));refine az (r.upd (co:=.list (l.set k.toNat v)) g j ⟨_,ak,(q.mono fV tp).set (u.mono fV tp) _⟩ ao) λae am=>?_;exact ab ι _ _ ae am
end
end
variable{k:Key}{d:e0 (Key×V)}{a:hA}
section
open PySem.Builtin.Str (tooLong)
set_option backward.match.sparseCases false
section
variable{b:hA}{v:V}{gl:e0 (jg×V)}
theorem yv{ι h}(e:kvs.map (λb=>b.1)=d.map (λb=>b.1))(r:aT p ι h (d.map (λb=>b.2)) (kvs.map (λb=>b.2))):
  (R4 kvs k).map (λb=>b.1)=(fc d k).map (λb=>b.1)/\aT p ι h ((fc d k).map (λb=>b.2)) ((R4 kvs k).map (λb=>b.2)):=by
 refine Vi.to ?_;have x:=Vi.of e r;clear e r;induction x with
 |nil=>exact .nil
 |@cons a v wv d kvs r _ f=>
  unfold R4 fc at f ⊢;rw[lf,lf];by_cases b:a=k
  .rw[hb (by rw[je λc=>c b];exact kA),hb (by rw[je λc=>c b];exact kA)];exact f
  .rw[hz (h8 b),hz (h8 b)];exact .cons r f
theorem EV (h:atK d k=none):fc d k=d:=by
 unfold atK at h;unfold fc;rw[tB];intro b a;have:=List.find?_eq_none.mp (rn.mp h) b a;simpa using this
theorem v7{ι h}(a:TQ p ι h k.v wv):(keyPart wv).isSome=true:=by
 cases k<;>· cases a;rfl
theorem jS (h:σ[n]?=some c):σ.set n c=σ:=by
 refine av (e4.mp h) λb a=>?_;subst a;exact List.set_getElem_self b
theorem Bf (r:VB p ι h (some v) o):∃ wv,o=some wv/\TQ p ι h v wv:=by cases r with|some a=>exact⟨_,rfl,a⟩
theorem Bi.pop (l:∃ h,aa.get? kM=some h)(u:σ[n]?=some (.dict d))(m:d.length<=lg)(af:C.md n=true)(ae:atK d k=some v):Bi p prog w aa C (.builtin "dict.pop") [.h n,k.v] σ v (σ.set n (.dict (fc d k))):=λι s ws Q E r ab q=>by
 refine jw λai=>?_
 (refine cg ab.two λak U9 a t g=>?_;subst a)
 (refine iV (r.dict l u t) λad kvs a b hd hk e lo=>?_;subst a)
 have z:=(g0 (f:=(λo=>o.1)) (as:=kvs)).symm.trans ((hC nl hk).trans (g0 ..));refine ah (Bf (ae▸fb hk e k:VB p ι s.heap (some v) (Cb kvs k))) λwv y j=>?_;refine ai (G5 DT hd.typeIs NL (Nh _ _) (meets_dict_pop_there (keyKind prog w) ad (Key.jy g) [] (.inl rfl) (v7 g)) ⟨kvs,wv,hd,by rw[z];exact m,y,λh' aj c=>?_⟩);have tp:=cz (hid:=p.hid) c (r.lt (fz b)).2 (r.nf (fz b));have f:=yv (k:=k) hk e;have x:=r.upd (co:=.dict (fc d k)) b c ⟨_,aj,f.1,f.2.mono fV tp⟩ af;exact q ι h' _ _ x.1 x.2 (j.mono fV tp)
theorem Bi.extend{m:e5}(z:σ[n]?=some (.list l))(o:σ[m]?=some (.list c))(aj:l.length+c.length<=lg)(ai:C.md n=true):
  Bi p prog w aa C (.builtin "list.extend") [.h n,.h m] σ .none (σ.set n (.list (l++c))):=λι s ws Q E r ae q=>by
 refine ae.two' λk k u v=>?_;refine r.list' z u λad vs d e j=>?_;refine av e λam b=>?_;refine r.list' o v λab a ak e h=>?_;refine av e λao y=>?_;have f:vs.toArray.size+a.toArray.size<=sizeLine:=by rw[ig,ig,<-j.length,<-h.length];exact aj
 refine vT zO ⟨_,b,rfl⟩ LR (Lr _ _) (Hj ad vs.toArray _ ab a.toArray _ (by
  have:zV (vs.toArray.size+a.toArray.size)=false:=by unfold zV;simp only[qT];exact rx.mpr f
  rw[this];simp) (by exact mI f) (by exact e2 f (jr _))) ⟨b,y,?_⟩
 have g:og ad s.heap (s.heap.update ad (y8 λx=>x++a.toArray)):=tq ..;have tp:=cz (hid:=p.hid) g (r.lt (fz d)).2 (r.nf (fz d));refine az (r.upd (co:=.list (l++c)) d g ⟨vs++a,⟨_,by
  have:=jp (y8 λx=>x++a.toArray) b rfl;simp[y8]at this;exact this⟩,(j.mono fV tp).append (h.mono fV tp)⟩ ai) λt af=>?_
 exact q ι _ _ _ t af .none
theorem Bi.upper (hx:x.all (λj=>j<128)=true)(h:x.length<=lg):Bi p prog w aa C (.builtin "str.upper") [.str x] σ (.str (x.map λa=>if 97<=a/\a<=122 then a -32 else a)) σ:=λι s ws Q E r f d=>by
 refine f.one' λc e=>?_;refine e.str' λc=>?_;have b:Txt.upper ⟨x.toArray⟩=⟨(x.map λa=>if 97<=a/\a<=122 then a -32 else a).toArray⟩:=by
  rw[upper_ascii (x:=⟨x.toArray⟩) (λa g=>by exact gf (hw.mp hx a (by exact g)))];congr 1;show Array.map up1 x.toArray=_;rw[List.map_toArray];rfl
 refine SH ?_ ?_
 .rw[b,dj,g0];unfold QG;simp only[qT];exact rx.mpr h
 .rw[b];exact d ι s.heap _ _ r (.refl ..) (.str _ _)
theorem Bi.min (e:cH C)(k:C.hn=none):Bi p prog w aa C (.builtin "min") [.int a,.int b] σ (.int (if b<a then b else a)) σ:=λι s ws Q E r j d=>by
 refine j.two' λc c h g=>?_;refine h.bW λc=>?_;refine g.bW λc=>?_;refine min_two_ints (e.handled k) λh' l hk=>?_;refine az (r.ext hk) λf st=>?_;refine d ι h' _ _ f (st _ _) ?_;split<;>exact .int _ _
theorem Bi.lM (h:∃ a,aa.get? kM=some a)(m:σ[n]?=some (.dict d))(t:d.length<=lg):Bi p prog w aa C (.type "dict") [.h n] σ (.h σ.length) (σ++[.dict d]):=λι s ws Q E r l g=>by
 refine l.one' λu k=>?_;refine r.dict' h m k λad kvs v hd hk j lo=>?_;have q:kvs.length=d.length:=by exact xN hk
 refine kt_call_dict lo hd (by rw[q];exact t) λh' o f=>?_;have c:∀ b a,s.heap.get? b=some a->h'.get? b=some a:=λb a e=>(f.2 b (hc (hy e))).trans (fw _ e);have x:=r.kJ (c:=.dict d) c (aW _) ⟨kvs,o,hk,j.mono (e1 ..) (.ext c)⟩;exact g _ _ _ _ x.1 (x.2.1 _ _) x.2.2
theorem Bi.EW (h:σ[n]?=some (.list l))(j:l.length<=lg):Bi p prog w aa C (.type "list") [.h n] σ (.h σ.length) (σ++[.list l]):=λι s ws Q E r f b=>by
 refine f.one' λm d=>?_;refine r.list' h d λad vs q c a=>?_;refine av c λo e=>?_;refine call_list_seq ad (.inl rfl) e rfl rfl (λh' k keep g=>?_) (by rw[ig,<-a.length];exact j);have x:=r.kJ (c:=.list l) keep (aW _) ⟨vs,⟨_,g⟩,a.mono (e1 ..) (.ext keep)⟩;exact b _ _ _ _ x.1 (x.2.1 _ _) x.2.2
set_option tactic.hygienic true in
theorem Bi.qH{n:e5}{l:e0 V}{b:e0 (e0 e5)}{i:e5}(ar:σ[n]?=some (.list l))(hs:strsOf l=some b)(hi:b.idxOf? x=some i)(o:l.length<=lg):
  Bi p prog w aa C (.builtin "list.index") [.h n,.str x] σ (.int i) σ:=λι s ws Q E r au am=>by
 refine au.two' λae ae ap aq=>?_;refine r.list' ar ap λad vs ay ax ab=>?_;refine av ax λai u=>?_;cases aq;rename_i t;have c:b.length=l.length:=nP hs;have f:vs.length=l.length:=ab.length.symm;refine ah (rT ab hs) λts aw q=>?_;rw[List.idxOf?_eq_some_iff]at hi;refine ah hi λe ao af=>?_;have k:∀ (j:e5) (d:j<vs.length) (v:j<b.length),∃ t,vs[j]=.str (mk b[j]) t:=by
  intro j d v;have as:ts.length=b.length:=by exact xN q
  have g:(ts.map (λaj=>aj.1))[j]?=(b.map mk)[j]?:=by rw[q]
  have ak:j<ts.length:=by exact MH c f d as
  rw[jb,jb,hv ak,hv v]at g;simp only[Dp,mS]at g;subst aw;exact⟨ts[j].2,by simp[Nf,g]⟩
 refine vT A1 ⟨_,u,rfl⟩ Ms (LS _ _) (SeqAt.list_indexAt ad vs.toArray ai none #[] (.str ⟨x.toArray⟩ t) (λa=>match a with| .str y _=>y==mk x|_=>false) i ?_ ?_ ?_ ?_) ⟨u,?_,am ι s.heap _ _ r (.refl ..) (.int _ _)⟩
 .rw[ig];exact Et c f e
 .exact iW.mpr (fC (c▸e) (tl o rfl))
 .refine av (k i (by exact Et c f e) (by exact e)) λz a=>?_
  simp[a,ao]
 .intro m aA h
  refine av (k m (by exact Et c f (hO h e)) (by exact hO h e)) λz a=>?_;have:=af m h;simp[a];exact this
 .intro y o
  obtain⟨j,d,rfl⟩:=Array.getElem_of_mem o;rw[ig]at d;refine av (k j d (by exact MI c f d)) λz a=>?_;rw[List.getElem_toArray,a];exact t5 _ _ _ _
end
end
variable{np:JC}{a:V}
section
set_option backward.match.sparseCases false
section
variable{v:V}{gl:e0 (jg×V)}
theorem Good.builtin{ι m h}(B:Base p prog w aa gl)(a:cH C)(g:Good p prog w aa C ρ ι σ m h)(hs:s.heap=h){id:jg}{Q:fB->gc->Prop}(hk:C.env.kindOf id=some .globalImplicit)(hf:p.bl.lookup id=some f)(d:(id==("__debug__":jg))=false)(c:Q f s):ht (hh prog w) C.A (hF (.Name id np) C.env) Q E s:=by
 subst hs;refine cg B.blt λl n e k j=>?_;refine az (j id f hf) λb l2=>?_;exact mR a.kind hk (tK (a.glob▸e.keeps g.rel.stays) b (a.blt▸k.keeps g.rel.stays) l2 c) d
theorem Ev.mO{id:jg}(B:Base p prog w aa gl)(t:cH C)(hk:C.env.kindOf id=some .globalImplicit)(ab:C.env.kindOf c=some .globalImplicit)(hf:p.bl.lookup id=some (.builtin "isinstance"))(x:p.bl.lookup c=some (.type "tuple"))(u:(id==("__debug__":jg))=false)(z:(c==("__debug__":jg))=false)(ae:Ev p prog w aa C ρ (hF e C.env) σ a U)(hs:(hu [e,.Name c tp] C.env)=[(false,hF e C.env),(false,hF (.Name c tp) C.env)])(h:(∃ l,a=.tup l/\b=true)\/∃ l,a=.str l/\b=false):
  Ev p prog w aa C ρ (hF (.Call (.Name id np) [e,.Name c tp] [] pos) C.env) σ (.bool b) U:=λι s m Q E j k=>by
 have y:hF (.Call (.Name id np) [e,.Name c tp] [] pos) C.env=(do nI pos (<-hF (.Name id np) C.env) [] (la pos (hu [e,.Name c tp] C.env)) []):=rfl;rw[y];refine e3 (j.builtin B t rfl hk hf u ?_);have q:(hu [e,.Name c tp] C.env).any (λd=>d.1)=false:=by rw[hs];rfl
 have o:hu [.Name c tp] C.env=(false,hF (.Name c tp) C.env)::hu [] C.env:=rfl;refine c7 (λa e=>by cases e) (aI q pos) (bq (aI q pos) (lb (ae ι s m _ _ j λaj h₁ ak af f g n=>?_) (by rw[hs,o];rfl)));refine lb ((j.step f g).builtin B t rfl ab x z ?_) o;refine pa ?_;show ht (hh prog w) C.A (pT (.builtin "isinstance") [af,.type "tuple"]) _ _ _;rcases h with⟨l,rfl,rfl⟩|⟨l,rfl,rfl⟩
 .cases n with
  |tup _ v _=>exact v.elim λai d=>QH d.1 d.2.1 (k aj h₁ _ _ f g (.bool true))
 .cases n with
  |str _ _=>exact R5 (k aj h₁ _ _ f g (.bool false))
theorem v8{ad:hD}{as:e0 hD}(hk:kvs.map (λb=>b.1)=d.map (λb=>b.1))(y:aT p ι h₁ (d.map (λb=>b.2)) (kvs.map (λb=>b.2)))(f:as.length=kvs.length)(l:∀ (j:e5) (a:hD),as[j]?=some a->∃ h k x,kvs[j]?=some (k,x)/\(keyKind prog w).is k h=true/\h₁.get? a=some {cls:=.type "tuple",data:=.seq #[h,x]})(m:∀ a∈as,a∉p.hid.t):
  aT p ι h₁ (d.map λb=>.tup [b.1.v,b.2]) (as.map h0):=by
 induction d generalizing kvs as with
 |nil=>
  cases kvs with
  |nil=>cases as with
   |nil=>exact .nil
   |cons a as=>simp at f
  |cons a c=>simp at hk
 |cons b d z=>
  cases kvs with
  |nil=>simp at hk
  |cons u kvs=>
   cases as with
   |nil=>simp at f
   |cons a as=>
    obtain⟨k,x⟩:=b;obtain⟨aa,af⟩:=u;simp only[iO,Ds]at hk
    (refine az hk ?_;clear hk;intro e hk;subst e)
    cases y with
    |cons r v=>
     refine fx (l 0 a rfl) λh ab ae g n q=>?_;simp at g
     (refine az g ?_;clear g;intro e t;subst e;subst t)
     refine .cons (.tup (m a (by exact .head _)) ⟨_,q,rfl,_,rfl⟩ (.cons (Key.rv n) (.cons r .nil))) (z hk v (by exact s3 f) (λj c o=>?_) λc s=>m c (by exact .tail _ s));exact l (j+1) c (by exact o)
theorem Ev.lits{id:jg}(B:Base p prog w aa gl)(ae:cH C)(ap:C.hn=Option.none)(hk:C.env.kindOf id=some .globalImplicit)(hf:p.bl.lookup id=some (.type "list"))(am:(id==("__debug__":jg))=false)(aP:nm=al "items")(j:Ev p prog w aa C ρ (hF e C.env) σ (.h n) U)(y:U[n]?=some (.dict d))(a1:d.length<=lg)(aQ:wj e nm C.env (hF e C.env)=hF e C.env)(ar:(g.endLine==o.line)=true):
  Ev p prog w aa C ρ (hF (.Call (.Name id np) [.Call (.Attribute e nm g) [] [] o] [] pos) C.env) σ (.h U.length) (U++[.list (d.map λb=>.tup [b.1.v,b.2])]):=λι s m Q E af ay=>by
 have aJ:hF (.Call (.Name id np) [.Call (.Attribute e nm g) [] [] o] [] pos) C.env=(do nI pos (<-hF (.Name id np) C.env) [] (la pos (hu [.Call (.Attribute e nm g) [] [] o] C.env)) []):=rfl;rw[aJ];subst aP;refine e3 (af.builtin B ae rfl hk hf am ?_);have z:(hu [.Call (.Attribute e (al "items") g) [] [] o] C.env).any (λb=>b.1)=false:=rfl;refine c7 (λa e=>by cases e) (aI z pos) (bq (aI z pos) (lb (AN aQ rfl ar (j ι s m _ _ af λaj h₁ t a4 h aA v=>?_)) rfl))
 (refine iV (Rel.dict (s:={s with heap:=h₁,toks:=t}) B.sys h y v) λad kvs aD j l ai aX lo=>?_;subst aD)
 refine lD ("dict") ("dict.items") us Bc Ni l.typeIs (Rel.noDict (s:={s with heap:=h₁,toks:=t}) h v (T:="dict") (m6 y) J) ?_;refine BJ rfl (bq rfl (pa ?_));have aK:kvs.length=d.length:=by exact xN ai
 refine G5 (s:={s with heap:=h₁,toks:=t}) Bc l.typeIs Mu (LZ _) (meets_dict_items (keyKind prog w) ad lo) ⟨⟨kvs,l⟩,?_⟩;have a0:=l.push {cls:=.type "dict_items",data:=.fields #[.ref ad]};refine av a0.dictAt λaq aL=>?_;refine pa ?_;show ht (hh prog w) C.A (pT (.type "list") [h0 h₁.objs.size]) _ _ _;refine kdx_call (knd:=keyKind prog w) (d:=ad) (kvs:=kvs) (ep:=aq) (ae.handled ap) ⟨_,gR _ rfl,rfl,rfl⟩ aL (by rw[aK];exact a1) λh' a3 a2 c as aY ab ax G ao=>?_;have u:∀ k f,h₁.get? k=some f->h'.get? k=some f:=λk f b=>aY k f (fw _ b);have q:(h₁.push {cls:=.type "dict_items",data:=.fields #[.ref ad]}).objs.size=h₁.objs.size+1:=uQ ..;have ak:h₁.get? (h₁.objs.size+1)=Option.none:=by
  cases au:h₁.get? (h₁.objs.size+1)with
  |none=>rfl
  |some f=>exact iv (show h₁.objs.size+1<h₁.objs.size from hy au) (rx.mpr (jr _))
 have aO:∀ a∈as,a∉p.hid.t:=λa j b=>by
  have aV:=G.above a j;refine av (h.hid a b) λf e=>?_;have aw:h₁.objs.size+1<a:=by rw[<-q];exact aV
  have aN:a<h₁.objs.size:=hy e;exact iv (hO aw aN) (rx.mpr (jr _))
 have x:=h.kJ (c:=.list (d.map λb=>.tup [b.1.v,b.2])) u ak ⟨a2.toList,⟨_,by rw[q]at ab;exact ab⟩,by rw[ao];exact v8 (prog:=prog) (w:=w) (ad:=ad) ai (aX.mono (e1 ..) (.ext u)) ax G.pairs aO⟩;refine ay _ _ _ _ x.1 (aA.trans (x.2.1 _ _)) ?_;show TQ p _ _ _ (.ref (h₁.push {cls:=.type "dict_items",data:=.fields #[.ref ad]}).objs.size);rw[q];exact x.2.2
end
end
variable{vs:e0 k8}{l:e0 (Key×V)}
section
set_option backward.match.sparseCases false
section
variable{v:V}{gl:e0 (jg×V)}
inductive V7 (p:P)(ι:e0 hD)(h:kb):e0 (Key×V)->e0 (fB×fB)->Prop
 |nil:V7 p ι h [] []
 |cons {k:Key} {v:V} {U9 wv:fB} {l:e0 (Key×V)} {m:e0 (fB×fB)}:TQ p ι h k.v U9->TQ p ι h v wv->V7 p ι h l m->V7 p ι h ((k,v)::l) ((U9,wv)::m)
noncomputable def qI (p:P)(prog:ih)(w:jo)(aa:kb)(C:Cfg)(ρ:e0 (e5×V))(t:FD (e0 (fB×fB)))(σ:H)(v:e0 (Key×V))(ae:H):Prop:=
 ∀ ι s m (Q:e0 (fB×fB)->gc->Prop) (E:fB->gc->Prop),Good p prog w aa C ρ ι σ m s.heap->
  (∀ aw h' a wv,Rel p prog w aa C.fr aw ae h'->Step p.hid C.md C.fr [] ι s.heap aw h'->V7 p aw h' v wv->Q wv {s with heap:=h',toks:=a})->
  ht (hh prog w) C.A t Q E s
theorem qI.nil:qI p prog w aa C ρ (EU (E3 [] [] C.env pos)) σ [] σ:=λι s m Q E b a=>
 pairTrees_nil_walk (a ι s.heap s.toks _ b.rel (.refl ..) .nil)
theorem Key.Jm (h:v.key=some k):v=k.v:=by
 cases v<;>cases h<;>rfl
theorem qI.cons{g e:k8}{ks:e0 (gN k8)}{vs:e0 k8}{k:Key}{l:e0 (Key×V)}(h1:Ev p prog w aa C ρ (hF g C.env) σ k.v U)(h2:Ev p prog w aa C ρ (hF e C.env) U v af)(t:qI p prog w aa C ρ (EU (E3 ks vs C.env pos)) af l ao):qI p prog w aa C ρ (EU (E3 (some g::ks) (e::vs) C.env pos)) σ ((k,v)::l) ao:=λι s m Q E d j=>by
 refine pairTrees_cons_walk (h1 ι s m _ _ d λaj h₁ ai ak f c n=>?_);refine h2 aj _ m _ _ (d.step f c) λaq h₂ am ae u b o=>?_;refine t aq _ m _ _ ((d.step f c).step u b) λy z x ab q a h=>?_;exact j y z x _ q ((c.trans b).trans a) (.cons (a.rv (b.rv n)) (a.rv o) h)
set_option tactic.hygienic true in
theorem mn{ι h}:∀ {l:e0 (Key×V)} {m:e0 (Key×fB)} {d:e0 (Key×V)} {kvs:e0 (Key×fB)},m.map (λc=>c.1)=l.map (λc=>c.1)->aT p ι h (l.map (λc=>c.2)) (m.map (λc=>c.2))->(kvs.map (λc=>c.1)).Nodup->kvs.map (λc=>c.1)=d.map (λc=>c.1)->aT p ι h (d.map (λc=>c.2)) (kvs.map (λc=>c.2))->
  (merged kvs m).map (λc=>c.1)=(putAll d l).map (λc=>c.1)/\aT p ι h ((putAll d l).map (λc=>c.2)) ((merged kvs m).map (λc=>c.2))
 |[],[],d,kvs,_,_,g,e,r=>⟨e,r⟩
 |[],_::_,_,_,e,_,_,_,_=>by simp at e
 |_::_,[],_,_,e,_,_,_,_=>by simp at e
 |(k,v)::l,(n,x)::m,d,kvs,f,j,g,e,r=>by
  simp only[iO,Ds]at f
  (refine az f ?_;clear f;intro z f;subst z)
  cases j with
  |cons y j=>
   refine az (nN y (k:=n) g e r) λt q=>?_;have s:((zN kvs n x).map (λc=>c.1)).Nodup:=by
    rw[kP];split
    .exact g
    .rename_i hk
     rw[uP];refine⟨g,by simp,λa aa b o=>?_⟩;simp at o;subst o;intro ae;subst ae;apply hk;refine ah (h4.mp aa) λw u ab=>?_;simp only[AP,j8];exact⟨w,u,ab⟩
   exact mn (l:=l) (m:=m) f j s t q
theorem V7.yx{ι h}{m:e0 (fB×fB)}(r:V7 p ι h l m):∃ kvs:e0 (Key×fB),Carries (keyKind prog w) m kvs/\kvs.map (λb=>b.1)=l.map (λb=>b.1)/\aT p ι h (l.map (λb=>b.2)) (kvs.map (λb=>b.2)):=by
 induction r with
 |nil=>exact eS [] trivial rfl .nil
 |@cons k v j wv l m a d n g=>
  refine ba g λkvs e f c=>?_;exact eS ((k,wv)::kvs) ⟨Key.jy a,rfl,e⟩ (hC (k::·) f) (.cons d c)
theorem Ev.EX:Ev p prog w aa C ρ (hF (.Dict [] [] pos) C.env) σ (.h σ.length) (σ++[.dict []]):=λι s m Q E a b=>by
 refine wpAny_Dict_empty ?_;have c:=a.rel.alloc (co:=.dict []) (o:={cls:=.type "dict",data:=.dict #[]}) ⟨[],Dt s.heap,rfl,.nil⟩;exact b _ _ _ _ c (.alloc ..) (.h (by rw[<-a.rel.len];simp))
theorem Ev.dict (af:ks.all (λq=>q.isSome)=true)(y:ks.length=vs.length)(o:ks≠[])(z:ks.length<=15)(h:qI p prog w aa C ρ (EU (E3 ks vs C.env pos)) (σ++[.dict []]) l U)(ak:U[σ.length]?=some (.dict [])):
  Ev p prog w aa C ρ (hF (.Dict ks vs pos) C.env) σ (.h σ.length) (U.set σ.length (.dict (putAll [] l))):=λι s m Q E c u=>by
 refine wpAny_Dict_walk (knd:=keyKind prog w) af y o z ?_;have x:=c.rel.alloc (co:=.dict []) (o:={cls:=.type "dict",data:=.dict #[]}) ⟨[],Dt s.heap,rfl,.nil⟩;have st:Step p.hid C.md C.fr [] ι s.heap (ι++[s.heap.objs.size]) (s.heap.push {cls:=.type "dict",data:=.dict #[]}):=.alloc ..;refine h _ _ m _ _ (c.step x st) λaj h₁ aq ar a e v=>?_;have hi:aj[σ.length]?=some s.heap.objs.size:=bC e.pre (by rw[<-c.rel.len];simp);refine ba (v.yx (prog:=prog) (w:=w)) λkvs c1 c2 c3=>?_;refine ba (a.obj _ _ _ hi ak) λam ab k ap=>?_;have:am=[]:=by simpa using k
 subst this;refine eS kvs c1 ab (λh' ao d=>?_);have tp:=cz (hid:=p.hid) d (a.lt (fz hi)).2 (a.nf (fz hi));refine az (mn (d:=[]) (kvs:=[]) c2 c3 J rfl .nil) λai n=>?_;refine az (a.upd (md:=λg=>decide (g=σ.length)) (co:=.dict (putAll [] l)) hi d ⟨_,ao,ai,n.mono fV tp⟩ (by exact hz rfl)) λae t=>?_;refine u aj h' _ _ ae ((st.trans e).mX t (by simp) λg b j f=>?_) (.h hi);simp only[j8]at j;subst j;rw[hi]at f;cases f;exact .inr (aW _)
end
end
variable{l:e0 V}
section
set_option backward.match.sparseCases false
theorem list_getattr_none:t4 (.type "list") "__getattr__"=pure none:=by rw[Du,vH];kernel_rfl
theorem mP:t4 (.type "list") "keys"=pure none:=by rw[Du,vH];kernel_rfl
theorem lN a u:
  Meets (Builtin.«object.__getattribute__» ⟨[.ref a,.str "keys" u],[]⟩) (λA R c=>(∃ items e,c.heap.get? a=some {cls:=.type "list",dict:=none,data:=.seq items e,slots:=#[]})/\raisesAttr (.ref a) "keys" A R c):=
 Meets.of_wp λprog w A R c b=>by
  obtain⟨g,h,d,f,os⟩:=c;obtain⟨⟨items,e,j⟩,b⟩:=b;have l:(⟨g,h,d,f,os⟩:gc).TypeIs (.ref a) "list":=⟨_,j,rfl⟩;have k:=mP;unfold Builtin.«object.__getattribute__»
  repeat(any_goals(first|assumption|wp_step))
  exact wpAny_raiseAttrError b.1 b.2 (attrMsg_fits (pre:="'list' object has no attribute '") (by decide+kernel) (by decide+kernel))
theorem tL{a:hD}{Q:gN fB->gc->Prop}(c:s.heap.get? a=some {cls:=.type "list",dict:=none,data:=.seq items n,slots:=#[]})(l:A.handled=none)(h:∀ h' b,(∀ g f,s.heap.get? g=some f->h'.get? g=some f)->Q none {s with heap:=h',toks:=b}):
  ht (hh prog w) A (getAttr? (.ref a) "keys") Q E s:=by
 obtain⟨j,k,d,b,os⟩:=s;have t:(⟨j,k,d,b,os⟩:gc).TypeIs (.ref a) "list":=⟨_,c,rfl⟩;have f1:=sub_AttributeError;have f3:=F.slot_list_getattribute.lookup;have f4:=F.slot_list_getattribute.bind (.ref a);have Wc:=list_getattr_none;unfold getAttr? getAttrBy? M8
 repeat(any_goals(first|assumption|((with_reducible show ht _ _ (call (zB "list.__getattribute__") _ _) _ _ _);refine vT F.slot_list_getattribute (⟨_,c,rfl⟩) F.entry_list_ga (F.args_list_getattribute_2 _ _) (lN a _) ⟨⟨_,_,c⟩,l,λh' o e hx=>?_⟩)|wp_step))
 obtain⟨p,m,q⟩:=hx.there;show ht _ _ (Go _ _ _ _ _ _ _) _ _ _;unfold Go
 repeat(any_goals(first|assumption|wp_step))
 exact h _ _ hx.keeps
theorem fe:P9 table "dict.update.loop"=some Builtin.«dict.update.loop»:=AK (by kernel_rfl)
theorem cn:plainId "dict.update.loop"=true:=by decide+kernel
section
variable{v:V}{gl:e0 (jg×V)}
theorem kU{l}(h:pairsOf (.tup [a,b]::r)=some l):∃ k c,a.key=some k/\pairsOf r=some c/\l=(k,b)::c:=by
 have h:(match a.key,pairsOf r with|some k,some c=>some ((k,b)::c)|_,_=>none)=some l:=h;cases d:a.key with
 |none=>rw[d]at h;exact TS h
 |some k=>
  cases e:pairsOf r with
  |none=>rw[d,e]at h;exact TS h
  |some c=>rw[d,e]at h;exact⟨k,c,rfl,rfl,(fZ h).symm⟩
theorem rX{k ps}(h:a.key=some k)(h':pairsOf r=some ps):pairsOf (.tup [a,b]::r)=some ((k,b)::ps):=by
 show(match a.key,pairsOf r with|some k,some ps=>some ((k,b)::ps)|_,_=>none)=_;rw[h,h']
theorem mo{x:V}{l}(h:pairsOf (x::r)=some l):∃ a b,x=.tup [a,b]:=by
 cases x with
 |tup xs=>cases xs with
  |nil=>exact TS h
  |cons a xs=>cases xs with
   |nil=>exact TS h
   |cons b xs=>cases xs with
    |nil=>exact⟨a,b,rfl⟩
    |cons c xs=>exact TS h
 |_=>exact TS h
theorem qJ (h:pairsOf l=some []):l=[]:=by
 cases l with
 |nil=>rfl
 |cons x r=>
  obtain⟨a,c,rfl⟩:=mo h;obtain⟨_,_,_,_,b⟩:=kU h;exact iv b.symm (Jq _ _)
theorem pu{ps}(h:pairsOf l=some ((k,v)::ps)):∃ b r,l=.tup [b,v]::r/\b.key=some k/\pairsOf r=some ps:=by
 cases l with
 |nil=>exact iv (fZ h).symm (Jq _ _)
 |cons x r=>
  obtain⟨a,g,rfl⟩:=mo h;obtain⟨f,j,e,c,d⟩:=kU h;cases d;exact⟨a,r,rfl,e,c⟩
theorem rY:(zN kvs k wv).length<=kvs.length+1:=by
 have:=hC nl (kP (kvs:=kvs) (k:=k) (wv:=wv));rw[g0]at this;rw[this];split<;>simp
theorem Jp (hk:∀ c b,h.get? c=some b->h'.get? c=some b){a:hD}{ws:uf fB}(t:qv h a ws):qv h' a ws:=rk (λb=>oa (hk _ _)) t
set_option tactic.hygienic true in
theorem v9{A:t2}{ι:e0 hD}{h:kb}{d g aw:hD}{l:e0 V}{ws:e0 fB}(bb:A.handled=none)(aV:h.get? d=none)(aA:h.get? g=none)(ai:d≠g)(ax:h.PlainList aw ws.toArray)(aD:aT p ι h l ws):
  ∀ (ps:e0 (Key×V)) (i:e5) (j:e0 (Key×V)) (kvs:e0 (Key×fB)) (s:gc) (X:tc->gc->Prop),pairsOf (l.drop i)=some ps->(∀ f e,h.get? f=some e->s.heap.get? f=some e)->
   s.heap.DictOf (keyKind prog w) d kvs->s.heap.IsListIter g aw i->kvs.map (λb=>b.1)=j.map (λb=>b.1)->aT p ι h (j.map (λb=>b.2)) (kvs.map (λb=>b.2))->kvs.length+ps.length<=lg->
   (∀ h' am m,(∀ f e,h.get? f=some e->h'.get? f=some e)->h'.DictOf (keyKind prog w) d m->m.map (λb=>b.1)=(putAll j ps).map (λb=>b.1)->aT p ι h ((putAll j ps).map (λb=>b.2)) (m.map (λb=>b.2))->X (.ok (.ret .none)) {s with heap:=h',toks:=am})->
   kC (hh prog w) A (.builtin "dict.update.loop" ⟨[.ref d,.ref g,tA i,.none],[]⟩) X s:=by
 intro ps;induction ps with
 |nil=>
  intro i j kvs s X ab hk u z ao aa aq y;obtain⟨aX,aj⟩:=ax;refine w1 fe ?_;rw[EI cn _];have a6:ws[i]?=none:=by
   have:l.drop i=[]:=qJ ab;have bd:l.length<=i:=List.drop_eq_nil_iff.mp this;rw[tb];rw[<-aD.length];exact bd
  show ht _ A.in1 (w8 (.ref g)>>=_) _ _ s;refine e3 (vr (items:=ws.toArray) bb z ⟨_,hk _ _ aj,rfl,_,rfl⟩ (by exact h7.trans a6) λh' aJ=>?_);show ht _ _ (Mv d []>>=_) _ _ _;refine e3 (gq (gq (y h' s.toks kvs (λf e b=>aJ f e (λn=>by rw[n,aA]at b;cases b) (hk f e b)) ?_ ao aa)));obtain⟨e,ae,ak,q,o⟩:=u;exact⟨e,ae,ak,aJ d e ai q,o⟩
 |cons b ps bi=>
  intro i j kvs s X ab hk u z ao aa aq y;obtain⟨k,v⟩:=b;refine jw λt=>?_;obtain⟨bh,r,as,a4,aQ⟩:=pu ab;have a0:l[i]?=some (.tup [bh,v]):=by
   have:=hC List.head? as;rw[List.head?_drop]at this;exact this
  have aN:l.drop (i+1)=r:=by
   rw[<-Ls,as];rfl
  obtain⟨bn,a8,ap⟩:=aD.get a0;cases ap with
  |@tup _ ta bl bo aP ap=>
  obtain⟨_,_,rfl,aO,aK⟩:=ap.two;rename_i U9 wv;obtain⟨aX,aj⟩:=id ax;obtain⟨a5,au,a9,bm,be⟩:=aP;refine t (w1 fe ?_);rw[EI cn _];show ht _ A.in1 (w8 (.ref g)>>=_) _ _ s;refine e3 (uR (items:=ws.toArray) z ⟨_,hk _ _ aj,rfl,_,rfl⟩ (x:=.ref ta) (by exact h7.trans a8) λh₁ aY ar=>?_);have af:∀ f e,h.get? f=some e->h₁.get? f=some e:=λf e b=>(ar.2 f (λn=>by rw[n,aA]at b;cases b)).trans (hk f e b);show ht _ A.in1 (zu [h0 ta] _>>=_) _ _ _;refine e3 (hK ?_);refine e3 (wpAny_tryCatch ?_);unfold NN;refine e3 (Cg (T:="tuple") ⟨a5,af _ _ au,a9⟩ ?_);rw[hz J];refine e3 (Kq (af _ _ au) be ?_);refine gq ?_;show ht _ _ (zu [U9,wv] (dictSet d U9 wv)) _ _ _;refine hK ?_;have a3:h₁.DictOf (keyKind prog w) d kvs:=by
   obtain⟨e,ae,ak,q,o⟩:=u;exact⟨e,ae,ak,(ar.2 d ai).trans q,o⟩
  have a2:=Key.Jm a4;subst a2;refine wpAny_dictSet_pairs (knd:=keyKind prog w) (Key.jy aO) a3 (λh₂ aL ay=>?_) (e2 (hM ..) aq);have t:(kvs.map (λb=>b.1)).Nodup:=let⟨_,_,_,_,_,_,_,_,t⟩:=u;t
  obtain⟨q,o⟩:=nN aK (k:=k) t ao aa;have a7:∀ f e,h.get? f=some e->h₂.get? f=some e:=λf e b=>(ay.2 f (λn=>by rw[n,aV]at b;cases b)).trans (af f e b);refine gq ⟨Mw cn _,bi (i+1) (putK j k v) _ _ X (by rw[aN];exact aQ) a7 aL ?_ q o ?_ λh' am m a f c d=>y h' am m a f c d⟩
  .obtain⟨e,a1,x⟩:=aY
   exact⟨e,(ay.2 g (Ne.symm ai)).trans a1,x⟩
  .exact e2 (iG rY _) (by rw[yz];exact aq)
theorem Bi.nY (o:cH C)(g:C.hn=none)(aj:σ[n]?=some (.list l))(v:pairsOf l=some ps)(aw:ps.length<=lg):Bi p prog w aa C (.type "dict") [.h n] σ (.h σ.length) (σ++[.dict (putAll [] ps)]):=λι s ws Q E r ap af=>by
 refine ap.one' λax ai=>?_;refine r.list' aj ai λad vs aD as au=>?_;obtain⟨h,m⟩:=as;refine callType_codes (Q₁:=λf j=>f=.ref s.heap.objs.size/\j={s with heap:=s.heap.push {cls:=.type "dict",data:=.dict #[]}}) NO (Lu _) Nj (kt_code_dict_new _ ⟨rfl,rfl⟩) ?_;rintro f j ⟨rfl,rfl⟩;have c:(s.heap.push {cls:=.type "dict",data:=.dict #[]}).DictOf (keyKind prog w) s.heap.objs.size []:=Dt s.heap;have e:(s.heap.push {cls:=.type "dict",data:=.dict #[]}).get? ad=some {cls:=.type "list",data:=.seq vs.toArray h}:=fw _ m;refine⟨c.typeIs,Mx _ _,?_⟩;unfold Builtin.«dict.__init__»;refine e3 ?_;unfold My;refine e3 (wpAny_notOrdered_dict c.typeIs ?_);show ht _ _ (pure (s.heap.objs.size,[h0 ad])) _ _ _;refine gq ?_;show ht _ _ (Be "dict.__init__" s.heap.objs.size (.ref ad) [] .none) _ _ _;unfold Be;refine e3 (Cg (T:="list") ⟨_,e,rfl⟩ ?_);rw[hz J];refine e3 (tL e (o.handled g) λh₁ aA hk=>?_);simp only[Option.isNone_none,Nt];have am:=hk _ _ e;refine e3 (QT (e3 (zx (items:=vs.toArray) ⟨_,am,rfl,_,rfl⟩ ?_)));have t:∀ b a,s.heap.get? b=some a->h₁.get? b=some a:=λb a d=>hk _ _ (fw _ d);have z:h₁.get? s.heap.objs.size=some {cls:=.type "dict",data:=.dict #[]}:=hk _ _ (gR _ rfl);have k:s.heap.objs.size<h₁.objs.size:=hy z;refine gq ⟨Mw cn _,v9 (p:=p) (prog:=prog) (w:=w) (A:=C.A.in1) (ι:=ι) (h:=s.heap) (o.handled g) (aW _) ?_ (hc k) ⟨h,m⟩ au ps 0 [] [] _ _ v (λb a d=>fw _ (t b a d)) ?_ (by exact⟨_,gR _ rfl,rfl,rfl⟩) rfl .nil (by exact ki _▸aw) λh' ay q keep ao aq u=>?_⟩
 .cases y:s.heap.get? h₁.objs.size with
  |none=>rfl
  |some a=>exact iv (hO (hy y) k) (hW _)
 .obtain⟨a,ab,ak,ar,ae⟩:=c
  exact⟨a,ab,ak,fw _ (hk _ _ ar),ae⟩
 .have x:=r.kJ (c:=.dict (putAll [] ps)) keep (aW _) ⟨q,ao,aq,u.mono (e1 ..) (.ext keep)⟩
  exact⟨rfl,af _ _ _ _ x.1 (x.2.1 _ _) x.2.2⟩
end
end
section
set_option backward.match.sparseCases false
section
variable{fr:e0 zs}{md:e5->jW}{gl:e0 (jg×V)}
theorem Iter.str{l:e0 e5}(v:A.handled=none)(y:l.all (λab=>ab<128)=true):Iter p prog w aa A fr md tgt (.str l) σ (qw l):=λι s wv Q g r o a=>by
 refine o.str' λt=>?_;refine wpAny_pyIter_ascii (by simpa using y) (a s.heap.objs.size _ _ _ s.toks (uS (λi ι h=>h.IsStrIter s.heap.objs.size "str_ascii_iterator" ⟨l.toArray⟩ t i) ?_ ?_ ?_ ?_ ?_) (uT (aW _) (gR _ rfl)) (λb d e=>fw _ e) ⟨dH.one r (aW _) (gR _ rfl) rfl,_,gR _ rfl,rfl,rfl⟩)
 .rintro i ι h ⟨d,e,m,j⟩
  exact nk d _ _ e m j (by decide+kernel)
 .rintro i ι σ h aw h' af ⟨d,e,m,j⟩ _ st _ k
  exact eS d (k d e) m j
 .intro i ι σ n ae Q g f r _ hx a
  (refine ah (hI.mp (fZ hx)) λc z u=>?_;rcases u with rfl)
  exact wpAny_pyNext_ascii_item f (c:=c) (h7.trans z) λh' x q=>a h' _ _ q x (.str [c] _)
 .intro i ι σ n Q g f r hx a
  exact wpAny_pyNext_ascii_end v f (h7.trans (rn.mp (fZ hx))) a
 .intro i ι n Q g f a
  exact wpAny_pyIter_striter_ascii f a
theorem fD.bi{id:jg}(B:Base p prog w aa gl)(au:cH C)(hk:C.env.kindOf id=some .globalImplicit)(hf:p.bl.lookup id=some f)(v:∀ a,f≠.ref a)(y:(id==("__debug__":jg))=false)(h1:Ev p prog w aa C ρ (hF e C.env) σ a U)(t:hu [e] C.env=[(false,hF e C.env)])(h:∀ ι c wa (Q:fB->gc->Prop) (E:fB->gc->Prop),Rel p prog w aa C.fr ι U c.heap->TQ p ι c.heap a wa->
   (∀ I Is P h' ap,po p prog w aa C.A C.fr md tgt I Is am P->(∀ b∈Is,c.heap.get? b=none/\∃ d,h'.get? b=some d)->(∀ b d,c.heap.get? b=some d->h'.get? b=some d)->P 0 ι U h'->Q (.ref I) {c with heap:=h',toks:=ap})->
   ht (hh prog w) C.A (pT f [wa]) (λx j=>ht (hh prog w) C.A (IV x) Q E j) E c):
  fD p prog w aa C ρ md tgt (.Call (.Name id np) [e] [] pos) σ U am:=λι c m Q E u af=>by
 have ak:hF (.Call (.Name id np) [e] [] pos) C.env=(do nI pos (<-hF (.Name id np) C.env) [] (la pos (hu [e] C.env)) []):=rfl;rw[ak];refine e3 (u.builtin B au rfl hk hf y ?_);have q:(hu [e] C.env).any (λg=>g.1)=false:=by rw[t];rfl
 refine c7 v (aI q pos) (bq (aI q pos) (lb (h1 ι c m _ _ u λaj h₁ aq s n j ai=>?_) (by rw[t];rfl)));refine pa ?_;show ht (hh prog w) C.A (pT f [s]) _ _ _;refine h aj _ s _ _ n ai λI Is P h₂ as ao l k ab=>?_;refine az (n.ext k) λar ae=>?_;refine af aj h₂ as I Is P ar (j.trans (ae _ _)) ao (λb o=>⟨?_,(l b o).2⟩) ab;cases z:c.heap.get? b with
 |none=>rfl
 |some d=>refine av (j.live b d z) λaw e=>?_;have g:=(l b o).1;rw[show({c with heap:=h₁,toks:=aq}:gc).heap=h₁ from rfl,e]at g;cases g
theorem r4{k:hA}(y:A.handled=none)(l:0<=k)(h1:k<=1000000):∀ ι a wa (Q:fB->gc->Prop) (E:fB->gc->Prop),Rel p prog w aa fr ι σ a.heap->TQ p ι a.heap (.int k) wa->
   (∀ I Is P h' u,po p prog w aa A fr md tgt I Is (iM k) P->(∀ c∈Is,a.heap.get? c=none/\∃ b,h'.get? c=some b)->(∀ c b,a.heap.get? c=some b->h'.get? c=some b)->P 0 ι σ h'->Q (.ref I) {a with heap:=h',toks:=u})->
   ht (hh prog w) A (pT (.type "range") [wa]) (λx j=>ht (hh prog w) A (IV x) Q E j) E a:=λι a wa Q E r n d=>by
 cases n with
 |int _ t=>
 refine call_range_1 (wpAny_pyIter_range (SS ..) (small_one J J (g7 J l) (Int.lt_of_le_of_lt h1 J)) ?_);have ae:(a.heap.push {cls:=.type "range",data:=.fields #[.int 0 a.toks,.int k t,.int 1 (a.toks+1)]}).objs.size=a.heap.objs.size+1:=uQ ..;generalize v:a.heap.push {cls:=.type "range",data:=.fields #[.int 0 a.toks,.int k t,.int 1 (a.toks+1)]}=H at*
 have hk:∀ c b,a.heap.get? c=some b->H.get? c=some b:=λc b e=>by rw[<-v];exact fw _ e
 have m:a.heap.get? H.objs.size=none:=by
  cases q:a.heap.get? H.objs.size with
  |none=>rfl
  |some b=>exact iv (hy (hk _ _ q)) (hW _)
 have z:Nl 0 k 1=k:=by rw[rangeSize_one,NP];exact ite_eq_left_iff.mpr λh=>JM l (mm.mp h)
 refine d H.objs.size _ _ _ _ (uS (λi ι h=>i<=k.toNat/\IsRangeIter h H.objs.size i (k -i) 1) ?_ ?_ ?_ ?_ ?_) (uT m (gR _ rfl)) (λc b e=>fw _ (hk c b e)) ⟨dH.one r m (gR _ rfl) rfl,hq _,?_⟩
 .rintro i ι h ⟨_,e⟩
  exact nk _ _ _ e rfl rfl (by decide+kernel)
 .rintro i ι σ h aw h' ai ⟨hi,e⟩ _ st _ ab
  exact⟨hi,ab _ e⟩
 .rintro i ι σ j af Q E ⟨hi,g⟩ r _ hx d
  have hx:=fZ hx;by_cases f:(i:hA)<k
  .rw[hz f]at hx
   cases hx;refine wpAny_pyNext_range_item g (by exact Int.sub_pos_of_lt f) λh' s o=>d h' _ _ o ⟨by exact Int.lt_toNat.mpr f,?_⟩ (.int _ _);rw[show k -((i+1:e5):hA)=k -i -1 by exact MJ];exact s
  .rw[hb f]at hx;exact TS hx
 .rintro i ι σ j Q E ⟨hi,g⟩ r hx d
  have hx:=fZ hx;by_cases f:(i:hA)<k
  .rw[hz f]at hx;cases hx
  .exact wpAny_pyNext_range_end y g (by exact Int.sub_nonpos_of_le (mm.mp f)) d
 .rintro i ι j Q E ⟨hi,g⟩ d
  exact wpAny_pyIter_rangeiter g d
 .rw[z,show k -((0:e5):hA)=k from NP k]
  exact gR H (o:={cls:=.type "range_iterator",data:=.fields #[tA 0,tA k,tA 1]}) rfl
theorem wc{a:hD}{k:e5}(aQ:A.handled=none)(as:e≠f):po p prog w aa A fr md (.Tuple es k pos) e [e,f] (kN n) (λi ι σ h=>dH p aa fr [e,f] ι h/\ι[n]?=some a/\∃ j,IsEnum h e f i j/\h.IsListIter f a i):=by
 have aj:∀ {h h':kb},(∀ c b,c≠e->c≠f->h.get? c=some b->h'.get? c=some b)->∀ c b,c∉[e,f]->h.get? c=some b->h'.get? c=some b:=λx c b u=>x c b (λo=>u (o▸.head _)) (λo=>u (o▸.tail _ (.head _)));refine⟨?_,?_,?_,?_⟩
 .rintro i ι σ h aw ae h' bb ⟨m,d,j,g,b,l,x⟩ _ _ st ai _
  refine az (m.stay st ai) λaf k=>?_;exact⟨af,bC st.pre d,j,k _ (.head _) _ g,b,k _ (.tail _ (.head _)) b l,x⟩
 .intro i ι σ s a9 Q aq aV r hx q
  refine jw λa6=>?_;obtain⟨m,d,j,g,l⟩:=aV;refine ah (mh hx) λay z hx=>?_
  (refine ah (hI.mp hx) λa8 a0 aN=>?_;subst aN)
  refine ah (r.obj n a _ d z) λaA ab v=>?_;refine ah (v.get a0) λaD aX a2=>?_;refine a6 (wpAny_pyNext_enum_item g l (ha ab) (x:=aD) (h7.trans aX) as λh' am aJ aY be aK=>?_);refine ba (id aJ) λb ak u y=>?_;refine eR (m.next (md:=md) (h':=h') r (aj aK) (dH.two am rfl ak y)) λt st af=>?_;have aP:s.heap.objs.size∉p.hid.t:=λo=>by
   refine av (r.hid _ o) λb e=>?_;exact iv (hy e) (hW _)
  refine q h' _ _ t st (.tup aP ⟨_,aY,rfl,_,rfl⟩ (.cons (.int _ _) (.cons (a2.mono fV st.tup) .nil))) λbd a7 a1=>wpAny_letOwnedTupleGo_enum am λh'' ar ap=>?_;have ao:=(ap.2 f (Ne.symm as)).trans ak;refine eR (af.next (md:=md) (h':=h'') t (aj λc b a3 au e=>(ap.2 c a3).trans e) (dH.two ar rfl ao y)) λa4 ax a5=>?_;exact a1 h'' a4 ax ⟨a5,d,_,ar,b,ao,u,y⟩
 .rintro i ι σ s Q aq ⟨m,d,j,g,l⟩ r hx q
  refine ah (mh hx) λay z hx=>?_;refine ah (r.obj n a _ d z) λaA ab v=>?_;refine wpAny_pyNext_enum_end aQ g l (ha ab) (h7.trans (v.get' (rn.mp hx))) λh' ai=>?_;refine az (r.cL (Is:=[e,f]) (h':=h') m (aj λc b au aL e=>ai c b aL e)) λt aO=>?_;exact q h' s.toks t aO
 .rintro i ι σ s Q aq ⟨m,d,j,g,l⟩ q
  exact Hk g q
theorem tM (am:A.handled=none)(ai:σ[n]?=some (.list l))(o:∃ z k ab,tgt=.Tuple z k ab):∀ ι b wa (Q:fB->gc->Prop) (E:fB->gc->Prop),Rel p prog w aa fr ι σ b.heap->TQ p ι b.heap (.h n) wa->
   (∀ I Is P h' aj,po p prog w aa A fr md tgt I Is (kN n) P->(∀ d∈Is,b.heap.get? d=none/\∃ c,h'.get? d=some c)->(∀ d c,b.heap.get? d=some c->h'.get? d=some c)->P 0 ι σ h'->Q (.ref I) {b with heap:=h',toks:=aj})->
   ht (hh prog w) A (pT (.type "enumerate") [wa]) (λx af=>ht (hh prog w) A (IV x) Q E af) E b:=λι b wa Q E r s ae=>by
 cases s with
 |@h n a q=>
 (refine s6 o ?_;clear o;intro au ar as ao;subst ao)
 (refine ah (r.obj n a _ q ai) λws ak aw=>?_;rcases ak with⟨aq,v⟩)
 refine call_enumerate_1 (items:=ws.toArray) v λh₁ f j ap hk=>Hk f ?_;have n0:b.heap.get? b.heap.objs.size=none:=aW _;have n1:b.heap.get? (b.heap.objs.size+1)=none:=by
  cases y:b.heap.get? (b.heap.objs.size+1)with
  |none=>rfl
  |some c=>exact iv (show b.heap.objs.size+1<b.heap.objs.size from hy y) (rx.mpr (jr _))
 refine ae _ [b.heap.objs.size+1,b.heap.objs.size] _ _ b.toks (wc (a:=a) am (q5 _)) ?_ hk ?_
 .refine ah j λc m t=>?_
  exact gx.mpr ⟨⟨n1,_,f⟩,λd g=>gP.mp g▸⟨n0,c,m⟩⟩
 .refine ba (id j) λc m t u=>?_
  exact⟨dH.new r (gx.mpr ⟨⟨n1,_,f,λxs k e=>by cases e⟩,λd g=>gP.mp g▸⟨n0,c,m,λxs k e=>by rw[u]at e;cases e⟩⟩),q,_,f,j⟩
end
end
variable{t:hD}{l r₁ r₂:k8}{o':Lc}{x:jW}{op:SE}{bt:H}
section
set_option backward.match.sparseCases false
section
variable{E:fB->gc->Prop}{s:gc}
theorem tN (l:t≠b) a i s Q (f:s.heap.IsListIter b t i)(g:s.heap.IsList t items)(e:i+a<=items.size)(d:∀ h',h'.IsListIter b t (i+a)->og b s.heap h'->Q ((items.toList.drop i).take a) {s with heap:=h'}):ht (hh prog w) A (draw (.ref b) a) Q E s:=by
 induction a generalizing i s Q with
 |zero=>
  show ht _ _ (pure []) Q E s;exact gq (d s.heap f (R6 ..))
 |succ a n=>
  have m:i<items.size:=by exact ry e
  show ht _ _ (w8 (.ref b)>>=_) Q E s;refine e3 (uR f g (x:=items[i]) (by simp[m]) λh₁ k c=>?_);refine e3 (hK (n (i+1) _ _ k (g.extBut c.extBut l) (by exact MK e) λh₂ h o=>gq ?_));have j:items.toList.drop i=items[i]::items.toList.drop (i+1):=by rw[lv];rfl
  have:=d h₂ (by rw[show i+(a+1)=i+1+a by exact ML];exact h) (c.trans o);rw[j,List.take_succ_cons]at this;exact this
theorem kW{Q:e0 fB->gc->Prop}(g:A.handled=none)(a:s.heap.IsList t items)(h:∀ h',wA s.heap.objs.size s.heap h'->Q items.toList {s with heap:=h'}):ht (hh prog w) A (zw (.ref t) items.size none) Q E s:=by
 have e:t≠s.heap.objs.size:=by refine ah a λc o p=>?_;exact hc (hy o)
 unfold zw;refine e3 ?_;unfold Hs;refine e3 (Dj a.typeIs slot_list_iter.lookup ?_);refine gq ?_;simp only[kZ,wP];refine e3 (hK (zx a ?_));refine e3 (hK (tN e items.size 0 _ _ ⟨_,gR _ rfl,rfl,rfl⟩ (a.push _) (by exact Wr) λh₁ k d=>?_));have m:Sg items.size (Sh 0 items.toList)=items.toList:=by
  rw[qS];exact ia (by exact e6 _)
 rw[m,hb (by exact hW _)];have j:h₁.IsList t items:=(a.push _).extBut d.extBut e;refine e3 (hK (vr g k j (by rw[ki];exact BH (e6 _)) λh₂ n=>?_));simp only[Ga,kZ,wP];exact gq (h h₂ λb c f l=>n b c f (d.extBut b c f (fw _ l)))
end
section
variable{v b c:V}{gl:e0 (jg×V)}{f:Uk}
theorem Ue.list{k pos}{vs:e0 V}(ak:cH C)(t:C.hn=none)(z:σ[n]?=some (.list vs))(h:qt p prog w aa C ((mV elts C.env).map (λc=>c.2)) vs ρ σ au af)(hn:(mV elts C.env).findIdx? (λc=>c.1)=none)(ab:(mV elts C.env).length=vs.length):
  Ue p prog w aa C (rl (.Tuple elts k pos) C.env) (.h n) ρ σ au af:=λι s m wv Q E e l v=>by
 (refine f5 (e.rel.list z l) λa ws x ap ai g=>?_;subst x;rcases ai with⟨ao,q⟩)
 show ht _ _ (do yc pos;QU (.ref a) (mV elts C.env)) _ _ _;refine e3 (ko ?_);unfold QU;rw[hn,ab,g.length,<-ig];refine e3 (hK (kW (ak.handled t) ⟨_,q,rfl,_,rfl⟩ λh' am=>?_));refine az (e.rel.ext λb j f=>am b j (hc (hy f)) f) λy d=>?_;rw[xe];exact h _ _ _ _ _ _ (e.step y (d C.md [])) ((d C.md []).lG g) λaq h₂ aj ae o u=>v aq h₂ aj ae o ((d C.md [C.env.locals]).trans u)
theorem Ev.chain{pos}(h1:Ev p prog w aa C ρ (hF l C.env) σ a U)(h2:Ev p prog w aa C ρ (hF r₁ C.env) U b af)(ay:bL p prog w aa C (n2 o) a b af (.bool x) af)(hf:x=false->v=.bool false/\bt=af)(ak:x=true->Ev p prog w aa C ρ (hF r₂ C.env) af c ao/\bL p prog w aa C (n2 o') b c ao v bt)(aO:lastMarks [o,o'] [r₁,r₂]=false):Ev p prog w aa C ρ (hF (.Compare l [o,o'] [r₁,r₂] pos) C.env) σ v bt:=λι s m Q E g j=>by
 refine Compare_chain (h1 ι s m _ _ g λaj h₁ aY aD r₁ f ar=>?_) aO;refine chain_link (h2 aj _ m _ _ (g.step r₁ f) λaq h₂ a1 n r₂ e k=>?_);refine ay aq _ aD n _ _ r₂ (e.rv ar) k λu aJ aA aV q d ab=>?_;cases ab;refine ly ?_;cases x with
 |false=>
  (refine az (hf rfl) λae ax=>?_;subst ae;subst ax)
  rw[hb (by intro h;exact UC h)];exact j u aJ aA _ q ((f.trans e).trans d) (.bool false)
 |true=>
  refine az (ak rfl) λaP ap=>?_;rw[hz rfl];refine chain_last (aP u _ m _ _ (((g.step r₁ f).step r₂ e).step q d) λaK a0 aX ai z t aw=>?_);refine ap aK _ n ai _ _ z (t.rv (d.rv k)) aw λaN y aL au am aQ as=>?_;exact j aN y aL au am ((((f.trans e).trans d).trans t).trans aQ) as
theorem Tv.chain{pos aQ}{y:jW}(h1:Ev p prog w aa C ρ (hF l C.env) σ a U)(h2:Ev p prog w aa C ρ (hF r₁ C.env) U b af)(ax:bL p prog w aa C (n2 o) a b af (.bool x) af)(hf:x=false->y=false/\bt=af)(ak:x=true->Ev p prog w aa C ρ (hF r₂ C.env) af c ao/\bL p prog w aa C (n2 o') b c ao (.bool y) bt)(aN:lastMarks [o,o'] [r₁,r₂]=false):Tv p prog w aa C ρ (qQ (.Compare l [o,o'] [r₁,r₂] pos) C.env aQ) σ y bt:=λι s m Q E g j=>by
 refine isTrue_chain (h1 ι s m _ _ g λaj h₁ a0 aA r₁ f ar=>?_) aN;refine test_link (h2 aj _ m _ _ (g.step r₁ f) λaq h₂ a2 n r₂ e k=>?_);refine ax aq _ aA n _ _ r₂ (e.rv ar) k λu aD ay aV q d ab=>?_;cases ab;refine ly ?_;cases x with
 |false=>
  (refine az (hf rfl) λae aw=>?_;subst ae;subst aw)
  rw[hb (by intro h;exact UC h)];exact j u aD ay q ((f.trans e).trans d)
 |true=>
  refine az (ak rfl) λaO ap=>?_;rw[hz rfl];refine test_last (aO u _ m _ _ (((g.step r₁ f).step r₂ e).step q d) λaJ a1 aX ai z t au=>?_);refine ap aJ _ n ai _ _ z (t.rv (d.rv k)) au λaL v aK aY am aP as=>?_;cases as;exact ly (j aL v aK am ((((f.trans e).trans d).trans t).trans aP))
theorem Ev.u5{pos}(h:Ev p prog w aa C ρ (hF e C.env) σ v U):Ev p prog w aa C ρ (hF (.BoolOp op [e] pos) C.env) σ v U:=λι s m Q E b a=>BoolOp_one (h ι s m _ _ b a)
theorem Ev.dL{pos}(h1:Ev p prog w aa C ρ (hF q C.env) σ (.bool x) U)(h2:if(match op with| .And=>x| .Or=>!x)then Ev p prog w aa C ρ (hF (.BoolOp op (n::rest) pos) C.env) U v af else v=.bool x/\af=U):Ev p prog w aa C ρ (hF (.BoolOp op (q::n::rest) pos) C.env) σ v af:=λι s m Q E c b=>by
 cases op with
 |And=>
  refine BoolOp_and (h1 ι s m _ _ c λaj h₁ e o r₁ a g=>?_);cases g;refine ly ?_;cases x with
  |true=>exact h2 aj _ m _ _ (c.step r₁ a) λaq h₂ h l r₂ f j=>b aq h₂ h l r₂ (a.trans f) j
  |false=>(refine az h2 ?_;clear h2;intro k d;subst k;subst d);exact b aj h₁ e _ r₁ a (.bool _)
 |Or=>
  refine BoolOp_or (h1 ι s m _ _ c λaj h₁ e o r₁ a g=>?_);cases g;refine ly ?_;cases x with
  |false=>exact h2 aj _ m _ _ (c.step r₁ a) λaq h₂ h l r₂ f j=>b aq h₂ h l r₂ (a.trans f) j
  |true=>(refine az h2 ?_;clear h2;intro k d;subst k;subst d);exact b aj h₁ e _ r₁ a (.bool _)
set_option tactic.hygienic true in
theorem TZ.EY{e:k8}{pos}(h1:Ev p prog w aa C ρ (hF e C.env) σ v U)(hi:wQ C.env=false)(hs:ot e none pos.line C.env=pure false):
  TZ p prog w aa C (s0 (.Expr e pos) C.env) ρ σ .next ρ U:=λι f m Q g b d=>
 Ll (h1 ι f m _ _ b λaj h₁ c j r₁ a h=>d aj h₁ c m _ (b.step r₁ a) a.weaken .next) hi hs
theorem tw.wd{x:e5}{id:jg}(B:Base p prog w aa gl)(l:σ[n]?=some (.gK e))(hn:σ[e]?=some (.ns ak))(hx:p.names[x]?=some id)(ae:ak.lookup x=some v)(b:nK p.K p.xc id):tw p prog w aa C (λt=>Mq t id true) (.h n) σ v σ:=λι s wa Q E r c z=>by
 cases c with
 |@h aj ad ab=>
 refine cg (r.obj n ad _ ab l) λd vs j y ai=>?_;refine b5 (r.obj e d _ j hn) λu m o k=>?_;refine ah (k.get B.nodup hx ae) λwv g1 c=>?_;refine ah b.a λattr af g=>?_;have X:p.K.In s.heap:=λa f q=>r.stays _ _ (B.qq a f q);exact rM X (ox:=⟨.ref p.xc,some d,.fields vs,#[]⟩) (od:=some (wS u m)) ⟨y,rfl,rfl,o⟩ b.g b.g2 b.b (Qe b.h af g g1) (nJ c) (z ι s.heap _ wv r (.refl ..) c)
end
end
section
set_option backward.match.sparseCases false
inductive It where
 |list (n:e5)
 |keys (n:e5)
 |str (l:e0 e5)
 |range (k:hA)
 |enum (n:e5)
noncomputable def It.nx:It->e5->H->gN (gN V)
 | .list n=>iY n
 | .keys n=>m5 n
 | .str l=>qw l
 | .range k=>iM k
 | .enum n=>kN n
noncomputable def It.lP:It->X->jW
 | .enum _,.tu ..=>true
 | .enum _,_=>false
 |_,_=>true
noncomputable def It.lk:It->e0 e5->e0 e5
 | .keys n,l=>n::l
 |_,l=>l
structure Tb where
 gl:e0 (e5×V)
 bi:e0 (e5×Vu)
 me:e0 (e5×Mt)
 fq:e5->e5->jW
 cd:e5
 td:e5
structure VK where
 cm:e0 (e5×e5)
 lk:e0 e5
 hn:gN e5
noncomputable abbrev aZ:=e0 (e5×V)
section
variable (T:Tb)(O:EZ)
structure Fn where
 ps:e0 e5
 sc:e0 (e5×oL)
 body:Ss
noncomputable def Fn.cells (F:Fn):e0 Nat:=(F.sc.filter λq=>q.2==.cell).map (λq=>q.1)
end
end
section
set_option backward.match.sparseCases false
noncomputable def Vu.val:Vu->fB
 | .len=>.builtin "len"| .sorted=>.builtin "sorted"| .ord=>.builtin "ord"| .chr=>.builtin "chr"| .abs=>.builtin "abs"| .min=>.builtin "min"
 | .str=>.type "str"| .dict=>.type "dict"| .list=>.type "list"| .enumerate=>.type "enumerate"| .zip=>.type "zip"| .range=>.type "range"
theorem Vu.noRef (b:Vu):∀ a,b.val≠.ref a:=λa h=>by cases b<;>cases h
noncomputable def Mt.nm:Mt->jg
 | .join=>al "join"| .split =>al "split"| .strip=>al "strip"| .pop=>al "pop"| .append=>al "append"
 | .partition=>al "partition"| .extend=>al "extend"| .index=>al "index"| .get=>al "get"| .upper=>al "upper"
section
variable{v b c:V}{gl:e0 (jg×V)}{f:Uk}
theorem tO (h:n<=sz):(n:hA)<2^63:=iW.mpr (hQ h J)
theorem nZ (h:n<=sz):n<=sizeLine:=h
structure Jr (p:P)(nm:e5->jg)(fq:e5->e5->jW):Prop where
 inst:∀ k x,fq (k+1) x=true->∃ c,p.ca[k]?=some c/\qy p.K c (nm x)
 gK:∀ x,fq 0 x=true->nK p.K p.xc (nm x)
 lt:∀ k x,fq k x=true->p.names[x]?=some (nm x)
end
end
variable{l:e0 k8}{t:k8}{x:X}{xs:Xs}
section
set_option backward.match.sparseCases false
noncomputable def X.bs:X->jW
 | .call _ .n=>false
 | .bi _ .n=>false
 |_=>true
noncomputable def X.Dk:X->jW
 | .tu ..=>false
 |_=>true
section
variable{nm:e5->jg}{env:zs}
theorem iZ:∀ (xs:Xs) {l:e0 k8},(xs.es nm l).length=xs.len
 | .n,_=>rfl
 | .c x xs,l=>hC (λa=>a+1) (iZ xs)
structure XA (e:k8):Prop where
 star:∀ env rest,hu (e::rest) env=(false,hF e env)::hu rest env
 marks:∀ op,zz op e=false
 sub:∀ o i,D3 e false o i=Nz [o,i] (yd o i)
 fold:∀ env y,sf e env y=pure y
 Nv:∀ env o a q l,ot e (some (.Attribute o a q)) l env=pure false
 Nw:∀ env o a q l,ot e (some (.Subscript o a q)) l env=pure false
 Nx:∀ env o a q l,ot e (some (.Tuple o a q)) l env=pure false
theorem kj (x:X):XA (x.e nm t):=by cases x<;>exact⟨λa a=>rfl,λa=>rfl,λa a=>rfl,λa a=>rfl,λa a a a a=>rfl,λa a a a a=>rfl,λa a a a a=>rfl⟩
theorem d7 rest:hu (x.e nm t::rest) env=(false,hF (x.e nm t) env)::hu rest env:=(kj x).star env rest
theorem cJ:∀ {xs:Xs} {l:e0 k8},(hu (xs.es nm l) env).any (λa=>a.1)=false
 | .n,_=>rfl
 | .c x xs,l=>by
  show(hu (x.e nm _::xs.es nm l.tail) env).any (λa=>a.1)=false;rw[d7];exact cJ (xs:=xs)
theorem pQ:∀ {xs:Xs} {l:e0 k8},(hu (xs.es nm l) env).all (λx=>!x.1)=true
 | .n,_=>rfl
 | .c x xs,l=>by
  show(hu (x.e nm _::xs.es nm l.tail) env).all (λx=>!x.1)=true;rw[d7];exact pQ (xs:=xs)
theorem gQ op:zz op (x.e nm t)=false:=(kj x).marks op
theorem n5{a:k8}{p:JC}{id:jg}{u:FD fB}:wj (.Call f (a::r) b p) id env u=u:=by cases f<;>rfl
theorem kX (h:x.bs=true) id:wj (x.e nm t) id env (hF (x.e nm t) env)=hF (x.e nm t) env:=by
 cases x with
 |call b xs=>cases xs with
  |n=>exact UC h
  |c a r=>exact n5
 |bi b xs=>cases xs with
  |n=>exact UC h
  |c a r=>exact n5
 |_=>rfl
theorem Bl o i:D3 (x.e nm t) false o i=Nz [o,i] (yd o i):=(kj x).sub o i
theorem km y:sf (x.e nm t) env y=pure y:=(kj x).fold env y
theorem iN (h:x.il=true) o l:ot (x.e nm t) o l env=pure false:=by cases x<;>first|rfl|exact UC h
theorem pR o a q l:ot (x.e nm t) (some (.Attribute o a q)) l env=pure false:=(kj x).Nv env o a q l
theorem we o a q l:ot (x.e nm t) (some (.Subscript o a q)) l env=pure false:=(kj x).Nw env o a q l
theorem wg o a q l:ot (x.e nm t) (some (.Tuple o a q)) l env=pure false:=(kj x).Nx env o a q l
theorem tP (h:x.Dk=true) o a q:nB [.Tuple o a q] (x.e nm t) env=pure none:=by cases x<;>first|rfl|exact UC h
theorem gy (h:(match x with| .lo ..| .ce ..| .fr ..| .gl ..=>true|_=>false)=true) args pos:
  hF (.Call (x.e nm t) args [] pos) env=(do nI pos (<-hF (x.e nm t) env) [] (la pos (hu args env)) []):=by
 cases x<;>first|rfl|exact UC h
theorem n6 (h:x.bs=true) attr pos:hF (.Attribute (x.e nm t) attr pos) env=(do
   let a<-hF (x.e nm t) env
   yc pos.atName
   let r<-zu [a] (GU a attr true)
   y6 (x.e nm t) a r
   pure r):=by
 rw[arm_eval_Attribute,kX h]
end
end
variable{a d:jW}
section
set_option backward.match.sparseCases false
theorem w2 (h:(a&&b)=true):a=true/\b=true:=j4.mp h
theorem w3 (h:(a&&b&&c)=true):(a=true/\b=true)/\c=true:=⟨w2 (w2 h).1,(w2 h).2⟩
theorem Va (h:(a&&b&&c&&d)=true):((a=true/\b=true)/\c=true)/\d=true:=⟨w3 (w2 h).1,(w2 h).2⟩
theorem Vv (h:(a&&b&&c&&d&&e)=true):(((a=true/\b=true)/\c=true)/\d=true)/\e=true:=⟨Va (w2 h).1,(w2 h).2⟩
theorem Xf (h:(a&&b&&c&&d&&e&&f&&g)=true):(((((a=true/\b=true)/\c=true)/\d=true)/\e=true)/\f=true)/\g=true:=⟨⟨Vv (w2 (w2 h).1).1,(w2 (w2 h).1).2⟩,(w2 h).2⟩
theorem wq{α:Type} [BEq α] [Aa α] {u v:α}{P:Prop} [Bg P] (h:(decide P&&u==v)=true):P/\u=v:=⟨gf (w2 h).1,eq_of_beq (w2 h).2⟩
theorem wr{α:Type} [BEq α] [Aa α] {u v:α}{P:Prop} [Bg P] {b:jW}(h:(decide P&&u==v&&b)=true):(P/\u=v)/\b=true:=⟨wq (w2 h).1,(w2 h).2⟩
structure UP where
 N:e5
 qz:e5
 yC:e5
 Js:e5
 mQ:e5
noncomputable abbrev UE:=e0 (e5×oL)
mutual
noncomputable def X.wf (T:Tb)(n:UP)(K:UE):X->jW
 | .no| .bo _| .i _| .s _=>true
 | .lo x=>decide (x<n.N)&&K.lookup x==some .local
 | .ce x=>decide (x<n.N)&&K.lookup x==some .cell
 | .fr x=>decide (x<n.N)&&K.lookup x==some .free
 | .gl x=>decide (x<n.N)&&K.lookup x==some .globalImplicit
 | .bin _ a b=>a.wf T n K&&b.wf T n K
 | .cmp _ a b=>a.wf T n K&&b.wf T n K
 | .lK _ _ a b d=>a.wf T n K&&b.wf T n K&&d.wf T n K
 | .dL _ xs=>xs.wf T n K
 | .UT a=>a.wf T n K
 | .fy t a b=>t.wf T n K&&a.wf T n K&&b.wf T n K
 | .li xs=>xs.wf T n K
 | .tu xs=>xs.wf T n K
 | .UO ks vs=>ks.wf T n K&&vs.wf T n K&&decide (ks.len=vs.len)&&decide (ks.len<=15)
 | .sub a i=>a.wf T n K&&i.wf T n K
 | .UI a i=>a.wf T n K&&i.wf T n K
 | .st a i=>a.wf T n K&&i.wf T n K&&(match a with| .lo ..| .ce ..| .fr ..| .gl ..=>true|_=>false)
 | .sb a i j=>a.wf T n K&&i.wf T n K&&j.wf T n K
 | .dr a x=>a.wf T n K&&a.bs
 | .call f xs=>f.wf T n K&&xs.wf T n K&&(match f with| .lo ..| .ce ..| .fr ..| .gl ..=>true|_=>false)
 | .bi x xs=>decide (x<n.N)&&K.lookup x==some .globalImplicit&&xs.wf T n K
 | .me a x xs=>a.wf T n K&&a.bs&&xs.wf T n K&&decide (xs.len<29)
 | .mO x y a=>x==n.qz&&y==n.yC&&K.lookup x==some .globalImplicit&&K.lookup y==some .globalImplicit&&a.wf T n K
 | .lits x y a=>decide (x<n.N)&&(match T.bi.lookup x with|some .list=>true|_=>false)&&y==n.Js&&K.lookup x==some .globalImplicit&&a.wf T n K&&a.bs
 | .comp elt tgt g ifs c=>g.wf T n K&&elt.wf T n c&&tgt.wf T n c&&ifs.wf T n c&&c.all λq=>decide (q.1<n.N)&&(q.2!=.local||c.lookup q.1==some .local)&&q.2!=.cell
noncomputable def Xs.wf (T:Tb)(n:UP)(K:UE):Xs->jW
 | .n=>true
 | .c x xs=>x.wf T n K&&xs.wf T n K
end
structure gU (p:P)(prog:ih)(w:jo)(aa:kb)(nm:e5->jg)(n:UP)(T:Tb)(gl:e0 (jg×V)):Prop where
 B:Base p prog w aa gl
 nms:∀ x,x<n.N->p.names[x]?=some (nm x)
 Dl:p.names.length=n.N
 jE:∀ x,x<n.N->(nm x==("__debug__":jg))=false
 E0:∀ x,x<n.N->(nm x==("__classdict__":jg))=false
 E1:∀ x v,T.gl.lookup x=some v->gl.lookup (nm x)=some v
 bi:∀ x b,T.bi.lookup x=some b->p.bl.lookup (nm x)=some b.val
 me:∀ x m,T.me.lookup x=some m->nm x=m.nm
 fq:Jr p nm T.fq
 cd:p.ph=T.cd
 td:p.pj=T.td
 yD:n.qz<n.N/\p.bl.lookup (nm n.qz)=some (.builtin "isinstance")
 yE:n.yC<n.N/\p.bl.lookup (nm n.yC)=some (.type "tuple")
 it:nm n.Js=al "items"
 xc:n.mQ<n.N/\gl.lookup (nm n.mQ)=some (.ab 0)/\p.ab[0]?=some p.xc
structure UU (nm:e5->jg)(n:UP)(C:Cfg)(c:VK)(K:UE)(d:e5):Prop where
 ok:cH C
 kind:∀ x k,x<n.N->K.lookup x=some k->C.env.kindOf (nm x)=some k\/(k=.free/\C.env.kindOf (nm x)=some .cell)
 cm:C.cm=c.cm
 hn:C.hn=c.hn
 md:∀ m,c.lk.contains m=false->C.md m=true
 dep:C.A.depth+d<=600
 qK:C.A.units+10*d<=6000
noncomputable def Dm (p:P)(prog:ih)(w:jo)(aa:kb)(md:e5->jW)(hn:gN e5)(d:e5)(k:e5)(args:e0 V)(σ:H)(v:V)(ae:H):Prop:=
 ∀ (A:t2) (fr:e0 zs) ι s (a:hD) ws (X:tc->gc->Prop),A.frames=some fr->Hand hn A ι->A.depth+d<=600->A.units+10*d<=6000->ι[k]?=some a->
  Rel p prog w aa fr ι σ s.heap->aT p ι s.heap args ws->
  (∀ aw h' b wv,Rel p prog w aa fr aw ae h'->Step p.hid md fr [] ι s.heap aw h'->TQ p aw h' v wv->X (.ok (.ret wv)) {s with heap:=h',toks:=b})->
  kC (hh prog w) A (.call (.ref a) ⟨ws,[]⟩) X s
end
variable{a:V}
section
section
variable{v b:V}{gl:e0 (jg×V)}{f:Uk}{nx:e5->H->gN (gN V)}
set_option tactic.hygienic true in
theorem TZ.yF{f7:e5->jW}{id:jg}{q d:JC}{u:e0 (e5×V)}{elt target iter:k8}{ifs:e0 k8}{scope:Qa}{pos:JC}{cm:e0 (e5×e5)}(H:m0 p prog w aa C ρ σ U af nx ai target iter elt ifs scope f7 cm)
  (aK:Ue p prog w aa C (rl (.Name id q) C.env) (.h U.length) ρ af u ao)(aJ:v4 [.Name id q] (.ListComp elt [⟨target,iter,ifs,0⟩] scope pos) d.line C.env=pure true):
  TZ p prog w aa C (s0 (.Assign [.Name id q] (.ListComp elt [⟨target,iter,ifs,0⟩] scope pos) d) C.env) ρ σ .next u ao:=λι aO m Q aV k ar=>by
 rw[show s0 (.Assign [.Name id q] (.ListComp elt [⟨target,iter,ifs,0⟩] scope pos) d) C.env=(do
  yc d
  if<-v4 [.Name id q] (.ListComp elt [⟨target,iter,ifs,0⟩] scope pos) d.line C.env then do
   evalThenUse (.ListComp elt [⟨target,iter,ifs,0⟩] scope pos) C.env λv=>assignAll v ((mV [.Name id q] C.env).map (λq=>q.2))
   pure .next
  else do
   let v<-hF (.ListComp elt [⟨target,iter,ifs,0⟩] scope pos) C.env
   assignStores C.env v (<-nB [.Name id q] (.ListComp elt [⟨target,iter,ifs,0⟩] scope pos) C.env) ((mV [.Name id q] C.env).map (λq=>q.2)))from rfl]
 refine e3 (ko (e3 (wJ aJ ?_)));rw[hz rfl];refine e3 (e3 ?_);refine nH (use:=some λv=>rl (.Name id q) C.env v) H k λL aA aw h' aD ae y ax l au n o t rel s am=>?_;have ay:Good p prog w aa C ρ aw af m h':=k.step rel s;have z:L≠C.env.locals:=λq=>by
  refine av k.there λc a=>?_;rw[<-q,y]at a;exact TS a
 refine aK aw {aO with heap:=h',toks:=aD} m (.ref aA) _ _ ay (.h am) λab aj aL aP b j=>?_;have h:aj.Ns L ae:=by
  refine cB t λc f e a r=>?_;exact jt c f e (j.exact (by exact Hu z) o l a) r
 refine⟨ae,h,λh'' g=>?_⟩;have aq:L∉ab:=λq=>by
  rcases j.new _ q with q|q
  .exact o q
  .refine cB t λc f e a aQ=>?_
   have q:h'.get? L=Option.none:=q;have a:h'.get? L=some c:=a;rw[q]at a;exact TS a
 have as:=b.rel.sameBut g aq ax l (tF h) (.inl au) n;have tp:=cz (hid:=p.hid) g (tF h) n;refine gq (gq (ar ab h'' aL aP _ ⟨as,?_,b.dE,b.gH,λx id v aN ap=>?_,b.cells,b.hand,b.U0⟩ ((s.weaken.trans j).sameBut g y) .next))
 .refine cB b.ns λc f e a r=>?_
  exact jt c f e ((g.2 _ (Ne.symm z)).trans a) r
 .refine ah (b.vars x id v aN ap) λwv a ak=>?_
  exact⟨wv,a,ak.mono fV tp⟩
end
end
variable{x d:e5}{sc:UE}{l:e0 (jg×oL)}{I:It}{O:EZ}{ρ am:aZ}
section
set_option backward.match.sparseCases false
set_option tactic.hygienic true in
theorem pw{env:zs}(f:e0 (jg×hD)->FD (e0 (jg×hD)))(e:e0 (jg×oL))(cs:e0 (jg×hD))(h:∀ b∈e,b.2=.free->∃ a,env.cells.lookup b.1=some a):
  ∃ c,(forIn e cs (λx r=>if x.2==.free then do let a<-cellOf env x.1;pure (xa ((x.1,a)::r))else pure (xa r)):FD (e0 (jg×hD)))=pure c/\
   (∀ b∈c,b∈cs\/env.cells.lookup b.1=some b.2)/\(∀ b∈cs,b∈c)/\∀ b∈e,b.2=.free->∃ a,(b.1,a)∈c:=by
 induction e generalizing cs with
 |nil=>exact iX cs rfl (λb h=>.inl h) (λb h=>h) (λb h=>nomatch h)
 |cons x e o=>
  obtain⟨id,k⟩:=x;have h':=gx.mp h;by_cases hk:k=.free
  .refine av (h'.1 hk) λa p=>?_
   refine lA (o ((id,a)::cs) h'.2) λc d n j m=>?_;refine iX c ?_ (λb l=>?_) (λb l=>j b (.tail _ l)) (gx.mpr ⟨λs=>⟨a,j _ (.head _)⟩,m⟩)
   .rw[JN]
    simp only[hk,ij,Nt,cellOf,p];exact d
   .rcases n b l with g|g
    .rcases hr.mp g with d|g
     .exact .inr (d▸p)
     .exact .inl g
    .exact .inr g
  .refine lA (o cs h'.2) λc d n j m=>?_
   refine iX c ?_ n j (gx.mpr ⟨λq=>iv q hk,m⟩);rw[JN];have:(k==wl)=false:=kB hk;simp only[this,kZ,wP];exact d
theorem mr (h:∀ b∈scope.names,b.2=.free->∃ a,env.cells.lookup b.1=some a):∃ c,Kw scope env=pure c/\∀ id,(∃ b∈scope.names,b.1=id/\b.2=.free)->c.lookup id=env.cells.lookup id:=by
 refine lA (pw (env:=env) (λx=>pure x) scope.names [] h) λc e n q j=>?_;refine⟨c,?_,λid ⟨b,g,hid,p⟩=>?_⟩
 .unfold Kw
  show(forIn scope.names [] _>>=λd=>pure d)=pure c;have l:=hC (λ(m:FD (e0 (jg×hD)))=>m>>=λd=>pure d) e;refine Eq.trans ?_ (l.trans rfl);congr 1
 .subst hid
  refine av (j b g p) λa o=>?_;cases f:c.lookup b.1 with
  |none=>
   have:=List.lookup_eq_none_iff.mp f _ o;simp at this
  |some k=>
   have:(b.1,k)∈c:=dG f;rcases n _ this with y|y
   .cases y
   .exact y.symm
section
variable{nm:e5->jg}{n:UP}{T:Tb}{gl:e0 (jg×V)}{c:VK}{K:UE}{v:V}{f:e5}
theorem i0 (S:gU p prog w aa nm n T gl){y:e5}(hx:x<n.N)(a:y<n.N)(e:nm x=nm y):x=y:=gd S.B.nodup (S.nms x hx) (e▸S.nms y a)
theorem cS (S:gU p prog w aa nm n T gl)(hx:x<n.N){sc:e0 (e5×oL)}(h:∀ a∈sc,a.1<n.N):(eN nm sc).lookup (nm x)=sc.lookup x:=by
 induction sc with
 |nil=>rfl
 |cons a sc c=>
  obtain⟨y,k⟩:=a;have h':=gx.mp h;show mH (nm x) ((nm y,k)::eN nm sc)=_;by_cases a:x=y
  .rw[a,dY,dY]
  .rw[cZ a,cZ λb:nm x=nm y=>a (i0 S hx h'.1 b)];exact c h'.2
theorem lookup_map2{g:jg->oL->oL}{id:jg}:(l.map λb=>(b.1,g b.1 b.2)).lookup id=(l.lookup id).map (g id):=by
 induction l with
 |nil=>rfl
 |cons b l c=>
  obtain⟨a,k⟩:=b;rw[iO];by_cases b:id=a
  .rw[b,dY,dY];rfl
  .rw[cZ b,cZ b];exact c
theorem pA{g:jg->jW}{id:jg}:(l.map λ(n,k)=>if(k==wl&&g n)=true then(n,wt)else(n,k)).lookup id=(l.lookup id).map λk=>if(k==wl&&g id)=true then wt else k:=by
 rw[<-lookup_map2 (g:=λn k=>if(k==wl&&g n)=true then wt else k)];congr 1;apply Fl;intro b _;obtain⟨a,k⟩:=b;dsimp only;split<;>rfl
noncomputable def It.n7 (I:It)(md:e5->jW):e5->Bool:=λm=>md m&&!(match I with| .keys k=>m==k|_=>false)
theorem It.tQ{lk:e0 e5}(h:∀ m,lk.contains m=false->md m=true) m (a:(I.lk lk).contains m=false):I.n7 md m=true:=by
 cases I with
 |keys k=>
  have b:(m==k||lk.contains m)=false:=by rw[<-List.contains_cons];exact a
  exact j4.mpr ⟨h m (hP.mp b).2,by show(!(m==k))=true;rw[(hP.mp b).1];rfl⟩
 |_=>exact j4.mpr ⟨h m a,rfl⟩
theorem It.yG m (h:I.n7 md m=true):md m=true:=(j4.mp h).1
theorem It.yH m (h:I=.keys m):I.n7 md m=false:=by subst h;show(md m&&!(m==m))=false;rw[ij];exact ve _
set_option tactic.hygienic true in
theorem wh (S:gU p prog w aa nm n T gl)(R:UU nm n C c K d){sc:UE}(b:∀ j∈sc,j.1<n.N){a:e0 (jg×hD)}{L:hD}{cm:e0 (e5×e5)}{lk:e0 e5}{md:e5->jW}(g:∀ m,lk.contains m=false->md m=true)
  (f:cH (inner C (bp nm sc) a L cm md)):UU nm n (inner C (bp nm sc) a L cm md) ⟨cm,lk,c.hn⟩ sc d where
 ok:=f
 kind:=λx k hx hk=>by
  have e:(inner C (bp nm sc) a L cm md).env.kindOf (nm x)=((eN nm sc).lookup (nm x)).map λk=>if(k==wl&&(C.env.scope.kind==.function&&C.env.kindOf (nm x)==some .cell))=true then wt else k:=by
   have:=pA (g:=λn=>C.env.scope.kind==.function&&C.env.kindOf n==some .cell) (id:=nm x) (l:=eN nm sc);rw[<-this];show(relabel (bp nm sc) C.env).names.lookup (nm x)=_;unfold relabel;simp only[bp,Bool.and_assoc]
  rw[e,cS S hx b,hk];simp only[Dp];split
  .rename_i h
   simp only[hE,Lv]at h;exact .inr ⟨h.1,rfl⟩
  .exact .inl rfl
 cm:=rfl
 hn:=R.hn
 md:=g
 dep:=R.dep
 qK:=R.qK
theorem tR (S:gU p prog w aa nm n T gl)(R:UU nm n C c K d){elt tgt:X}{ifs:Xs}{l:e5}(hx:x<n.N)(hk:C.env.kindOf (nm x)=some .local)(m:∀ r∈sc,r.1<n.N)(o:(b.line==t.pos.line)=true)(hn:sc.all (λr=>!(r.1==x&&(r.2==.local||r.2==.cell)))=true):v4 [.Name (nm x) b] ((X.comp elt tgt z ifs sc).e nm t) l C.env=pure true:=by
 have v:C.env.blockKind=.function:=by unfold Mz;rw[R.ok.kind];rfl
 have s:((eN nm sc).any λ(a,k)=>a==nm x&&(k==.local||k==.cell))=false:=by
  rw[List.any_eq_false];intro r j
  (refine ah (h4.mp j) λu f g=>?_;subst g)
  have h:=hw.mp hn u f;by_cases e:u.1=x
  .subst e;simpa using h
  .have:(nm u.1==nm x)=false:=by
    simp only[jP];exact λq=>e (i0 S (m u f) hx q)
   simp[this]
 show(pure (C.env.blockKind==.function&&C.env.kindOf (nm x)==some .local&&b.line==t.pos.line&&!((eN nm sc).any λ(a,k)=>a==nm x&&(k==.local||k==.cell))):FD jW)=pure true;rw[v,hk,o,s];rfl
end
end
section
set_option backward.match.sparseCases false
section
variable{nm:e5->jg}{n:UP}{T:Tb}{gl:e0 (jg×V)}{c:VK}{K:UE}{v:V}{f:e5}
theorem yI (S:gU p prog w aa nm n T gl)(R:UU nm n C c K d)(a:x<n.N/\K.lookup x=some .local)(e:ρ.lookup x=some v):Ev p prog w aa C ρ (hF ((X.lo x).e nm t) C.env) σ v σ:=by
 rcases R.kind x _ a.1 a.2 with b|⟨b,_⟩
 .exact Ev.local R.ok (S.nms x a.1) b e (S.jE x a.1)
 .cases b
theorem r7 (S:gU p prog w aa nm n T gl)(R:UU nm n C c K d){m:e5}(hx:x<n.N)(hk:K.lookup x=some .cell\/K.lookup x=some .free)(e:c.cm.lookup x=some m)(b:σ[m]?=some (.cell (some v))):Ev p prog w aa C ρ (hF (.Name (nm x) pos) C.env) σ v σ:=by
 have f:C.cm.lookup x=some m:=by rw[R.cm];exact e
 rcases hk with hk|hk
 .rcases R.kind x _ hx hk with a|⟨a,_⟩
  .exact Ev.cell R.ok (S.nms x hx) a f b (S.jE x hx)
  .cases a
 .rcases R.kind x _ hx hk with a|⟨_,a⟩
  .exact Ev.free R.ok (S.nms x hx) a f b (S.jE x hx) (S.E0 x hx)
  .exact Ev.cell R.ok (S.nms x hx) a f b (S.jE x hx)
theorem pB{a:hD}{Q:fB->gc->Prop}(k:args.any (λc=>c.1)=false)(h:ht M A (GO (.ref a) true args []) (λx b=>(∃ e fd,b.heap.get? a=some e/\e.data=.func fd)/\ht M A (pT (.ref a) (first++x.pos) x.kw) Q E b) E s):ht M A (nI pos (.ref a) first args []) Q E s:=by
 unfold nI;refine e3 (hK (ke h (λx b h₁=>e3 (ko ?_)) λd d x=>x))
 (refine az h₁ ?_;clear h₁;intro l h₁;rcases l with⟨e,fd,n,g⟩)
 rw[show(args.any (λc=>c.1)||Kx [] (λc:gN jg×FD fB=>c.1.isNone))=false from by rw[k];rfl];refine e3 (m:=GS (.ref a)) ?_;unfold GS;refine e3 (Gb n ?_);rw[g];refine gq ?_;dsimp only;have f:∀ {t:FD fB},ht M A t Q E b->ht M A (t>>=λr=>zu [r] point>>=λd=>pure r) Q E b:=
  λm=>e3 (ke m (λr o j=>e3 (hK (D0 (gq j)))) λd d x=>x)
 split
 .exact f h₁
 .exact f (by unfold callMarked;exact Calls.wpAny_keep h₁)
theorem Ev.qL{pos}{vs:e0 V}{k:e5}(B:Base p prog w aa gl)(aA:cH C)(o:C.A.depth+d<=600)(ak:C.A.units+10*d<=6000)(hf:Ev p prog w aa C ρ (hF func C.env) σ (.h k) U)(au:jY p prog w aa C ρ (pp (la pos (hu args C.env))) U vs af)(u:af[k]?=some (.ic kk cs))(aD:Dm p prog w aa C.md C.hn d k vs af v ao)(hs:(hu args C.env).any (λx=>x.1)=false)(ae:hF (.Call func args [] pos) C.env=(do nI pos (<-hF func C.env) [] (la pos (hu args C.env)) [])):
  Ev p prog w aa C ρ (hF (.Call func args [] pos) C.env) σ v ao:=λι s m Q E g z=>by
 rw[ae];refine e3 (hf ι s m _ _ g λaj h₁ aO aP r₁ f ab=>?_);cases ab with
 |@h _ a j=>
  have aL:=r₁;obtain⟨b,aN⟩:∃ b,h₁.get? a=some b:=(r₁.lt (fz j)).1;refine pB (aI hs pos) (bq (aI hs pos) (au aj _ m _ _ (g.step r₁ f) λaq h₂ aQ am r₂ e ai=>?_));have l:=bC e.pre j;refine xC (r₂.obj k a _ l u) λb fd as c aw aK y aJ=>?_;refine⟨⟨b,fd,aw,y⟩,sX ?_⟩;refine aD C.A C.fr aq _ _ am _ aA.frames (g.hand.pre (f.trans e).pre) o ak l r₂ ai λax ay ar q ap n t=>?_;exact z ax ay ar q ap ((f.trans e).trans n) t
theorem Bo{x:X}(h:(match x with| .lo ..| .ce ..| .fr ..| .gl ..=>true|_=>false)=true) o r:y6 (x.e nm t) o r=pure ():=by
 cases x<;>first|rfl|exact UC h
theorem u7{l:e0 k8}(a:xs.len<29):((la pos (hu (xs.es nm l) env)).all (λx=>!x.1)&&(KA pos (D1 [] env)).all (λx=>x.1.isSome)
   &&decide ((xs.es nm l).length+([]:e0 Ny).length+(if([]:e0 Ny).isEmpty then 0 else 1)<30))=true:=by
 rw[hE,hE];refine⟨⟨?_,rfl⟩,?_⟩
 .unfold la
  rw[List.all_map];exact pQ
 .rw[iZ];simp;exact tl a rfl
end
end
section
set_option backward.match.sparseCases false
section
variable{nm:e5->jg}{n:UP}{T:Tb}{gl:e0 (jg×V)}{c:VK}{K:UE}{v:V}{f:e5}
theorem V6.bool:V6 p prog w aa C (.bool b) σ b:=λι s wa Q E r c a=>by
 cases c;exact ly (a s.toks)
set_option tactic.hygienic true in
theorem du{l:aZ}{x y:e5}{v:V}:(aB l x v).lookup y=((x,v)::l).lookup y:=by
 induction l with
 |nil=>rfl
 |cons b l d=>
  obtain⟨a,e⟩:=b;unfold aB;split
  .rename_i h
   subst h;rw[hL,hL,hL];cases y==a<;>rfl
  .rename_i h
   rw[hL,d,hL,hL,hL];by_cases b:y=x
   .subst b
    have:(y==a)=false:=by simpa using Ne.symm h
    rw[this]
    try simp
   .have c:(y==x)=false:=by simpa using b
    rw[c]
theorem Good.lQ{ι m h}(g:Good p prog w aa C ρ ι σ m h)(c:∀ y v,am.lookup y=some v->ρ.lookup y=some v):Good p prog w aa C am ι σ m h:=⟨g.rel,g.ns,g.dE,g.gH,λx id v b a=>g.vars x id v b (c x v a),g.cells,g.hand,g.U0⟩
theorem Ue.lQ{t:fB->FD GK}{ai au:aZ}(h:Ue p prog w aa C t v ρ σ ai ae)(e:∀ y v,au.lookup y=some v->ai.lookup y=some v):Ue p prog w aa C t v ρ σ au ae:=
 λι s m wv Q E g b c=>h ι s m wv Q E g b λaw h' a f d st=>c aw h' a f (d.lQ e) st
end
end
variable{l:e0 k8}{k k':e5}{ep px py:JC}
section
set_option backward.match.sparseCases false
section
variable{nm:e5->jg}{n:UP}{T:Tb}{c:VK}{K:UE}{env:zs}
theorem iz{α:Type}{c:jW}{x y:α}(h:c=false):(if c=true then x else y)=y:=hb (by rw[h];exact kA)
theorem yJ{α:Type}{c:jW}{x y:α}(h:c=true):(if c=true then x else y)=x:=hz h
theorem E2{α d:Type}{f:α->gN d}{a:α}(hf:f a=none){l:e0 α}(h:a∈l):(l.filterMap f).length<l.length:=by
 induction l with
 |nil=>exact nomatch h
 |cons x l c=>
  rcases hr.mp h with b|h
  .rw[zW (b▸hf)];exact vl (List.length_filterMap_le f l)
  .cases b:f x with
   |none=>rw[zW b];exact m1 (c h)
   |some y=>rw[lO b];exact I9 (c h)
theorem tS{ts es:Xs}{m:e0 k8}(h:(es.es nm l).all (F5 8)=true):nB [.Tuple (ts.es nm m) k tp] (.Tuple (es.es nm l) k' ep) env=pure none:=by
 unfold nB;dsimp only;split
 .rfl
 .split
  .rfl
  .split
   .rfl
   .first|rfl|exact yJ h
theorem tT (a:t∈ts)(b:∀ id p,t=.Name id p->(env.kindOf id==some .local)=false):nB [.Tuple ts k tp] (.Tuple vs k' ep) env=pure none:=by
 unfold nB;dsimp only;split
 .rfl
 .split
  .rfl
  .refine yJ (xi.mpr (.inl (Lw.mpr (hc (E2 ?_ a)))))
   cases t with
   |Name id p=>exact hb (by rw[b id p rfl];exact kA)
   |_=>rfl
theorem qM (h:∀ (x:X) t,f (x.e nm t)=false):∀ {xs:Xs} {l:e0 k8},(xs.es nm l).any f=false
 | .n,_=>rfl
 | .c x xs,l=>hP.mpr ⟨h x _,qM h⟩
theorem u9 (R:UU nm n C c K d):C.env.blockKind=.function:=by
 unfold Mz;rw[R.ok.kind];rfl
theorem fF (R:UU nm n C c K d)(b:x<n.N/\K.lookup x=some .local):C.env.kindOf (nm x)=some .local:=by
 rcases R.kind _ _ b.1 b.2 with a|⟨a,_⟩
 .exact a
 .cases a
variable{gl:e0 (jg×V)}
noncomputable def Wv (l:e0 k8):Prop:=l.all (F5 8)=false/\l.all (constantsAlone 8)=false
theorem kY{a:jg}{u:e5}(k:env.kindOf a=some .local)(h:u=v):(if(env.kindOf a==some .local&&u==v)=true then some a else none)=some a:=hz (by rw[k,h,ij,ij];rfl)
theorem qN (S:gU p prog w aa nm n T gl)(R:UU nm n C c K d){y:e5}{es:Xs}(h1:x<n.N/\K.lookup x=some .local)(h2:y<n.N/\K.lookup y=some .local)(s:es.len=2)(o:(py.line==px.line)=true)(m:x≠y)(f:Wv (es.es nm l)):nB [.Tuple [.Name (nm x) px,.Name (nm y) py] k tp] (.Tuple (es.es nm l) k' ep) C.env=pure (some [nm x,nm y]):=by
 have q:(nm y==nm x)=false:=jP.mpr λj=>m (i0 S h1.1 h2.1 j.symm);have h:([nm x,nm y]:e0 jg).eraseDups.length=2:=by
  rw[p3,rb (by rw[q];rfl),t1,p3];rfl
 have g:∀ {e:k8->gN jg},e (.Name (nm x) px)=some (nm x)->e (.Name (nm y) py)=some (nm y)->[Nm (nm x) px,.Name (nm y) py].filterMap e=[nm x,nm y]:=λa b=>by
  rw[lO a,lO b,zh]
 have a:=kY (u:=px.line) (fF R h1) rfl;have b:=kY (fF R h2) (eq_of_beq o);refine(iz ?_).trans ((iz (qM λx t=>by cases x<;>rfl)).trans ((iz ?_).trans ((iz f.1).trans ((iz f.2).trans ?_))))
 .rw[iZ,s,u9 R];rfl
 .rw[g a b,h];rfl
 .rw[g a b]
theorem qO (S:gU p prog w aa nm n T gl)(R:UU nm n C c K d){y:e5}{es:Xs}(h1:x<n.N/\K.lookup x=some .local)(h2:y<n.N/\K.lookup y=some .local)(h:z<n.N/\K.lookup z=some .local)(ai:es.len=3)(ab:(py.line==px.line)=true)(q:(o.line==px.line)=true)(ae:x≠y)(v:x≠z)(aj:y≠z)(j:Wv (es.es nm l)):nB [.Tuple [.Name (nm x) px,.Name (nm y) py,.Name (nm z) o] k tp] (.Tuple (es.es nm l) k' ep) C.env=pure (some [nm x,nm y,nm z]):=by
 have n1:(nm y==nm x)=false:=jP.mpr λa=>ae (i0 S h1.1 h2.1 a.symm);have s:(nm z==nm x)=false:=jP.mpr λa=>v (i0 S h1.1 h.1 a.symm);have af:(nm z==nm y)=false:=jP.mpr λa=>aj (i0 S h2.1 h.1 a.symm);have u:([nm x,nm y,nm z]:e0 jg).eraseDups.length=3:=by
  rw[p3,rb (by rw[n1];rfl),rb (by rw[s];rfl),t1,p3,rb (by rw[af];rfl),t1,p3];rfl
 have m:∀ {f:k8->gN jg},f (.Name (nm x) px)=some (nm x)->f (.Name (nm y) py)=some (nm y)->f (.Name (nm z) o)=some (nm z)->[Nm (nm x) px,.Name (nm y) py,.Name (nm z) o].filterMap f=[nm x,nm y,nm z]:=λb e g=>by
  rw[lO b,lO e,lO g,zh]
 have b:=kY (u:=px.line) (fF R h1) rfl;have e:=kY (fF R h2) (eq_of_beq ab);have g:=kY (fF R h) (eq_of_beq q);refine(iz ?_).trans ((iz (qM λx t=>by cases x<;>rfl)).trans ((iz ?_).trans ((iz j.1).trans ((iz j.2).trans ?_))))
 .rw[iZ,ai,u9 R];rfl
 .rw[m b e g,u];rfl
 .rw[m b e g]
end
end
section
set_option backward.match.sparseCases false
noncomputable def Ss.nonempty:Ss->jW
 | .n=>false
 | .c ..=>true
mutual
noncomputable def S.wf (T:Tb)(n:UP)(K:UE):S->jW
 | .ex e=>e.wf T n K&&e.il
 | .re e=>e.wf T n K
 | .r0=>true
 | .asg t e=>t.wf T n K&&e.wf T n K&&(match t with
  | .lo x=>e.il||(match e with
   | .comp _ _ _ _ sc=>sc.all (λu=>!(u.1==x&&(u.2==.local||u.2==.cell)))
   |_=>false)
  | .ce ..=>e.il
  | .dr a _=>a.wf T n K
  | .sub a i=>a.wf T n K&&i.wf T n K
  | .tu ..=>true
  |_=>false)
 | .yl ts es=>ts.wf T n K&&es.wf T n K&&(match ts with
  | .c (.lo x) (.c (.lo y) .n)=>decide (es.len=2)&&decide (x≠y)
  | .c (.lo x) (.c (.lo y) (.c (.lo z) .n))=>decide (es.len=3)&&decide (x≠y)&&decide (x≠z)&&decide (y≠z)
  |_=>false)
 | .aug x _ e=>decide (x<n.N)&&K.lookup x==some .local&&e.wf T n K
 | .iff t a b=>t.wf T n K&&a.wf T n K&&b.wf T n K
 | .iy t b=>t.wf T n K&&b.wf T n K
 | .fo t c b=>t.wf T n K&&c.wf T n K&&b.wf T n K
 | .ra x xs=>x==n.mQ&&K.lookup x==some .globalImplicit&&xs.wf T n K
 | .tr b x y h=>b.wf T n K&&x==n.mQ&&K.lookup x==some .globalImplicit&&decide (y<n.N)&&K.lookup y==some .local&&h.wf T n K&&h.nonempty
 | .co=>true
 | .de ..=>false
noncomputable def Ss.wf (T:Tb)(n:UP)(K:UE):Ss->jW
 | .n=>true
 | .c s a=>s.wf T n K&&a.wf T n K
end
section
variable (p:P)(prog:ih)(w:jo)(aa:kb)(nm:e5->jg)(n:UP)(T:Tb)(O:EZ)(d:e5)
noncomputable def We (C:Cfg):Prop:=∃ fr,C.fr=C.env::fr/\C.env.frame=some C.env.locals
noncomputable def r8:Prop:=∀ (C:Cfg) (K:UE) ρ σ xs l np cp pos vs U a b,cH C->C.hn=none->C.env.kindOf (nm n.mQ)=some .globalImplicit->(hu (Xs.es nm xs l) C.env).any (λq=>q.1)=false->
 jY p prog w aa C ρ (pp (la cp (hu (xs.es nm l) C.env))) σ vs U->((vs=[a]/\b=.str [])\/vs=[a,b])->
 gg p prog w aa C (s0 (.Raise (some (.Call (.Name (nm n.mQ) np) (xs.es nm l) [] cp)) none pos) C.env) ρ σ a b ρ U
noncomputable def Jy:Prop:=
 ∀ (C:Cfg) ρ σ fl ai U b np y h hp pos,cH C->We C->TZ p prog w aa C (execs b C.env) ρ σ fl ai U->
  TZ p prog w aa C (s0 (.Try b [.ExceptHandler (some (.Name (nm n.mQ) np)) (some (nm y)) h hp] [] [] pos) C.env) ρ σ fl ai U
noncomputable def Jz:Prop:=
 ∀ (C:Cfg) ρ σ cc t ai U au af b np y h hp pos,cH C->We C->h≠[]->C.hn=none->C.A.depth+d<=600->C.A.units+10*d<=6000->C.env.kindOf (nm n.mQ)=some .globalImplicit->y<n.N->C.env.kindOf (nm y)=some .local->gg p prog w aa C (execs b C.env) ρ σ cc t ai U->
  (∀ a:Cfg,cH a->a.env=C.env->a.fr=C.fr->a.cm=C.cm->a.md=C.md->a.hn=some (U.length+1)->a.A.depth+d<=600->a.A.units+10*d<=6000->
   TZ p prog w aa a (execs h a.env) (aB ai y (.h (U.length+1))) (U++[.ns [(T.cd,cc),(T.td,t)],.gK U.length]) .next au af)->
  TZ p prog w aa C (s0 (.Try b [.ExceptHandler (some (.Name (nm n.mQ) np)) (some (nm y)) h hp] [] [] pos) C.env) ρ σ .next [] af
structure yK:Prop where
 pass:Jy p prog w aa nm n
 catch_:Jz p prog w aa nm n T d
end
section
variable{nm:e5->jg}{n:UP}{T:Tb}{gl:e0 (jg×V)}{c:VK}{K:UE}{v:V}{f:e5}
theorem TZ.lQ{t:FD Km}{ai au:aZ}{fl:Uk}(h:TZ p prog w aa C t ρ σ fl ai ae)(d:∀ y v,au.lookup y=some v->ai.lookup y=some v):TZ p prog w aa C t ρ σ fl au ae:=
 λι s m Q E f b=>h ι s m Q E f λaw h' a e g c st=>b aw h' a e g (c.lQ d) st
theorem UU.lock (R:UU nm n C c K d)(I:It):UU nm n {C with md:=I.n7 C.md} ⟨c.cm,I.lk c.lk,c.hn⟩ K d:=
 ⟨⟨R.ok.kind,R.ok.glob,R.ok.blt,R.ok.frames,R.ok.handled,R.ok.depth,R.ok.units⟩,R.kind,R.cm,R.hn,It.tQ R.md,R.dep,R.qK⟩
end
end
section
set_option backward.match.sparseCases false
section
variable{nm:e5->jg}{n:UP}{T:Tb}{gl:e0 (jg×V)}{c:VK}{K:UE}{v:V}{f:e5}
theorem c9 (b:gU p prog w aa nm n T gl)(R:UU nm n C c K d)(a:x<n.N/\K.lookup x=some .local):Ue p prog w aa C (λwv=>yy C.env (nm x) wv) v ρ σ ((x,v)::ρ) σ:=by
 have k:=fF R a;exact Ue.local b.B.nodup R.ok (b.nms x a.1) k
theorem pU (R:UU nm n C c K d):wQ C.env=false:=by
 unfold wQ;rw[R.ok.kind];rfl
end
end
variable{x C:hD}
section
set_option backward.match.sparseCases false
section
variable{R:tc->gc->Prop}{s:gc}{K:AO}
theorem yL{vs:uf fB}(X:K.In s.heap)(hx:s.heap.get? x=some ⟨.ref C,none,.fields vs,#[]⟩)(m:EQ K C=true\/m7 K C)(n:G2 K C name=some none)(q:(clsIn K C).any (λo=>o.hasDict)=true)(h:∀ h' t,h'.get? x=some ⟨.ref C,some s.heap.objs.size,.fields vs,#[]⟩->h'.get? s.heap.objs.size=some (wS [⟨i3 w.params name,.str name s.toks,v⟩] t)->(∀ b a,b≠x->s.heap.get? b=some a->h'.get? b=some a)->
   R (.ok (.ret .none)) {s with heap:=h',toks:=s.toks+1}):
  kC (hh prog w) A (.call (.builtin "object.__setattr__") ⟨[.ref x,.str name ab,v],[]⟩) R s:=by
 have I:InstAt s.heap x ⟨.ref C,none,.fields vs,#[]⟩ C none:=⟨hx,rfl,rfl,trivial⟩;refine nL X I m n λb=>?_;refine ah (any_some q) λcd y z=>?_;refine e3 (gq (e3 (e3 (y7 hx (e3 ((JF X y).here ?_))))));rw[z];dsimp only;rw[hb J,hb (show ¬((!true||!typeHasDict (h0 C))=true)from by intro h;exact UC h)];have j:x≠s.heap.objs.size:=hc (hy hx);have k:(s.heap.push {cls:=.type "dict",data:=.dict #[]}).get? x=some ⟨.ref C,none,.fields vs,#[]⟩:=fw _ hx;refine e3 (wpAny_alloc (e3 (wpAny_update k ?_)));have c:((s.heap.push {cls:=.type "dict",data:=.dict #[]}).update x λa=>{cls:=a.cls,dict:=some s.heap.objs.size,data:=a.data,slots:=a.slots}).get? s.heap.objs.size=some {cls:=.type "dict",data:=.dict #[]}:=by
  rw[ii _ _ j];exact gR _ rfl
 have p:((s.heap.push {cls:=.type "dict",data:=.dict #[]}).update x λa=>{cls:=a.cls,dict:=some s.heap.objs.size,data:=a.data,slots:=a.slots}).get? x=some ⟨.ref C,some s.heap.objs.size,.fields vs,#[]⟩:=jp _ k rfl;have l:∀ b a,b≠x->s.heap.get? b=some a->((s.heap.push {cls:=.type "dict",data:=.dict #[]}).update x λa=>{cls:=a.cls,dict:=some s.heap.objs.size,data:=a.data,slots:=a.slots}).get? b=some a:=λb a e d=>by
  rw[ii _ _ (Ne.symm e)];exact fw _ d
 generalize aa:((s.heap.push {cls:=.type "dict",data:=.dict #[]}).update x λa=>{cls:=a.cls,dict:=some s.heap.objs.size,data:=a.data,slots:=a.slots})=H at*
 refine gq (a:=some s.heap.objs.size) ?_;have c:H.get? s.heap.objs.size=some (wS [] 0):=c;have g:oh name (i3 w.params name) (.str name s.toks) v (wS [] 0)=wS [⟨i3 w.params name,.str name s.toks,v⟩] (putN name [] 0):=s2 ..;have f:=jp (oh name (i3 w.params name) (.str name s.toks) v) c (by rw[g];rfl);rw[g]at f;refine e3 (gq (e3 ?_));unfold nsSet;refine e3 (e3 (IY (gq (e3 (BS (e3 (y7 c ?_)))))));dsimp only[wS];rw[BZ];rw[hb (by simp)];refine I0 c ?_;refine e3 (I1 f (I6 (by simp[Qh])) ?_);refine gq (h _ _ ?_ f λb a e d=>?_)
 .rw[ii _ _ (Ne.symm j)];exact p
 .have u:=hy d
  rw[ii _ _ (hj u)];exact l b a e d
end
end
variable{so D:hD}{l₀ l:e0 fB}{g:uf GenState}{d:Drawn}{t:e5}
section
namespace FX
theorem ty:QX (.builtin "Exception.__init__")=pure (.type "wrapper_descriptor"):=by show builtinType _=_;rw[builtinType_eq_fast];kernel_rfl
theorem slot_get:Slot "wrapper_descriptor" "__get__" "wrapper_descriptor.__get__":=.of (owner:="wrapper_descriptor") (n:="__get__") (by rw[Du,vH];kernel_rfl) (by decide+kernel) (by decide+kernel) (by decide+kernel)
 (by first|exact .inl (by decide+kernel)|exact .inr (by decide+kernel)) (by rw[isSubtype_type];kernel_rfl)
theorem entry_get:P9 table "wrapper_descriptor.__get__"=some Builtin.«wrapper_descriptor.__get__»:=AK (by kernel_rfl)
theorem wk a b c:argsOk "wrapper_descriptor.__get__" ⟨[a,b,c],[]⟩:=by unfold argsOk;kernel_rfl
theorem owner:".".intercalate ("Exception.__init__".cutAt '.').dropLast="Exception":=by decide+kernel
end FX
section
variable{E:fB->gc->Prop}{os:kv}
theorem E4{K:AO}{Q:Fin->gc->Prop}(a:h.get? so=some {cls:=.type "super",dict:=none,data:=.fields #[.ref D,.ref x,.ref C],slots:=#[]})(q:vz (hh prog w) h (Jt (.ref C)) none)(k:vz (hh prog w) h (RY (.ref C)) l₀)(u:(l₀.dropWhile (·!=.ref D)).drop 1=l)(X:K.In h)(hf:R7 K (al "__init__") l=some (some (.builtin "Exception.__init__")))(o:x≠C)(hx:h.get? x=some ox)(p:ox.cls=.ref C)(j:vz (hh prog w) h (Nn (.ref C) (.type "Exception")) true)(e:Q (.done (.ret (.ref h.objs.size))) ⟨h.push {cls:=.type "method-wrapper",data:=.fields #[.builtin "Exception.__init__",.ref x]},g,d,t,os⟩):
  ht (hh prog w) A (Builtin.«super.__getattribute__» ⟨[.ref so,.str "__init__" v],[]⟩) Q E ⟨h,g,d,t,os⟩:=by
 have y:=FX.slot_get.lookup;have m:(h0 x==h0 C)=false:=by simp[o]
 have c:(⟨h,g,d,t,os⟩:gc).TypeIs (.builtin "Exception.__init__") "wrapper_descriptor":=FX.ty;have n:(al "__init__"==("__class__":jg))=false:=by decide
 have b:({cls:=.type "super",dict:=none,data:=.fields #[.ref D,.ref x,.ref C],slots:=#[]}:Gx).data=.fields #[.ref D,.ref x,.ref C]:=rfl;have s:(#[.ref D,.ref x,.ref C]:uf fB)[0]?=some (.ref D):=rfl;have f1:(#[.ref D,.ref x,.ref C]:uf fB)[1]?=some (.ref x):=rfl;have f2:(#[.ref D,.ref x,.ref C]:uf fB)[2]?=some (.ref C):=rfl;unfold Builtin.«super.__getattribute__»
 repeat(first
  |(with_reducible refine nG a b s ?_)|(with_reducible refine nG a b f1 ?_)|(with_reducible refine nG a b f2 ?_)
  |(with_reducible refine ks_wpAny_notOpaque q ?_)
  |(with_reducible refine Looks.at k ?_;rw[u])
  |(refine ks_forIn_along X (λf f=>rfl) rfl ?_ hf)
  |(with_reducible refine Cg c ?_)
  |(with_reducible refine vN FX.slot_get c FX.entry_get ?_ (FX.wk _ _ _))
  |(with_reducible refine⟨_,rfl,?_⟩)
  |(simp only[n,m,Bool.or_false,kZ,wP])
  |wp_step
  |dsimp only)
 rw[FX.owner,p];refine Looks.at j ?_
 repeat(first|(with_reducible refine pJ ?_ (by size_fits))|(with_reducible refine⟨_,rfl,?_⟩)|wp_step|dsimp only)
 all_goals exact e
theorem Bp{K:AO}{Q:fB×e0 fB->gc->Prop}(j:h.get? so=some {cls:=.type "super",dict:=none,data:=.fields #[.ref D,.ref x,.ref C],slots:=#[]})(o:vz (hh prog w) h (Jt (.ref C)) none)(aa:vz (hh prog w) h (RY (.ref C)) l₀)(u:(l₀.dropWhile (·!=.ref D)).drop 1=l)(X:K.In h)(hf:R7 K (al "__init__") l=some (some (.builtin "Exception.__init__")))(n:x≠C)(hx:h.get? x=some ox)(ab:ox.cls=.ref C)(q:vz (hh prog w) h (Nn (.ref C) (.type "Exception")) true)(k:Q (.ref h.objs.size,[]) ⟨h.push {cls:=.type "method-wrapper",data:=.fields #[.builtin "Exception.__init__",.ref x]},g,d,t+1,os⟩):
  ht (hh prog w) A (getMethod (.ref so) "__init__" ak) Q E ⟨h,g,d,t,os⟩:=by
 have c:=tW.lookup;have z:=L0;have b:∀ s,(⟨h,g,d,s,os⟩:gc).TypeIs (.ref so) "super":=λa=>⟨_,j,rfl⟩;unfold getMethod;refine e3 (Dj (b _) c ?_);show ht _ _ (if(RP "super.__getattribute__"!="object.__getattribute__")=true then _ else _) _ _ _;rw[hz z];unfold GU M8;refine e3 (e3 (BS (hK (e3 (Cg (b _) (e3 (wJ c ?_)))))));show ht _ _ (Do (.ref so) (.str "__init__" t) (.type "super") (.builtin "super.__getattribute__") true false) _ _ _;unfold Do QY IX KP;refine e3 (wJ (show(if M9 (.type "super")then t4 (.type "super") "__getattr__" else pure none)=pure none from rfl) ?_);refine e3 (FI (hK ?_));show ht _ _ (Qv (.builtin "super.__getattribute__") (.ref so)>>=_) _ _ _;refine e3 (wJ (tW.bind _) ?_);refine ke (Q:=λv f=>v=.ref h.objs.size/\f=⟨h.push {cls:=.type "method-wrapper",data:=.fields #[.builtin "Exception.__init__",.ref x]},g,d,t+1,os⟩) (E:=λa a=>P2)
  (vN tW (b _) Mh (E4 j o aa u X hf n hx ab q ⟨_,rfl,rfl,rfl⟩) (No _ _)) (λv f e=>?_) λa a p=>p.elim
 (refine az e ?_;clear e;intro m y;subst m;subst y)
 exact gq (gq k)
end
end
variable{oc:Gx}{Q:fB->gc->Prop}{dd:gN hD}{vs:uf fB}{c0 VS:hD}
section
section
variable{E:fB->gc->Prop}{os:kv}
noncomputable abbrev FE:=Mj
theorem wm{rest:e0 fB}{Q:GK->gc->Prop}(hx:h.get? x=some ox)(k:ox.cls=.ref C)(f:h.get? C=some oc)(j:oc.data=.cls cd)(e:Q () ⟨h,g,d,t,os⟩):
  ht M A (EJ "Exception.__init__" ⟨.ref x::rest,[]⟩) Q E ⟨h,g,d,t,os⟩:=by
 have l:=FE.noStar;unfold EJ;rw[FE.initRow,FE.initKind]
 repeat(first|(with_reducible refine vm hx ?_;rw[k])|with_reducible refine vm f ?_|wp_step)
 rw[j]
 repeat wp_step
 refine Mp ?_;rw[show ∀ (a b:yA) (c:e5),Bind.check ⟨.positional,"*","Exception",.self,[⟨"args",.varPos,false⟩]⟩ a b c (List.map (λx=>x.fst) ({pos:=h0 x::rest}:Args).kw)=pure ()from
  λa b c=>check_star_args _ _ _ _ _ _]
 exact gq e
theorem tU (hx:h.get? x=some ⟨cls,dd,.fields vs,#[]⟩)(f:vs[0]?=some (.ref c0))(j:∀ h',h'.get? x=some ⟨cls,dd,.fields (vs.setIfInBounds 0 (.ref h.objs.size)),#[]⟩->(∀ a b,a≠x->h.get? a=some b->h'.get? a=some b)->R (.ok (.ret .none)) ⟨h',g,d,t,os⟩):
  kC (hh prog w) A (.builtin "Exception.__init__" ⟨[.ref x,c],[]⟩) R ⟨h,g,d,t,os⟩:=by
 refine w1 FE.initEntry ?_;unfold Builtin.«BaseException.__init__» JG newTuple;dsimp only;rw[hb (by intro h;exact UC h)];refine e3 (pJ ?_ (by size_fits));have e:(h.push {cls:=.type "tuple",data:=.seq [c].toArray}).get? x=some ⟨cls,dd,.fields vs,#[]⟩:=fw _ hx;have k:0<vs.size:=(k4.mp f).1;refine e3 (e3 (nG e rfl f (e3 (sR e rfl k (wpAny_letGo ?_)))));refine gq (j _ ?_ λa b m l=>?_)
 .exact jp _ e rfl
 .rw[ii _ _ (Ne.symm m)];exact fw _ l
theorem yM (f:h.get? VS=some {cls:=.type "method-wrapper",data:=.fields #[.builtin "Exception.__init__",.ref x]})(hx:h.get? x=some ⟨.ref C,dd,.fields vs,#[]⟩)(l:vs[0]?=some (.ref c0))(j:h.get? C=some oc)(k:oc.data=.cls cd)(e:∀ h',h'.get? x=some ⟨.ref C,dd,.fields (vs.setIfInBounds 0 (.ref h.objs.size)),#[]⟩->(∀ a b,a≠x->h.get? a=some b->h'.get? a=some b)->Q .none ⟨h',g,d,t,os⟩):
  ht (hh prog w) A (pT (.ref VS) [c]) Q E ⟨h,g,d,t,os⟩:=by
 refine sX (tY ?_);show ht _ _ (R8 (.ref VS) _) _ _ _;unfold R8;refine e3 (Gb f ?_);dsimp only;rw[hz J];show ht _ _ (do
  if(F8 "method-wrapper"!=F8 "method")=true then do
   EJ "Exception.__init__" ⟨[.ref x,c],[]⟩
   SA (.builtin "Exception.__init__" ⟨[.ref x,c],[]⟩)
  else SA (.call (.builtin "Exception.__init__") ⟨[.ref x,c],[]⟩)) _ _ _
 rw[hz J];refine e3 (wm hx rfl j k ?_);exact gq ⟨zj _ (by decide+kernel),tU hx l e⟩
theorem qP{env:zs}(j:args.any (λb=>b.1)=false)(h:ht M A (GO (.ref VS) true args []) (λa d=>(∃ e x,d.heap.get? VS=some {cls:=.type "method-wrapper",data:=.fields #[e,x]})/\ht M A (pT (.ref VS) a.pos a.kw) Q E d) E s):
  ht M A (nI pos (.ref VS) [] args []) Q E s:=by
 unfold nI;refine e3 (hK (ke h (λa d h₁=>e3 (ko ?_)) λc c x=>x))
 (refine az h₁ ?_;clear h₁;intro k h₁;rcases k with⟨e,x,f⟩)
 rw[show(args.any (λb=>b.1)||Kx [] (λb:gN jg×FD fB=>b.1.isNone))=false from by rw[j];rfl];refine e3 (m:=GS (.ref VS)) ?_;unfold GS;refine e3 (Gb f ?_);dsimp only;rw[hz J];refine gq ?_;rw[hz J];exact e3 (ke h₁ (λr l g=>e3 (hK (D0 (gq g)))) λc c x=>x)
end
end
variable{fI:hD}{mg mb:jg->gN fB}
section
noncomputable def NA (K:AO)(C:hD):Prop:=
 ∃ cd od a,K.lookup C=some ⟨.type "type",od,.cls cd,a⟩/\cd.mro=[.ref C,.type "Exception",.type "BaseException",.type "object"]
noncomputable def NB (fd:qx):Prop:=
 ∃ f e a n b m a0 j d k g c h l,(a.endLine==b.line)=true/\fd.body=.stmts [.Expr (.Call (.Attribute (.Call (.Name (al "super") f) [] [] e) (al "__init__") a) [.Name (al "code") n] [] b) m,
  .Assign [.Attribute (.Name (al "self") a0) (al "code") j] (.Name (al "code") d) k,.Assign [.Attribute (.Name (al "self") g) (al "told") c] (.Name (al "told") h) l]
noncomputable def NC (K:AO)(C:hD)(fd:qx):Prop:=
 ∃ a c d b,fd.closure=[(al "__class__",a)]/\K.lookup a=some ⟨c,d,.cell (some (.ref C)),b⟩
noncomputable def ND (prog:ih)(K:AO)(fd:qx):Prop:=
 ∃ b g d vs f a c e,fd.code=.ref b/\K.lookup b=some ⟨g,d,.fields vs,f⟩/\vs[2]?=some (.str a c)/\((prog.main.file:jg)==a)=true/\vs[1]?=some (.str fd.qualname e)
noncomputable def NE (fd:qx):Prop:=
 ∃ a,(fd.params.posonlyargs++fd.params.args).head?=some a/\a.arg=al "self"
structure Bq (prog:ih)(K:AO)(C fI:hD)(fd:qx):Prop where
 cls:NA K C
 isExc:RX K C (.type "Exception")=some true
 own:RX K C (.ref C)=some true
 fn:∃ od osl,K.lookup fI=some ⟨.type "function",od,.func fd,osl⟩
 Dq:nsIn K cStatics "thirdparty.any"=some none
 along:R7 K (al "__init__") [.type "Exception",.type "BaseException",.type "object"]=some (some (.builtin "Exception.__init__"))
 body:NB fd
 ic:NC K C fd
 code:ND prog K fd
 par:NE fd
 glob:fd.globals=jk
 blt:fd.builtins=mN
 ks:fd.scope.names.lookup (al "super")=some .globalImplicit
 WT:fd.scope.names.lookup (al "__class__")=some .free
 k1:fd.scope.names.lookup (al "self")=some .local
 k2:fd.scope.names.lookup (al "code")=some .local
 k3:fd.scope.names.lookup (al "told")=some .local
 kind:fd.scope.kind=.function
 vc:∀ x∈fd.scope.names,x.2≠.cell
 co:fd.scope.isCoroutine=false
 gen:fd.scope.isGenerator=false
 top:(prog.main.scope.names.lookup (al "super")).isSome=false
 E5:∀ b o,K.lookup b=some o->¬ (o.cls=.ref C)
 a1:nK K C (al "code")
 a2:nK K C (al "told")
section
variable{K:AO}{s:gc}{R:tc->gc->Prop}
set_option tactic.hygienic true in
theorem Br{name k:jg}{hs:hA}{t:QN}{v:fB}{n:e5}:(QZ name (wS [⟨hs,.str k t,v⟩] n)).isSome=true:=by
 unfold QZ wS;dsimp only;split
 .rfl
 .split
  .rename_i h;simp[Sp]at h
  .rfl
theorem wn (a:Bq prog K C fI fd)(X:K.In s.heap)(a7:s.heap.NoLimit)(bJ:s.heap.Ns jk mg)(ar:s.heap.Ns mN mb)(b0:mg (al "super")=none)(cl:mb (al "super")=some (.type "super"))(bE:A.depth<recursionLimit){u:fB}(hx:s.heap.get? x=some ⟨.ref C,none,.fields vs,#[]⟩)(b4:vs[0]?=some (.ref c0))(bl:Hl s fd ⟨args,[]⟩ [(al "self",.ref x),(al "code",c),(al "told",u)])(bh:∀ h' l d t0 bF bQ bn,h'.get? x=some ⟨.ref C,some d,.fields (vs.setIfInBounds 0 (.ref t0)),#[]⟩->
   h'.get? d=some (wS (Si (al "told") (i3 w.params (al "told")) (.str (al "told") bQ) u [⟨i3 w.params (al "code"),.str (al "code") bF,c⟩]) bn)->
   s.heap.get? d=none->(∀ e b,e≠x->s.heap.get? e=some b->h'.get? e=some b)->R (.ok (.ret .none)) {s with heap:=h',toks:=l}):
  kC (hh prog w) A (.call (.ref fI) ⟨args,[]⟩) R s:=by
 refine cB a.cls λcd da cs bt bA=>?_;refine lB a.fn λcL dn aY=>?_;obtain⟨t,o,ab,ax,k,cD,a0,c5,ct,c8,dm,db,cx,df,be,a8⟩:=a.body;refine xB a.ic λbd cC cy di ch b8=>?_;refine Ej a.code λce cE dq kvs cX file ds c6 aK a4 a6 bm cp=>?_;refine ah a.par λca bo aA=>?_;have bb:∀ y∈[(al "self",h0 x),(al "code",c),(al "told",u)],fd.scope.names.lookup y.1=some .local:=by
  intro y ay;simp at ay;rcases ay with rfl|rfl|rfl
  .exact a.k1
  .exact a.k2
  .exact a.k3
 refine ks_codeAny_call_defAt (fd:=fd) bE (X _ _ aY) rfl a7 ⟨ce,_,_,_,aK,X _ _ a4,rfl,cp⟩ a8 bl a.vc bb (λh₁ aO v=>?_) a.co a.gen a.kind;have cF:s.heap.get? s.heap.objs.size=none:=aW _;have b7:x≠s.heap.objs.size:=hc (hy hx);generalize dd:s.heap.objs.size=L at*
 have p:K.In h₁:=λe b f=>v e b (X e b f);have q:=p _ _ bt;have ao:=v _ _ hx;have cR:vz (hh prog w) h₁ (RY (.ref C)) cd.mro:=((Lx (part:=none) q).andThen .now).andThen .now;have hint:wQ (m2 fd L fI)=false:=by
  unfold wQ;rw[show(m2 fd L fI).scope.kind=.function from a.kind];rfl
 have b2:h₁.Ns (m2 fd L fI).globals mg:=by show h₁.Ns fd.globals mg;rw[a.glob];exact bJ.keeps v
 have a9:h₁.Ns (m2 fd L fI).builtins mb:=by show h₁.Ns fd.builtins mb;rw[a.blt];exact ar.keeps v
 refine ks_wpAt_execs_cons (ks_wpAt_Expr_any ?_ hint rfl);have bT:hF (.Call (.Attribute (.Call (.Name (al "super") t) [] [] o) (al "__init__") ab) [.Name (al "code") ax] [] k) (m2 fd L fI)=(do
  let aj<-wj (.Call (.Name (al "super") t) [] [] o) (al "__init__") (m2 fd L fI) (hF (.Call (.Name (al "super") t) [] [] o) (m2 fd L fI))
  yc ab.atName
  Ly (.Call (.Name (al "super") t) [] [] o) (al "__init__") ab k (m2 fd L fI) aj 1 (la k (hu [.Name (al "code") ax] (m2 fd L fI))) (KA k (D1 [] (m2 fd L fI)))):=rfl
 rw[bT];refine PySem.wpAt_bind (ks_wpAt_mono (Q:=λaj aV=>ht (hh prog w) (A.deeper (m2 fd L fI)) (do
  yc ab.atName
  Ly (.Call (.Name (al "super") t) [] [] o) (al "__init__") ab k (m2 fd L fI) aj 1 (la k (hu [.Name (al "code") ax] (m2 fd L fI))) (KA k (D1 [] (m2 fd L fI)))) _ _ aV)
  (ks_wpAt_super_base (env:=m2 fd L fI) a.ks a.WT J rfl (p _ _ aY) rfl bo aK (p _ _ a4) rfl a6 bm a.top ?_) (λaj aV h₁=>Fo h₁) λam am n=>n)
 refine ks_loadName_global a.kind a.ks (tK (env:=m2 fd L fI) (mg:=mg) (mb:=mb) b2 b0 a9 cl ⟨rfl,?_⟩);refine Fc a.kind a.WT (c:=bd) (v:=.ref C) (by show fd.closure.lookup _=_;rw[ch];rfl) ⟨_,p _ _ b8,rfl⟩ ?_;refine kV a.kind (by show fd.scope.names.lookup ca.arg=_;rw[aA];exact a.k1) aO (v:=.ref x) (by rw[aA];rfl) ?_;refine ks_wpAny_isType_cls q rfl ⟨rfl,?_⟩;refine ks_wpAny_call_super q rfl ao rfl (λam=>by intro h;cases h) (D7 p a.own) λh₂ bU aa=>?_;have ap:K.In h₂:=λe b f=>aa e b (p e b f);have aX:=aa _ _ ao;have a2:=aa _ _ q;have cf:x≠C:=λf=>by rw[f]at ao;rw[ao]at q;cases q
 refine e3 (ko ?_);unfold Ly;have cc:MA true (.Call (.Name (al "super") t) [] [] o) (m2 fd L fI) ab k=pure k:=by unfold MA;simp[be]
 refine e3 (hK ?_);refine Bp bU (looks_opaque ap a.Dq) (l₀:=cd.mro) (((Lx (part:=none) a2).andThen .now).andThen .now) rfl ap (by rw[bA];simpa using a.along) cf aX rfl (D7 ap a.isExc) ?_;refine e3 (wJ cc ?_);have ak:∀ {h h':kb} {m:jg->gN fB},h.Ns L m->(∀ e b,e≠x->h.get? e=some b->h'.get? e=some b)->h'.Ns L m:=λbW hk=>by
  refine cB bW λb bi ep j r=>?_;exact jt b bi ep (hk L b (Ne.symm b7) j) r
 have b1:=ak aO λe b am j=>aa e b j;have z:∀ e b,h₂.get? e=some b->(h₂.push {cls:=.type "method-wrapper",data:=.fields #[.builtin "Exception.__init__",.ref x]}).get? e=some b:=λe b j=>fw _ j;have aQ:(h₂.push {cls:=.type "method-wrapper",data:=.fields #[.builtin "Exception.__init__",.ref x]}).get? h₂.objs.size=some {cls:=.type "method-wrapper",data:=.fields #[.builtin "Exception.__init__",.ref x]}:=gR _ rfl;have a5:=ak b1 λe b am j=>z e b j;refine qP (env:=m2 fd L fI) rfl (bq rfl (lb (t3 (kV a.kind a.k2 a5 (v:=c) rfl (pa ⟨⟨_,_,aQ⟩,?_⟩)) J) rfl));refine yM aQ (z _ _ aX) b4 (z _ _ a2) rfl λg af aq=>?_;show PySem.wpAt _ _ _ _ _ _ _;refine Fo ?_;have aw:=ak a5 aq;have as:K.In g:=λe b f=>aq e b (λn=>by
  have ai:=X e b f;rw[n,hx]at ai;cases ai;have:=a.E5 e _ f;exact this rfl) (z e b (ap e b f))
 refine kE (nr (t3 (kV a.kind a.k2 aw (v:=c) rfl ?_) J) rfl);refine t3 (kV a.kind a.k1 aw (v:=.ref x) rfl ?_) J;refine Nb as (ox:=⟨.ref C,none,.fields (vs.setIfInBounds 0 (.ref (h₂.push {cls:=.type "method-wrapper",data:=.fields #[.builtin "Exception.__init__",.ref x]}).objs.size)),#[]⟩) (od:=none) ⟨af,rfl,rfl,trivial⟩ a.a1.s ?_;refine yL (s:={s with heap:=g,toks:=_}) as af (.inr a.a1.o) a.a1.t a.a1.h λae dr aD aJ au=>?_;show ht _ _ (execs _ _) _ _ _;have aP:=ak aw au;have a3:K.In ae:=λe b f=>au e b (λn=>by
  have ai:=X e b f;rw[n,hx]at ai;cases ai;have:=a.E5 e _ f;exact this rfl) (as e b f)
 refine kE (nr (t3 (kV a.kind a.k3 aP (v:=u) rfl ?_) J) rfl);refine t3 (kV a.kind a.k1 aP (v:=.ref x) rfl ?_) J;have aN:InstAt ae x _ C (some _):=⟨aD,rfl,rfl,aJ⟩;refine Nb a3 aN a.a2.s ?_;refine rN (s:={s with heap:=ae,toks:=_}) a3 aN rfl (.inr a.a2.o) a.a2.t a.a2.h ?_ rfl (by rw[s2]) ?_ ?_
 .exact Br
 .exact e2 (kO ..) (by simp)
 show ht _ _ (execs [] _) _ _ _;refine pb ?_;have a1:∀ l,(ae.update g.objs.size (oh (al "told") (i3 w.params (al "told")) (.str (al "told") l) u)).get? g.objs.size=_:=λl=>
  jp (oh (al "told") (i3 w.params (al "told")) (.str (al "told") l) u) aJ (by rw[s2];rfl)
 simp only[s2]at a1;have bs:s.heap.get? g.objs.size=none:=by
  cases n:s.heap.get? g.objs.size with
  |none=>rfl
  |some b=>
   by_cases f:g.objs.size=x
   .rw[<-f]at af;exact iv (hy af) (hW _)
   .exact iv (hy (aq _ b f (z _ b (aa _ b (v _ b n))))) (hW _)
 have cr:x≠g.objs.size:=hc (hy af);have cb:∀ l,(ae.update g.objs.size (oh (al "told") (i3 w.params (al "told")) (.str (al "told") l) u)).get? x=some ⟨.ref C,some g.objs.size,.fields (vs.setIfInBounds 0 (.ref (h₂.push {cls:=.type "method-wrapper",data:=.fields #[.builtin "Exception.__init__",.ref x]}).objs.size)),#[]⟩:=λl=>by
  rw[ii _ _ (Ne.symm cr)];exact aD
 exact bh _ _ _ _ _ _ _ (cb _) (a1 _) bs λe b ar j=>by
  have aL:=aq e b ar (z e b (aa e b (v e b j)));rw[ii _ _ (hj (hy aL))];exact au e b ar aL
end
end
section
noncomputable abbrev FB:=Mk
noncomputable abbrev E7:e0 Value:=[.type "Exception",.type "BaseException",.type "object"]
noncomputable def n9 (C:hD)(o:Gx):Prop:=∃ nm q N bs g d sub j a dd b e h c f,o=excClassObj nm q C N bs E7 g d sub j a dd b e h c f "Exception.__new__"
section
variable{K:AO}{R:tc->gc->Prop}{os:kv}
theorem wo{rest:e0 fB}(X:K.In h)(u:∃ a,K.lookup C=some a/\n9 C a)(hi:u0 K (.ref C) "__init__"=some (some (.ref fI)))(hf:NQ K (.ref fI)=some (.type "function"))(z:specialIn K (.ref C) "__call__"=some (some (.builtin "type.__call__")))(o:instIn K (.ref C) (.type "type")=some true)(n:rest.length<=100)
  (l:∀ h' x c0,h'=(h.push {cls:=.type "tuple",data:=.seq rest.toArray}).push {cls:=.ref C,data:=.fields #[.ref h.objs.size,.none,.none,.none,.bool false,.none]}->x=h.objs.size+1->c0=h.objs.size->
   kC (hh prog w) (A.under (.builtin "type.__call__" ⟨.ref C::rest,[]⟩)) (.call (.ref fI) ⟨.ref x::rest,[]⟩) (InitBack x R) ⟨h',g,d,t,os⟩):
  kC (hh prog w) A (.call (.ref C) ⟨rest,[]⟩) R ⟨h,g,d,t,os⟩:=by
 obtain⟨a,v,nm,f,N,aA,ai,ab,sub,ak,am,dd,aa,af,aj,ae,aL,rfl⟩:=u;have c:=X _ _ v;have call:vz (hh prog w) h (specialOf (.ref C) "__call__") (some (.builtin "type.__call__")):=looks_specialIn X z;have p:vz (hh prog w) h (Gi (.ref C) (.type "type")) true:=looks_instIn X o;have aN:vz (hh prog w) h (Bind.madeBy (.ref C)) (some "Exception.__new__"):=λA Q E s k f=>by
  obtain⟨as,au,aD,ao,ax⟩:=s;exact wpAny_madeBy_exc (k _ _ c) f
 refine tY ?_;show ht _ _ (R8 (.ref C) _) _ _ _;refine nd_load c ?_;show ht _ _ (Hm (.ref C) _) _ _ _;unfold Hm;refine e3 (call.at ?_);dsimp only;rw[tc_bind];refine e3 (gq (e3 (gq ?_)));refine gq (a:=Fin.again (.call (.builtin "type.__call__") ⟨.ref C::rest,[]⟩)) (And.intro rfl ?_);refine codeAny_call_builtin_at (zj _ (by decide+kernel)) entry_typeCall (KQ PySem.tc_kind PySem.tc_split p (tc_args _ _ _) ?_);unfold Builtin.«type.__call__»;have y:vz (hh prog w) h (RY (.ref C)) (.ref C::E7):=((Lx (part:=none) c).andThen .now).andThen .now
 repeat(first|simp only[List.isEmpty_cons,kZ,wP]|with_reducible refine sX ?_|lk)
 refine codeAny_call_builtin_code (zj _ FE.quiet) (wpAny_check_new_sub FB c ?_);refine codeAny_exc_new_sub FB c ?_ (e2 n J);have k:∀ e a,h.get? e=some a->((h.push {cls:=.type "tuple",data:=.seq rest.toArray}).push {cls:=.ref C,data:=.fields #[.ref h.objs.size,.none,.none,.none,.bool false,.none]}).get? e=some a:=λe a j=>fw _ (fw _ j);have hx:((h.push {cls:=.type "tuple",data:=.seq rest.toArray}).push {cls:=.ref C,data:=.fields #[.ref h.objs.size,.none,.none,.none,.bool false,.none]}).get? (h.objs.size+1)=some {cls:=.ref C,data:=.fields #[.ref h.objs.size,.none,.none,.none,.bool false,.none]}:=by heap_get
 have q:=l _ _ _ rfl rfl rfl;generalize ar:(h.push {cls:=.type "tuple",data:=.seq rest.toArray}).push {cls:=.ref C,data:=.fields #[.ref h.objs.size,.none,.none,.none,.bool false,.none]}=H at*
 have aw:vz (hh prog w) H (QX (.ref (h.objs.size+1))) (.ref C):=(Lx hx).andThen .now;have aJ:vz (hh prog w) H (Nn (.ref C) (.ref C)) true:=(y.keeps k).andThen (Looks.of_pure (by simp));have aK:vz (hh prog w) H (t4 (.ref C) "__init__") (some (.ref fI)):=(yf X hi).keeps k;have ap:vz (hh prog w) H (Qv (.ref fI) (.ref (h.objs.size+1))) (.ref fI,[.ref (h.objs.size+1)]):=(bind_fn X (.ref (h.objs.size+1)) hf).keeps k;dsimp only;unfold Gi callSpecial? specialOf
 repeat(first|with_reducible refine sX ?_|lk)
 refine codeAny_mono q λr ay b=>?_;rcases r with j|(aq|_|_|_)<;>first|exact b|exact b.elim|skip
 (refine az b ?_;clear b;intro m b;subst m)
 exact gq (gq b)
end
end
section
section
variable{E:fB->gc->Prop}{K:AO}
theorem r9{x:FD fB}{Q:Km->gc->Prop}(p:A.handled=none)(h:ht M A x (λv a=>∃ b dd vs c,v=.ref b/\a.heap.get? C=some c/\n9 C c/\
   a.heap.get? b=some ⟨.ref C,dd,.fields vs,#[]⟩/\vs[1]?=some .none/\E (.ref b) a) E s):
  ht M A (raiseStmt env (some x) none) Q E s:=by
 unfold raiseStmt;refine e3 (ke h (λv a h₁=>?_) λj j x=>x)
 (refine xD h₁ ?_;clear h₁;intro b dd vs c q e n f u t;subst q;rcases n with⟨nm,aj,N,am,ae,z,sub,ai,ak,y,w,ab,af,aa,ao,rfl⟩)
 have l:(h0 C::E7).contains (.type "BaseException")=true:=by exact rfl
 obtain⟨k,g,d,o,os⟩:=a;have m:=λ{Q:fB->gc->Prop}=>nG (M:=M) (A:=A) (E:=E) (s:=⟨k,g,d,o,os⟩) (Q:=Q) f rfl u
 repeat(first|with_reducible refine vm f ?_|with_reducible refine vm e ?_|(with_reducible refine wpAny_isSubtype_exc e ?_;rw[l])|with_reducible refine m ?_|wp_step)
 exact wpAny_raiseNew_none p t
end
structure E8 (K:AO)(fd:qx):Prop where
 b2:∀ (s:gc) (e c u:fB),K.In s.heap->Hl s fd ⟨[e,c,u],[]⟩ [(al "self",e),(al "code",c),(al "told",u)]
 b1:∃ tk,∀ (s:gc) (e c:fB),K.In s.heap->Hl s fd ⟨[e,c],[]⟩ [(al "self",e),(al "code",c),(al "told",.str ⟨#[]⟩ tk)]
structure E9 (K:AO)(C fI:hD):Prop where
 obj:∃ o,K.lookup C=some o/\n9 C o
 ini:u0 K (.ref C) "__init__"=some (some (.ref fI))
 typ:NQ K (.ref fI)=some (.type "function")
 call:specialIn K (.ref C) "__call__"=some (some (.builtin "type.__call__"))
 ty:instIn K (.ref C) (.type "type")=some true
section
variable{nm:e5->jg}{n:UP}{T:Tb}{gl:e0 (jg×V)}
theorem wp (k:gU p prog w aa nm n T gl)(a8:Bq prog p.K p.xc fI fd)(aJ:E8 p.K fd)(j:E9 p.K p.xc fI)(a3:p.bl.lookup (al "super")=some (.type "super"))(cc:p.names[p.ph]?=some (al "code"))(a1:p.names[p.pj]?=some (al "told"))(bd:p.ph≠p.pj):r8 p prog w aa nm n:=by
 intro C K ρ σ xs l np z c5 vs U a e y b8 hk ce bW aY ι ay m Q c6 g bt;refine jw λax=>?_;have B:=k.B;have bi:C.A.handled=none:=y.handled b8;refine ah j.obj λc b0 aL=>?_;obtain⟨cs,cE,c8,cl,cD,cp,sub,cx,cr,dd,ch,cR,cX,cL,cC,rfl⟩:=id aL;refine ah B.glob λmg cf bs=>?_;refine ah (bs _ _ k.xc.2.1) λwv bl b7=>?_;cases b7 with
 |@ab _ cF aX=>
 rw[k.xc.2.2]at aX;cases aX;have aK:=aI ce z;apply ax;rw[arm_exec_Raise];refine e3 (ko ?_);refine r9 (C:=p.xc) bi (e3 ?_);show ht _ _ (do nI z (<-hF (.Name (nm n.mQ) np) C.env) [] (la z (hu (xs.es nm l) C.env)) []) _ _ _;refine e3 (mR y.kind hk (uk (y.glob▸cf.keeps g.rel.stays) bl ?_) (k.jE _ k.xc.1));unfold nI;refine e3 (hK (bq aK (bW ι ay m _ _ g λaj h₁ cy aP r₁ ae ai=>e3 (ko ?_))));rw[show((la z (hu (xs.es nm l) C.env)).any (λb=>b.1)||Kx [] (λb:gN jg×FD fB=>b.1.isNone))=false from by rw[aK];rfl];have af:p.K.In h₁:=λa c b=>r₁.stays _ _ (B.qq a c b);have aA:=af _ _ b0;refine e3 (wpAny_keeperOf_exc aA ?_);refine e3 (sX ?_);have a7:aP.length<=100:=by
  rw[<-ai.length];rcases aY with⟨rfl,_⟩|rfl<;>simp
 refine wo af j.obj j.ini j.typ j.call j.ty a7 λh₂ x c0 a0 aN ct=>?_;rw[Dr]at*
 refine jw λax=>?_;have u:∀ e c,h₁.get? e=some c->h₂.get? e=some c:=λe c f=>by rw[a0];exact fw _ (fw _ f)
 have q:h₁.get? x=none:=by rw[aN];exact sK (jr _)
 have aQ:h₂.get? x=some ⟨.ref p.xc,none,.fields #[.ref h₁.objs.size,.none,.none,.none,.bool false,.none],#[]⟩:=by rw[a0,aN];heap_get
 have ap:p.K.In h₂:=λa c b=>u _ _ (af a c b);refine cg B.blt λbb a2 be bU bT=>?_;refine az (bT _ _ a3) λbn l2=>?_;have ak:∀ e c,aa.get? e=some c->h₂.get? e=some c:=λe c f=>u _ _ (r₁.stays e c f);have v:∃ wa wb,TQ p aj h₁ a wa/\TQ p aj h₁ e wb/\∀ h:gc,h.heap=h₂->Hl h fd ⟨.ref x::aP,[]⟩ [(al "self",.ref x),(al "code",wa),(al "told",wb)]:=by
  rcases aY with⟨rfl,rfl⟩|rfl
  ·(refine ah ai.one λam bh aw=>?_;subst bh)
   refine av aJ.b1 λaO a9=>?_;exact gD _ _ aw (.str [] aO) (λh as=>a9 h _ _ (by rw[as];exact ap))
  ·(refine cg ai.two λam am bA aw bF=>?_;subst bA)
   exact gD _ _ aw bF (λh as=>aJ.b2 h _ _ _ (by rw[as];exact ap))
 (refine cg v ?_;clear v;intro wa wb bQ bE v)
 apply ax;refine wn (mg:=bb) (mb:=a2) a8 ap (B.nolimit.keeps ak) (be.keeps ak) (bU.keeps ak) bn l2 ?_ aQ rfl (v _ rfl) λar aO d t0 b1 b2 a6 aD cb s ca=>?_
 .have:=y.depth
  show C.A.depth+1<1000;exact ta (k:=2) this rfl
 refine⟨rfl,?_⟩;have aV:∀ e c,h₁.get? e=some c->ar.get? e=some c:=λe c f=>ca e c (λb=>by rw[b,q]at f;exact TS f) (u e c f);refine az (r₁.ext aV) λaq t=>?_;refine e3 (hK (D0 (gq (e3 (ko (gq ⟨x,_,_,_,rfl,aV _ _ aA,aL,aD,rfl,?_⟩))))));refine bt aj ar _ m x ((g.step r₁ ae).step aq (t _ _)) (ae.trans (t C.md [])).weaken ?_;have au:h₁.get? d=none:=by
  cases ao:h₁.get? d with
  |none=>rfl
  |some c=>rw[u _ _ ao]at s;cases s
 have bJ:d≠x:=λb=>by rw[b,aQ]at s;cases s
 have a4:∀ e∈dp C.fr,∃ c,h₁.get? e=some c:=λe o=>(r₁.frames.mem o).elim λam b=>b.imp λc b=>b.1;have bo:∀ e,(∃ o0,ay.heap.get? e=some o0)\/e∈aj->∃ c,h₁.get? e=some c:=λe o=>o.elim (λb=>b.elim (ae.live e)) λhi=>(r₁.lt hi).1;refine⟨hideAll ar (x::dp C.fr),d,?_,λe c f=>RQ _ f,?_,?_,?_,⟨?_,?_⟩,λe c f o a5=>JH _ f ?_⟩
 .intro e c f
  refine JH _ (aq.stays e c f) λb=>?_;rcases hr.mp b with rfl|b
  .rw[r₁.stays _ _ f]at q;cases q
  .rw[(r₁.frames.mem b).1]at f;exact TS f
 .exact funFrames_hide aq.frames λenv b4 a bm=>mD _ (List.mem_filterMap.mpr ⟨env,b4,bm⟩)
 .exact⟨NR _ (.head _),_,aD,rfl,.inl rfl⟩
 .refine eT _ a6 (JH _ cb λb=>?_) ?_
  .rcases hr.mp b with b|b
   .exact bJ b
   .refine av (a4 d b) λc f=>?_;rw[au]at f;exact TS f
  .have:=UJ.put B.nodup (x:=p.pj) (id:=al "told") (hs:=i3 w.params (al "told")) (t:=b2) a1 (bE.mono fV (t C.md []).tup) (l:=[(p.ph,a)]) (es:=[⟨i3 w.params (al "code"),.str (al "code") b1,wa⟩]) (.cons cc (bQ.mono fV (t C.md []).tup) .nil)
   have f:aB [(p.ph,a)] p.pj e=[(p.ph,a),(p.pj,e)]:=by exact hb (bd)
   rw[f]at this;exact this
 .cases ao:ay.heap.get? d with
  |none=>rfl
  |some o0=>refine av (ae.live d o0 ao) λc f=>?_;rw[au]at f;exact TS f
 .intro b;exact r₁.VA au b
 .intro b
  rcases hr.mp b with rfl|b
  .refine av (bo _ o) λc f=>?_;rw[q]at f;exact TS f
  .exact a5 b
end
end
variable{C:Cfg}{d:e5}
section
section
variable{nm:e5->jg}{n:UP}{T:Tb}{gl:e0 (jg×V)}
theorem nU.kp{fr ι h h' h'' e c t B dd σ}(f:nU p aa fr ι h h' e c t B dd)(r:Rel p prog w aa fr ι σ h')(d:∀ a∈p.hid.f,∃ b,h.get? a=some b)(h1:B.StaysIn h'')(u:h'.UpToSlots h''):Kp p.hid h' h'':=
 ⟨λa ws j=>jD u a ws,λa m b g=>h1 a b (f.kept a b g (.inl (d a m)) (r.Uu a m).2.1)⟩
theorem Good.any (g:Good p prog w aa C ρ ι σ m h)(hn:h'.Ns C.env.locals ak)(hs:og C.env.locals h h'):
  Good p prog w aa C [] ι σ ak h'/\Step p.hid C.md C.fr [C.env.locals] ι h ι h':=by
 have af:∀ a∈ι,a≠C.env.locals:=λa k b=>g.dE (b▸k);have ae:∀ ws,¬ qv h C.env.locals ws:=λws t=>by
  obtain⟨d,b,am,n,q⟩:=t;refine fx g.ns λo' z ep j l f=>?_;rw[b]at j;cases j;rw[q]at l;cases l
 have tp:=cz (hid:=p.hid) hs ae g.U0;have UH:h'.FunFrames aa C.fr:=by
  refine j3 (λc f d b q=>?_) g.rel.frames;by_cases e:c=C.env.locals
  .subst e
   refine fx hn λo' z ep j l f=>?_;exact⟨o',j,λvs v=>by rw[l]at v;cases v⟩
  .exact⟨d,(hs.2 c e).trans b,q⟩
 have s:∀ c d,h.get? c=some d->∃ o',h'.get? c=some o':=λc d b=>by
  by_cases e:c=C.env.locals
  .subst e;refine cB hn λo' z ep j f=>?_;exact⟨o',j⟩
  .exact⟨d,(hs.2 c e).trans b⟩
 have st:Step p.hid C.md C.fr [C.env.locals] ι h ι h':=⟨fV,λf f x=>.inl x,λc d ab f b=>⟨d.slots,(hs.2 c λe=>ab (by exact gP.mpr e)).trans b,λf=>rfl⟩,s,tp⟩;refine⟨⟨⟨g.rel.len,g.rel.nodup,λc d b=>(hs.2 c λe=>?_).trans (g.rel.stays c d b),UH,g.rel.dD,g.rel.new,λa k=>(g.rel.hid a k).elim (s a),λa k=>nw (g.rel.Uu a k) (s a),λi a co u o=>?_⟩,hn,g.dE,g.gH,(λy aj ai u o=>by exact TS o),g.cells,g.hand,g.U0⟩,st⟩
 .rw[e,g.gH]at b;exact TS b
 .exact(g.rel.obj i a co u o).mono (λd b=>(hs.2 a (af a (fz u))).trans b) fV tp
theorem Rel.watch{fr ι h d e co m σ}(r:Rel p prog w aa fr ι σ h)(de:d≠e)(o:d∉ι)(u:e∉ι)(z:d∉dp fr)(q:e∉dp fr)(v:aa.get? d=none)(s:aa.get? e=none)(t:d∉p.hid.f)(ae:e∉p.hid.f)
  (od:U4 p prog w (ι++[d,e]) h co d)(oe:U4 p prog w (ι++[d,e]) h m e):Rel p prog w aa fr (ι++[d,e]) (σ++[co,m]) h where
 len:=by rw[hg,hg,r.len];rfl
 nodup:=by
  rw[uP];refine⟨r.nodup,by simp[de],λa f b n=>?_⟩;simp at n;rcases n with rfl|rfl
  .intro g;subst g;exact o f
  .intro g;subst g;exact u f
 stays:=r.stays
 frames:=r.frames
 dD:=λa f=>by
  rcases jd.mp f with f|f
  .exact r.dD a f
  .simp at f;rcases f with rfl|rfl
   .exact z
   .exact q
 new:=λa f=>by
  rcases jd.mp f with f|f
  .exact r.new a f
  .simp at f;rcases f with rfl|rfl
   .exact v
   .exact s
 hid:=r.hid
 Uu:=λa f=>by
  refine az (r.Uu a f) λx y=>?_;refine⟨λg=>?_,y⟩;rcases jd.mp g with g|g
  .exact x g
  .simp at g;rcases g with rfl|rfl
   .exact t f
   .exact ae f
 obj:=λi a c k l=>by
  by_cases hi:i<ι.length
  .rw[hN hi]at k
   rw[hN (r.len▸hi)]at l;exact(r.obj i a c k l).mono (λaf ab=>ab) (e1 ..) (.refl ..)
  .rw[gO (mq hi)]at k
   rw[gO (r.len▸mq hi),<-r.len]at l;generalize i -ι.length=j at k l
   match j with
   |0=>simp at k l;subst k;subst l;exact od
   |1=>simp at k l;subst k;subst l;exact oe
   |j+2=>simp at k
theorem wx{ai:aZ}{fl:Uk}{h:e0 rf}(n:TZ p prog w aa C (execs b C.env) ρ σ fl ai U):
  TZ p prog w aa C (s0 (.Try b [.ExceptHandler (some (.Name q np)) (some z) h v] [] [] pos) C.env) ρ σ fl ai U:=λι s m Q E g e=>by
 rw[NS];refine e3 (ko (EK (n ι s m _ _ g λaj h₁ d l f j k c=>?_)));have a:=e aj h₁ d l f j k c;cases c with
 |next=>exact pb a
 |brk=>exact a
 |cont=>exact a
 |ret o=>exact a
set_option tactic.hygienic true in
theorem tX (s:gU p prog w aa nm n T gl)(c6:∃ j,p.K.lookup p.xc=some j/\n9 p.xc j)(C:Cfg)(ρ:aZ)(σ:H)(aw t:V)(ai:aZ)(U:H)(au:aZ)(af:H)(b:e0 rf)(np:JC)(y:e5)(h:e0 rf)(c0 pos:JC)(q:cH C)(tp:We C)(cc:h≠[])
  (dt:C.hn=none)(cp:C.A.depth+d<=600)(dA:C.A.units+10*d<=6000)(bU:C.env.kindOf (nm n.mQ)=some .globalImplicit)(b1:y<n.N)(bA:C.env.kindOf (nm y)=some .local)(dE:gg p prog w aa C (execs b C.env) ρ σ aw t ai U)
  (cy:∀ l:Cfg,cH l->l.env=C.env->l.fr=C.fr->l.cm=C.cm->l.md=C.md->l.hn=some (U.length+1)->l.A.depth+d<=600->l.A.units+10*d<=6000->
   TZ p prog w aa l (execs h l.env) (aB ai y (.h (U.length+1))) (U++[.ns [(T.cd,aw),(T.td,t)],.gK U.length]) .next au af):
  TZ p prog w aa C (s0 (.Try b [.ExceptHandler (some (.Name (nm n.mQ) np)) (some (nm y)) h c0] [] [] pos) C.env) ρ σ .next [] af:=λι ar m Q eD g da=>by
 have B:=s.B;refine ah tp λfr aA bt=>?_;rw[NS];refine e3 (ko (EK (dE ι ar m _ _ g λaj h₁ eb a2 e z db fl=>?_)));refine jw λae=>?_;refine lB fl λeq dd as=>?_;have r₁:=z.rel;have ao:∀ a∈p.hid.f,∃ j,ar.heap.get? a=some j:=λa cD=>(g.rel.Uu a cD).2.2.2;have bn:=as.frames;rw[aA]at bn;refine ae (yt (by rw[q.frames,aA]) bn bt as.stays as.Bd λh₂ b2 df cC cf=>?_);refine jC df b2 cC λbl aJ aK aV c8=>jw λae=>?_;have u:=cf.trans c8;rw[<-aA]at aK;refine eR (as.go r₁ db ⟨g.rel.hid,ao⟩ aJ aK aV.o u) λax ch a8=>?_;have ca:=as.kp r₁ ao aJ u;have cF:bl.Ns C.env.locals a2:=by
  refine fx z.ns λj ap ep f am r=>?_;refine av (u _ _ f (λvs o=>by rw[am]at o;cases o)) λct c=>?_;exact gS _ ap ep c am r
 obtain⟨aO,aP,rfl⟩:∃ aO aP,h=aO::aP:=by
  cases h with
  |nil=>exact iv rfl cc
  |cons aO aP=>exact⟨_,_,rfl⟩
 refine ah c6 λj dm dr=>?_;refine ah B.glob λmg dR cX=>?_;refine ah (cX _ _ s.xc.2.1) λwv f a4=>?_;cases a4 with
 |@ab _ em bF=>
 rw[s.xc.2.2]at bF;cases bF;have dx:p.K.In bl:=λa j c=>ax.stays _ _ (B.qq a j c);obtain⟨d5,ek,eM,d2,ef,d3,sub,d6,d4,d0,d1,ew,eC,ev,ec,rfl⟩:=id dr;refine s8 aV.it λes ez en el dD dX be=>?_;refine ae (wpAny_handleBy_cons (codeAny_handlers_test (mR q.kind bU (uk (q.glob▸dR.keeps ax.stays) f ?_) (s.jE _ s.xc.1))) (by intro c;cases c));refine wpAny_excMatches_sub_self (dx _ _ dm) dD rfl J ?_;show kC _ _ _ _ _;refine codeAny_handlers_suite_as ?_;refine jC aK aJ aV λay a1 aY a5 aL=>jw λae=>?_;refine eR (a8.go ax ch ⟨g.rel.hid,ao⟩ a1 aY a5.o aL) λa7 aq v=>?_;have c5:=a8.kp ax ao a1 aL;have a9:ay.Ns C.env.locals a2:=by
  refine fx cF λj ap ep f am r=>?_;refine av (aL _ _ f (λvs o=>by rw[am]at o;cases o)) λct c=>?_;exact gS _ ap ep c am r
 refine s8 a5.it λdn ej eB ea a0 ce be=>?_;refine b5 v.dict λap cs aD cl=>?_;have dT:=a1 _ _ aD
 -- what is new is tracked from here on
 have a6:=a5.new;have cE:dd≠e:=λc=>by rw[c,a6]at aD;exact TS aD
 have bb:dd∉dp C.fr:=λc=>by have:=(aY.mem c).1;rw[aD]at this;cases this
 have aQ:e∉dp C.fr:=λc=>by
  obtain⟨_,j,f,ae⟩:=aY.mem c;rw[a0]at f;cases f;exact ae _ rfl
 have bW:e∉aj:=λc=>by
  (refine az (a7.lt c) λds be=>?_;rcases ds with⟨j,f⟩)
  have:=v.kept e j f (.inr c) aQ;rw[a6]at this;exact TS this
 have aN:ar.heap.get? e=none:=by
  cases o:ar.heap.get? e with
  |none=>rfl
  |some j=>
   refine av (aq.live e j o) λo' f=>?_;have:=v.kept e o' f (.inl ⟨j,o⟩) aQ;rw[a6]at this;exact TS this
 have n0:∀ a,ar.heap.get? a=none->aa.get? a=none:=λa c=>by
  cases o:aa.get? a with
  |none=>rfl
  |some j=>rw[g.rel.stays _ _ o]at c;cases c
 have cr:Rel p prog w aa C.fr (aj++[dd,e]) (U++[.ns [(T.cd,aw),(T.td,t)],.gK U.length]) ay:=by
  refine a7.watch cE v.mj.2 bW bb aQ (n0 _ v.mj.1) (n0 _ aN) (λc=>?_) (λc=>?_) ⟨ap,cs,dT,?_⟩ ⟨dd,dn,by rw[<-r₁.len];simp,a0,ce⟩
  .refine av (ao _ c) λj f=>?_;rw[v.mj.1]at f;exact TS f
  .refine av (ao _ c) λj f=>?_;rw[aN]at f;exact TS f
  .rw[<-s.cd,<-s.td];exact cl.mono (e1 ..) (.refl ..)
 have cL:Step p.hid C.md C.fr [C.env.locals] ι ar.heap (aj++[dd,e]) ay:=by
  refine⟨aq.pre.trans (e1 ..),λk a hk=>?_,aq.ext,aq.live,aq.tup⟩;by_cases hi:k<aj.length
  .rw[hN hi]at hk;exact aq.c5 k a hk
  .rw[gO (mq hi)]at hk
   have:=fz hk;simp at this;rcases this with rfl|rfl
   .exact .inr v.mj.1
   .exact .inr aN
 have bs:(aj++[dd,e])[U.length+1]?=some e:=by rw[<-r₁.len];simp
 have dq:C.env.locals≠e:=λc=>by
  refine fx a9 λj ap ep f am r=>?_;rw[c,a0]at f;cases f;cases am
 have b8:C.env.locals≠dd:=λc=>by
  have:C.env.locals∈dp C.fr:=by rw[aA];simp[dp,bt]
  exact bb (c▸this)
 let l:Cfg:={C with A:=C.A.mark (some (.ref e)),hn:=some (U.length+1)}
 have bo:cH l:=⟨q.kind,q.glob,q.blt,q.frames,(λc=>by cases c),q.depth,q.units⟩;have dv:Good p prog w aa l ai (aj++[dd,e]) (U++[.ns [(T.cd,aw),(T.td,t)],.gK U.length]) a2 ay:=
  ⟨cr,a9,λc=>by
   rcases jd.mp c with c|c
   .exact z.dE c
   .simp at c;rcases c with c|c
    .exact b8 c
    .exact dq c,z.gH,λx id di a3 aX=>(z.vars x id di a3 aX).imp λwv=>rZ λa4=>(a4.mono fV (ca.trans c5)).mono (e1 ..) (.refl ..),
   λx id k a3 aX=>(z.cells x id k a3 aX).imp λa=>oa (bC (e1 ..)),⟨e,bs,rfl⟩,z.U0⟩
 refine ae ((Ue.local (p:=p) (C:=l) (v:=.h (U.length+1)) B.nodup bo (s.nms y b1) bA) _ _ _ _ _ _ dv (.h bs) λbE bT eO bd cx b4=>?_);have dI:Good p prog w aa l (aB ai y (.h (U.length+1))) bE _ bd bT:=cx.lQ λo u bQ=>by rw[du]at bQ;exact bQ
 refine cy l bo rfl rfl rfl rfl rfl cp dA bE _ bd _ _ dI λbJ ex ed eA eE bi dL b7=>?_;cases b7;refine wpAny_nameGoes bA bi.ns (by rw[q.kind];rfl) λbm bh cb b0=>?_;refine az (bi.any cb b0) λak cR=>?_;have dV:Good p prog w aa C [] bJ af bh bm:=⟨ak.rel,ak.ns,ak.dE,ak.gH,ak.vars,ak.cells,by have:=g.hand;rw[dt]at this ⊢;exact this,ak.U0⟩;exact da bJ bm _ bh _ dV (((cL.trans b4).trans dL).trans cR) .next
end
end
section
section
variable{md:e5->jW}{gl:e0 (jg×V)}
theorem rW.cells{xs:e0 jg}{am:e0 (e5×V)}(B:Base p prog w aa gl)(a2:p.fa[k]?=some a0)(ak:aa.get? a0=some o)(aj:o.data=.func fd)(ar:aa.CodeRec fd.code fd.qualname)(aJ:fd.body=.stmts body)(aA:ns.mapM (λx=>p.names[x]?)=some xs)(ay:∀ ws:e0 fB,ws.length=args.length->qR fd ⟨ws,[]⟩=pure (xs.zip ws))(aD:fp.mapM (λx=>p.names[x]?)=some (aC fd.scope.names))(v:(aC fd.scope.names).Nodup)(au:∀ x∈xs,fd.scope.names.lookup x=some .local\/fd.scope.names.lookup x=some .cell/\x∈aC fd.scope.names)(y:∀ x∈aC fd.scope.names,fd.scope.names.lookup x=some .cell)(aP:fd.globals=jk)(aK:fd.builtins=mN)(aX:fd.closure=[])(aq:fd.scope.isCoroutine=false)(ax:fd.scope.isGenerator=false)(hk:fd.scope.kind=.function)(run:∀ C:Cfg,cH C->C.env.scope=fd.scope->C.A.depth+d<=600->C.A.units+10*d<=6000->(∃ aV,C.fr=C.env::aV/\C.env.frame=some C.env.locals)->C.cm=fp.zip (sF σ.length fp.length)->C.md=md->C.hn=hx->
   gg p prog w aa C (execs body C.env) ((ns.zip args).reverse.filter λf=>!fp.contains f.1) (σ++fp.map λx=>.cell ((ns.zip args).reverse.lookup x)) c u am ae):
  rW p prog w aa md hx (d+1) k args σ c u ae:=λA fr ι s a ws X z aL ab ap h r vs t=>by
 obtain rfl:=fZ (a2.symm.trans h);refine qs (md:=md) B z aL ab ap (r.stays _ _ ak) aj (ar.keeps r.stays) aJ aA ay aD v au y aP aK aX aq ax hk r vs λenv as h₁ l m aQ af b j ao aY q g a3 af st=>?_;refine run _ q aQ ao aY ⟨fr,rfl,b⟩ rfl rfl rfl (ι++as) _ _ _ _ g λaw h' l a4 e n ai fl=>?_;refine nV.leave (L:=env.locals) (h:=s.heap) q.frames b j (λf=>n.dE f) (fl.mono (st md []).live) n.rel.tail (Step.mZ b (st md []) ai j) ⟨r.hid,λa h=>(r.Uu a h).2.2.2⟩ λh'' a1 aO aN=>?_;exact t aw h'' l e a1 aO aN
end
end
variable{l:e0 e5}{hn:gN e5}
section
set_option backward.match.sparseCases false
section
variable{nm:e5->jg}{n:UP}{T:Tb}{gl:e0 (jg×V)}
noncomputable def Fn.wf (T:Tb)(n:UP)(F:Fn):Bool:=
 F.body.wf T n F.sc&&F.sc.all (λq=>decide (q.1<n.N))&&decide ((F.sc.map (λq=>q.1)).Nodup)&&F.ps.all λx=>F.sc.lookup x==some .local||F.sc.lookup x==some .cell
theorem Fn.vf{F:Fn}(h:F.wf T n=true):((F.body.wf T n F.sc=true/\∀ a∈F.sc,a.1<n.N)/\(F.sc.map (λa=>a.1)).Nodup)/\∀ x∈F.ps,F.sc.lookup x=some .local\/F.sc.lookup x=some .cell:=
 have h:=Va h
 ⟨⟨⟨h.1.1.1,λa m=>gf (hw.mp h.1.1.2 a m)⟩,gf h.1.2⟩,λx m=>(xi.mp (hw.mp h.2 x m)).imp eq_of_beq eq_of_beq⟩
structure vg (p:P)(aa:kb)(nm:e5->jg)(k:e5)(F:Fn)(a0:hD)(o:Gx)(fd:qx):Prop where
 fa:p.fa[k]?=some a0
 ho:aa.get? a0=some o
 hd:o.data=.func fd
 cr:aa.CodeRec fd.code fd.qualname
 body:∃ t,fd.body=.stmts (F.body.ss nm t)
 bind:∀ ws:e0 fB,ws.length=F.ps.length->qR fd ⟨ws,[]⟩=pure ((F.ps.map nm).zip ws)
 sc:fd.scope.names=eN nm F.sc
 glob:fd.globals=jk
 blt:fd.builtins=mN
 ic:fd.closure=[]
 co:fd.scope.isCoroutine=false
 gen:fd.scope.isGenerator=false
 kind:fd.scope.kind=.function
theorem k6 (a:gU p prog w aa nm n T gl)(h:∀ x∈l,x<n.N):l.mapM (λx=>p.names[x]?)=some (l.map nm):=by
 induction l with
 |nil=>rfl
 |cons x l b=>
  have h':=gx.mp h;exact mY.mpr ⟨_,a.nms x h'.1,_,b h'.2,rfl⟩
theorem wy:aC (eN nm sc)=((sc.filter λa=>a.2==.cell).map (λa=>a.1)).map nm:=by
 unfold aC eN;rw[J1,yg,yg];rfl
section
variable{F:Fn}{o:Gx}{f:e5}{args:e0 V}{lk:e0 e5}{md:e5->jW}
structure Ent (p:P)(k:e5)(F:Fn)(fd:qx)(xs:e0 jg):Prop where
 ns:F.ps.mapM (λx=>p.names[x]?)=some xs
 fp:F.cells.mapM (λx=>p.names[x]?)=some (aC fd.scope.names)
 nd:(aC fd.scope.names).Nodup
 kd:∀ x∈xs,fd.scope.names.lookup x=some .local\/fd.scope.names.lookup x=some .cell/\x∈aC fd.scope.names
 Xh:∀ x∈aC fd.scope.names,fd.scope.names.lookup x=some .cell
 lt:∀ q∈F.sc,q.1<n.N
theorem pC (b:gU p prog w aa nm n T gl)(h:∀ x∈l,x<n.N)(hn:l.Nodup):(l.map nm).Nodup:=by
 induction l with
 |nil=>exact .nil
 |cons x l e=>
  have h':=gx.mp h;rw[ku]at hn;rw[iO,ku];refine⟨λd=>?_,e h'.2 hn.2⟩;refine ah (h4.mp d) λy a c=>?_;exact hn.1 (i0 b (h'.2 y a) h'.1 c▸a)
theorem vh (d:gU p prog w aa nm n T gl)(u:F.wf T n=true)(g:vg p aa nm k F a0 o fd):Ent (n:=n) p k F fd (F.ps.map nm):=by
 (refine az (Fn.vf u) λv l=>?_;rcases v with⟨⟨_,b⟩,j⟩)
 have m:∀ x∈F.cells,(x,wt)∈F.sc:=λx hx=>by
  (refine ah (h4.mp hx) λa s c=>?_;subst c)
  have:=nn.mp s;have t:=eq_of_beq this.2;rw[<-t];exact this.1
 have h:∀ x∈F.cells,x<n.N:=λx hx=>b _ (m x hx);have q:∀ x∈F.ps,x<n.N:=λx hx=>by
  rcases l x hx with a|a
  .exact b _ (dG a)
  .exact b _ (dG a)
 have f:aC fd.scope.names=F.cells.map nm:=by rw[g.sc];exact wy
 refine⟨k6 d q,by rw[f];exact k6 d h,?_,λx hx=>?_,λx hx=>?_,b⟩
 .rw[f]
  refine pC d h ?_;have:F.cells.Sublist (F.sc.map (λa=>a.1)):=Bh _ xo;exact this.nodup j
 ·(refine ah (h4.mp hx) λy e c=>?_;subst c)
  rw[g.sc,cS d (q y e) b];rcases l y e with a|a
  .exact .inl a
  .refine .inr ⟨a,?_⟩
   rw[<-g.sc,f];refine h4.mpr ⟨y,h4.mpr ⟨(y,.cell),nn.mpr ⟨dG a,rfl⟩,rfl⟩,rfl⟩
 .rw[f]at hx
  (refine ah (h4.mp hx) λy e c=>?_;subst c)
  rw[g.sc,cS d (h y e) b];exact kI j (m y e)
theorem pW (h:gU p prog w aa nm n T gl)(a:F.wf T n=true)(l:vg p aa nm k F a0 o fd)(j:∀ m,lk.contains m=false->md m=true)(e:cH C)(hs:C.env.scope=fd.scope)(f:C.A.depth+d<=600)(g:C.A.units+10*d<=6000)(c:C.cm=cm)(h1:C.md=md)(h2:C.hn=hn):
  UU nm n C ⟨cm,lk,hn⟩ F.sc d:=by
 have a:=Fn.vf a;exact⟨e,λx q hx b=>.inl (by
  show C.env.scope.names.lookup (nm x)=_;rw[hs,l.sc,cS h hx a.1.1.2];exact b),c,h2,by rw[h1];exact j,f,g⟩
end
end
end
section
set_option backward.match.sparseCases false
end
variable{O':EZ}{d' fu:e5}{fns:e0 Fn}
section
set_option backward.match.sparseCases false
section
variable{nm:e5->jg}{n:UP}{T:Tb}{gl:e0 (jg×V)}
structure All (p:P)(aa:kb)(nm:e5->jg)(n:UP)(T:Tb)(fns:e0 Fn):Prop where
 ok:∀ (k:e5) (F:Fn),fns[k]?=some F->F.wf T n=true/\∃ a0 o fd,vg p aa nm k F a0 o fd
end
end
section
variable{nm:e5->jg}{n:UP}{T:Tb}{gl:e0 (jg×V)}
theorem Bv (l:gU p prog w aa nm n T gl)(v:∃ e,p.K.lookup p.xc=some e/\n9 p.xc e):yK p prog w aa nm n T d where
 pass:=λa a a a a a a a a a a a a a c=>wx c
 catch_:=λC ρ σ k t ai U au af b np y h o pos j tp m s hd q hk u f c g=>
  tX l v C ρ σ k t ai U au af b np y h o pos j tp m s hd q hk u f c g
end
section
noncomputable def tZ:e0 Str:=[al "self",al "code",al "told",al "__class__",al "super",al "row",al "at",al "len",al "begin",al "number",al "MOST_FIGURES_chain",al "BasicError",al "WRONG_ROW",al "ord",al "MOST_LINE_chain",al "program",al "join",al "str",al "line",al "sorted",al ".0",al "text",al "found",al "split",al "strip",al "rest",al "numbered_row",al "pop",al "other",al "dict",al "world",al "name",al "files",al "saved_text",al "MOST_NAME",al "sign",al "channel",al "open",al "fields",al "close_file",al "old",al "new",al "check_name",al "FIGURES_lines",al "figures",al "figure",al "min",al "index",al "MOST_LINE_lines",al "blanks_end",al "end",al "figures_end_lines",al "line_number",al "number_told",al "first",al "last",al "gone",al "numbers_within",al "is_word_sign",al "find",al "quote_end",al "word_end",al "word",al "upper",al "data_end_lines",al "LEADING",al "gather_spots",al "append",al "comma",al "told_spots",al "turned",al "stride",al "moved",al "ahead",al "enumerate",al "lines_told",al "new_numbers",al "without_nought",al "get",al "with_numbers",al "FUNCTION_WORDS",al "WORDS",al "functions",al "chr",al "is_figure",al "figures_end_tokens",al "MOST_FIGURES_tokens",al "is_plain",al "behind",al "power_end",al "capital",al "is_letter",al "later",al "skipped",al "both",al "PAIRS",al "is_quoted",al "name_end",al "remark_of",al "data_end_tokens",al "is_word",al "number_at",al "word_at",al "text_at",al "ORDERS",al "order_at",al "SIGNS",al "MOST_SIGNS",al "tokens_at",al "extend",al "token",al "kind",al "one",al "WORD_LIKE",al "tokens",al "token_text",al "needs_blank",al "row_of",al "tokens_of",al "bits",al "digits",al "most_steps",al "most_depth",al "room",al "names",al "arrays",al "kinds",al "fns",al "out",al "inputs",al "data",al "spot",al "base",al "seed",al "steps",al "depth",al "handler",al "is_handling",al "error_line",al "error_code",al "is_traced",al "traces",al "common",al "program_run",al "direct_run",al "auto",al "great_sign",al "FIGURES_session",al "front",al "partition",al "told_number",al "firsts",al "parts",al "list",al "part",al "session",al "close_all",al "clear",al "work",al "tell_outcome",al "told_range",al "listed_rows",al "put_row",al "delete_lines",al "told_numbers",al "STRIDE",al "renumbered",al "lost_lines",al "save_program",al "told_name",al "loaded_program",al "program_of",al "merged_program",al "kill_file",al "rename_file",al "do_run",al "do_new",al "do_list",al "do_delete",al "do_renum",al "do_auto",al "do_save",al "do_load",al "do_merge",al "do_kill",al "do_name",al "outcome",al "canonical",al "word_parted",al "known",al "commands",al "run_now",al "auto_next",al "goes_on",al "auto_row",al "auto_typed",al "parted_row",al "do_command",al "enter_line",al "fault",al "auto_begin",al "feed",al "many",al "cells",al "turn",al "abs",al "_law_next",al "twin",al "form",al "_law_line",al "low",al "high",al "is_list",al "lines",al "_law_some",al "items",al "below",al "pace",al "rows",al "texts",al "asked",al "range",al "is_there",al "script",al "heard",al "run_all",al "run_row",al "Session",al "World",al "works",al "_law_put",al "_law_ranged",al "_law_filed",al "_law_renumbered",al "_law_run",al "_law_auto",al "isinstance",al "tuple",al "due",al "zip",al "asked_row",al "typed"]
noncomputable def nm (x:e5):Str:=tZ.getD x Ja
noncomputable def wz:e0 (e5×V):=[(11,.ab 0),(10,.int 5),(14,.int 65529),(12,.str [83,78]),(26,.fn 1),(33,.fn 2),(170,.fn 3),(172,.fn 4),(168,.fn 5),(34,.int 30),(42,.fn 6),(39,.fn 7),(156,.fn 8),(173,.fn 9),(174,.fn 10),(48,.int 65529),(43,.str [48,49,50,51,52,53,54,55,56,57]),(65,.tup [.str [71,79,84,79],.str [71,79,83,85,66],.str [84,72,69,78],.str [69,76,83,69],.str [82,69,83,84,79,82,69],.str [82,69,83,85,77,69],.str [82,69,84,85,82,78]]),(51,.fn 11),(49,.fn 12),(53,.fn 13),(52,.fn 14),(196,.fn 15),(57,.fn 16),(163,.fn 17),(161,.fn 18),(58,.fn 19),(61,.fn 20),(60,.fn 21),(64,.fn 22),(69,.fn 23),(66,.fn 24),(75,.fn 25),(79,.fn 26),(76,.fn 27),(167,.fn 28),(166,.fn 29),(200,.fn 30),(192,.fn 31),(194,.fn 32),(107,.int 255),(86,.int 40),(106,.str [43,45,42,47,92,94,40,41,44,59,58,35,38,64]),(104,.str [60,61,62]),(81,.str [76,69,84,32,80,82,73,78,84,32,85,83,73,78,71,32,73,78,80,85,84,32,76,73,78,69,32,73,70,32,84,72,69,78,32,69,76,83,69,32,71,79,84,79,32,71,79,83,85,66,32,79,78,32,82,69,84,85,82,78,32,70,79,82,32,84,79,32,83,84,69,80,32,78,69,88,84,32,87,72,73,76,69,32,87,69,78,68,32,68,69,70,32,70,78,69,78,68,32,82,69,65,68,32,68,65,84,65,32,82,69,83,84,79,82,69,32,68,73,77,32,69,82,65,83,69,32,79,80,84,73,79,78,32,66,65,83,69,32,83,87,65,80,32,69,82,82,79,82,32,82,69,83,85,77,69,32,83,84,79,80,32,69,78,68,32,82,69,77,32,82,65,78,68,79,77,73,90,69,32,68,69,70,73,78,84,32,68,69,70,83,78,71,32,68,69,70,83,84,82,32,77,65,84,32,90,69,82,32,67,79,78,32,73,68,78,32,73,78,86,32,84,82,78,32,79,80,69,78,32,79,85,84,80,85,84,32,65,80,80,69,78,68,32,82,65,78,68,79,77,32,65,83,32,67,76,79,83,69,32,70,73,69,76,68,32,76,83,69,84,32,82,83,69,84,32,71,69,84,32,80,85,84,32,87,82,73,84,69,32,67,72,65,73,78,32,67,79,77,77,79,78,32,84,82,79,78,32,84,82,79,70,70,32,65,78,68,32,79,82,32,88,79,82,32,69,81,86,32,73,77,80,32,78,79,84,32,77,79,68]),(80,.str [65,66,83,32,65,83,67,32,67,72,82,36,32,67,73,78,84,32,67,83,78,71,32,67,86,73,32,67,86,83,32,69,68,73,84,36,32,69,79,70,32,69,82,76,32,69,82,82,32,70,73,88,32,70,82,69,32,72,69,88,36,32,73,78,83,84,82,32,73,78,84,32,76,67,65,83,69,36,32,76,69,70,84,36,32,76,69,78,32,76,79,67,32,76,79,70,32,76,80,79,83,32,76,84,82,73,77,36,32,77,65,88,32,77,73,68,36,32,77,73,78,32,77,75,73,36,32,77,75,83,36,32,79,67,84,36,32,80,73,32,80,79,83,32,82,73,71,72,84,36,32,82,78,68,32,82,84,82,73,77,36,32,83,69,71,36,32,83,71,78,32,83,80,65,67,69,36,32,83,80,67,32,83,81,82,32,83,84,82,36,32,83,84,82,73,78,71,36,32,83,87,65,80,37,32,84,65,66,32,85,67,65,83,69,36,32,86,65,76,32,88,76,65,84,69,36]),(113,.tup [.str [119,111,114,100],.str [110,97,109,101],.str [110,117,109,98,101,114]]),(82,.fn 33),(100,.fn 34),(91,.fn 35),(84,.fn 36),(90,.fn 37),(85,.fn 38),(93,.fn 39),(89,.fn 40),(101,.fn 41),(97,.fn 42),(103,.fn 43),(105,.fn 44),(99,.fn 45),(98,.fn 46),(102,.fn 47),(108,.fn 48),(118,.fn 49),(115,.fn 50),(116,.fn 51),(117,.fn 52),(187,.fn 53),(228,.ab 1),(157,.fn 55),(162,.fn 56),(147,.str [48,49,50,51,52,53,54,55,56,57]),(165,.int 10),(227,.ab 2),(188,.fn 58),(146,.fn 59),(150,.fn 60),(160,.fn 61),(164,.fn 62),(169,.fn 63),(175,.fn 64),(176,.fn 65),(177,.fn 66),(178,.fn 67),(179,.fn 68),(180,.fn 69),(181,.fn 70),(171,.fn 71),(182,.fn 72),(183,.fn 73),(184,.fn 74),(185,.fn 75),(190,.fn 76),(159,.fn 77),(198,.fn 78),(197,.fn 79),(195,.fn 80),(241,.fn 81),(240,.fn 82),(206,.fn 83),(209,.fn 84),(214,.fn 85),(230,.fn 86),(231,.fn 87),(232,.fn 88),(233,.fn 89),(234,.fn 90),(235,.fn 91)]
noncomputable def yX:e0 (e5×Vu):=[(7,.len),(19,.sorted),(13,.ord),(83,.chr),(205,.abs),(46,.min),(17,.str),(29,.dict),(153,.list),(74,.enumerate),(239,.zip),(221,.range)]
noncomputable def Ft:e0 (e5×Mt):=[(16,.join),(23,.split),(24,.strip),(27,.pop),(67,.append),(149,.partition),(109,.extend),(47,.index),(78,.get),(63,.upper)]
noncomputable def fq (k x:e5):Bool:=bif k==0 then(x==1||x==2)else bif k==1 then[119,120,121,122,123,124,125,126,127,128,5,129,32,37,38,130,131,132,133,134,135,136,137,138,139,140,141,142].contains x else bif k==2 then[15,30,143,144,145].contains x else false
noncomputable def T0:Tb:=⟨wz,yX,Ft,fq,1,2⟩
noncomputable def Uv (k:oL):e0 e5->e0 (e5×oL)->e0 (e5×oL)
 |[],r=>r
 |a::l,r=>(a,k)::Uv k l r
noncomputable abbrev mL:=Uv .local
noncomputable abbrev UY:=Uv .globalImplicit
noncomputable abbrev VE:=Uv .cell
noncomputable abbrev Vw:=Uv .free
noncomputable abbrev Fa (p l g:e0 e5)(b:Ss):Fn:=⟨p,mL p (mL l (UY g [])),b⟩
noncomputable abbrev fX a b:=Xs.c (.lo a) b
noncomputable abbrev fY a b c:=Ss.c (.asg a b) c
noncomputable abbrev cM a b:=X.call (.gl a) b
noncomputable abbrev ff a:=Xs.c a .n
noncomputable abbrev bX a b c:=X.cmp a (.lo b) c
noncomputable abbrev j7:=X.s [112,114,111,103,114,97,109]
noncomputable abbrev cN a b:=Xs.c a (ff b)
noncomputable abbrev bY a b:=X.bin .Add a b
noncomputable abbrev cT a b:=X.sub (.lo a) b
noncomputable abbrev dN a b c d:=Ss.c (.iff a b c) d
noncomputable abbrev aH a b c:=fY (.lo a) b c
noncomputable abbrev dw a b:=fX a (fX b .n)
noncomputable abbrev cw a b:=X.bi a (fX b .n)
noncomputable abbrev bk:=X.lo 6
noncomputable abbrev aF a:=Ss.c (.re a) .n
noncomputable abbrev cU a b:=Ss.c (.ex a) b
noncomputable abbrev bD:=X.i 1
noncomputable abbrev bG a b c:=X.me a b (ff c)
noncomputable abbrev gV:=X.s [115,104,111,119,110]
noncomputable abbrev aS:=X.i 0
noncomputable abbrev bS a b:=X.tu (cN a b)
noncomputable abbrev gW a b c:=X.dL a (cN b c)
noncomputable abbrev dy a b c:=dN a b .n c
noncomputable abbrev bH:=X.lo 21
noncomputable abbrev fG a b:=fX a (ff b)
noncomputable abbrev bZ:=X.s [32]
noncomputable abbrev kq:=X.s [111,117,116,99,111,109,101]
noncomputable abbrev iA a b c d:=fY (.dr (.lo a) b) c d
noncomputable abbrev bz a b:=cM a (fX b .n)
noncomputable abbrev bB:=X.s []
noncomputable abbrev d8 a b:=X.tu (dw a b)
noncomputable abbrev ci a b c d e:=dy (.cmp a b c) d e
noncomputable abbrev cV a b:=X.sub a (.lo b)
noncomputable abbrev cj:=X.lo 50
noncomputable abbrev bN a b c:=Xs.c a (cN b c)
noncomputable abbrev jF a:=X.dr (.lo 155) a
noncomputable abbrev fH a b c:=cM a (fG b c)
noncomputable abbrev b6 a b:=cM a (ff b)
noncomputable abbrev fJ a b c d e:=dy (bX a b c) d e
noncomputable abbrev cW:=X.lo 22
noncomputable abbrev cI a b:=X.bi a (ff b)
noncomputable abbrev gh a b:=Xs.c a (fX b .n)
noncomputable abbrev gE a b c:=cM a (dw b c)
noncomputable abbrev kr a b:=gW .And a b
noncomputable abbrev dO:=X.li .n
noncomputable abbrev fK a:=cT 207 a
noncomputable abbrev iB:=X.lo 5
noncomputable abbrev d9 a b c d:=X.cmp a (cT b c) d
noncomputable abbrev oi:=X.s [102,105,108,101,115]
noncomputable abbrev i4 a b:=Ss.c a (aF b)
noncomputable abbrev dz:=X.lo 9
noncomputable abbrev eF:=X.lo 18
noncomputable abbrev iC:=X.s [83,78]
noncomputable abbrev eG a b c d e:=X.fy (bX a b c) d e
noncomputable abbrev bO a:=cU a .n
noncomputable abbrev eX:=X.lo 35
noncomputable abbrev fL a:=bY a bD
noncomputable abbrev ee:=fL bk
noncomputable abbrev oj:=X.s [115,105,103,110]
noncomputable abbrev om:=X.s [119,111,114,100]
noncomputable abbrev gi a b c:=i4 (.iy a b) c
noncomputable abbrev gX a b:=X.sub (.li a) b
noncomputable abbrev eY a:=Ss.c (.ra 11 a) .n
noncomputable abbrev fM a b:=X.tu (gh a b)
noncomputable abbrev dc:=X.UO .n .n
noncomputable abbrev gY:=X.s [34]
noncomputable abbrev eZ:=jF 30
noncomputable abbrev e7:=fK j7
noncomputable abbrev dP a b c d:=kr (bX a b c) d
noncomputable abbrev qU:=X.s [104,101,97,114,100]
noncomputable abbrev fN:=jF 15
noncomputable abbrev gj a b:=Xs.c (.gl a) b
noncomputable abbrev eH a:=cw 7 a
noncomputable abbrev qV:=X.s [116,101,120,116]
noncomputable abbrev eI a b c d e f g:=iA a b c (iA d e f g)
noncomputable abbrev gk a b:=eY (cN a (.s b))
noncomputable abbrev gF:=X.lo 8
noncomputable abbrev e8 a b c d:=fY (d8 a b) c d
noncomputable abbrev kt:=X.bo false
noncomputable abbrev iD a b:=X.bin .Sub a b
noncomputable abbrev gm a b:=Ss.c (.aug a .Add b) .n
noncomputable abbrev oo a b c:=X.lK .LtE .LtE a b c
noncomputable abbrev dg a:=X.dr (.lo 30) a
noncomputable abbrev lR:=X.s [70,67]
noncomputable abbrev iE a:=X.li (ff a)
noncomputable abbrev eJ a:=fH 206 201 (.i a)
noncomputable abbrev fO a b c:=X.me a b (fX c .n)
noncomputable abbrev im a b:=X.dr (.ce a) b
noncomputable abbrev nc:=X.s [114,101,109]
noncomputable abbrev cO a b c d:=fJ .Eq a b c d
noncomputable abbrev gr a b:=bY a (.lo b)
noncomputable abbrev gs:=cw 17 18
noncomputable abbrev dS a b c d e:=aH a (gE b c d) e
noncomputable abbrev eP:=eH 5
noncomputable abbrev gL a b c:=Ss.c (.yl a b) c
noncomputable abbrev i5 a b:=X.cmp .NotEq a b
noncomputable abbrev fP a:=X.sub (.ce 207) a
noncomputable abbrev gt a b c:=bG (.lo a) b c
noncomputable abbrev fQ a b:=Xs.c (.s a) b
noncomputable abbrev i6:=X.fr 207
noncomputable abbrev cG a b:=fY a b .n
noncomputable abbrev vi a:=gk a [108,105,110,101,32,110,117,109,98,101,114]
noncomputable abbrev gM a b:=X.cmp .Eq a b
noncomputable abbrev qW:=X.s [110,97,109,101]
noncomputable abbrev gu a b:=aF (bS a b)
noncomputable abbrev dB a:=cT a bk
noncomputable abbrev i7:=X.gl 48
noncomputable abbrev io:=eH 21
noncomputable abbrev jT:=X.lo 204
noncomputable abbrev vj:=X.s [63,85,76,32,69,114,114,111,114]
noncomputable abbrev vk:=X.s [63,70,67,32,69,114,114,111,114]
noncomputable abbrev fR a b c:=bY (bY a b) c
noncomputable abbrev eQ a b:=X.sb iB a b
noncomputable abbrev gv a b c:=oo (.s a) b (.s c)
noncomputable abbrev gw a b c:=fX a (dw b c)
noncomputable abbrev ng:=X.s [79,107]
noncomputable abbrev f1:=Fa [5] [6,8,9] [7,10,11,12,13,14] (aH 6 aS (.c (.iy (dP .Lt 6 eP (d9 .Eq 5 bk bZ)) (gm 6 bD)) (gL (dw 8 9) (fG 6 aS) (.c (.iy (dP .Lt 6 eP (gv [48] (dB 5) [57])) (ci .GtE (iD bk gF) (.gl 10) (vi (.gl 12)) (aH 9 (iD (bY (.bin .Mult (.i 10) dz) (cI 13 (dB 5))) (.i 48)) (gm 6 bD)))) (cO 6 gF (aF (fM .no 5)) (fJ .Gt 9 (.gl 14) (vi (.gl 12)) (dy (dP .Lt 6 eP (d9 .Eq 5 bk bZ)) (gm 6 bD) (aF (.tu (fG 9 (.UI iB bk)))))))))))
noncomputable abbrev f2:Fn:=⟨[15],(VE [15] (UY [19] [])),(aF (bG bB 16 (.comp (fR (bY gs bZ) (cV (.fr 15) 18) (.s [10])) eF (cI 19 (.ce 15)) .n (mL [20,18] (UY [17] (Vw [15] []))))))⟩
noncomputable abbrev f3:=Fa [21] [22,5,18,25] [26,11,12] (aH 22 dc (i4 (.fo iB (bG bH 23 (.s [10])) (ci .Eq (bG iB 24 bZ) bB (.c .co .n) (e8 18 25 (bz 26 5) (fJ .Is 18 .no (gk (.gl 12) [114,111,119,32,119,105,116,104,111,117,116,32,97,32,108,105,110,101]) (dN (gM (gt 25 24 bZ) bB) (bO (.me cW 27 (fG 18 .no))) (cG (cT 22 eF) (.lo 25)) .n))))) cW))
noncomputable abbrev f4:=Fa [15,28] [22,18] [29] (aH 22 (cw 29 15) (i4 (.fo eF (.lo 28) (cG (cT 22 eF) (cT 28 eF))) cW))
noncomputable abbrev Wc:=Fa [30,31,15] [] [33] (cG (cV (dg 32) 31) (bz 33 15))
noncomputable abbrev Wx:=Fa [31] [] [7,34,11] (dy (gW .Or (.UT (oo bD (eH 31) (.gl 34))) (i5 (.comp eX eX (.lo 31) (ff (gW .Or (.cmp .Lt (cw 13 35) (.i 33)) (.cmp .Gt (cw 13 35) (.i 126)))) (mL [20,35] (UY [13] []))) dO)) (eY (ff (.s [78,77]))) (aF (.lo 31)))
noncomputable abbrev Wy:=Fa [30,36] [31] [19] (fJ .In 36 (dg 37) (bO (fO (dg 37) 27 36)) (.c (.fo (.lo 31) (cI 19 (dg 38)) (ci .Eq (.sub (cV (dg 38) 31) aS) (.lo 36) (bO (fO (dg 38) 27 31)) .n)) .n))
noncomputable abbrev f8:=Fa [30] [36] [19,39] (.c (.fo (.lo 36) (cI 19 (dg 37)) (bO (gE 39 30 36))) .n)
noncomputable abbrev WU:Fn:=⟨[30,31],(VE [30,31] (UY [11] [])),(ci .NotIn (.ce 31) (im 30 32) (eY (ff (.s [70,70]))) (ci .NotEq (.comp (.lo 36) (.lo 36) (im 30 37) (ff (gM (.sub (cV (.dr (.fr 30) 37) 36) qW) (.fr 31))) (mL [20,36] (Vw [31,30] []))) dO (eY (ff (.s [65,79]))) (bO (bG (im 30 32) 27 (.ce 31)))))⟩
noncomputable abbrev NY:Fn:=⟨[30,40,41],(VE [30,40] (mL [41] (UY [11,42] []))),(ci .NotIn (.ce 40) (im 30 32) (eY (ff (.s [70,70]))) (ci .NotEq (.comp (.lo 36) (.lo 36) (im 30 37) (ff (gM (.sub (cV (.dr (.fr 30) 37) 36) qW) (.fr 40))) (mL [20,36] (Vw [40,30] []))) dO (eY (ff (.s [65,79]))) (ci .In (bz 42 41) (im 30 32) (eY (ff (.s [78,77]))) (cG (cV (im 30 32) 41) (bG (im 30 32) 27 (.ce 40))))))⟩
noncomputable abbrev NZ:=Fa [21,6] [] [7,43] (gi (dP .Lt 6 io (d9 .In 21 bk (.gl 43))) (gm 6 bD) bk)
noncomputable abbrev N0:=Fa [21,6] [] [7] (gi (dP .Lt 6 io (d9 .Eq 21 bk bZ)) (gm 6 bD) bk)
noncomputable abbrev JO:=Fa [44] [22,45] [46,43,48] (aH 22 aS (i4 (.fo (.lo 45) (.lo 44) (aH 22 (.bi 46 (cN (bY (.bin .Mult (.i 10) cW) (fO (.gl 43) 47 45)) (fL i7))) .n)) cW))
noncomputable abbrev N1:=Fa [9] [] [48,11] (dy (.UT (oo aS dz i7)) (gk iC [108,105,110,101]) (aF dz))
noncomputable abbrev N2:=Fa [21] [8,50,25] [49,51,52,53] (aH 8 (fH 49 21 aS) (dS 50 51 21 8 (cO 50 gF (gu .no (.UI bH gF)) (aH 25 (.fy (gM (.sb bH cj (fL cj)) bZ) (.UI bH (fL cj)) (.UI bH cj)) (aF (fM (b6 52 (b6 53 (.sb bH gF cj))) 25))))))
noncomputable abbrev JP:Fn:=⟨[15,54,55],(mL [15] (VE [54,55] (UY [19] []))),(aF (.comp dz dz (cw 19 15) (ff (oo (.fr 54) dz (.fr 55))) (mL [20,9] (Vw [54,55] []))))⟩
noncomputable abbrev JQ:=Fa [15,54,55] [56,9] [57,7,11] (aH 56 (cM 57 (gw 15 54 55)) (ci .Eq (eH 56) aS (gk lR [68,69,76,69,84,69]) (.c (.fo dz (.lo 56) (bO (fO (.lo 15) 27 9))) .n)))
noncomputable abbrev JR:Fn:=⟨[15,54,55],(VE [15] (mL [54,55] (UY [57] []))),(aF (.comp (fR (cw 17 9) bZ (cV (.fr 15) 9)) dz (cM 57 (.c (.ce 15) (dw 54 55))) .n (mL [20,9] (UY [17] (Vw [15] [])))))⟩
noncomputable abbrev N3:=Fa [35] [] [43] (aF (.dL .Or (.c (gv [65] eX [90]) (bN (gv [97] eX [122]) (bX .In 35 (.gl 43)) (bX .In 35 (.s [46,36,37,33]))))))
noncomputable abbrev N4:=Fa [21,6] [] [7,58] (gi (dP .Lt 6 io (b6 58 (dB 21))) (gm 6 bD) bk)
noncomputable abbrev N5:=Fa [21,6] [50] [7] (aH 50 (.me bH 59 (cN gY ee)) (aF (eG .Lt 50 aS io (fL cj))))
noncomputable abbrev N6:=Fa [21,6] [] [7,60] (gi (dP .Lt 6 io (d9 .NotEq 21 bk (.s [58]))) (aH 6 (.fy (d9 .Eq 21 bk gY) (gE 60 21 6) ee) .n) bk)
noncomputable abbrev N7:=Fa [21] [22,6,35,50,62] [7,60,58,61,64,65,66] (gL (dw 22 6) (cN dO aS) (gi (bX .Lt 6 io) (aH 35 (dB 21) (dN (bX .Eq 35 gY) (dS 6 60 21 6 .n) (dN (bX .Eq 35 (.s [39])) (aF cW) (dN (bz 58 35) (dS 50 61 21 6 (aH 62 (.me (.sb bH bk cj) 63 .n) (cO 62 (.s [82,69,77]) (aF cW) (aH 6 (eG .Eq 62 (.s [68,65,84,65]) (gE 64 21 50) cj) (fJ .In 62 (.gl 65) (aH 6 (cM 66 (gw 21 50 22)) .n) .n))))) (gm 6 bD) .n) .n) .n)) cW))
noncomputable abbrev N8:=Fa [21,6,22] [8,50,68] [49,51,7,58] (dS 8 49 21 6 (dS 50 51 21 8 (gi (dP .Gt 50 gF (gW .Or (bX .Eq 50 io) (.UT (b6 58 (cT 21 cj))))) (cU (bG cW 67 (d8 8 50)) (aH 6 cj (dS 68 49 21 50 (ci .NotEq (.sb bH (.lo 68) (fL (.lo 68))) (.s [44]) (aF bk) (aH 8 (fH 49 21 (fL (.lo 68))) (dS 50 51 21 8 .n)))))) bk)))
noncomputable abbrev N9:Fn:=⟨[21],(VE [21] (UY [69] [])),(aF (.comp (b6 53 (.sb (.fr 21) gF cj)) (d8 8 50) (b6 69 (.ce 21)) .n (mL [20,8,50] (UY [53] (Vw [21] [])))))⟩
noncomputable abbrev Oa:=Fa [21,70] [22,6,8,50,9] [69,53,17] (e8 22 6 (bS bB aS) (i4 (.fo (d8 8 50) (bz 69 21) (aH 9 (b6 53 (.sb bH gF cj)) (aH 22 (fR cW (.sb bH bk gF) (eG .In 9 (.lo 70) (cI 17 (cT 70 dz)) (.sb bH gF cj))) (aH 6 cj .n)))) (bY cW (.UI bH bk))))
noncomputable abbrev JS:=Fa [15,41,40,71] [72,73,70,6,9] [57,48,7,11,74] (aH 72 (cM 57 (fX 15 (fG 40 i7))) (aH 73 (cM 57 (fX 15 (cN aS (iD (.lo 40) bD)))) (dy (.dL .Or (bN (bX .Lt 71 bD) (bX .Lt 41 aS) (kr (gM (eH 72) aS) (.cmp .Gt (eH 15) aS)))) (gk lR [82,69,78,85,77]) (aH 70 dc (.c (.fo (d8 6 9) (cw 74 72) (cG (cT 70 dz) (bY (.lo 41) (.bin .Mult bk (.lo 71))))) (dy (kr (.cmp .Gt (eH 72) aS) (d9 .Gt 70 (cT 72 (iD (eH 72) bD)) i7)) (gk lR [82,69,78,85,77]) (dy (.dL .And (bN (.cmp .Gt (eH 72) aS) (.cmp .Gt (eH 73) aS) (d9 .GtE 73 (iD (eH 73) bD) (.lo 41)))) (gk lR [82,69,78,85,77]) (aF (.lo 70)))))))))
noncomputable abbrev Ob:=Fa [15] [22,18,9] [19,75] (aH 22 dO (i4 (.fo eF (cw 19 15) (.c (.fo dz (b6 75 (cT 15 eF)) (dy (dP .NotEq 9 aS (bX .NotIn 9 (.lo 15))) (bO (bG cW 67 (d8 18 9))) .n)) .n)) cW))
noncomputable abbrev JT:=Fa [15,41,40,71] [70,77,9,22] [76,19,79] (aH 70 (cM 76 (fX 15 (gw 41 40 71))) (aH 77 dc (.c (.fo dz (.lo 70) (fJ .NotEq 9 aS (cG (cT 77 dz) (cT 70 dz)) .n)) (aH 22 dc (i4 (.fo dz (cw 19 15) (cG (cT 22 (.me (.lo 70) 78 (dw 9 9))) (cM 79 (gh (cT 15 dz) 77)))) cW)))))
noncomputable abbrev JU:=Fa [15,9] [] [17,52] (aF (bY (cI 17 (bz 52 9)) (eG .In 9 (.lo 15) (.s [42]) bZ)))
noncomputable abbrev Oc:=Fa [9,71] [] [48] (aF (.fy (dP .Gt 71 aS (.cmp .LtE (gr dz 71) i7)) (gr dz 71) .no))
noncomputable abbrev f32:=Fa [15,9,21] [] [52] (ci .Eq (bG bH 24 bZ) bB (aF (bX .In 9 (.lo 15))) (fY (cT 15 (bz 52 9)) (bG bH 24 bZ) (aF (.bo true))))
noncomputable abbrev Od:=Fa [] [] [80] (aF (bG (.gl 80) 23 bZ))
noncomputable abbrev Oe:=Fa [2] [] [81,82] (aF (gW .Or (bX .In 2 (bG (.gl 81) 23 bZ)) (bX .In 2 (cM 82 .n))))
noncomputable abbrev Of:=Fa [35] [] [] (aF (gW .Or (gv [65] eX [90]) (gv [97] eX [122])))
noncomputable abbrev Og:=Fa [35] [] [] (aF (gv [48] eX [57]))
noncomputable abbrev JV:=Fa [21] [] [] (aF (bG bB 16 (.comp (.fy (gv [97] eX [122]) (cI 83 (iD (cw 13 35) (.i 32))) eX) eX bH .n (mL [20,35] (UY [83,13] [])))))
noncomputable abbrev Oh:=Fa [5,6] [] [7,84] (gi (dP .Lt 6 eP (b6 84 (dB 5))) (gm 6 bD) bk)
noncomputable abbrev Oi:=Fa [5,6] [] [7] (gi (dP .Lt 6 eP (d9 .In 5 bk (.s [32,9]))) (gm 6 bD) bk)
noncomputable abbrev Oj:=Fa [5,6] [8,50] [85,11] (ci .NotIn (eQ bk ee) (bS (.s [69]) (.s [101])) (aF bk) (aH 8 (.fy (.cmp .In (eQ ee (bY bk (.i 2))) (bS (.s [43]) (.s [45]))) (bY bk (.i 2)) ee) (dS 50 85 5 8 (ci .Gt (iD cj gF) (.i 3) (eY (gh (.s [79,86]) 6)) (aF (eG .Gt 50 gF cj bk))))))
noncomputable abbrev Ok:=Fa [5,6] [50,87,88,55] [85,86,11,89,90] (dS 50 85 5 6 (ci .Eq (eQ cj (fL cj)) (.s [46]) (aH 50 (fH 85 5 (fL cj)) .n) (ci .Gt (iD cj bk) (.gl 86) (eY (gh (.s [79,86]) 6)) (aH 87 (.cmp .Lt (.me iB 59 (fQ [46] (dw 6 50))) aS) (dS 88 89 5 50 (aH 55 (eQ (.lo 88) (fL (.lo 88))) (dy (gW .Or (bX .Eq 55 (.s [33])) (.dL .And (.c (bX .Eq 55 (.s [37])) (fG 87 (bX .Eq 88 cj))))) (gm 88 bD) (aF (fM (bS (.s [110,117,109,98,101,114]) (b6 90 (eQ bk (.lo 88)))) 88)))))))))
noncomputable abbrev Ol:=Fa [5,6] [] [7,91,84] (gi (dP .Lt 6 eP (.dL .Or (bN (b6 91 (dB 5)) (b6 84 (dB 5)) (d9 .Eq 5 bk (.s [46]))))) (gm 6 bD) (.fy (kr (.cmp .In (eQ bk ee) (.tu (bN (.s [37]) (.s [36]) (.s [33])))) (i5 (eQ bk ee) bB)) ee bk))
noncomputable abbrev Om:=Fa [5,6] [50] [7] (aH 50 (.me iB 59 (cN gY ee)) (fJ .Lt 50 aS (gu (bS qV (.UI iB ee)) eP) (gu (bS qV (eQ ee cj)) (fL cj))))
noncomputable abbrev On:=Fa [5,6] [92,94] [93,95] (aH 92 (fH 93 5 ee) (aH 94 (bY (dB 5) (eQ (.lo 92) (fL (.lo 92)))) (fJ .In 94 (.gl 95) (gu (bS oj (cV (.gl 95) 94)) (fL (.lo 92))) (gu (bS oj (dB 5)) ee))))
noncomputable abbrev Oo:=Fa [5,6] [96] [7] (aH 96 kt (gi (dP .Lt 6 eP (.dL .Or (fG 96 (d9 .NotEq 5 bk (.s [58]))))) (ci .Eq (dB 5) gY (aH 96 (.UT (.lo 96)) .n) (gm 6 bD)) bk))
noncomputable abbrev Op:=Fa [21] [] [] (aF (.fy (gM (.st bH bD) bZ) (.UI bH bD) bH))
noncomputable abbrev Oq:=Fa [5,6] [50,2,55] [97,90,98,7,99,100] (dS 50 97 5 6 (aH 2 (b6 90 (eQ bk cj)) (cO 2 (.s [82,69,77]) (gu (iE (bS nc (b6 98 (.UI iB cj)))) eP) (cO 2 (.s [68,65,84,65]) (dS 55 99 5 50 (aF (fM (.li (cN (fM om 2) (bS (.s [114,97,119]) (bG (eQ cj (.lo 55)) 24 (.s [32,9]))))) 55))) (aF (fM (iE (fM (.fy (bz 100 2) om qW) 2)) 50))))))
noncomputable abbrev Ot:=Fa [5,6] [35,2,50] [84,101,91,102,103,104,105,98,7,106,11] (aH 35 (dB 5) (dy (gW .Or (bz 84 35) (dP .Eq 35 (.s [46]) (b6 84 (eQ ee (bY bk (.i 2)))))) (e8 2 50 (gE 101 5 6) (aF (fM (.li (fX 2 .n)) 50))) (dy (bz 91 35) (aF (gE 102 5 6)) (cO 35 gY (e8 2 50 (gE 103 5 6) (aF (fM (.li (fX 2 .n)) 50))) (fJ .In 35 (.gl 104) (e8 2 50 (gE 105 5 6) (aF (fM (.li (fX 2 .n)) 50))) (cO 35 (.s [63]) (gu (iE (bS om (.s [80,82,73,78,84]))) ee) (cO 35 (.s [39]) (gu (iE (bS nc (b6 98 (.UI iB ee)))) eP) (fJ .In 35 (.gl 106) (gu (iE (fM oj 35)) ee) (eY (gh iC 6))))))))))
noncomputable abbrev Ou:=Fa [5] [22,6,2] [7,107,11,93,108] (ci .Gt eP (.gl 107) (eY (cN iC (.gl 107))) (gL (dw 22 6) (cN dO (fH 93 5 aS)) (gi (bX .Lt 6 eP) (e8 2 6 (gE 108 5 6) (cU (fO cW 109 2) (dS 6 93 5 6 .n))) cW)))
noncomputable abbrev Ov:=Fa [110] [111,2] [] (e8 111 2 (.lo 110) (cO 111 qV (aF (bY (gr gY 2) gY)) (cO 111 nc (aF (eG .NotEq 2 bB (gr (.s [82,69,77,32]) 2) (.s [82,69,77]))) (aF (.lo 2)))))
noncomputable abbrev Ow:=Fa [112,28] [] [113] (dy (kr (d9 .In 112 aS (.gl 113)) (d9 .In 28 aS (.gl 113))) (aF (.bo true)) (dy (gW .Or (d9 .In 28 aS (bS nc (.s [114,97,119]))) (kr (d9 .Eq 112 aS om) (d9 .Eq 28 aS qV))) (aF (.bo true)) (aF (gW .Or (bX .Eq 112 (bS oj (.s [58]))) (kr (d9 .Eq 28 aS om) (bX .NotEq 112 (bS oj (.s [40]))))))))
noncomputable abbrev Ox:=Fa [114] [22,6,110,2] [74,115,116] (aH 22 bB (i4 (.fo (d8 6 110) (cw 74 114) (aH 2 (bz 115 110) (dy (.dL .And (bN (bX .Gt 6 aS) (cM 116 (gh (cT 114 (iD bk bD)) 110)) (bX .NotEq 2 bB))) (aH 22 (bY cW bZ) .n) (aH 22 (gr cW 2) .n)))) cW))
noncomputable abbrev Oy:=Fa [5] [22] [117,118,7,107,11] (aH 22 (b6 117 (bz 118 5)) (ci .Gt (eH 22) (.gl 107) (eY (cN iC (.gl 107))) (aF cW)))
noncomputable abbrev oq:=Fa [0,119,120,121,122,123] [] [] (eI 0 119 (.lo 119) 0 120 (.lo 120) (eI 0 121 (.lo 121) 0 122 (.lo 122) (eI 0 123 (.lo 123) 0 124 dc (eI 0 125 dc 0 126 dc (eI 0 127 dc 0 128 dO (eI 0 5 bB 0 129 dO (eI 0 32 dc 0 37 dc (eI 0 38 dc 0 130 dO (eI 0 131 aS 0 132 aS (eI 0 133 bD 0 134 aS (eI 0 135 aS 0 136 aS (eI 0 137 kt 0 138 aS (eI 0 139 bB 0 140 kt (eI 0 141 dO 0 142 dO .n))))))))))))))
noncomputable abbrev Bw:=Fa [30] [] [] (fY (.tu (.c (dg 124) (bN (dg 125) (dg 126) (dg 127)))) (.tu (.c dc (bN dc dc dc))) (fY (.tu (bN (dg 131) (dg 132) (dg 133))) (.tu (bN aS aS bD)) (cG (.tu (.c (dg 136) (bN (dg 137) (dg 138) (dg 139)))) (.tu (.c aS (bN kt aS bB))))))
noncomputable abbrev Oz:=Fa [30,21] [] [] (cU (bG (dg 128) 67 (bY (dg 5) bH)) (iA 30 5 bB .n))
noncomputable abbrev ou:=Fa [0,30,143,144] [] [] (eI 0 15 dc 0 30 (.lo 30) (eI 0 143 (.lo 143) 0 144 (.lo 144) (iA 0 145 .no .n)))
noncomputable abbrev OA:=Fa [21] [6] [7] (aH 21 (bG bH 24 bZ) (aH 6 aS (gi (dP .Lt 6 io (gW .Or (gv [65] (dB 21) [90]) (gv [97] (dB 21) [122]))) (gm 6 bD) (bS (bG bB 16 (.comp (bz 146 35) eX (.st bH bk) .n (mL [20,35] (UY [146] [])))) (bG (.UI bH bk) 24 bZ)))))
noncomputable abbrev JW:=Fa [35] [] [83,13] (aF (.fy (gv [97] eX [122]) (cI 83 (iD (cw 13 35) (.i 32))) eX))
noncomputable abbrev OB:=Fa [21] [] [11,52,53] (aH 21 (bG bH 24 bZ) (cO 21 bB (aF .no) (ci .NotEq (.comp eX eX bH (ff (bX .NotIn 35 (.gl 147))) (mL [20,35] (UY [147] []))) dO (gk iC [108,105,110,101]) (aF (b6 52 (bz 53 21))))))
noncomputable abbrev OC:=Fa [21] [148,35,88,54,55] [150,48] (fY (.tu (gw 148 35 88)) (bG bH 149 (.s [45])) (aH 54 (bz 150 148) (cO 35 bB (aF (eG .Is 54 .no (bS aS i7) (d8 54 54))) (aH 55 (bz 150 88) (gu (eG .Is 54 .no aS (.lo 54)) (eG .Is 55 .no i7 (.lo 55)))))))
noncomputable abbrev JX:=Fa [21,151] [152,22,6,154,9] [7,11,153,74,150] (aH 152 (bG bH 23 (.s [44])) (ci .Gt (eH 152) (eH 151) (gk iC [110,117,109,98,101,114,115]) (aH 22 (cw 153 151) (i4 (.fo (d8 6 154) (cw 74 152) (aH 9 (bz 150 154) (cG (dB 22) (eG .Is 9 .no (dB 151) dz)))) cW))))
noncomputable abbrev OD:=Fa [21] [] [11] (ci .Eq (.st bH bD) gY (aH 21 (.sub (bG (.UI bH bD) 149 gY) aS) .n) (cO 21 bB (gk iC [110,97,109,101]) (aF bH)))
noncomputable abbrev f64:=Fa [155,25] [18,158] [150,11,156,157,159] (aH 18 (bz 150 25) (dy (dP .IsNot 18 .no (bX .NotIn 18 fN)) (eY (gh (.s [85,76]) 18)) (cU (b6 156 eZ) (cU (b6 157 eZ) (aH 158 (jF 143) (bO (fH 159 155 (.call (.lo 158) (gh fN 18)))))))))
noncomputable abbrev OE:=Fa [155,25] [] [156,157] (iA 155 15 dc (cU (b6 156 eZ) (bO (b6 157 eZ))))
noncomputable abbrev OF:=Fa [155,25] [54,55,5] [160,161,162] (e8 54 55 (bz 160 25) (.c (.fo iB (cM 161 (.c fN (dw 54 55))) (bO (cM 162 (gh eZ 5)))) .n))
noncomputable abbrev OG:=Fa [155,25] [54,55] [11,160,163] (cO 25 bB (gk lR [68,69,76,69,84,69]) (e8 54 55 (bz 160 25) (bO (cM 163 (.c fN (dw 54 55))))))
noncomputable abbrev OH:=Fa [155,25] [41,40,71,70,18,9] [164,165,166,167,162,17] (fY (.tu (gw 41 40 71)) (fH 164 25 (.li (bN (.i 10) aS (.gl 165)))) (aH 70 (cM 166 (.c fN (gw 41 40 71))) (.c (.fo (d8 18 9) (b6 167 fN) (bO (cM 162 (cN eZ (fR (bY (.s [85,110,100,101,102,105,110,101,100,32,108,105,110,101,32]) (cw 17 9)) (.s [32,105,110,32]) gs))))) (iA 155 15 (.lo 70) .n))))
noncomputable abbrev OI:=Fa [155,25] [54,71] [164,165,11] (e8 54 71 (fH 164 25 (.li (cN (.gl 165) (.gl 165)))) (fJ .Lt 71 bD (gk lR [65,85,84,79]) (iA 155 145 (d8 54 71) .n)))
noncomputable abbrev OJ:=Fa [155,25] [] [168,169] (bO (cM 168 (bN eZ (bz 169 25) fN)))
noncomputable abbrev Fu:=Fa [155,31] [] [11,170] (fJ .NotIn 31 (.dr eZ 32) (eY (gh (.s [70,70]) 31)) (aF (b6 170 (cV (.dr eZ 32) 31))))
noncomputable abbrev OK:=Fa [155,25] [] [171,169,156,157] (iA 155 15 (fH 171 155 (bz 169 25)) (cU (b6 156 eZ) (bO (b6 157 eZ))))
noncomputable abbrev OL:=Fa [155,25] [] [172,171,169] (iA 155 15 (cM 172 (cN fN (fH 171 155 (bz 169 25)))) .n)
noncomputable abbrev OM:=Fa [155,25] [] [173,169] (bO (cM 173 (cN eZ (bz 169 25))))
noncomputable abbrev ON:=Fa [155,25] [40,35,41] [11,174,169] (fY (.tu (gw 40 35 41)) (gt 25 149 (.s [32,65,83,32])) (cO 35 bB (gk iC [78,65,77,69]) (bO (cM 174 (bN eZ (b6 169 (gt 40 24 bZ)) (b6 169 (gt 41 24 bZ)))))))
noncomputable abbrev OO:=Fa [] [] [175,176,177,178,179,180,181,182,183,184,185] (aF (.UO (fQ [82,85,78] (fQ [78,69,87] (fQ [76,73,83,84] (fQ [68,69,76,69,84,69] (fQ [82,69,78,85,77] (fQ [65,85,84,79] (fQ [83,65,86,69] (fQ [76,79,65,68] (bN (.s [77,69,82,71,69]) (.s [75,73,76,76]) (.s [78,65,77,69])))))))))) (gj 175 (gj 176 (gj 177 (gj 178 (gj 179 (gj 180 (gj 181 (gj 182 (bN (.gl 183) (.gl 184) (.gl 185))))))))))))
noncomputable abbrev Fv:=Fa [155,186] [1,18] [162,17] (e8 1 18 (.lo 186) (fJ .NotEq 1 bB (bO (cM 162 (cN eZ (fR (gr (.s [63]) 1) (.s [32,69,114,114,111,114]) (eG .Gt 18 aS (bY (.s [32,105,110,32]) gs) bB))))) .n))
noncomputable abbrev Fw:=Fa [155,9,25] [] [187,11] (dN (i5 (gt 25 24 bZ) bB) (cG (cV fN 9) (bz 187 25)) (dN (bX .In 9 fN) (bO (fO fN 27 9)) (eY (gh (.s [85,76]) 9)) .n) .n)
noncomputable abbrev Bx:=Fa [155,21] [62,25,189,158,191] [188,190,159,187] (e8 62 25 (bz 188 21) (aH 189 (cM 190 .n) (dN (bX .In 62 (.lo 189)) (aH 158 (cT 189 (.lo 62)) (bO (.call (.lo 158) (dw 155 25)))) (ci .NotEq (bG bH 24 bZ) bB (aH 191 (jF 144) (bO (fH 159 155 (.call (.lo 191) (ff (bz 187 21)))))) .n) .n)))
noncomputable abbrev OP:=Fa [155,21] [9,71,92,193] [192,194,187] (e8 9 71 (jF 145) (dS 92 192 9 71 (aH 193 (cM 194 (.c fN (fG 9 (.fy (i5 (bG bH 24 bZ) bB) (bz 187 21) bB)))) (iA 155 145 (.fy (.dL .And (fG 193 (bX .IsNot 92 .no))) (d8 92 71) .no) .n))))
noncomputable abbrev OQ:=Fa [155,21] [9,25,199] [195,196,197,198,11,159] (.c (.tr (ci .IsNot (jF 145) .no (cU (gE 195 155 21) (.c .r0 .n)) (e8 9 25 (bz 196 21) (dN (bX .Is 9 .no) (bO (gE 197 155 25)) (bO (cM 198 (gw 155 9 25))) .n))) 11 199 (bO (fH 159 155 (bS (.dr (.lo 199) 1) aS)))) .n)
noncomputable abbrev OR:=Fa [155] [] [200] (ci .Is (jF 145) .no (aF ng) (aF (cM 200 (cN fN (.sub (jF 145) aS)))))
noncomputable abbrev Fx:=Fa [201,202] [203,204] [7,205] (e8 203 204 (.lo 201) (fY (cT 201 bD) (fL jT) (fJ .Lt 204 (eH 203) (aF (.bin .Mod (cI 205 (cT 203 jT)) (.lo 202))) (aF (.bin .Mod (fR (bY (.i 3) (eH 203)) (.bin .Mult (.i 5) jT) (.bin .FloorDiv jT (.i 6))) (.lo 202))))))
noncomputable abbrev OS:=Fa [201] [] [206] (aF (gX (.c (.i 10) (.c (.i 20) (bN (.i 30) (.i 45) (.i 60)))) (eJ 5)))
noncomputable abbrev OT:Fn:=⟨[201,207],(mL [201,207,54,55,208,21] (VE [210,211] (UY [209,206,17,19] []))),(gL (gw 54 55 208) (bN (bz 209 201) (bz 209 201) (eJ 4)) (aH 21 (cV (.li (.c (cw 17 54) (bN (bY (cw 17 54) (.s [45])) (bY (.s [45]) (cw 17 55)) (fR (cw 17 54) (.s [45]) (cw 17 55))))) 208) (fY (bS (.ce 210) (.ce 211)) (bS (cV (.li (fX 54 (fX 54 (gh aS 54)))) 208) (cV (.li (fX 54 (.c (.i 99999) (dw 55 55)))) 208)) (aF (.tu (fG 21 (.comp eF eF (cI 19 e7) (ff (oo (.fr 210) eF (.fr 211))) (mL [20,18] (Vw [211,210] [])))))))))⟩
noncomputable abbrev yZ:=Fa [201,207] [18,111,21] [209,206,187,17] (gL (dw 18 111) (cN (bz 209 201) (eJ 4)) (aH 21 (cV (.li (fQ [69,78,68] (bN (.s [114,101,109,32,97,98,99]) (.s [115,116,111,112]) bB))) 111) (dN (bX .NotEq 21 bB) (cG (cV e7 18) (bz 187 21)) (dN (bX .In 18 e7) (bO (fO e7 27 18)) (bO (bG (fK gV) 67 vj)) .n) (aF (fR (bY (gX (cN bB (.s [32,32])) (eJ 2)) gs) bZ bH)))))
noncomputable abbrev OU:Fn:=⟨[201,207],(mL [201] (VE [207] (mL [212,21] (VE [213] (UY [206,214,29] []))))),(aH 212 (gM (eJ 2) aS) (fY (.tu (fG 21 (.ce 213))) (fH 214 201 (.ce 207)) (dN (.lo 212) (cG (fP gV) (bY (fP gV) (.comp (fR gs bZ (cV (.sub i6 j7) 18)) eF (.ce 213) .n (mL [20,18] (UY [17] (Vw [207] [])))))) (dN (gM (.ce 213) dO) (bO (bG (fP gV) 67 vk)) (cG (fP j7) (cI 29 (.comp (.tu (fG 18 (cV (.sub i6 j7) 18))) eF (fP j7) (ff (bX .NotIn 18 (.fr 213))) (mL [20,18] (Vw [213,207] []))))) .n) (aF (bY (gX (cN (.s [76,73,83,84,32]) (.s [100,101,108,101,116,101,32])) (.fy (.lo 212) aS bD)) bH)))))⟩
noncomputable abbrev Fy:=Fa [201,207] [62,31,216] [206,29,153] (gL (dw 62 31) (cN (gX (fQ [83,65,86,69] (bN (.s [108,111,97,100]) (.s [77,69,82,71,69]) (.s [75,73,76,76]))) (eJ 4)) (.sub (.s [70,71]) (eJ 2))) (dN (bX .Eq 62 (.s [83,65,86,69])) (cG (cV (fK oi) 31) (cI 29 (.lits 153 215 e7))) (dN (bX .NotIn 31 (fK oi)) (bO (bG (fK gV) 67 (.s [63,70,70,32,69,114,114,111,114]))) (dN (bX .Eq 62 (.s [75,73,76,76])) (bO (fO (fK oi) 27 31)) (aH 216 (eG .Eq 62 (.s [108,111,97,100]) dO (.lits 153 215 e7)) (cG e7 (cI 29 (bY (.lo 216) (.lits 153 215 (cV (fK oi) 31)))))) .n) .n) (aF (bY (.lo 62) (gX (cN (gr bZ 31) (bY (gr (.s [32,34]) 31) gY)) (eJ 2))))))
noncomputable abbrev OV:Fn:=⟨[201,207],(mL [201] (VE [207,41,217] (mL [218] (UY [206,19,29,74,17] [])))),(fY (bS (.ce 41) (.ce 217)) (bS (gX (bN (.i 100) (.i 5) bD) (eJ 3)) (gX (bN (.i 10) bD aS) (eJ 3))) (dN (gM (.ce 217) aS) (bO (bG (fP gV) 67 vk)) (aH 218 (.comp (cV (.sub i6 j7) 18) eF (cI 19 (fP j7)) .n (mL [20,18] (Vw [207] []))) (cG (fP j7) (cI 29 (.comp (fM (bY (.fr 41) (.bin .Mult (.fr 217) bk)) 5) (d8 6 5) (cw 74 218) .n (mL [20,6,5] (Vw [41,217] [])))))) (aF (fR (bY (.s [82,69,78,85,77,32]) (cI 17 (.ce 41))) (.s [44,44]) (cI 17 (.ce 217))))))⟩
noncomputable abbrev JY:=Fa [201,207] [111,18] [206,209,17,29,153] (gL (dw 111 18) (cN (eJ 4) (bz 209 201)) (cO 111 (.i 3) (fY e7 dc (aF (.s [78,101,119]))) (dy (dP .Eq 111 bD (bX .NotIn 18 e7)) (cU (bG (fK gV) 67 vj) (aF (bY (.s [82,85,78,32]) gs))) (fY (fK kq) (gX (bN (bS bB aS) (bS (.s [68,90]) (.i 20)) (bS iC aS)) (eJ 3)) (fY (fK gV) (bY (fK gV) (gX (bN dO (iE (.s [63,68,90,32,69,114,114,111,114,32,105,110,32,50,48])) (iE (.s [63,83,78,32,69,114,114,111,114]))) (bG (.li (bN bB (.s [68,90]) iC)) 47 (.sub (fK kq) aS)))) (cO 111 (.i 2) (cU (bG (fK qU) 67 (.s [83,84,79,80])) (aF (.s [32,32,115,116,111,112]))) (cU (bG (fK qU) 67 (bS (cI 29 (.lits 153 215 e7)) (eG .Eq 111 bD eF .no))) (aF (eG .Eq 111 bD (bY (.s [82,85,78,32]) gs) (.s [114,117,110]))))))))))
noncomputable abbrev OW:=Fa [201,207] [54,217,219,220,18,204,222,21] [209,206,17,221,187] (gL (dw 54 217) (cN (bz 209 201) (gX (cN (.i 10) (.i 25)) (eJ 2))) (gL (gw 219 220 18) (.c (iE (fR (bY (.s [65,85,84,79,32]) (cw 17 54)) (.s [44]) (cw 17 217))) (gh (iE ng) 54)) (.c (.fo jT (cI 221 (bY bD (eJ 3))) (aH 222 (bX .In 18 e7) (cU (gt 220 67 (bY gs (.fy (.lo 222) (.s [42]) bZ))) (aH 21 (gX (cN (.s [101,110,100]) bB) (eJ 2)) (cU (fO (.lo 219) 67 21) (dN (bX .NotEq 21 bB) (cG (cV e7 18) (bz 187 21)) (dy (.UT (.lo 222)) (aF (d8 219 220)) .n) (aH 18 (gr eF 217) .n))))))) (cU (gt 220 67 (bY gs (eG .In 18 e7 (.s [42]) bZ))) (cU (gt 219 67 bB) (gi (bX .In 18 e7) (aH 18 (gr eF 217) (cU (gt 220 67 (bY gs (eG .In 18 e7 (.s [42]) bZ))) (bO (gt 219 67 bB)))) (d8 219 220)))))))
noncomputable def sa:e0 Fn:=[f1,f1,f2,f3,f4,Wc,Wx,Wy,f8,WU,NY,NZ,N0,JO,N1,N2,JP,JQ,JR,N3,N4,N5,N6,N7,N8,N9,Oa,JS,Ob,JT,JU,Oc,f32,Od,Oe,Of,Og,JV,Oh,Oi,Oj,Ok,Ol,Om,On,Oo,Op,Oq,Ot,Ou,Ov,Ow,Ox,Oy,f1,Bw,Oz,ou,OA,JW,OB,OC,JX,OD,f64,OE,OF,OG,OH,OI,OJ,Fu,OK,OL,OM,ON,OO,Fv,Fw,Bx,OP,OQ,OR,Fx,OS,OT,yZ,OU,Fy,OV,JY,OW]
end
section
end
variable{l vs l':e0 V}{m M kk nd:e5}{v' va vb:V}{B:Ss}{d:e0 (Key×V)}{op op':Lc}{w:Mt}{t g:X}{ai au eV:aZ}{ys:Xs}{j:hA}
section
set_option backward.match.sparseCases false
set_option genInjectivity false
noncomputable def n0:UP:=⟨242,236,237,215,11⟩
structure Z where
 p:P
 prog:ih
 w:jo
 aa:kb
 nm:e5->jg
 gl:e0 (jg×V)
 G:gU p prog w aa nm n0 T0 gl
 RR:r8 p prog w aa nm n0
 TR:∀ d,yK p prog w aa nm n0 T0 d
 L:All p aa nm n0 T0 sa
structure Fm where
 c:VK
 K:UE
 d:e5
section
variable (z:Z)(F:Fm)
noncomputable def Z.R (C:Cfg):Prop:=UU z.nm n0 C F.c F.K F.d
noncomputable def Z.T (C:Cfg):Prop:=z.R F C/\We C
noncomputable def TB (ρ:aZ)(σ:H)(x:X)(v:V)(ae:H):Prop:=∀ C,z.R F C->x.wf T0 n0 F.K=true->∀ {t},Ev z.p z.prog z.w z.aa C ρ (hF (x.e z.nm t) C.env) σ v ae
noncomputable def bV (ρ:aZ)(σ:H)(xs:Xs)(vs:e0 V)(ae:H):Prop:=∀ C pos,z.R F C->xs.wf T0 n0 F.K=true->∀ {l},jY z.p z.prog z.w z.aa C ρ (pp (la pos (hu (xs.es z.nm l) C.env))) σ vs ae
noncomputable def TD (ρ:aZ)(σ:H)(x:X)(b:jW)(ae:H):Prop:=∀ C,z.R F C->x.wf T0 n0 F.K=true->∀ {t},Tv z.p z.prog z.w z.aa C ρ (qQ (x.e z.nm t) C.env (hF (x.e z.nm t) C.env)) σ b ae
noncomputable def Ug (ρ:aZ)(σ:H)(tgt x:X)(I:It)(ae:H):Prop:=∀ C (md:e5->jW),z.R F C->x.wf T0 n0 F.K=true->(∀ m,I=.keys m->md m=false)->∀ {u t},fD z.p z.prog z.w z.aa C ρ md (tgt.e z.nm u) (x.e z.nm t) σ ae I.nx
noncomputable def DA (ρ:aZ)(σ:H)(x:X)(v:V)(am:aZ)(ae:H):Prop:=∀ C,z.R F C->x.wf T0 n0 F.K=true->∀ {t},Ue z.p z.prog z.w z.aa C (rl (x.e z.nm t) C.env) v ρ σ am ae
noncomputable def TF (ρ:aZ)(σ:H)(s:S)(f:Uk)(am:aZ)(ae:H):Prop:=∀ C,z.T F C->s.wf T0 n0 F.K=true->∀ {t},TZ z.p z.prog z.w z.aa C (s0 (s.s z.nm t) C.env) ρ σ f am ae
noncomputable def DB (ρ:aZ)(σ:H)(b:Ss)(f:Uk)(am:aZ)(ae:H):Prop:=∀ C,z.T F C->b.wf T0 n0 F.K=true->∀ {t},TZ z.p z.prog z.w z.aa C (execs (b.ss z.nm t) C.env) ρ σ f am ae
noncomputable def U1 (ρ:aZ)(σ:H)(I:It)(i:e5)(t:X)(b:Ss)(f:Uk)(am:aZ)(ae:H):Prop:=∀ C,z.T F C->t.wf T0 n0 F.K=true->b.wf T0 n0 F.K=true->∀ {u l},VJ z.p z.prog z.w z.aa C I.nx (t.e z.nm u) (b.ss z.nm l) i ρ σ f am ae
noncomputable def ie (ρ:aZ)(σ:H)(M:e5)(I:It)(i:e5)(t:X)(ifs:Xs)(elt:X)(am:aZ)(ae:H):Prop:=∀ C,z.R F C->t.wf T0 n0 F.K=true->ifs.wf T0 n0 F.K=true->elt.wf T0 n0 F.K=true->∀ {u l v},Vt z.p z.prog z.w z.aa C M I.nx (t.e z.nm u) (ifs.es z.nm l) (elt.e z.nm v) i ρ σ am ae
noncomputable def TK (d:e5)(hn:gN e5)(lk:e0 e5)(k:e5)(args:e0 V)(σ:H)(v:V)(ae:H):Prop:=∀ md:e5->jW,(∀ m,lk.contains m=false->md m=true)->x6 z.p z.prog z.w z.aa md hn d k args σ v ae
end
section
variable{z:Z}{F:Fm}{a b e:X}{v:V}{x k:e5}
theorem TB.no:TB z F ρ σ .no .none σ:=λC R a=>Ev.none
theorem TB.i{i:hA}:TB z F ρ σ (.i i) (.int i) σ:=λC R a=>Ev.int
theorem TB.bo{i:jW}:TB z F ρ σ (.bo i) (.bool i) σ:=λC R a=>Ev.bool
theorem TB.s{l:e0 e5}:TB z F ρ σ (.s l) (.str l) σ:=λC R a=>Ev.str (by exact rfl)
theorem TB.lo (h:ρ.lookup x=some v):TB z F ρ σ (.lo x) v σ:=λC R a=>yI z.G R (wq a) h
theorem TB.ce (h:F.c.cm.lookup x=some k)(h2:σ[k]?=some (.cell (some v))):TB z F ρ σ (.ce x) v σ:=λC R a {b}=>by
 replace a:=wq a;exact r7 z.G R a.1 (.inl a.2) h h2
theorem TB.fr (h:F.c.cm.lookup x=some k)(h2:σ[k]?=some (.cell (some v))):TB z F ρ σ (.fr x) v σ:=λC R a {b}=>by
 replace a:=wq a;exact r7 z.G R a.1 (.inr a.2) h h2
theorem gZ (R:z.R F C)(h:x<n0.N)(hk:F.K.lookup x=some .globalImplicit):C.env.kindOf (z.nm x)=some .globalImplicit:=by
 have:=R.kind x _ h hk;simpa using this
theorem TB.gl (h:T0.gl.lookup x=some v):TB z F ρ σ (.gl x) v σ:=λC R a {b}=>by
 replace a:=wq a;exact Ev.global z.G.B R.ok (gZ R a.1 a.2) (z.G.E1 _ _ h) (z.G.jE x a.1)
theorem TB.fy (h1:TD z F ρ σ t o U)(h2:TB z F ρ U (bif o then a else b) v af):TB z F ρ σ (.fy t a b) v af:=λC R c {d}=>by
 replace c:=w3 c;refine Ev.fy (b:=o) (h1 C R c.1.1) ?_;cases o
 .exact h2 C R c.2
 .exact h2 C R c.1.2
theorem TB.li (h:bV z F ρ σ xs vs U)(a:vs.length<=sz):TB z F ρ σ (.li xs) (.h U.length) (U++[.list vs]):=λC R b=>Ev.list (h C _ R b) (nZ a)
theorem TB.tu (h:bV z F ρ σ xs vs U)(a:vs.length<=sz):TB z F ρ σ (.tu xs) (.tup vs) U:=λC R b=>Ev.tuple (h C _ R b) (nZ a)
theorem TB.call (h1:TB z F ρ σ g (.fn k) U)(h2:bV z F ρ U xs vs af)(h:TK z F.d F.c.hn F.c.lk k vs af v ao):TB z F ρ σ (.call g xs) v ao:=λC R a {b}=>by
 replace a:=w3 a;exact Ev.call z.G.B R.ok R.dep R.qK (h1 C R a.1.1) (h2 C _ R a.1.2) (R.hn▸h C.md R.md) (cJ) (gy a.2 _ _)
theorem bV.n:bV z F ρ σ .n [] σ:=λC pos R a=>jY.nil
theorem bV.c (h1:TB z F ρ σ a v U)(h2:bV z F ρ U xs vs af):bV z F ρ σ (.c a xs) (v::vs) af:=λC pos R b {d}=>by
 replace b:=w2 b;exact jY.cons (h1 C R b.1) (h2 C _ R b.2) (d7 _)
theorem TD.UT (h:TD z F ρ σ a o U):TD z F ρ σ (.UT a) (!o) U:=λC R b=>Tv.not (h C R b)
theorem TD.lo (h:ρ.lookup x=some (.bool o)):TD z F ρ σ (.lo x) o σ:=λC R a=>Tv.of (yI z.G R (wq a) h) V6.bool rfl
theorem TD.call (h:TB z F ρ σ (.call g xs) (.bool o) U):TD z F ρ σ (.call g xs) o U:=λC R a=>Tv.of (h C R a) V6.bool (by rfl)
theorem TD.gz (h:TD z F ρ σ a false U):TD z F ρ σ (.dL .And (.c a xs)) false U:=λC R b=>Tv.dL (by
 replace b:=w2 b;exact Tv.xZ (h C R b.1))
theorem TD.fS (h:TD z F ρ σ a true U)(h2:TD z F ρ U b o af):TD z F ρ σ (.dL .And (.c a (.c b .n))) o af:=λC R c=>Tv.dL (by
 replace c:=w2 c;refine Tv.tz (h C R c.1) ?_;cases o
 .exact Tv.xZ (h2 C R (w2 c.2).1)
 .exact Tv.tz (h2 C R (w2 c.2).1) Tv.xY)
set_option tactic.hygienic true in
theorem DB.n:DB z F ρ σ .n .next ρ σ:=λC R a=>TZ.nil
set_option tactic.hygienic true in
theorem DB.c{s:S}{b:Ss}{f:Uk}(h1:TF z F ρ σ s .next ai U)(h2:DB z F ai U b f au af):DB z F ρ σ (.c s b) f au af:=λC R a {d}=>by
 replace a:=w2 a;exact TZ.cons (h1 C R a.1) (h2 C R a.2)
theorem DB.r (h1:TF z F ρ σ s (.ret v) ai U):DB z F ρ σ (.c s f) (.ret v) ai U:=λC R a {b}=>by
 replace a:=w2 a;exact TZ.stop (h1 C R a.1) (by intro h;cases h)
set_option tactic.hygienic true in
theorem TF.ex (h:TB z F ρ σ a v U):TF z F ρ σ (.ex a) .next ρ U:=λC R b {c}=>by
 replace b:=w2 b;exact TZ.EY (h C R.1 b.1) (pU R.1) (iN b.2 _ _)
theorem TF.re (h:TB z F ρ σ a v U):TF z F ρ σ (.re a) (.ret v) ρ U:=λC R b=>TZ.ret (h C R.1 b)
theorem TF.r0:TF z F ρ σ .r0 (.ret .none) ρ σ:=λC R a=>TZ.IU
theorem TF.iff{l m:Ss}(h1:TD z F ρ σ t o U)(h2:DB z F ρ U (bif o then l else m) f ai af):TF z F ρ σ (.iff t l m) f ai af:=λC R a {b}=>by
 replace a:=w3 a;refine TZ.iff (b:=o) (h1 C R.1 a.1.1) ?_;cases o
 .exact h2 C R a.2
 .exact h2 C R a.1.2
theorem TF.aP (hn:e.il=true)(h1:TB z F ρ σ e v U):TF z F ρ σ (.asg (.lo x) e) .next (aB ρ x v) U:=λC R a {b}=>by
 replace a:=w3 a;exact TZ.jv (x:=0) (h1 C R.1 a.1.2) (Ue.lQ (c9 z.G R.1 (wq a.1.1)) λy u h=>by rw[du]at h;exact h) (iN hn _ _)
theorem ie.done{ifs:Xs}(h:I.nx i σ=some none):ie z F ρ σ M I i t ifs e ρ σ:=λC R a a a=>.done h
theorem ie.take (h:I.nx i σ=some (some v))(m:DA z F ρ σ t v ai U)(f:TD z F ai U a true af)(h2:TB z F ai af e v' ao)(j:ao[M]?=some (.list l))(k:l.length<=sz)(g:ie z F ai (ao.set M (.list (l++[v']))) M I (i+1) t (.c a .n) e au bt):ie z F ρ σ M I i t (.c a .n) e au bt:=
 λC R c d w3 {b b b}=>by
 exact .take h (m C R c) (Tv.uO (f C R (w2 d).1)) (h2 C R w3) j (nZ k) (g C R c d w3)
theorem ie.skip{M i:e5}{I:It}{bt:H}(h:I.nx i σ=some (some v))(j:DA z F ρ σ t v ai U)(g:TD z F ai U a false af)(f:ie z F ai af M I (i+1) t (.c a .n) e au bt):ie z F ρ σ M I i t (.c a .n) e au bt:=
 λC R c d w3 {b b b}=>by
 exact .skip h (j C R c) (Tv.uO (g C R (w2 d).1)) (f C R c d w3)
theorem ie.y5 (h:I.nx i σ=some (some v))(f:DA z F ρ σ t v ai U)(h2:TB z F ai U e v' ao)(c:ao[M]?=some (.list l))(d:l.length<=sz)(b:ie z F ai (ao.set M (.list (l++[v']))) M I (i+1) t .n e au bt):ie z F ρ σ M I i t .n e au bt:=
 λC R a w2 w3=>.take h (f C R a) Tv.A5 (h2 C R w3) c (nZ d) (b C R a w2 w3)
theorem DA.lo:DA z F ρ σ (.lo x) v (aB ρ x v) σ:=λC R a=>Ue.name (Ue.lQ (c9 z.G R (wq a)) λy u h=>by rw[du]at h;exact h)
theorem Ug.list (hn:F.c.hn=none)(h:TB z F ρ σ a (.h n) U)(c:U[n]?=some (.list l)):Ug z F ρ σ t a (.list n) U:=λC md R b hk=>
 fD.of (h C R b) (Iter.list (R.ok.handled (by rw[R.hn];exact hn)) c)
noncomputable abbrev VT (k:e5)(args:e0 V)(σ:H)(cm:e0 (e5×e5))(a:aZ)(b:H)(B:Ss)(sc:UE):Prop:=(sa[k]?.map λD=>(D.ps.length,D.cells.zip (sF σ.length D.cells.length),(D.ps.zip args).reverse.filter λq=>!D.cells.contains q.1,σ++D.cells.map λx=>TH.cell ((D.ps.zip args).reverse.lookup x),D.body,D.sc))=some (args.length,cm,a,b,B,sc)
noncomputable abbrev VU (k:e5)(args:e0 V)(a:aZ)(B:Ss)(sc:UE):Prop:=(sa[k]?.map λD=>(D.ps.length,D.cells,(D.ps.zip args).reverse,D.body,D.sc))=some (args.length,[],a,B,sc)
theorem VU.E (o:VU k args n B sc):VT k args σ [] n σ B sc:=by
 obtain⟨D,h,e⟩:=hI.mp o;injection e with a e;injection e with b e;injection e with c e;injection e with e f;refine hI.mpr ⟨D,h,?_⟩;rw[b,a,c,e,f,s4,j6];exact hC (λx=>(args.length,[],x,σ,B,sc)) (tB.mpr λd d=>rfl)
theorem TK.of{d:e5} cm aN σ₀ (o:VT k args σ cm aN σ₀ B sc)(h:DB z ⟨⟨cm,lk,hn⟩,sc,d⟩ aN σ₀ B f am ae):TK z (d+1) hn lk k args σ f.val ae:=λmd t=>by
 obtain⟨D,w,e⟩:=hI.mp o;injection e with hl e;injection e with g e;injection e with m e;injection e with c e;injection e with l h5;subst g;subst m;subst c;subst l;subst h5;obtain⟨j,a0,o,fd,a⟩:=z.L.ok k D w;have b:=vh z.G j a;refine av a.body λx n=>?_;refine x6.cells (am:=am) z.G.B a.fa a.ho a.hd a.cr n b.ns (λws h=>a.bind ws (h.trans hl.symm)) b.fp b.nd b.kd b.Xh a.glob a.blt a.ic a.co a.gen a.kind λC u q g m v p c l=>?_;have s:D.body.wf T0 n0 D.sc=true:=(Va j).1.1.1;exact h C ⟨pW z.G j a t u q g m p c l,v⟩ s
end
inductive Fz where
 |bn (o:K6)
 |cm (o:Lc)
noncomputable def Fz.f:Fz->fB->fB->FD fB
 | .bn o=>y1 o
 | .cm o=>n2 o
noncomputable def TC (z:Z)(F:Fm)(f:Fz)(a b:V)(σ:H)(v:V)(ae:H):Prop:=∀ C,z.R F C->bL z.p z.prog z.w z.aa C f.f a b σ v ae
noncomputable def T9 (z:Z)(F:Fm)(a b:V)(σ:H)(v:V):Prop:=∀ C,z.R F C->bL z.p z.prog z.w z.aa C yd a b σ v σ/\∃ T id,jx σ a=some T/\t4 (.type T) "__getitem__"=pure (some (.builtin id))
noncomputable def S2 (z:Z)(F:Fm)(a b v:V)(σ ae:H):Prop:=∀ C,z.R F C->ma z.p z.prog z.w z.aa C a b v σ ae
noncomputable def B1 (z:Z)(F:Fm)(b:Vu)(vs:e0 V)(σ:H)(v:V)(ae:H):Prop:=∀ C,z.R F C->Bi z.p z.prog z.w z.aa C b.val vs σ v ae
noncomputable def M2 (z:Z)(F:Fm)(m:Mt)(a:V)(vs:e0 V)(σ:H)(v:V)(ae:H):Prop:=∀ C,z.R F C->∃ T id,QW T/\Slot T m.nm id/\QX (.builtin id)=pure (.type "method_descriptor")/\jx σ a=some T/\T≠"tuple"/\Bi z.p z.prog z.w z.aa C (.builtin id) (a::vs) σ v ae
section
variable{z:Z}{F:Fm}{v:V}{n:e5}{i:hA}{x y:e0 e5}{key:Key}
theorem Z.R.no (R:z.R F C)(hn:F.c.hn=none):C.hn=none:=by rw[R.hn];exact hn
theorem Z.R.hd (R:z.R F C)(hn:F.c.hn=none):C.A.handled=none:=R.ok.handled (R.no hn)
theorem TC.fg:TC z F (.bn .Add) (.int i) (.int j) σ (.int (i+j)) σ:=λC R=>bL.add
theorem TC.ow:TC z F (.bn .Sub) (.int i) (.int j) σ (.int (i -j)) σ:=λC R=>bL.sub
theorem TC.se (h:i.natAbs<4294967296)(h2:j.natAbs<4294967296):TC z F (.bn .Mult) (.int i) (.int j) σ (.int (i*j)) σ:=λC R=>bL.mul (.of_left (nR h))
theorem TC.DC (h:0<j):TC z F (.bn .Mod) (.int i) (.int j) σ (.int (i.fmod j)) σ:=λC R=>bL.mod (by exact ym h)
theorem TC.FA (e:0<=i)(h1:i<1000000000)(h2:0<j)(a:j<1000000000):TC z F (.bn .FloorDiv) (.int i) (.int j) σ (.int (i.fdiv j)) σ:=λC R ι s wa wb Q E r ra c b=>by
 refine ra.bW λt=>?_;refine c.bW λd=>?_;exact floordiv_int (by exact ym h2) (b ι s.heap _ _ r (.refl ..) (.int _ _)) (Or.inl (NT (by exact na (k:=999999999) (Dd h2) (EO a) rfl)))
theorem TC.cD (h:x.length+y.length<=sz):TC z F (.bn .Add) (.str x) (.str y) σ (.str (x++y)) σ:=λC R=>bL.cD h
theorem TC.rV (h1:σ[n]?=some (.list l))(h2:σ[m]?=some (.list l'))(h:l.length+l'.length<=sz):TC z F (.bn .Add) (.h n) (.h m) σ (.h σ.length) (σ++[.list (l++l')]):=λC R=>bL.rV h1 h2 h
theorem TC.cmp (h:jA op a b σ=some o):TC z F (.cm op) a b σ (.bool o) σ:=λC R=>bL.cmp z.G.B R.ok h
theorem TC.Uw{P:Prop}{i:Bg P}(e:jA op a b σ=some (decide P))(h:P):TC z F (.cm op) a b σ (.bool true) σ:=TC.cmp (e.trans (hC some (h8 h)))
theorem TC.Uh{P:Prop}{i:Bg P}(e:jA op a b σ=some (decide P))(h:¬P):TC z F (.cm op) a b σ (.bool false) σ:=TC.cmp (e.trans (hC some (je h)))
theorem TC.V8{P:Prop}{i:Bg P}(e:jA op a b σ=some (!decide P))(h:¬P):TC z F (.cm op) a b σ (.bool true) σ:=TC.cmp (e.trans (hC (λx=>some (!x)) (je h)))
theorem TC.Xi{P:Prop}{i:Bg P}(e:jA op a b σ=some (!decide P))(h:P):TC z F (.cm op) a b σ (.bool false) σ:=TC.cmp (e.trans (hC (λx=>some (!x)) (h8 h)))
theorem TC.inD (hk:b=key.v)(h:σ[n]?=some (.dict d)):TC z F (.cm .In) b (.h n) σ (.bool (atK d key).isSome) σ:=λC R=>by subst hk;exact bL.inDict z.G.B.sys h
theorem TC.ms (hk:b=key.v)(h:σ[n]?=some (.dict d)):TC z F (.cm .NotIn) b (.h n) σ (.bool (!(atK d key).isSome)) σ:=λC R=>by subst hk;exact bL.tH z.G.B.sys h
theorem T9.str (h:x[k]?=some c)(h2:k<4294967296):T9 z F (.str x) (.int k) σ (.str [c]):=λC R=>⟨bL.A8 (by exact h3 _) (iW.mpr (hO h2 J)) (by rw[kT (by exact h3 _) (by exact(e4.mp h).1)];simpa using h),"str",_,rfl,qF⟩
theorem T9.tup{k:e5}(h:l[k]?=some v)(h2:k<4294967296):T9 z F (.tup l) (.int k) σ v:=λC R=>⟨bL.A7 (g7 J (h3 k)) (iW.mpr (hO h2 J)) (kT (by exact h3 _) (by exact(e4.mp h).1)) (by exact h),"tuple",_,rfl,nS⟩
theorem T9.list (e:σ[n]?=some (.list l))(h:l[k]?=some v)(h2:k<4294967296):T9 z F (.h n) (.int k) σ v:=λC R=>⟨bL.yh e (by exact h3 _) (iW.mpr (hO h2 J)) (by exact h),"list",_,ik e,slot_list_getitem.lookup⟩
theorem T9.dict (hk:b=key.v)(e:σ[n]?=some (.dict d))(h:atK d key=some v):T9 z F (.h n) b σ v:=λC R=>by subst hk;exact⟨bL.yi z.G.B.sys e h,"dict",_,m6 e,slot_dict_getitem.lookup⟩
theorem S2.list (e:σ[n]?=some (.list l))(h:k<l.length)(h2:k<4294967296)(a:F.c.lk.contains n=false):S2 z F (.h n) (.int k) v σ (σ.set n (.list (l.set k v))):=λC R=>by
 have:=ma.list (p:=z.p) (prog:=z.prog) (w:=z.w) (aa:=z.aa) (C:=C) (v:=v) e (h3 k) (by lia) (by exact h) (R.md _ a);simpa using this
theorem S2.dict (hk:b=key.v)(e:σ[n]?=some (.dict d))(h:d.length<=sz)(a:F.c.lk.contains n=false):S2 z F (.h n) b v σ (σ.set n (.dict (putK d key v))):=λC R=>by subst hk;exact ma.dict z.G.B.sys e h (R.md _ a)
theorem B1.c8 (h:x.length<=sz):B1 z F .len [.str x] σ (.int x.length) σ:=λC R=>Bi.c8 (tO h)
theorem B1.kQ (e:σ[n]?=some (.list l))(h:l.length<=sz):B1 z F .len [.h n] σ (.int l.length) σ:=λC R=>Bi.kQ e (tO h)
theorem B1.yj (e:σ[n]?=some (.dict d))(h:d.length<=sz):B1 z F .len [.h n] σ (.int d.length) σ:=λC R=>Bi.yj z.G.B.sys e (tO h)
theorem B1.sorted (hn:F.c.hn=none)(e:σ[n]?=some (.dict d))(hk:d.map (λa=>a.1)=ks.map Key.int)(h:ks.length<64):B1 z F .sorted [.h n] σ (.h σ.length) (σ++[.list ((iw ks).map V.int)]):=λC R=>Bi.yk z.G.B.sys R.ok (R.no hn) e hk h
theorem B1.ord:B1 z F .ord [.str [c]] σ (.int c) σ:=λC R=>Bi.ord
theorem B1.chr (a:0<=i)(h:i<=1114111):B1 z F .chr [.int i] σ (.str [i.toNat]) σ:=λC R=>Bi.chr (by simp only[hP,qT];exact⟨mm.mpr a,mm.mpr h⟩)
theorem B1.abs:B1 z F .abs [.int i] σ (.int (if i<0 then -i else i)) σ:=λC R=>Bi.abs
theorem B1.min (hn:F.c.hn=none):B1 z F .min [.int i,.int j] σ (.int (if j<i then j else i)) σ:=λC R=>Bi.min R.ok (R.no hn)
theorem By (h:n<1000000000):n.log2<1920:=by
 by_cases a:n=0
 .subst a;decide
 .exact(Qu a).mpr (hO h (by decide+kernel))
theorem B1.str (h:i.natAbs<1000000000):B1 z F .str [.int i] σ (.str (aG i)) σ:=λC R=>Bi.aG (By h)
theorem B1.nY (hn:F.c.hn=none)(e:σ[n]?=some (.list l))(a:pairsOf l=some ps)(h:ps.length<=sz):B1 z F .dict [.h n] σ (.h σ.length) (σ++[.dict (putAll [] ps)]):=λC R=>Bi.nY R.ok (R.no hn) e a h
theorem B1.lM (e:σ[n]?=some (.dict d))(h:d.length<=sz):B1 z F .dict [.h n] σ (.h σ.length) (σ++[.dict d]):=λC R=>Bi.lM z.G.B.sys e h
theorem B1.list (e:σ[n]?=some (.list l))(h:l.length<=sz):B1 z F .list [.h n] σ (.h σ.length) (σ++[.list l]):=λC R=>Bi.EW e h
theorem M2.append (e:σ[n]?=some (.list l))(h:l.length<=sz)(a:F.c.lk.contains n=false):M2 z F .append (.h n) [v] σ .none (σ.set n (.list (l++[v]))):=λC R=>⟨"list","list.append",uw,MB,MC,ik e,by decide,Bi.append e h (R.md _ a)⟩
theorem M2.extend (e:σ[n]?=some (.list l))(a:σ[m]?=some (.list l'))(h:l.length+l'.length<=sz)(b:F.c.lk.contains n=false):M2 z F .extend (.h n) [.h m] σ .none (σ.set n (.list (l++l'))):=λC R=>⟨"list","list.extend",uw,zO,MD,ik e,by decide,Bi.extend e a h (R.md _ b)⟩
theorem M2.qH (e:σ[n]?=some (.list l))(hs:strsOf l=some b)(hi:b.idxOf? x=some k)(h:l.length<=sz):M2 z F .index (.h n) [.str x] σ (.int k) σ:=λC R=>⟨"list","list.index",uw,A1,Np,ik e,by decide,Bi.qH e hs hi h⟩
theorem M2.qD (hi:x.idxOf? c=some k):M2 z F .index (.str x) [.str [c]] σ (.int k) σ:=λC R=>⟨"str","str.index",m3,NU,NV,rfl,by decide,Bi.qD hi⟩
theorem M2.pop (hk:b=key.v)(e:σ[n]?=some (.dict d))(h:d.length<=sz)(c:atK d key=some v)(a:F.c.lk.contains n=false):M2 z F .pop (.h n) [b] σ v (σ.set n (.dict (fc d key))):=λC R=>by subst hk;exact lD ("dict") ("dict.pop") us DT PN (m6 e) J (Bi.pop z.G.B.sys e h (R.md _ a) c)
theorem M2.get (hk:b=key.v)(e:σ[n]?=some (.dict d)):M2 z F .get (.h n) [b,u] σ ((atK d key).getD u) σ:=λC R=>by subst hk;exact lD ("dict") ("dict.get") us Dy PO (m6 e) J (Bi.Jc z.G.B.sys e)
theorem M2.join (e:σ[n]?=some (.list l))(hs:strsOf l=some b)(h:(dM x b).length+x.length<=sz):M2 z F .join (.str x) [.h n] σ (.str (dM x b)) σ:=λC R=>⟨"str","str.join",m3,PR,PS,rfl,by decide,Bi.join e hs h⟩
theorem M2.strip (h:x.length<=sz):M2 z F .strip (.str x) [.str y] σ (.str (aU y x)) σ:=λC R=>⟨"str","str.strip",m3,NW,NX,rfl,by decide,Bi.strip h⟩
theorem M2.upper (h:x.all (λb=>b<128)=true)(h2:x.length<=sz):M2 z F .upper (.str x) [] σ (.str (x.map λa=>if 97<=a/\a<=122 then a -32 else a)) σ:=λC R=>⟨"str","str.upper",m3,O9,Pa,rfl,by decide,Bi.upper h h2⟩
theorem M2.part (h:x.length<=sz):M2 z F .partition (.str x) [.str [c]] σ (.tup [.str (bR c x).1,.str (bR c x).2.1,.str (bR c x).2.2]) σ:=λC R=>⟨"str","str.partition",m3,LJ,LK,rfl,by decide,Bi.partition h⟩
theorem M2.split (h:x.length<=1000000):M2 z F .split (.str x) [.str [c]] σ (.h σ.length) (σ++[.list ((br c x).map V.str)]):=λC R=>⟨"str","str.split",m3,Pb,Pc,rfl,by decide,Bi.split h⟩
end
section
variable{z:Z}{F:Fm}{a b c e:X}{v:V}{x k n m:e5}{o:jW}
theorem TB.bin{op:K6}(h1:TB z F ρ σ a va U)(h2:TB z F ρ U b vb af)(h:TC z F (.bn op) va vb af v ao):TB z F ρ σ (.bin op a b) v ao:=λC R c {d}=>by
 replace c:=w2 c;exact Ev.binop (h1 C R c.1) (h2 C R c.2) (h C R)
theorem TB.cmp (h1:TB z F ρ σ a va U)(h2:TB z F ρ U b vb af)(h:TC z F (.cm op) va vb af (.bool o) af):TB z F ρ σ (.cmp op a b) (.bool o) af:=λC R c {d}=>by
 replace c:=w2 c;exact Ev.xX (h1 C R c.1) (h2 C R c.2) (h C R) (gQ _)
theorem TB.sub (h1:TB z F ρ σ a va U)(h2:TB z F ρ U b vb af)(h:T9 z F va vb af v):TB z F ρ σ (.sub a b) v af:=λC R c {g}=>by
 replace c:=w2 c;obtain⟨e,j,id,f,d⟩:=h C R;exact Ev.sub (h1 C R c.1) (h2 C R c.2) e f d (Bl)
theorem TB.dr (h1:TB z F ρ σ a (.h n) U)(j:U[n]?=some (.inst kk nd))(g:U[nd]?=some (.ns f))(e:f.lookup x=some v)(d:T0.fq (kk+1) x=true):TB z F ρ σ (.dr a x) v U:=λC R b {k}=>by
 replace b:=w2 b;refine ah (z.G.fq.inst _ _ d) λc h hk=>?_;exact Ev.attr (h1 C R b.1) (tw.getAttr z.G.B j g (z.G.fq.lt _ _ d) e h hk) (n6 b.2 _ _)
theorem TB.JZ (h1:TB z F ρ σ a (.h n) U)(g:U[n]?=some (.gK nd))(e:U[nd]?=some (.ns f))(d:f.lookup x=some v)(c:T0.fq 0 x=true):TB z F ρ σ (.dr a x) v U:=λC R b {h}=>by
 replace b:=w2 b;exact Ev.attr (h1 C R b.1) (tw.wd z.G.B g e (z.G.fq.lt _ _ c) d (z.G.fq.gK _ c)) (n6 b.2 _ _)
theorem TB.bi{w:Vu}(b:T0.bi.lookup x=some w)(h1:bV z F ρ σ xs vs U)(h:B1 z F w vs U v af):TB z F ρ σ (.bi x xs) v af:=λC R a {c}=>by
 replace a:=wr a;exact Ev.bi z.G.B R.ok (gZ R a.1.1 a.1.2) (z.G.bi _ _ b) w.noRef (z.G.jE x a.1.1) (h1 C _ R a.2) (cJ) (h C R)
theorem TB.me (e:T0.me.lookup x=some w)(h1:TB z F ρ σ a va U)(h2:bV z F ρ U xs vs af)(hs:jx U va=jx af va)(h:M2 z F w va vs af v ao):TB z F ρ σ (.me a x xs) v ao:=λC R b {m}=>by
 replace b:=Va b;refine iV (h C R) λk id f j d g c l=>?_;exact Ev.Dh (T:=k) (kX b.1.1.2 _) (u7 (gf b.2)) (ij _) f (z.G.me _ _ e▸j) d (h1 C R b.1.1.1) (hs.trans g) c (h2 C _ R b.1.2) (cJ) l
theorem TB.cE (e:T0.me.lookup x=some w)(h1:TB z F ρ σ a va U)(h2:bV z F ρ U xs vs U)(h:M2 z F w va vs U v ao):TB z F ρ σ (.me a x xs) v ao:=λC R b {m}=>by
 replace b:=Va b;refine iV (h C R) λk id f j d g c l=>?_;exact Ev.Dh (T:=k) (kX b.1.1.2 _) (u7 (gf b.2)) (ij _) f (z.G.me _ _ e▸j) d (h1 C R b.1.1.1) g c (h2 C _ R b.1.2) (cJ) l
theorem TB.UI{l:e0 e5}(h1:TB z F ρ σ a (.str l) U)(h2:TB z F ρ U b (.int k) af)(h:l.length<=sz):TB z F ρ σ (.UI a b) (.str (bg l k l.length)) af:=λC R c {d}=>by
 replace c:=w2 c;exact Ev.Jk (h1 C R c.1) (h2 C R c.2) h
theorem TB.st{l:e0 e5}(h1:TB z F ρ σ a (.str l) U)(h2:TB z F ρ U b (.int k) af)(h:l.length<=sz):TB z F ρ σ (.st a b) (.str (bg l 0 k)) af:=λC R c {d}=>by
 replace c:=w3 c;exact Ev.Jl (h1 C R c.1.1) (h2 C R c.1.2) h
theorem TB.sb{l:e0 e5}{i:e5}(h1:TB z F ρ σ a (.str l) U)(h2:TB z F ρ U b (.int i) af)(e:TB z F ρ af c (.int k) ao)(h:l.length<=sz):TB z F ρ σ (.sb a b c) (.str (bg l i k)) ao:=λC R d {f}=>by
 replace d:=w3 d;exact Ev.Jj (h1 C R d.1.1) (h2 C R d.1.2) (e C R d.2) h
theorem TB.lits{y:e5}(hn:F.c.hn=none)(h1:TB z F ρ σ a (.h n) U)(e:U[n]?=some (.dict d))(m:d.length<=sz):TB z F ρ σ (.lits x y a) (.h U.length) (U++[.list (d.map λg=>.tup [g.1.v,g.2])]):=λC R f {q}=>by
 refine az (w2 f) λf j=>?_
 (refine az (Vv f) λl o=>?_;rcases l with⟨⟨⟨hx,c⟩,p⟩,h⟩)
 cases eq_of_beq p;have k:z.p.bl.lookup (z.nm x)=some (.type "list"):=by
  cases e:T0.bi.lookup x with
  |none=>rw[e]at c;exact UC c
  |some b=>cases b with
   |list=>exact z.G.bi _ _ e
   |_=>rw[e]at c;exact UC c
 exact Ev.lits z.G.B R.ok (R.no hn) (gZ R (gf hx) (eq_of_beq h)) k (z.G.jE _ (gf hx)) z.G.it (h1 C R o) e m (kX j _) (ij _)
theorem TB.lS:TB z F ρ σ (.UO .n .n) (.h σ.length) (σ++[.dict []]):=λC R a=>Ev.EX
theorem TB.J0 (h:TB z F ρ σ a (.bool true) U):TB z F ρ σ (.dL .Or (.c a (.c b xs))) (.bool true) U:=λC R c {d}=>by
 replace c:=w2 c;exact Ev.dL (x:=true) (h C R c.1) ⟨rfl,rfl⟩
theorem TB.OX (h:TB z F ρ σ a (.bool false) U)(h2:TB z F ρ U (.dL .Or (.c b xs)) v af):TB z F ρ σ (.dL .Or (.c a (.c b xs))) v af:=λC R c {d}=>by
 exact Ev.dL (x:=false) (h C R (w2 c).1) (h2 C R (w2 c).2 (t:=.List _ _))
theorem TB.u5{op:SE}(h:TB z F ρ σ a v U):TB z F ρ σ (.dL op (.c a .n)) v U:=λC R b {c}=>by
 replace b:=w2 b;exact Ev.u5 (h C R b.1)
theorem TD.cmp (h1:TB z F ρ σ a va U)(h2:TB z F ρ U b vb af)(h:TC z F (.cm op) va vb af (.bool o) af):TD z F ρ σ (.cmp op a b) o af:=λC R c {d}=>by
 replace c:=w2 c;exact Tv.xX (h1 C R c.1) (h2 C R c.2) (h C R) (gQ _)
theorem TD.oy (h1:TB z F ρ σ a va U)(h2:TB z F ρ U b vb af)(h:TC z F (.cm op) va vb af (.bool true) af)(f:TB z F ρ af c q ao)(g:TC z F (.cm op') vb q ao (.bool o) ao):TD z F ρ σ (.lK op op' a b c) o ao:=λC R d {e}=>by
 replace d:=w3 d;exact Tv.chain (h1 C R d.1.1) (h2 C R d.1.2) (h C R) (λj=>by cases j) (λe=>⟨f C R d.2,g C R⟩) (by exact gQ op')
theorem TD.sg (h1:TB z F ρ σ a va U)(h2:TB z F ρ U b vb af)(h:TC z F (.cm op) va vb af (.bool false) af):TD z F ρ σ (.lK op op' a b c) false af:=λC R d {e}=>by
 replace d:=w3 d;exact Tv.chain (c:=.none) (ao:=af) (h1 C R d.1.1) (h2 C R d.1.2) (h C R) (λe=>⟨rfl,rfl⟩) (λf=>by exact UC f) (by exact gQ op')
theorem TD.FC (h:TD z F ρ σ a true U):TD z F ρ σ (.dL .Or (.c a xs)) true U:=λC R b=>Tv.dL (by
 replace b:=w2 b;exact Tv.Db (h C R b.1))
theorem TD.Bz (h:TD z F ρ σ a false U)(h2:TD z F ρ U b o af):TD z F ρ σ (.dL .Or (.c a (.c b .n))) o af:=λC R c=>Tv.dL (by
 replace c:=w2 c;refine Tv.x5 (h C R c.1) ?_;cases o
 .exact Tv.x5 (h2 C R (w2 c.2).1) Tv.AY
 .exact Tv.Db (h2 C R (w2 c.2).1))
set_option tactic.hygienic true in
theorem TF.ip{kk nd:e5}{d:e0 (e5×V)}(h1:TB z F ρ σ e v U)(h2:TB z F ρ U a (.h n) af)(l:af[n]?=some (.inst kk nd))(g:af[nd]?=some (.ns d))(k:d.length<1000)(f:T0.fq (kk+1) x=true)(h:F.c.lk.contains nd=false):TF z F ρ σ (.asg (.dr a x) e) .next ρ (af.set nd (.ns (aB d x v))):=λC R b {m}=>by
 replace b:=w3 b;refine ah (z.G.fq.inst _ _ f) λc j hk=>?_;exact TZ.nE (h1 C R.1 b.1.2) (h2 C R.1 b.2) (pO.setAttr z.G.B l g (z.G.fq.lt _ _ f) j hk k (R.1.md _ h)) (pR _ _ _ _)
set_option tactic.hygienic true in
theorem TF.fh (h1:TB z F ρ σ e v U)(h2:TB z F ρ U a va af)(d:TB z F ρ af b vb ao)(h:S2 z F va vb v ao bt):TF z F ρ σ (.asg (.sub a b) e) .next ρ bt:=λC R c {f}=>by
 replace c:=w3 c;exact TZ.x9 (h1 C R.1 c.1.2) (h2 C R.1 (w2 c.2).1) (d C R.1 (w2 c.2).2) (h C R.1) (we _ _ _ _)
end
theorem DD{α:Type}{p l:e0 α}{x:α}:(p++x::l)[p.length]?=some x:=by rw[gO (e6 _),xr];rfl
theorem DE{α:Type}{p:e0 α}:(p++[])[p.length]?=none:=by rw[j6];exact lF (e6 _)
theorem DF{α:Type}{t p l:e0 α}{x:α}(e:t=p++x::l):x∈t:=e▸DY _ (.head _)
theorem jl (h:b[r]?=some (.list l)) i:It.nx (.list r) i b=some l[i]?:=by show iY r i b=_;rw[iY,h]
theorem DG{α:Type}{f:α->V}{p l:e0 α}{x:α}(h:σ[n]?=some (.list ((p++x::l).map f))):It.nx (.list n) p.length σ=some (some (f x)):=by rw[jl h,jb,DD];rfl
theorem DH{α:Type}{f:α->V}{p:e0 α}(h:σ[n]?=some (.list ((p++[]).map f))):It.nx (.list n) p.length σ=some none:=by rw[jl h,jb,DE];rfl
theorem DI{t p l:e0 e5}{x:e5}(e:t=p++x::l):It.nx (.str t) p.length σ=some (some (.str [x])):=by show some (t[p.length]?.map λa=>V.str [a])=_;rw[e,DD];rfl
theorem DJ{t p:e0 e5}(e:t=p++[]):It.nx (.str t) p.length σ=some none:=by show some (t[p.length]?.map λa=>V.str [a])=_;rw[e,DE];rfl
end
variable{x y:e5}{ov:gN V}{ps:e0 (Key×V)}{a:X}{ss':Ss}
section
set_option backward.match.sparseCases false
section
variable{w:jo}{nm:e5->jg}{n:UP}{T:Tb}{d:e5}{gl:e0 (jg×V)}{c:VK}{K:UE}
theorem si (S:gU p prog w aa nm n T gl)(R:UU nm n C c K d){elt tgt:X}{ifs:Xs}{l:e0 k8}(ai:(X.comp elt tgt v ifs sc).wf T n K=true)(aD:∀ md:e5->jW,(∀ m,I=.keys m->md m=false)->fD p prog w aa C ρ md (tgt.e nm z) (v.e nm ab) σ U I.nx)(as:(I.lk c.lk).contains U.length=false)(ar:sc.all (λb=>b.2!=.free||(c.cm.lookup b.1).isSome)=true)(ay:∀ t,UU nm n t ⟨c.cm.filter λb=>sc.lookup b.1==some .free,I.lk c.lk,c.hn⟩ sc d->X.wf T n sc tgt=true->Xs.wf T n sc ifs=true->X.wf T n sc elt=true->Vt p prog w aa t U.length I.nx (tgt.e nm z) (ifs.es nm l) (elt.e nm ap) 0 [] (U++[.list []]) am af):
  m0 p prog w aa C ρ σ U af I.nx am (tgt.e nm z) (v.e nm ab) (elt.e nm ap) (ifs.es nm l) (bp nm sc) (I.n7 C.md) (c.cm.filter λb=>sc.lookup b.1==some .free):=by
 (refine az (Vv ai) λaj q=>?_;rcases aj with⟨⟨⟨aL,ao⟩,ae⟩,aw⟩)
 simp only[hE,hw,j8,Bool.or_eq_true,Lw,Lv]at q;have o:∀ b∈sc,b.1<n.N:=λb e=>(q b e).1.1;refine⟨R.ok,aD _ λm f=>It.yH m f,?_,?_,?_,?_,rfl,?_,?_,?_⟩
 .exact λm f=>.inl (It.yG m f)
 .exact It.tQ R.md _ as
 .intro u L au
  exact ay _ (wh S R o (It.tQ R.md) au) ae aw ao
 .exact km
 .intro x hx aq
  (refine ah (h4.mp hx) λb e k=>?_;subst k)
  have:=((q b e).1.2).resolve_left (by simpa using aq);rw[show(bp nm sc).names=eN nm sc from rfl,cS S (o b e) o];exact this
 .intro x hx
  (refine ah (h4.mp hx) λb e k=>?_;subst k)
  exact(q b e).2
 .intro ι m h g
  have aJ:∀ b∈(bp nm sc).names,b.2=.free->∃ a,C.env.cells.lookup b.1=some a:=by
   intro x hx s
   (refine ah (h4.mp hx) λb e k=>?_;subst k)
   have:=hw.mp ar b e;have s:b.2=.free:=s;simp only[s,bne_self_eq_false,FY]at this;refine av (l7.mp this) λm f=>?_;refine ah (g.cells b.1 (nm b.1) m (S.nms _ (o b e)) (by rw[R.cm];exact f)) λa aK ax=>?_;exact⟨a,ax⟩
  refine ah (mr aJ) λu y ak=>?_;refine⟨u,y,λx id m hx f=>?_⟩;refine az (ju (f:=λb=>sc.lookup b==some .free) f) λaA j=>?_;refine⟨by rw[R.cm];exact aA,ak id ⟨(nm x,.free),?_,?_,rfl⟩⟩
  .have j:=dG (eq_of_beq j)
   exact h4.mpr ⟨(x,.free),j,rfl⟩
  .have j:=dG (eq_of_beq j)
   have:=S.nms x (o _ j);rw[hx]at this;exact(fZ this).symm
end
@[reducible] noncomputable def Fm.lock (F:Fm) (I:It):Fm:=⟨⟨F.c.cm,I.lk F.c.lk,F.c.hn⟩,F.K,F.d⟩
section
variable (z:Z)(F:Fm)
noncomputable def oz (ρ:aZ)(σ:H)(ts:Xs)(vs:e0 V)(am:aZ)(ae:H):Prop:=∀ C,z.R F C->ts.wf T0 n0 F.K=true->
 ∀ {l},qt z.p z.prog z.w z.aa C ((mV (ts.es z.nm l) C.env).map (λq=>q.2)) vs ρ σ am ae/\(mV (ts.es z.nm l) C.env).findIdx? (λq=>q.1)=none/\(mV (ts.es z.nm l) C.env).length=vs.length
noncomputable def U2 (ρ:aZ)(σ:H)(ks vs:Xs)(l:e0 (Key×V))(ae:H):Prop:=∀ C pos,z.R F C->ks.wf T0 n0 F.K=true->vs.wf T0 n0 F.K=true->∀ {i j},qI z.p z.prog z.w z.aa C ρ (EU (E3 ((ks.es z.nm i).map some) (vs.es z.nm j) C.env pos)) σ l ae
noncomputable def Vx (ρ:aZ)(σ:H)(t:X)(b:Ss)(f:Uk)(am:aZ)(ae:H):Prop:=∀ C,z.T F C->t.wf T0 n0 F.K=true->b.wf T0 n0 F.K=true->∀ {u l},Wl z.p z.prog z.w z.aa C (t.e z.nm u) (b.ss z.nm l) ρ σ f am ae
noncomputable def sq (ρ:aZ)(σ:H)(x:X)(u t:V)(ae:H):Prop:=∀ C,z.R F C->x.wf T0 n0 F.K=true->∀ {i},nW z.p z.prog z.w z.aa C ρ (hF (x.e z.nm i) C.env) σ u t ae
noncomputable def j0 (ρ:aZ)(σ:H)(s:S)(u t:V)(am:aZ)(ae:H):Prop:=∀ C,z.T F C->s.wf T0 n0 F.K=true->∀ {i},gg z.p z.prog z.w z.aa C (s0 (s.s z.nm i) C.env) ρ σ u t am ae
noncomputable def i8 (ρ:aZ)(σ:H)(b:Ss)(u t:V)(am:aZ)(ae:H):Prop:=∀ C,z.T F C->b.wf T0 n0 F.K=true->∀ {i},gg z.p z.prog z.w z.aa C (execs (b.ss z.nm i) C.env) ρ σ u t am ae
noncomputable def gn (d:e5)(hn:gN e5)(lk:e0 e5)(k:e5)(args:e0 V)(σ:H)(u t:V)(ae:H):Prop:=∀ md:e5->jW,(∀ m,lk.contains m=false->md m=true)->rW z.p z.prog z.w z.aa md hn d k args σ u t ae
noncomputable def VZ (d:e5)(hn:gN e5)(lk:e0 e5)(k:e5)(args:e0 V)(σ:H)(v:V)(ae:H):Prop:=∀ md:e5->jW,(∀ m,lk.contains m=false->md m=true)->Dm z.p z.prog z.w z.aa md hn d k args σ v ae
end
section
variable{z:Z}{F:Fm}{a b c e t g:X}{v va vb u w:V}{x y k n m i:e5}{o:jW}{d:e0 (Key×V)}{s:S}{ss:Ss}{f:Uk}
theorem Ug.keys (hn:F.c.hn=none)(h:TB z F ρ σ a (.h n) U)(c:U[n]?=some (.dict d)):Ug z F ρ σ t a (.keys n) U:=λC md R b hk=>
 fD.of (h C R b) (Iter.keys (R.hd hn) z.G.B.sys c (hk _ rfl))
theorem Ug.str{x:e0 e5}(hn:F.c.hn=none)(h:TB z F ρ σ a (.str x) U)(c:x.all (λd=>d<128)=true):Ug z F ρ σ t a (.str x) U:=λC md R b hk=>
 fD.of (h C R b) (Iter.str (R.hd hn) c)
theorem Ug.range{k:hA}(hn:F.c.hn=none)(f:T0.bi.lookup x=some .range)(h:TB z F ρ σ a (.int k) U)(e:0<=k)(h1:k<=1000000):Ug z F ρ σ t (.bi x (.c a .n)) (.range k) U:=λC md R b hk {c c}=>by
 replace b:=wr b;have d:∀ t,hu [a.e z.nm t] C.env=[(false,hF (a.e z.nm t) C.env)]:=λt=>by rw[d7];rfl
 exact fD.bi z.G.B R.ok (gZ R b.1.1 b.1.2) (z.G.bi _ _ f) (Vu.noRef _) (z.G.jE _ b.1.1) (h C R (w2 b.2).1) (d _) (r4 (R.hd hn) e h1)
theorem Ug.enum (hn:F.c.hn=none)(f:T0.bi.lookup x=some .enumerate)(h:TB z F ρ σ a (.h n) U)(e:U[n]?=some (.list l)):Ug z F ρ σ (.tu xs) (.bi x (.c a .n)) (.enum n) U:=λC md R b hk {c c}=>by
 replace b:=wr b;have d:∀ t,hu [a.e z.nm t] C.env=[(false,hF (a.e z.nm t) C.env)]:=λt=>by rw[d7];rfl
 exact fD.bi z.G.B R.ok (gZ R b.1.1 b.1.2) (z.G.bi _ _ f) (Vu.noRef _) (z.G.jE _ b.1.1) (h C R (w2 b.2).1) (d _) (tM (R.hd hn) e ⟨_,_,_,rfl⟩)
set_option tactic.hygienic true in
theorem U1.done (h:I.nx i σ=some none):U1 z F ρ σ I i t ss .next ρ σ:=λC R a a=>.done h
set_option tactic.hygienic true in
theorem U1.turn (h:I.nx i σ=some (some v))(b:DA z F ρ σ t v ai U)(c:DB z F ai U ss .next au af)(d:U1 z F au af I (i+1) t ss f eV ao):U1 z F ρ σ I i t ss f eV ao:=λC R a w2=>.turn h (b C R.1 a) (c C R w2) (.inl rfl) (d C R a w2)
theorem U1.cont (h:I.nx i σ=some (some v))(b:DA z F ρ σ t v ai U)(c:DB z F ai U ss .cont au af)(d:U1 z F au af I (i+1) t ss f eV ao):U1 z F ρ σ I i t ss f eV ao:=λC R a w2=>.turn h (b C R.1 a) (c C R w2) (.inr rfl) (d C R a w2)
theorem U1.ret (h:I.nx i σ=some (some v))(a:DA z F ρ σ t v ai U)(c:DB z F ai U ss (.ret w) au af):U1 z F ρ σ I i t ss (.ret w) au af:=λC R b w2=>.ret h (a C R.1 b) (c C R w2)
set_option tactic.hygienic true in
theorem Vx.done (h:TD z F ρ σ t false U):Vx z F ρ σ t ss .next ρ U:=λC R a w2=>.done (h C R.1 a)
set_option tactic.hygienic true in
theorem Vx.turn (h:TD z F ρ σ t true U)(b:DB z F ρ U ss .next ai af)(c:Vx z F ai af t ss f au ao):Vx z F ρ σ t ss f au ao:=λC R a w2=>.turn (h C R.1 a) (b C R w2) (c C R a w2)
theorem Vx.ret (h:TD z F ρ σ t true U)(b:DB z F ρ U ss (.ret v) ai af):Vx z F ρ σ t ss (.ret v) ai af:=λC R a w2=>.ret (h C R.1 a) (b C R w2)
theorem Z.T.lock (R:z.T F C) I:z.T (F.lock I) {C with md:=I.n7 C.md}:=⟨UU.lock R.1 I,R.2⟩
theorem TF.iy (h:Vx z F ρ σ t ss f ai U):TF z F ρ σ (.iy t ss) f ai U:=λC R a {b}=>by
 replace a:=w2 a;exact TZ.while (h C R a.1 a.2)
theorem TF.fo (h:Ug z F ρ σ t e I U)(c:U1 z (F.lock I) ρ U I 0 t ss f ai af):TF z F ρ σ (.fo t e ss) f ai af:=λC R a {d}=>by
 replace a:=w3 a;exact TZ.for (f7:=I.n7 C.md) (λm b=>It.yG m b) (h C _ R.1 a.1.2 λm b=>It.yH m b) (c _ (R.lock I) a.1.1 a.2) (km)
theorem TF.co:TF z F ρ σ .co .cont ρ σ:=λC R a=>TZ.cont
theorem DB.J3 (h:TF z F ρ σ s .cont ai U):DB z F ρ σ (.c s ss) .cont ai U:=λC R a {b}=>by
 replace a:=w2 a;exact TZ.stop (h C R a.1) (by intro h;cases h)
theorem DA.ce (h:F.c.cm.lookup x=some k)(h2:σ[k]?=some (.cell ov))(c:F.c.lk.contains k=false):DA z F ρ σ (.ce x) v ρ (σ.set k (.cell (some v))):=λC R a {d}=>by
 replace a:=wq a;have b:=R.kind _ _ a.1 a.2;simp only[Pd,false_and,Bj]at b;exact Ue.name (Ue.cell R.ok (z.G.nms x a.1) b (by rw[R.cm];exact h) h2 (R.md _ c))
theorem oz.nil:oz z F ρ σ .n [] ρ σ:=λC R a {b}=>⟨.nil,rfl,rfl⟩
theorem oz.cons (h:DA z F ρ σ t v ai U)(d:oz z F ai U xs vs au af):oz z F ρ σ (.c t xs) (v::vs) au af:=λC R a {j}=>by
 replace a:=w2 a;refine eR (d C R a.2 (l:=j.tail)) λc f b=>?_;have e:∀ l,mV ((Xs.c t xs).es z.nm l) C.env=(false,rl (t.e z.nm (l.getD 0 default)) C.env)::mV (xs.es z.nm l.tail) C.env:=λl=>by
  cases t<;>rfl
 rw[e];refine⟨.cons (h C R a.1) c,?_,by exact hC _ b⟩;rw[List.findIdx?_cons];simp[f]
theorem DA.tu (hn:F.c.hn=none)(h:oz z F ρ σ xs vs ai U):DA z F ρ σ (.tu xs) (.tup vs) ai U:=λC R c {e}=>by
 obtain⟨b,d,a⟩:=h C R c;exact Ue.tuple R.ok (by rw[R.no hn];trivial) b d a
theorem DA.OY (hn:F.c.hn=some m)(b:σ[m]?=some (.gK nd))(h:oz z F ρ σ xs vs ai U):DA z F ρ σ (.tu xs) (.tup vs) ai U:=λC R d {f}=>by
 obtain⟨c,e,a⟩:=h C R d;exact Ue.tuple R.ok (by rw[R.hn,hn];exact⟨nd,b⟩) c e a
theorem DA.BA (hn:F.c.hn=none)(d:σ[n]?=some (.list vs))(h:oz z F ρ σ xs vs ai U):DA z F ρ σ (.tu xs) (.h n) ai U:=λC R c {f}=>by
 obtain⟨b,e,a⟩:=h C R c;exact Ue.list R.ok (R.no hn) d b e a
set_option tactic.hygienic true in
theorem TF.dI (h1:TB z F ρ σ e v U)(b:DA z F ρ U (.tu xs) v ai af)(hn:e.Dk=true:=by rfl):TF z F ρ σ (.asg (.tu xs) e) .next ai af:=λC R a {i}=>by
 replace a:=w3 a
 let u:=bif e.il then tree i 1 else ER (tree i 0).pos.line (tree i 1)
 refine TZ.nF (h1 C R.1 a.1.2) (b C R.1 a.1.1) ?_ (tP hn _ _ _);exact wg (env:=C.env) (nm:=z.nm) (x:=e) (t:=tree i 0) (xs.es z.nm (kids u)) 0 u.pos i.pos.line
set_option tactic.hygienic true in
theorem TF.FF{es:Xs}(h1:TB z F ρ σ (.tu es) v U)(b:DA z F ρ U (.tu xs) v ai af)(hk:∀ l,((es.es z.nm l).all (F5 8))=true):TF z F ρ σ (.asg (.tu xs) (.tu es)) .next ai af:=λC R a {c}=>by
 replace a:=w3 a;exact TZ.nF (h1 C R.1 a.1.2) (b C R.1 a.1.1) rfl (tS (hk _))
set_option tactic.hygienic true in
theorem TF.lT{es:Xs}(h1:TB z F ρ σ (.tu es) v U)(g:DA z F ρ U (.tu xs) v ai af)(b:∀ l,∃ t∈xs.es z.nm l,(∀ id p,t≠.Name id p)\/∃ x p,t=.Name (z.nm x) p/\x<n0.N/\F.K.lookup x=some .cell):TF z F ρ σ (.asg (.tu xs) (.tu es)) .next ai af:=λC R a {j}=>by
 replace a:=w3 a;obtain⟨_,b,c⟩:=b _;refine TZ.nF (h1 C R.1 a.1.2) (g C R.1 a.1.1) rfl (tT b λid p e=>?_);rcases c with c|⟨x,h,rfl,h1,f⟩
 .exact iv e (c id p)
 .cases e
  rcases R.1.kind x _ h1 f with d|⟨d,_⟩
  .rw[d];rfl
  .cases d
set_option tactic.hygienic true in
theorem TF.J4{ov:gN V}(h1:TB z F ρ σ e v U)(h:F.c.cm.lookup x=some k)(h2:U[k]?=some (.cell ov))(c:F.c.lk.contains k=false):TF z F ρ σ (.asg (.ce x) e) .next ρ (U.set k (.cell (some v))):=λC R a {d}=>by
 replace a:=w3 a;have hx:=wq a.1.1;have b:=R.1.kind _ _ hx.1 hx.2;simp only[Pd,false_and,Bj]at b;exact TZ.jv (x:=0) (h1 C R.1 a.1.2) (Ue.cell R.1.ok (z.G.nms x hx.1) b (by rw[R.1.cm];exact h) h2 (R.1.md _ c)) (iN a.2 _ _)
theorem TF.aug{i:hA}(h:ρ.lookup x=some (.int i))(h1:TB z F ρ σ e (.int j) U):TF z F ρ σ (.aug x .Add e) .next (aB ρ x (.int (i+j))) U:=λC R a {b}=>by
 replace a:=wr a;exact TZ.lQ (TZ.aug R.1.ok (z.G.nms x a.1.1) (fF R.1 a.1) h (h1 C R.1 a.2) bL.iadd (c9 z.G R.1 a.1)) λy u h=>by rw[du]at h;exact h
theorem U2.nil:U2 z F ρ σ .n .n [] σ:=λC pos R a a=>qI.nil
theorem U2.cons{ps:e0 (Key×V)}(h1:TB z F ρ σ a key.v U)(h2:TB z F ρ U b v af)(e:U2 z F ρ af xs ys ps ao):U2 z F ρ σ (.c a xs) (.c b ys) ((key,v)::ps) ao:=λC pos R hk c {d d}=>by
 replace hk:=w2 hk;replace c:=w2 c;exact qI.cons (h1 C R hk.1) (h2 C R c.1) (e C _ R hk.2 c.2)
theorem TB.UO (h:U2 z F ρ (σ++[.dict []]) (.c a xs) ys ps U)(c:U[σ.length]?=some (.dict [])):TB z F ρ σ (.UO (.c a xs) ys) (.h σ.length) (U.set σ.length (.dict (putAll [] ps))):=λC R b {d}=>by
 replace b:=Va b;refine Ev.dict ?_ ?_ ?_ ?_ (h C _ R b.1.1.1 b.1.1.2) c
 .simp
 .rw[g0,iZ,iZ];exact gf b.1.2
 .simp[Xs.es]
 .rw[g0,iZ];exact gf b.2
theorem TB.qL (h1:TB z F ρ σ g (.h k) U)(h2:bV z F ρ U xs vs af)(e:af[k]?=some (.ic kk cs))(h:VZ z F.d F.c.hn F.c.lk k vs af v ao):TB z F ρ σ (.call g xs) v ao:=λC R a {b}=>by
 replace a:=w3 a;exact Ev.qL z.G.B R.ok R.dep R.qK (h1 C R a.1.1) (h2 C _ R a.1.2) e (R.hn▸h C.md R.md) (cJ) (gy a.2 _ _)
theorem sq.call (h1:TB z F ρ σ g (.fn k) U)(h2:bV z F ρ U xs vs af)(h:gn z F.d F.c.hn F.c.lk k vs af u w ao):sq z F ρ σ (.call g xs) u w ao:=λC R a {b}=>by
 replace a:=w3 a;exact nW.callee z.G.B R.ok R.dep R.qK (h1 C R a.1.1) (h2 C _ R a.1.2) (R.hn▸h C.md R.md) (cJ) (gy a.2 _ _)
theorem sq.arg2 (h1:TB z F ρ σ g (.fn k) U)(h2:TB z F ρ U a v af)(d:sq z F ρ af b u w ao):sq z F ρ σ (.call g (.c a (.c b xs))) u w ao:=λC R c {e}=>by
 replace c:=w3 c;exact nW.args z.G.B (h1 C R c.1.1) (ml.tail (h2 C R (w2 c.1.2).1) (ml.head (d C R (w2 (w2 c.1.2).2).1) (d7 _)) (d7 _)) cJ (gy c.2 _ _)
theorem j0.ex (h:sq z F ρ σ a u w U):j0 z F ρ σ (.ex a) u w ρ U:=λC R b {c}=>by
 replace b:=w2 b;exact gg.expr (h C R.1 b.1) (pU R.1) (iN b.2 _ _)
theorem j0.aP (hn:a.il=true)(h:sq z F ρ σ a u w U):j0 z F ρ σ (.asg (.lo x) a) u w ρ U:=λC R b {c}=>by
 replace b:=w3 b;exact gg.jv (h C R.1 b.1.2) (iN hn _ _)
theorem j0.ip (h:sq z F ρ σ a u w U):j0 z F ρ σ (.asg (.dr b x) a) u w ρ U:=λC R c {d}=>by
 replace c:=w3 c;exact gg.nE (h C R.1 c.1.2) (pR _ _ _ _)
theorem j0.iff (h1:TD z F ρ σ t o U)(h2:i8 z F ρ U (bif o then ss else ss') u w ai af):j0 z F ρ σ (.iff t ss ss') u w ai af:=λC R a {b}=>by
 replace a:=w3 a;refine gg.iff (b:=o) (h1 C R.1 a.1.1) ?_;cases o
 .exact h2 C R a.2
 .exact h2 C R a.1.2
theorem j0.FG (hn:F.c.hn=none)(h:bV z F ρ σ xs [u] U):j0 z F ρ σ (.ra x xs) u (.str []) ρ U:=λC R b {e}=>by
 (refine az (w3 b) λc d=>?_;rcases c with⟨hx,a⟩)
 cases eq_of_beq hx;exact z.RR C F.K _ _ _ _ _ _ _ _ _ _ _ R.1.ok (R.1.no hn) (gZ R.1 z.G.xc.1 (eq_of_beq a)) (cJ) (h C _ R.1 d) (.inl ⟨rfl,rfl⟩)
theorem j0.t6 (hn:F.c.hn=none)(h:bV z F ρ σ xs [u,w] U):j0 z F ρ σ (.ra x xs) u w ρ U:=λC R b {e}=>by
 (refine az (w3 b) λc d=>?_;rcases c with⟨hx,a⟩)
 cases eq_of_beq hx;exact z.RR C F.K _ _ _ _ _ _ _ _ _ _ _ R.1.ok (R.1.no hn) (gZ R.1 z.G.xc.1 (eq_of_beq a)) (cJ) (h C _ R.1 d) (.inr rfl)
theorem i8.hd (h:j0 z F ρ σ s u w ai U):i8 z F ρ σ (.c s ss) u w ai U:=λC R a {b}=>by
 replace a:=w2 a;exact gg.head (h C R a.1)
set_option tactic.hygienic true in
theorem i8.tl (h:TF z F ρ σ s .next ai U)(h2:i8 z F ai U ss u w au af):i8 z F ρ σ (.c s ss) u w au af:=λC R a {b}=>by
 replace a:=w2 a;exact gg.tail (h C R a.1) (h2 C R a.2)
theorem TF.y9 (h:DB z F ρ σ ss f ai U):TF z F ρ σ (.tr ss x y ss') f ai U:=λC R a {e}=>by
 (refine az (Xf a) λb j=>?_;rcases b with⟨⟨⟨⟨⟨c,hx⟩,k⟩,l⟩,d⟩,g⟩)
 cases eq_of_beq hx;exact(z.TR F.d).pass C _ _ _ _ _ _ _ _ _ _ _ R.1.ok R.2 (h C R c)
set_option tactic.hygienic true in
theorem TF.BB (hn:F.c.hn=none)(h:i8 z F ρ σ ss u w ai U)(h2:DB z ⟨⟨F.c.cm,F.c.lk,some (U.length+1)⟩,F.K,F.d⟩ (aB ai y (.h (U.length+1))) (U++[.ns [(T0.cd,u),(T0.td,w)],.gK U.length]) ss' .next au af):TF z F ρ σ (.tr ss x y ss') .next [] af:=λC R j {n}=>by
 (refine az (Xf j) λk g=>?_;rcases k with⟨⟨⟨⟨⟨l,hx⟩,f⟩,a⟩,c⟩,d⟩)
 cases eq_of_beq hx;have e:=gZ R.1 z.G.xc.1 (eq_of_beq f);have m:C.env.kindOf (z.nm y)=some .local:=fF R.1 ⟨gf a,eq_of_beq c⟩;refine(z.TR F.d).catch_ C _ _ _ _ _ _ au _ _ _ _ _ _ _ R.1.ok R.2 (by cases ss'<;>first|(simp[Ss.ss];done)|(simp[Ss.nonempty]at g)) (R.1.no hn) R.1.dep R.1.qK e (gf a) m (h C R l) λb o1 o2 o3 VX WJ Wr WK Xb=>?_;refine h2 b ⟨⟨o1,by rw[o2];exact R.1.kind,by rw[VX];exact R.1.cm,Wr,by rw[WJ];exact R.1.md,WK,Xb⟩,?_⟩ d;unfold We;rw[o2,o3];exact R.2
@[reducible] noncomputable def Fm.comp (F:Fm) (I:It) (sc:UE):Fm:=⟨⟨F.c.cm.filter λq=>sc.lookup q.1==some .free,I.lk F.c.lk,F.c.hn⟩,sc,F.d⟩
theorem TB.comp (h:Ug z F ρ σ t b I U)(hk:I.lP t=true)(g:(I.lk F.c.lk).contains U.length=false)(l:sc.all (λc=>c.2!=.free||(F.c.cm.lookup c.1).isSome)=true)(m:ie z (F.comp I sc) [] (U++[.list []]) U.length I 0 t xs e ai af):TB z F ρ σ (.comp e t b xs sc) (.h U.length) af:=λC R a {p}=>by
 exact Ev.comp (si z.G R a (λmd j=>h C md R (Vv a).1.1.1.1 j) g l λd o k n f=>m d o k n f)
theorem TF.FH (h:Ug z F ρ σ t b I U)(hk:I.lP t=true)(j:(I.lk F.c.lk).contains U.length=false)(aa:sc.all (λd=>d.2!=.free||(F.c.cm.lookup d.1).isSome)=true)(v:ie z (F.comp I sc) [] (U++[.list []]) U.length I 0 t xs e ai af):TF z F ρ σ (.asg (.lo x) (.comp e t b xs sc)) .next (aB ρ x (.h U.length)) af:=λC R q {ab}=>by
 (refine az (w3 q) λs o=>?_;rcases s with⟨a,c⟩)
 replace a:=wq a;have n:∀ r∈sc,r.1<n0.N:=λr m=>gf (w3 (hw.mp (Vv c).2 r m)).1.1;exact TZ.yF (si z.G R.1 c (λmd k=>h C md R.1 (Vv c).1.1.1.1 k) j aa (λf p l w g=>v f p l w g))
  (Ue.name (Ue.lQ (c9 z.G R.1 a) λy u h=>by rw[du]at h;exact h)) (tR z.G R.1 a.1 (fF R.1 a) n (ij _) o)
end
end
variable{k:hA}{t:H}{a:e5}{L:e0 e5}
section
set_option backward.match.sparseCases false
noncomputable abbrev TU:=e0 (hA×e0 e5)
theorem eg k (p:TU):atK (aE p) (.int k)=(p.lookup k).map V.str:=by
 induction p with
 |nil=>rfl
 |cons a p c=>
  obtain⟨b,r⟩:=a;simp only[aE,atK,iO,pd]at c ⊢;by_cases h:k=b
  .rw[h,dY,h8 rfl];rfl
  .rw[cZ h,je λd:Key.int b=Key.int k=>h (Key.int.inj d).symm]
   exact c
theorem FJ{p:TU}(h:p.lookup k=some r):atK (aE p) (.int k)=some (.str r):=(eg k p).trans (hC (v2 V.str) h)
theorem jG{α:Type}{S t:e0 α}:S.length<=(S++t).length:=(e1 ..).length_le
theorem t8{S:H}{x y:TH}:(S++[x]++[y])[(S++[x]).length]?=some y:=by rw[gO (e6 _),xr];rfl
theorem eq1{k:e5}:jA .Eq (.str [c]) (.str [k]) σ=some (decide (c=k)):=hC some (vW.mpr ⟨λa=>(tV a).1,hC λc=>[c]⟩)
theorem S3 (h:a≠b)(h':a∉L):a∉b::L:=λc=>(hr.mp c).elim h h'
theorem S4 (h:29<=n)(e:L.all (Gz · 29)=true)(h':n∉b):n∉L++b:=λa=>(jd.mp a).elim (λa=>rx.mpr h (eW (hw.mp e n a))) h'
theorem S5:n∉([]:e0 e5):=h6
theorem FK{α c:Type}{f:α->V}{g:c->V}{l:e0 α}{l':e0 c}(h:l.length<=a)(h':l'.length<=b)(e:Gy (a+b) 16777216=true):(l.map f).length+(l'.map g).length<=sz:=by
 rw[g0,g0];exact tl (kl h h') e
noncomputable def an (p:TU):e0 Int:=iw (p.map (λq=>q.1))
noncomputable def within (p:TU)(a b:hA):e0 Int:=(an p).filter λk=>decide (a<=k)&&decide (k<=b)
theorem eh (ρ:aZ) x y v:(aB ρ x v).lookup y=if y=x then some v else ρ.lookup y:=by
 induction ρ with
 |nil=>
  by_cases h:y=x
  .simp[aB,mH,h]
  .simp[aB,mH,jP.mpr h,h]
 |cons c r b=>
  obtain⟨a,u⟩:=c;unfold aB;by_cases h:a=x
  .subst h
   by_cases h':y=a
   .simp[mH,h']
   .simp[mH,jP.mpr h',h']
  .simp only[hb h,mH]
   by_cases h':y=a
   .subst h';simp[h]
   .simp only[jP.mpr h',b]
theorem za:mH y ((x,v)::ρ)=if y=x then some v else ρ.lookup y:=by
 rw[hL];by_cases a:y=x
 .rw[hz a,Lv.mpr a]
 .rw[hb a,jP.mpr a]
theorem BC{t:e5}{p:gN V}(n:a≠b):(if t=a then p else if t=b then q else r)=if t=b then q else if t=a then p else r:=by
 by_cases c:t=a
 .subst c;rw[hz rfl,hb n,hz rfl]
 .rw[hb c,hb c]
theorem jH{x y:e0 e5}(h:x.length<=a)(h':y.length<=b):(x++y).length<=a+b:=hg.symm▸kl h h'
theorem WA{P:hA->Prop}{l:e0 hA}(h:v<l.length)(a:∀ x∈l,P x):∃ i,P i/\(l.map V.int)[v]?=some (.int i):=⟨_,a _ (j5 h),jb.trans (hC (v2 V.int) (hv h))⟩
theorem Wf{P:e0 e5->Prop}{l:e0 (e0 e5)}(h:v<l.length)(a:∀ x∈l,P x):∃ i,P i/\(l.map V.str)[v]?=some (.str i):=⟨_,a _ (j5 h),jb.trans (hC (v2 V.str) (hv h))⟩
theorem l2 (h:v<2):v=0\/v=1:=by exact AT h
theorem l3 (h:v<3):v=0\/v=1\/v=2:=by exact Hv h
theorem l4 (h:v<4):v=0\/v=1\/v=2\/v=3:=by exact Ew h
theorem zb{α:Type}{P:α->Prop}{a b:α}(h:P a)(h2:P b):∀ x∈[a,b],P x:=gx.mpr ⟨h,List.forall_mem_singleton.mpr h2⟩
theorem FL{α:Type}{P:α->Prop}{a b c:α}(h:P a)(h2:P b)(d:P c):∀ x∈[a,b,c],P x:=gx.mpr ⟨h,zb h2 d⟩
theorem J6{α:Type}{P:α->Prop}{a b c d:α}(h:P a)(h2:P b)(f:P c)(e:P d):∀ x∈[a,b,c,d],P x:=gx.mpr ⟨h,FL h2 f e⟩
theorem TC.UL{x y:e0 e5}(h:x.length<=a)(h':y.length<=b)(e:Gy (a+b) 16777216=true):TC z F (.bn .Add) (.str x) (.str y) σ (.str (x++y)) σ:=TC.cD (tl (kl h h') e)
theorem g4:∀ i∈([]:e0 e5),i<n->i∈L:=λa h=>nomatch h
theorem dU (h:a∈L):∀ i∈[a],i<n->i∈L:=λb q b=>gP.mp q▸h
theorem pD (h:a∈L):∀ i∈[a],i∈L:=λc b=>gP.mp b▸h
theorem OZ (h:a∈L)(h':b∈L):∀ i∈[a,b],i∈L:=gx.mpr ⟨h,pD h'⟩
theorem zc (h:n<=a):∀ i∈[a],i<n->i∈L:=λb q g=>iv (gP.mp q▸g) (rx.mpr h)
theorem cP (h:a≠b):a∉[b]:=λc=>h (gP.mp c)
theorem jh{α a:Type}{f:α->a}{l:e0 α}(h:l.length<=n):(l.map f).length<=n:=(g0 f).symm▸h
theorem wB:(σ++c::t)[σ.length]?=some c:=by rw[gO (e6 _),xr];rfl
theorem FM:(σ++b::c::t)[σ.length+1]?=some c:=by
 rw[gO (jr _)];show(b::c::t)[σ.length+1 -σ.length]?=_;rw[qh];rfl
theorem bu:(aB ρ x v).lookup x=some v:=by rw[eh,hz rfl]
theorem aM (e:n8 y x=false)(h:ρ.lookup y=r):(aB ρ x v).lookup y=r:=by rw[eh,hb (h9 e),h]
theorem J7 a (l):(ins a l).length=l.length+1:=(lJ a l).length_eq
theorem t9 (l):(iw l).length=l.length:=(dk l).length_eq
theorem bP p:(an p).length=p.length:=by simp[an,t9]
noncomputable def bj (p:TU)(k:hA):e0 Nat:=aG k++[32]++(p.lookup k).getD []
theorem zd{p:TU}(h:p.lookup k=some r):bj p k=aG k++[32]++r:=by unfold bj;rw[h];rfl
theorem i9{x:hA}{l:e0 hA}:x∈iw l↔x∈l:=(dk l).mem_iff
theorem gA p a b:(within p a b).length<=p.length:=by
 have:=oW (λk=>decide (a<=k)&&decide (k<=b)) (an p);rw[bP]at this;exact this
theorem lookup_mem{p:TU}(h:k∈p.map (λb=>b.1)):∃ r,p.lookup k=some r/\(k,r)∈p:=by
 induction p with
 |nil=>exact nomatch h
 |cons b p e=>
  obtain⟨c,r⟩:=b;by_cases a:k=c
  .subst a;exact⟨r,dY,.head _⟩
  .refine ah (e ((hr.mp h).resolve_left a)) λr d f=>?_
   exact⟨r,(cZ a).trans d,.tail _ f⟩
structure bK (p:TU):Prop where
 len:p.length<64
 row:∀ q∈p,1<=q.1/\q.1<=1000/\q.2.length<=200
 nd:(p.map (λq=>q.1)).Nodup
theorem jI{p:TU}{a:hA}(h:k∈within p a b):k∈p.map (λc=>c.1)/\a<=k/\k<=b:=by
 simp only[within,an,nn,i9,hE,j8]at h;exact⟨h.1,h.2.1,h.2.2⟩
theorem pX:∀ k<1101,(aG (sY k)).length<=4/\(aG (sY k)).all (λa=>decide (48<=a)&&decide (a<=57))=true:=by decide+kernel
theorem cK (a:0<=k)(h:k<=1100):(aG k).length<=100:=by
 (refine av (Bk a) λn b=>?_;subst b)
 have:=(pX n (by exact vl (kf.mp h))).1;exact e2 this J
noncomputable def cQ (p:TU)(k:hA):TU:=p.filter λq=>decide (q.1≠k)
theorem lU (p:TU) k:fc (aE p) (.int k)=aE (cQ p k):=by
 simp[fc,aE,cQ,J1,sj]
noncomputable def b3:TU->hA->e0 e5->TU
 |[],k,r=>[(k,r)]
 |q::p,k,r=>if q.1=k then(k,r)::p else q::b3 p k r
theorem fj k r (p:TU):putK (aE p) (.int k) (.str r)=aE (b3 p k r):=by
 induction p with
 |nil=>rfl
 |cons b p a=>
  simp only[aE,iO]at a ⊢;by_cases h:b.1=k
  .rw[putK,b3,hz h,hz (hC Key.int h),h];rfl
  .rw[putK,b3,hb h,hb λc:Key.int b.1=Key.int k=>h (Key.int.inj c),a];rfl
theorem qX{p:TU}(h:j≠k):(cQ p k).lookup j=p.lookup j:=by
 induction p with
 |nil=>rfl
 |cons b p c=>
  simp only[cQ,ne_eq,Gk]at c ⊢;by_cases a:b.1=k
  .have:¬ j=b.1:=λe=>h (e.trans a)
   simp[lf,a,mH,jP.mpr h,c]
  .by_cases d:j=b.1
   .subst d;simp[lf,h,mH]
   .simp[lf,a,mH,jP.mpr d,c]
theorem wC p k:(cQ p k).length<=p.length:=oW ..
theorem dJ (p:TU):(aE p).length=p.length:=by exact g0 ..
theorem wD{p:TU}(h:p.length<=n)(e:Gy n 16777216=true):(aE p).length<=sz:=(dJ p).symm▸tl h e
theorem pE{p:TU}(c:bK p) a b:(within p a b).Nodup:=((dk _).nodup_iff.mpr c.nd).filter _
theorem jU k r p:(b3 p k r).length<=p.length+1:=by
 induction p with
 |nil=>exact e6 _
 |cons b p a=>
  unfold b3;split
  .exact jr _
  .exact hm a
noncomputable def bw (p q:TU):TU:=q.foldl (λr e=>b3 r e.1 e.2) p
noncomputable def g5 (n:hA):e0 e5->hA
 |[]=>n
 |c::l=>g5 (10*n+c -48) l
theorem O0 a b:(([a]:e0 e5)<[b])↔a<b:=by
 rw[List.cons_lt_cons_iff];simp
end
variable{t:X}{k d:e5}{l:Ss}
section
set_option backward.match.sparseCases false
theorem bv{a:TH}(h:σ[n]?=some a)(hn:m≠n):(σ.set m b)[n]?=some a:=by rw[pq hn];exact h
theorem dK{a:TH}(h:σ[n]?=some a):(σ.set n b)[n]?=some b:=by
 rw[Bu (e4.mp h).1]
theorem bf{t:H}{n:e5}{a:TH}(h:σ[n]?=some a):(σ++t)[n]?=some a:=by
 rw[hN (e4.mp h).1];exact h
theorem bc{a:TH}:(σ++[a])[σ.length]?=some a:=by simp
section
variable{z:Z}{F:Fm}{a b:X}{v:V}{m:Ss}{f:Uk}
theorem TF.cf (h1:TD z F ρ σ t true U)(h2:DB z F ρ U l f ai af):TF z F ρ σ (.iff t l m) f ai af:=TF.iff h1 h2
theorem TF.bA (h1:TD z F ρ σ t false U)(h2:DB z F ρ U m f ai af):TF z F ρ σ (.iff t l m) f ai af:=TF.iff h1 h2
theorem TB.cf (h1:TD z F ρ σ t true U)(h2:TB z F ρ U a v af):TB z F ρ σ (.fy t a b) v af:=TB.fy h1 h2
theorem TB.bA (h1:TD z F ρ σ t false U)(h2:TB z F ρ U b v af):TB z F ρ σ (.fy t a b) v af:=TB.fy h1 h2
theorem TD.O1 (h:TD z F ρ σ a true U):TD z F ρ σ (.UT a) false U:=TD.UT h
noncomputable def bx (z:Z)(F:Fm)(ρ:aZ)(σ:H)(b:Ss)(f:Uk)(ae:H):Prop:=∃ am,DB z F ρ σ b f am ae
set_option tactic.hygienic true in
theorem bx.nil:bx z F ρ σ .n .next σ:=⟨_,.n⟩
set_option tactic.hygienic true in
theorem bx.cons{s:S}{a:Ss}(h1:TF z F ρ σ s .next ai U)(h2:bx z F ai U a f af):bx z F ρ σ (.c s a) f af:=rk (λb=>DB.c h1) h2
noncomputable def Ss.pY:Ss->jW
 | .c (.re _) .n=>true
 | .c .r0 .n=>true
 | .c (.iff _ a b) .n=>a.pY&&b.pY
 | .c _ d=>d.pY
 | .n=>false
theorem bx.re (h1:TB z F ρ σ a v U):bx z F ρ σ (.c (.re a) c) (.ret v) U:=⟨_,.r (.re h1)⟩
theorem bx.oB (h1:TD z F ρ σ t true U)(a:l.pY=true)(h2:bx z F ρ U l (.ret v) af):bx z F ρ σ (.c (.iff t l m) c) (.ret v) af:=rk (λb h=>.r (.cf h1 h)) h2
set_option tactic.hygienic true in
theorem bx.J8{a:Ss}{ao:H}(h1:TD z F ρ σ t true U)(c:l.pY=false)(h2:DB z F ρ U l .next ai af)(b:bx z F ai af a f ao):bx z F ρ σ (.c (.iff t l m) a) f ao:=.cons (.cf h1 h2) b
set_option tactic.hygienic true in
theorem bx.g6{a:Ss}{ao:H}(h1:TD z F ρ σ t false U)(c:m.pY=false)(h2:DB z F ρ U m .next ai af)(b:bx z F ai af a f ao):bx z F ρ σ (.c (.iff t l m) a) f ao:=.cons (.bA h1 h2) b
theorem TK.of0 aN (o:VU k args aN B sc)(h:bx z ⟨⟨[],lk,hn⟩,sc,d⟩ aN σ B f ae):TK z (d+1) hn lk k args σ f.val ae:=
 h.elim λa h=>TK.of [] aN σ o.E h
end
theorem gn.jm{w:V} cm aN σ₀ (o:VT k args σ cm aN σ₀ B sc)(h:∃ am,i8 z ⟨⟨cm,lk,hn⟩,sc,d⟩ aN σ₀ B u w am ae):gn z (d+1) hn lk k args σ u w ae:=λmd s=>by
 (refine av h ?_;clear h;intro am h)
 obtain⟨D,x,b⟩:=hI.mp o;injection b with hl b;injection b with f b;injection b with l b;injection b with e b;injection b with j h5;subst f;subst l;subst e;subst j;subst h5;obtain⟨g,a0,o,fd,a⟩:=z.L.ok k D x;have c:=vh z.G g a;refine av a.body λy m=>?_;refine rW.cells (am:=am) z.G.B a.fa a.ho a.hd a.cr m c.ns (λws h=>a.bind ws (h.trans hl.symm)) c.fp c.nd c.kd c.Xh a.glob a.blt a.ic a.co a.gen a.kind λC t p f l v n e j=>?_;have q:D.body.wf T0 n0 D.sc=true:=(Va g).1.1.1;exact h C ⟨pW z.G g a s t p f l n e j,v⟩ q
theorem gn.of0{t:V} aN (o:VU k args aN B sc)(h:∃ am,i8 z ⟨⟨[],lk,hn⟩,sc,d⟩ aN σ B u t am ae):gn z (d+1) hn lk k args σ u t ae:=.jm [] aN σ o.E h
theorem TK.jm cm aN σ₀ (o:VT k args σ cm aN σ₀ B sc)(h:bx z ⟨⟨cm,lk,hn⟩,sc,d⟩ aN σ₀ B f ae):TK z (d+1) hn lk k args σ f.val ae:=
 h.elim λa h=>TK.of cm aN σ₀ o h
theorem O2{t:e0 e5}(h1:σ[e]?=some (.inst 0 nd))(h2:σ[nd]?=some (.ns c))(g:c.lookup 128=some (.h b))(j:σ[b]?=some (.list out))(f:c.lookup 5=some (.str r))(hs:r.length+t.length<=16777216)(k:out.length<=16777216)(l:c.length<1000)(a:lk.contains b=false)(l2:lk.contains nd=false)(n1:b≠nd)(h:b≠e):
  TK z (d+1) hn lk 56 [.h e,.str t] σ .none ((σ.set b (.list (out++[.str (r++t)]))).set nd (.ns (aB c 5 (.str [])))):=by
 apply TK.of0 (f:=.next) [(21,.str t),(30,.h e)] rfl;apply bx.cons;apply TF.ex;apply TB.cE;rfl;apply TB.dr;apply TB.lo;rfl;assumption;assumption;assumption;rfl;apply bV.c;apply TB.bin;apply TB.dr;apply TB.lo;rfl;assumption;assumption;assumption;rfl;apply TB.lo;rfl;apply TC.cD;assumption;exact bV.n;apply M2.append;assumption;assumption;assumption;apply bx.cons;apply TF.ip;exact TB.s;apply TB.lo;rfl;apply bv;assumption;assumption;apply bv;assumption;assumption;assumption;rfl;assumption;exact bx.nil
theorem O3{a:hA}(n:F.c.cm.lookup 54=some ca)(p:F.c.cm.lookup 55=some q)(n1:M≠ln)(s:M≠ca)(t:M≠q):∀ (L pre:e0 hA) (d:e0 V) (ρ:aZ) (σ:H),
  σ[ln]?=some (.list ((pre++L).map V.int))->σ[ca]?=some (.cell (some (.int a)))->σ[q]?=some (.cell (some (.int b)))->σ[M]?=some (.list d)->d.length+L.length<=16777216->
  ∃ am,ie z F ρ σ M (.list ln) pre.length (.lo 9) (.c (.lK .LtE .LtE (.fr 54) (.lo 9) (.fr 55)) .n) (.lo 9) am (σ.set M (.list (d++(L.filter λk=>decide (a<=k)&&decide (k<=b)).map V.int))):=by
 intro L;induction L with
 |nil=>
  intro pre d ρ σ g e f h c;refine⟨ρ,?_⟩;simp only[t1,s4,j6];rw[jS h];exact .done (by simp[It.nx,iY,g])
 |cons x L o=>
  intro pre d ρ σ g e f h c;have m:(pre++x::L)=(pre++[x])++L:=by simp
  have hx:It.nx (.list ln) pre.length σ=some (some (.int x)):=by simp[It.nx,iY,g]
  by_cases j:a<=x
  .by_cases l:x<=b
   .refine av (o (pre++[x]) (d++[.int x]) (aB ρ 9 (.int x)) (σ.set M (.list (d++[.int x]))) (by rw[<-m];exact bv g n1) (bv e s) (bv f t) (dK h) (by simp at c ⊢;exact Eu c)) λam z=>?_
    refine⟨am,ie.take hx DA.lo (TD.oy (TB.fr n e) (TB.lo bu) (TC.Uw rfl (j)) (TB.fr p f) (TC.Uw rfl (l))) (TB.lo bu) h (by simp at c;show _<=16777216;exact mI c) ?_⟩;simpa[j,l]using z
   .refine av (o (pre++[x]) d (aB ρ 9 (.int x)) σ (by rw[<-m];exact g) e f h (by simp at c ⊢;exact gB c)) λam z=>?_
    refine⟨am,ie.skip hx DA.lo (TD.oy (TB.fr n e) (TB.lo bu) (TC.Uw rfl (j)) (TB.fr p f) (TC.Uh rfl (l))) ?_⟩;simpa[j,l]using z
  .refine av (o (pre++[x]) d (aB ρ 9 (.int x)) σ (by rw[<-m];exact g) e f h (by simp at c ⊢;exact gB c)) λam z=>?_
   refine⟨am,ie.skip hx DA.lo (TD.sg (TB.fr n e) (TB.lo bu) (TC.Uh rfl (j))) ?_⟩;simpa[j]using z
theorem cY{lk:e0 e5}(h:∀ i∈lk,i<σ.length)(a:σ.length<=m):lk.contains m=false:=by
 rw[EE,qT];intro b;have:=h _ b;exact(hW _ (fC this a)).elim
noncomputable def Old (lk:e0 e5)(σ:H):Prop:=∀ i∈lk,i<σ.length
theorem O4{p:TU}{a:hA}(h:σ[n]?=some (.dict (aE p)))(e:p.length<64)(o:Old lk σ):
  ∃ j:H,TK z (d+1) none lk 16 [.h n,.int a,.int b] σ (.h (σ++j).length) (σ++j++[.list ((within p a b).map V.int)]):=by
 let j:H:=[.cell (some (.int a)),.cell (some (.int b)),.list ((an p).map V.int)]
 refine av (O3 (z:=z) (F:=Fm.comp ⟨⟨[(54,σ.length),(55,σ.length+1)],lk,none⟩,JP.sc,d⟩ (.list (σ.length+2)) [(20,f6),(9,f6),(54,.free),(55,.free)]) (ln:=σ.length+2) (M:=σ.length+3) (a:=a) (b:=b) rfl rfl (by exact q5 _) (by exact Xa rfl) (by exact MM) (an p) [] [] []
  (σ++j++[.list []]) (by simp[j]) (by simp[j]) (by simp[j]) (by simp[j]) (by rw[bP,rI];exact MN e)) λam f=>?_
 refine⟨j,?_⟩;have l:(σ++j++[TH.list []]).set (σ.length+3) (.list ([]++((an p).filter λk=>decide (a<=k)&&decide (k<=b)).map V.int))=σ++j++[.list ((within p a b).map V.int)]:=by simp[within,j]
 rw[l]at f;have g:σ++[TH.cell (some (.int a)),.cell (some (.int b))]++[TH.list ((an p).map V.int)]=σ++j:=by simp[j]
 have m:(σ++[TH.cell (some (.int a)),.cell (some (.int b))]).length=σ.length+2:=by simp
 have c:(σ++j).length=σ.length+3:=by simp[j]
 apply TK.of (f:=.ret (.h (σ++j).length)) [(54,σ.length),(55,σ.length+1)] [(15,.h n)] (σ++[.cell (some (.int a)),.cell (some (.int b))]) rfl;refine DB.r (TF.re ?_);refine TB.comp (I:=.list (σ.length+2)) (U:=σ++j) (ai:=am) (Ug.list (l:=(an p).map V.int) rfl (TB.bi rfl (.c (.lo rfl) .n) ?_) ?_) rfl ?_ rfl ?_
 .rw[<-g,<-m];exact B1.sorted rfl (bf h) (by simp[aE]) (by simpa using e)
 .simp[j]
 .rw[c];exact cY o (by exact hM ..)
 .rw[c];exact f
end
variable{t:e0 e5}
section
set_option backward.match.sparseCases false
noncomputable def cnt (f:e5->jW)(l:e0 e5):Nat:=(l.takeWhile f).length
set_option tactic.hygienic true in
theorem ze{z:Z}{F:Fm}{σ:H}{t:X}{p:Ss}{tx b:e5}{a:e0 e5}{f:e5->jW}(x:tx≠b)
  (s:∀ (ρ:aZ) k c,ρ.lookup tx=some (.str a)->ρ.lookup b=some (.int (k:e5))->k<a.length->a[k]?=some c->TD z F ρ σ t (f c) σ)
  (aa:∀ (ρ:aZ),ρ.lookup tx=some (.str a)->ρ.lookup b=some (.int a.length)->TD z F ρ σ t false σ)
  (u:∀ (ρ:aZ) (k:e5),ρ.lookup b=some (.int k)->DB z F ρ σ p .next (aB ρ b (.int ((k:hA)+1))) σ):∀ (n k:e5) (ρ:aZ),a.length -k=n->k<=a.length->ρ.lookup tx=some (.str a)->ρ.lookup b=some (.int k)->
  ∃ am,Vx z F ρ σ t p .next am σ/\(∀ y,y≠b->am.lookup y=ρ.lookup y)/\am.lookup b=some (.int ((k+cnt f (a.drop k):e5):hA)):=by
 intro n;induction n with
 |zero=>
  intro k ρ hn hk j d;have:k=a.length:=by exact Dg hk (Nat.le_of_sub_eq_zero hn)
  subst this;exact⟨ρ,.done (aa ρ j d),λl l=>rfl,by simp[cnt,d]⟩
 |succ n ae=>
  intro k ρ hn hk j d;have g:k<a.length:=by exact Nat.lt_of_sub_eq_succ hn
  have ab:a[k]?=some a[k]:=hv g;have e:=s ρ k _ j d g ab;have m:a.drop k=a[k]::a.drop (k+1):=lv g;cases h:f a[k]with
  |false=>
   rw[h]at e;exact⟨ρ,.done e,λl l=>rfl,by rw[m];simp only[cnt,p0,h,kZ,wP,rI,Nu];exact d⟩
  |true=>
   rw[h]at e;obtain⟨am,w,v,q⟩:=ae (k+1) (aB ρ b (.int ((k:hA)+1))) (by exact(Nat.sub_succ ..).trans (hC Nat.pred hn)) (by exact g) (by rw[eh,hb x];exact j) (by rw[eh,hz rfl];rfl);refine⟨am,.turn e (u ρ k d) w,λy o=>(v y o).trans (by rw[eh,hb o]),?_⟩;rw[q,m];simp only[cnt,p0,h,Nt,ol];congr 2;exact MO
theorem bx.scan{t:X}{rest:Ss}{fl:Uk} tx a text f k (e:tx≠a)(j:∀ (ρ:aZ) k c,ρ.lookup tx=some (.str text)->ρ.lookup a=some (.int (k:e5))->k<text.length->text[k]?=some c->TD z F ρ σ t (f c) σ)(g:∀ (ρ:aZ),ρ.lookup tx=some (.str text)->ρ.lookup a=some (.int text.length)->TD z F ρ σ t false σ)(m:∀ (ρ:aZ) (k:e5),ρ.lookup a=some (.int k)->DB z F ρ σ b .next (aB ρ a (.int ((k:hA)+1))) σ)(hk:k<=text.length)(h1:ρ.lookup tx=some (.str text))(h2:ρ.lookup a=some (.int k))(h:∀ am:aZ,(∀ y,y≠a->am.lookup y=ρ.lookup y)->am.lookup a=some (.int ((k+cnt f (text.drop k):e5):hA))->bx z F am σ rest fl ae):bx z F ρ σ (.c (.iy t b) rest) fl ae:=
 ba (ze (f:=f) e j g m _ k ρ rfl hk h1 h2) λam w l d=>.cons (.iy w) (h am l d)
noncomputable abbrev blank:e5->Bool:=λc=>decide (c=32)
noncomputable abbrev digit:e5->Bool:=λc=>decide (48<=c)&&decide (c<=57)
theorem c12 (hk:k<=t.length)(c:t.length<=16777216):TK z (d+1) hn lk 12 [.str t,.int k] σ (.int ((k+cnt blank (t.drop k):e5):hA)) σ:=by
 apply TK.of0 (f:=.ret _) [(6,.int k),(21,.str t)] rfl;apply bx.scan 21 6 t blank k J (hk:=hk) (h1:=rfl) (h2:=rfl)
 .intro ρ k l b e a g
  apply TD.fS
  .apply TD.cmp;apply TB.lo;assumption;apply TB.bi;rfl;apply bV.c;apply TB.lo;assumption;exact bV.n;apply B1.c8;assumption;exact TC.Uw rfl (iW.mpr (by assumption))
  .apply TD.cmp;apply TB.sub;apply TB.lo;assumption;apply TB.lo;assumption;apply T9.str;assumption;exact tl (e2 a c) rfl;exact TB.s;exact TC.cmp eq1
 .intro ρ b e
  apply TD.gz;apply TD.cmp;apply TB.lo;assumption;apply TB.bi;rfl;apply bV.c;apply TB.lo;assumption;exact bV.n;apply B1.c8;assumption;exact TC.Uh rfl (by exact qo)
 .intro ρ k h
  exact .c (.aug h .i) .n
 .intro am j f
  apply bx.re;apply TB.lo;assumption
noncomputable abbrev iF:e5->Bool:=λc=>[48,49,50,51,52,53,54,55,56,57].contains c
theorem wE (hk:k<=t.length)(c:t.length<=16777216):TK z (d+1) hn lk 11 [.str t,.int k] σ (.int ((k+cnt iF (t.drop k):e5):hA)) σ:=by
 apply TK.of0 (f:=.ret _) [(6,.int k),(21,.str t)] rfl;apply bx.scan 21 6 t iF k J (hk:=hk) (h1:=rfl) (h2:=rfl)
 .intro ρ k l b e a g
  apply TD.fS
  .apply TD.cmp;apply TB.lo;assumption;apply TB.bi;rfl;apply bV.c;apply TB.lo;assumption;exact bV.n;apply B1.c8;assumption;exact TC.Uw rfl (iW.mpr (by assumption))
  .apply TD.cmp;apply TB.sub;apply TB.lo;assumption;apply TB.lo;assumption;apply T9.str;assumption;exact tl (e2 a c) rfl;apply TB.gl;rfl;apply TC.cmp;rfl
 .intro ρ b e
  apply TD.gz;apply TD.cmp;apply TB.lo;assumption;apply TB.bi;rfl;apply bV.c;apply TB.lo;assumption;exact bV.n;apply B1.c8;assumption;exact TC.Uh rfl (by exact qo)
 .intro ρ k h
  exact .c (.aug h .i) .n
 .intro am j f
  apply bx.re;apply TB.lo;assumption
theorem BD (a:0<=i)(h1:i<=65529):TK z (d+1) hn lk 14 [.int i] σ (.int i) σ:=by
 apply TK.of0 (f:=.ret _) [(9,.int i)] rfl;apply bx.g6 (TD.O1 (TD.oy .i (.lo rfl) (TC.Uw rfl (a)) (.gl rfl) (TC.Uw rfl (h1)))) rfl .n;apply bx.re;apply TB.lo;rfl
noncomputable def ji (n:hA):e0 e5->hA
 |[]=>n
 |c::l=>ji (if 65530<10*n+((c -48:e5):hA)then 65530 else 10*n+((c -48:e5):hA)) l
theorem oC:∀ a,iF a=true->a<58/\[48,49,50,51,52,53,54,55,56,57].idxOf? a=some (a -48):=by
 intro a h;simp at h;rcases h with rfl|rfl|rfl|rfl|rfl|rfl|rfl|rfl|rfl|rfl<;>decide
theorem sr l n (h:0<=n)(h2:n<=65530):0<=ji n l/\ji n l<=65530:=by
 induction l generalizing n with
 |nil=>exact⟨h,h2⟩
 |cons b l a=>
  unfold ji;split
  .exact a _ (by exact h3 _) (by exact h3 _)
  .exact a _ (by exact vn (DZ J h) (h3 _)) (by lia)
set_option tactic.hygienic true in
theorem O5{z:Z}{F:Fm}{σ:H}{t:e0 e5}(hn:F.c.hn=none)(f:∀ a∈t,iF a=true):∀ (L pre:e0 e5) (n:hA) (ρ:aZ),t=pre++L->ρ.lookup 22=some (.int n)->0<=n->n<=65530->
  ∃ am,U1 z F ρ σ (.str t) pre.length (.lo 45) (.c (.asg (.lo 22) (.bi 46 (.c (.bin .Add (.bin .Mult (.i 10) (.lo 22)) (.me (.gl 43) 47 (.c (.lo 45) .n))) (.c (.bin .Add (.gl 48) (.i 1)) .n)))) .n) .next am σ/\am.lookup 22=some (.int (ji n L)):=by
 intro L;induction L with
 |nil=>
  intro pre n ρ b h d c;exact⟨ρ,.done (DJ b),h⟩
 |cons a L g=>
  intro pre n ρ b h d c;obtain⟨f1,f2⟩:=oC a (f a (DF b));obtain⟨am,w,e⟩:=g (pre++[a]) (if 65530<10*n+((a -48:e5):hA)then 65530 else 10*n+((a -48:e5):hA)) (aB (aB ρ 45 (.str [a])) 22 (.int (if 65530<10*n+((a -48:e5):hA)then 65530 else 10*n+((a -48:e5):hA)))) (by rw[b];exact s5 ..) bu (by split<;>lia) (by split<;>lia);refine⟨am,.turn (v:=.str [a]) (DI b) .lo (.c (.aP rfl (.bi rfl (.c (.bin (.bin .i (.lo (aM rfl h)) (TC.se J (by exact na (k:=65530) d c rfl))) (.cE rfl (.gl rfl) (.c (.lo bu) .n) (M2.qD f2)) TC.fg) (.c (.bin (.gl rfl) .i TC.fg) .n)) (B1.min hn))) .n) ?_,e⟩;rw[hg]at w;exact w
theorem J9 (b:∀ a∈t,iF a=true):TK z (d+1) none lk 13 [.str t] σ (.int (ji 0 t)) σ:=by
 apply TK.of0 (f:=.ret _) [(44,.str t)] rfl;apply bx.cons (TF.aP rfl TB.i);obtain⟨am,w,c⟩:=O5 (z:=z) (F:=⟨⟨[],lk,none⟩,JO.sc,d⟩) (σ:=σ) (t:=t) rfl b t [] 0 [(44,.str t),(22,.int 0)] rfl rfl J J;exact .cons (.fo (Ug.str rfl (.lo rfl) (by rw[hw];intro a e;have:=(oC a (b a e)).1;simp;exact tl this rfl)) w) (.re (.lo c))
theorem Ka (f:cnt blank t=b)(e:cnt iF (t.drop b)=0)(a:t.length<=16777216)(c:b<=t.length):TK z (d+2) none lk 15 [.str t] σ (.tup [.none,.str (bg t b t.length)]) σ:=by
 apply TK.of0 (f:=.ret _) [(21,.str t)] rfl;apply bx.cons (TF.aP rfl (TB.call (.gl rfl) (.c (.lo rfl) (.c .i .n)) (c12 (k:=0) (hq _) a)));simp only[qS,ki,f];apply bx.cons (TF.aP rfl (TB.call (.gl rfl) (.c (.lo rfl) (.c (.lo rfl) .n)) (wE c a)));rw[e];apply bx.oB (TD.cmp (.lo rfl) (.lo rfl) (TC.Uw rfl (by exact rfl))) rfl;exact .re (.tu (.c .no (.c (.UI (.lo rfl) (.lo rfl) a) .n)) (eW rfl))
set_option tactic.hygienic true in
theorem Kb{z:Z}{d:e5}{lk:e0 e5}{σ:H}{t r:e0 e5}{b e:e5}(l:cnt blank t=b)(k:b+cnt iF (t.drop b)=e)(a:t.length<=16777216)(c:b<=t.length)(j:b<e)
  (g:(if bg t e (e+1:e5)=[32]then bg t (e+1:e5) t.length else bg t e t.length)=r)(hf:∀ m∈bg t b e,iF m=true)(f:ji 0 (bg t b e)<=65529):TK z (d+2) none lk 15 [.str t] σ (.tup [.int (ji 0 (bg t b e)),.str r]) σ:=by
 apply TK.of0 (f:=.ret _) [(21,.str t)] rfl;apply bx.cons (TF.aP rfl (TB.call (.gl rfl) (.c (.lo rfl) (.c .i .n)) (c12 (k:=0) (hq _) a)));simp only[qS,ki,l];apply bx.cons (TF.aP rfl (TB.call (.gl rfl) (.c (.lo rfl) (.c (.lo rfl) .n)) (wE c a)));rw[k];apply bx.g6 (TD.cmp (.lo rfl) (.lo rfl) (TC.Uh rfl (by exact MP j))) rfl .n;refine .cons (ai:=[(21,.str t),(8,.int b),(50,.int e),(25,.str r)]) (TF.aP rfl ?_) (.re (.tu (.c (TB.call (.gl rfl) (.c (TB.call (.gl rfl) (.c (.sb (.lo rfl) (.lo rfl) (.lo rfl) a) .n) (J9 hf)) .n) (BD (sr _ _ J J).1 f)) (.c (.lo rfl) .n)) (eW rfl)));subst g;split
 .rename_i h
  exact .cf (.cmp (.sb (k:=e+1) (.lo rfl) (.lo rfl) (.bin (.lo rfl) .i TC.fg) a) .s (TC.Uw rfl (by assumption))) (.UI (k:=e+1) (.lo rfl) (.bin (.lo rfl) .i TC.fg) a)
 .rename_i h
  exact .bA (.cmp (.sb (k:=e+1) (.lo rfl) (.lo rfl) (.bin (.lo rfl) .i TC.fg) a) .s (TC.Uh rfl (by assumption))) (.UI (.lo rfl) (.lo rfl) a)
end
section
set_option backward.match.sparseCases false
noncomputable abbrev up (c:e5):Nat:=if 97<=c/\c<=122 then c -32 else c
theorem wF:jA .LtE (.str [a]) (.str [b]) σ=some (decide (a<=b)):=by
 show some (!decide (([b]:e0 e5)<[a]))=_;rw[<-Gk];exact hC some (vW.mpr ((not_congr (O0 b a)).trans rx))
theorem oD{lo hi:e5}(h:TB z F ρ σ e (.str [c]) σ):TD z F ρ σ (.lK .LtE .LtE (.s [lo]) e (.s [hi])) (decide (lo<=c)&&decide (c<=hi)) σ:=by
 by_cases a:lo<=c
 .rw[h8 a,F6]
  exact .oy .s h (TC.cmp (by rw[wF,h8 a])) .s (TC.cmp wF)
 .rw[je a,EP]
  exact .sg .s h (TC.cmp (by rw[wF,je a]))
theorem TD.or{a:X}{o':jW}(h1:TD z F ρ σ a o σ)(h2:TD z F ρ σ b o' σ):TD z F ρ σ (.dL .Or (.c a (.c b .n))) (o||o') σ:=by
 cases o
 .exact .Bz h1 h2
 .exact .FC h1
theorem O6 (f:c<1114112):TK z (d+1) hn lk 59 [.str [c]] σ (.str [up c]) σ:=by
 apply TK.of0 (f:=.ret _) [(35,.str [c])] rfl;apply bx.re;have a:=oD (z:=z) (F:=⟨⟨[],lk,hn⟩,JW.sc,d⟩) (ρ:=[(35,.str [c])]) (σ:=σ) (lo:=97) (hi:=122) (c:=c) (e:=.lo 35) (.lo rfl);by_cases h:97<=c/\c<=122
 .rw[show(decide (97<=c)&&decide (c<=122))=true by simp[h]]at a
  refine .cf a ?_;rw[show up c=((c:hA) -32).toNat by simp[up,h];exact Hw];exact .bi rfl (.c (.bin (.bi rfl (.c (.lo rfl) .n) .ord) .i TC.ow) .n) (B1.chr (by exact Hx h) (by exact Hy h))
 .rw[show(decide (97<=c)&&decide (c<=122))=false by simp;exact λe=>Ju λb=>h ⟨e,b⟩]at a
  refine .bA a ?_;rw[show up c=c by simp[up];exact λe b=>iv ⟨e,b⟩ h];exact .lo rfl
noncomputable abbrev letter:e5->Bool:=λc=>(decide (65<=c)&&decide (c<=90))||(decide (97<=c)&&decide (c<=122))
theorem O7{F:Fm}(h:∀ a∈t,a<1114112):∀ (L pre:e0 e5) (b:e0 V) (ρ:aZ) (σ:H),t=pre++L->σ[M]?=some (.list b)->b.length+L.length<=16777216->
  ∃ am,ie z ⟨F.c,F.K,F.d+1⟩ ρ σ M (.str t) pre.length (.lo 35) .n (.call (.gl 146) (.c (.lo 35) .n)) am (σ.set M (.list (b++L.map λa=>.str [up a]))):=by
 intro L;induction L with
 |nil=>
  intro pre b ρ σ c e d;refine⟨ρ,?_⟩;rw[s4,j6,jS e];exact .done (by simp[It.nx,qw,c])
 |cons a L f=>
  intro pre b ρ σ c e d;refine av (f (pre++[a]) (b++[.str [up a]]) (aB ρ 35 (.str [a])) (σ.set M (.list (b++[.str [up a]]))) (by simp[c]) (dK e) (by simp at d ⊢;exact Eu d)) λam w=>?_;refine⟨am,.y5 (v:=.str [a]) (by simp[It.nx,qw,c]) .lo (.call (.gl rfl) (.c (.lo bu) .n) (O6 (h a (by simp[c])))) e (by simp at d;show _<=16777216;exact mI d) ?_⟩;simpa using w
theorem ja{α:Type} f (l:e0 α):strsOf (l.map λc=>.str (f c))=some (l.map f):=by
 induction l with
 |nil=>rfl
 |cons a l b=>exact hC (v2 (f a::·)) b
theorem join_one (l:e0 e5):dM [] (l.map λc=>[up c])=l.map up:=by
 induction l with
 |nil=>rfl
 |cons a l b=>cases l with
  |nil=>rfl
  |cons d l=>exact hC (up a::·) b
theorem O8 (hs:aU [32] t=s)(hk:cnt letter s=k)(ae:t.length<=1000)(b:s.length<=1000)(ai:k<=s.length)(af:t.all (λf=>f<128)=true)(aa:s.all (λf=>f<128)=true)(y:Old lk σ):
  ∃ j:H,TK z (d+2) none lk 58 [.str t] σ (.tup [.str ((bg s 0 k).map up),.str (aU [32] (bg s k s.length))]) (σ++j):=by
 have q:(bg s 0 k).length<=1000:=e2 qA b;have u:(bg s k s.length).length<=1000:=e2 qA b;have p:∀ a∈bg s 0 k,a<128:=λa h=>by
  have:=hw.mp aa a (List.mem_of_mem_take (List.mem_of_mem_drop h));simpa using this
 refine⟨[.list ((bg s 0 k).map λa=>.str [up a])],?_⟩;apply TK.of0 (f:=.ret _) [(21,.str t)] rfl;apply bx.cons (TF.aP rfl (TB.cE rfl (.lo rfl) (.c .s .n) (M2.strip (by show _<=16777216;exact tl ae rfl))));rw[hs];apply bx.cons (TF.aP rfl .i);apply bx.scan 21 6 s letter 0 J (hk:=hq _) (h1:=rfl) (h2:=rfl)
 .intro ρ k a g e n o
  apply TD.fS
  .apply TD.cmp;apply TB.lo;assumption;apply TB.bi;rfl;apply bV.c;apply TB.lo;assumption;exact bV.n;apply B1.c8;exact tl b rfl;exact TC.Uw rfl (iW.mpr (by assumption))
  .exact .or (oD (.sub (.lo g) (.lo e) (T9.str o (by exact tl (e2 n b) rfl)))) (oD (.sub (.lo g) (.lo e) (T9.str o (by exact tl (e2 n b) rfl))))
 .intro ρ g e
  apply TD.gz;apply TD.cmp;apply TB.lo;assumption;apply TB.bi;rfl;apply bV.c;apply TB.lo;assumption;exact bV.n;apply B1.c8;exact tl b rfl;exact TC.Uh rfl (by exact qo)
 .intro ρ k h
  exact .c (.aug h .i) .n
 .intro am ab c
  rw[qS,ki,hk]at c;have l:am.lookup 21=some (.str s):=(ab 21 J).trans rfl;refine av (O7 (z:=z) (F:=⟨⟨[],It.lk (.str (bg s 0 k)) lk,none⟩,[(20,f6),(35,f6),(146,hZ)],d⟩) (M:=σ.length) (t:=bg s 0 k) (λa h=>hO (p a h) J) (bg s 0 k) [] [] [] (σ++[.list []]) rfl wB (by simp;exact tl q rfl)) λau w=>?_;have v:(σ++[TH.list []]).set σ.length (.list ([]++(bg s 0 k).map λa=>.str [up a]))=σ++[.list ((bg s 0 k).map λa=>.str [up a])]:=by simp
  rw[v]at w;have m:s.length<=sz:=e2 b J;have x:(dM [] ((bg s 0 k).map λa=>[up a])).length+([]:e0 e5).length<=sz:=by
   rw[join_one];simp only[g0,rI];show _<=16777216;exact tl q rfl
  rw[<-join_one (bg s 0 k)];refine .re (.tu (.c (TB.me (U:=σ) rfl .s (.c (.comp (Ug.str rfl (.st (k:=k) (.lo l) (.lo c) m) (by rw[hw];intro a h;simpa using p a h)) rfl (cY y (e6 _)) rfl w) .n) rfl (M2.join bc (ja _ _) x))
   (.c (.cE rfl (.UI (.lo l) (.lo c) m) (.c .s .n) (M2.strip (x:=bg s k s.length) (e2 u J))) .n)) ?_)
  exact eW rfl
end
variable{l:e0 V}{a:hD}{w:jo}
section
set_option backward.match.sparseCases false
inductive su (σ:H):V->V->Prop
 |str (s:e0 e5):su σ (.str s) (.str s)
 |tup {n m:e5} {p q:TU} {v:V}:n≠m->σ[n]?=some (.dict (aE p))->σ[m]?=some (.dict (aE q))->p.length=q.length->(∀ r∈p,q.lookup r.1=some r.2)->(v=.none\/∃ i,v=.int i)->su σ (.tup [.h n,v]) (.tup [.h m,v])
noncomputable abbrev mu (σ:H):e0 V->e0 V->Prop:=dZ (su σ)
theorem mu.len (h:mu σ l l'):l.length=l'.length:=dZ.len h
section
variable{gl:e0 (jg×V)}{fr:e0 zs}{s:gc}
theorem mw (x:h.DictOf (keyKind prog w) a kvs)(hi:∀ d∈kvs,∃ i,d.1=Key.int i) prog' w':h.DictOf (keyKind prog' w') a kvs:=by
 refine s7 x λo u ep y p v t j ab=>?_;have q:∀ {l:e0 yw} {m:e0 (Key×fB)},Pairs (keyKind prog w) l m->Pairs (keyKind prog' w') l m:=by
  intro l m x;induction x with
  |nil=>exact .nil
  |cons a g ae e=>exact .cons a g e
 have z:∀ {l:e0 yw} {m:e0 (Key×fB)},Pairs (keyKind prog w) l m->(∀ d∈m,∃ i,d.1=Key.int i)->∀ c∈l,∃ i,(keyKind prog w).is (Key.int i) c.key=true:=by
  intro l m x;induction x with
  |nil=>intro _ c b;simp at b
  |cons a g ae e=>
   intro hi c b;rcases hr.mp b with rfl|b
   .refine av (hi _ List.mem_cons_self) λi hi=>?_
    exact⟨i,by rw[<-hi];exact a⟩
   .exact e (λd n=>hi d (by exact .tail _ n)) c b
 refine Eo o u ep y p v ?_ (q j) ab;intro c b;refine ah (t c b) λk aa s=>?_;refine av (z j hi c (by simpa using b)) λi f=>?_;have:=(keyKind prog w).inj _ _ _ aa f;subst this;exact⟨.int i,f,s⟩
theorem k7{p:TU}(h:kvs.map (λa=>a.1)=(aE p).map (λa=>a.1)):∀ a∈kvs,∃ i,a.1=Key.int i:=by
 intro a c;have:a.1∈(aE p).map (λa=>a.1):=by rw[<-h];exact kK c
 simp only[aE,yg,h4,QI]at this;refine ah this λr d b=>?_;exact⟨r.1,b.symm⟩
theorem sv{c:TU}(k:f.map (λa=>a.1)=(aE c).map (λa=>a.1))(q:aT p ι s.heap ((aE c).map (λa=>a.2)) (f.map (λa=>a.2))){l:TU}(hk:ka.map (λa=>a.1)=(aE l).map (λa=>a.1))(j:aT p ι s.heap ((aE l).map (λa=>a.2)) (ka.map (λa=>a.2)))(h:∀ r∈l,c.lookup r.1=some r.2):KeqHits A s f ka true:=by
 have x:=Vi.of hk j;clear hk j;generalize g:aE l=d at x;induction x generalizing l with
 |nil=>exact .nil
 |cons u _ n=>
  cases l with
  |nil=>exact nomatch g
  |cons r l=>
   refine az (gx.mp h) λo y=>?_;refine az (tV g) λe v=>?_;cases e;have ro:=fb k q (.int r.1);rw[eg,o]at ro;generalize w:Cb f (Key.int r.1)=aa at ro;cases ro with
   |some m=>
    (refine av u.str_inv λt b=>?_;subst b)
    (refine av m.str_inv λz b=>?_;subst b)
    exact .hit (e:=true) w ((str_beq r.2 r.2).trans (h8 rfl)▸t5 _ _ _ _) (n y v)
theorem pZ{x y:V}(d:TQ p ι h (.tup [x,y]) wv):∃ a b w2,wv=.ref a/\qv h a #[b,w2]/\TQ p ι h x b/\TQ p ι h y w2:=by
 cases d with
 |tup _ t r=>exact r.two.elim λb c=>c.elim λw2 c=>⟨_,b,w2,rfl,c.1▸t,c.2⟩
theorem ua{ws:uf fB}(t:qv h a ws)(u:qv h a e):ws=e:=by
 obtain⟨g,d,_,j,f⟩:=t;obtain⟨o',c,_,k,b⟩:=u;obtain rfl:=fZ (d.symm.trans c);cases f.symm.trans b;rfl
theorem su.val (a:v=.none\/∃ i,v=.int i){w u:fB}(x:TQ p ι s.heap v w)(y:TQ p ι s.heap v u):ru A s w u true:=by
 rcases a with rfl|⟨i,rfl⟩
 .exact x.none_inv▸y.none_inv▸Sv _
 .refine x.bW λt=>?_
  refine y.bW λb=>?_;exact(nM i i).trans (h8 rfl)▸Gj _ _ _ _
theorem su.at (B:Base p prog w aa gl)(r:Rel p prog w aa fr ι σ s.heap)(ae:A.units+3<QB)(ab:TQ p ι s.heap v wv)(am:TQ p ι s.heap v' as)(e:su σ v v'):ru A s wv as true:=by
 cases e with
 |str x=>
  refine ab.str' λt=>?_;refine am.str' λa4=>?_;exact(str_beq x x).trans (h8 rfl)▸t5 _ _ _ _
 |@tup a5 m c a6 u a2 aY ar aA ao aP=>
  refine jw λhn=>?_
  (refine qm (pZ ab) λa d w2 y ai aV ay=>?_;subst y)
  (refine qm (pZ am) λaf d u2 y aj aL b=>?_;subst y)
  (refine iV (r.dict B.sys aY aV) λl ka b a0 aD n aq aK=>?_;subst b)
  (refine iV (r.dict B.sys ar aL) λo aX b aJ aw f ap aN=>?_;subst b)
  have ak:l≠o:=λg=>by
   refine av (e4.mp a0) λz aO=>?_;refine av (e4.mp aJ) λl2 aQ=>?_;exact a2 ((nu r.nodup).mp (aO.trans (g.trans aQ.symm)))
  have a1:a≠af:=λg=>ak (SN (tV (SQ (ua ai (g▸aj)))).1);have z:=(g0 (f:=(λc=>c.1)) (as:=ka)).symm.trans ((hC nl n).trans ((g0 ..).trans (g0 ..)));have l2:=(g0 (f:=(λc=>c.1)) (as:=aX)).symm.trans ((hC nl f).trans ((g0 ..).trans (g0 ..)));have au:ru A.in1 s (.ref l) (.ref o) true:=.of_refs ak λk h E Q ax=>
   keq_eq (knd:=keyKind k h) aK aN (mw aD (k7 n) k h) (mw aw (k7 f) k h) (hO (pM (qi _)) ae) (λd=>sv f ap n aq ao)
    (by rw[Bool.and_true,z,l2,aA,ij];exact ax)
  exact hn (.of_refs a1 (R9 (A:=A) (s:=s) (l:=a) (b:=af) (items:=#[.ref l,w2]) (items2:=#[.ref o,u2]) (e:=λd=>true) ai aj (by exact HE ae) λj q a3=>by
   match j,q with
   |0,_=>exact au
   |1,_=>exact su.val aP ay b
   |j+2,q=>exact iv q (Nat.not_lt_of_le (Nat.le_add_left 2 j))))
theorem mu.at (B:Base p prog w aa gl)(r:Rel p prog w aa fr ι σ s.heap)(k:A.units+3<QB)(e:mu σ l l'):∀ {ws a:e0 fB},aT p ι s.heap l ws->aT p ι s.heap l' a->∀ j (h1:j<ws.length) (h2:j<a.length),ru A s ws[j] a[j] true:=by
 induction e with
 |nil=>intro ws a b c j h1;cases b;simp at h1
 |cons x xs m=>
  intro ws a b c j h1 h2;cases b with
  |cons h f=>
  cases c with
  |cons d g=>
  cases j with
  |zero=>exact x.at B r k h d
  |succ j=>exact m f g j (by simpa using h1) (by simpa using h2)
theorem bL.BE (B:Base p prog w aa gl)(z:cH C)(ak:n≠m)(y:σ[n]?=some (.list l))(k:σ[m]?=some (.list l'))(e:mu σ l l'):bL p prog w aa C (n2 .NotEq) (.h n) (.h m) σ (.bool false) σ:=λι s wa wb Q E r ra v t=>by
 have d:(C.A).units+5<cLine:=by have:=z.units;unfold QB;exact ta (k:=6) this rfl
 refine r.list' y ra λai ws aj q h=>?_;refine r.list' k v λab a af x b=>?_;have o:ws.toArray.size=a.toArray.size:=by simp only[ig];rw[<-h.length,<-b.length,e.len]
 have u:∀ j (g:j<ws.toArray.size) (c:j<a.toArray.size),ru C.A.in1 s ws.toArray[j] a.toArray[j] true:=λj g c=>by
  simpa using e.at B r (A:=C.A.in1) (by show C.A.units+1+3<QB;exact gB d) h b j (by exact g) (by exact c)
 have f:=Gp (ha q) (ha x) o (by exact HF d) u;have hx:(!((Ld ws.toArray.size).all λae=>true))=false:=by simp
 rw[hx]at f;exact f prog w E Q (t ι s.heap s.toks _ r (.refl ..) (.bool false))
theorem bL.FN (B:Base p prog w aa gl)(ab:cH C){a b:TU}(z:σ[n]?=some (.dict (aE a)))(l:σ[m]?=some (.dict (aE b)))(v:a.length=b.length)(h:∀ r∈a,b.lookup r.1=some r.2):bL p prog w aa C (n2 .NotEq) (.h n) (.h m) σ (.bool false) σ:=λι s wa wb Q E r ra t o=>by
 refine r.dict' B.sys z ra λaf ka aj u e k x=>?_;refine r.dict' B.sys l t λak d ai q c j y=>?_;have f:ka.length=a.length:=by simpa[aE]using congrArg nl e
 have l2:d.length=b.length:=by simpa[aE]using congrArg nl c
 have g:(!(ka.length==d.length&&true))=false:=by simp[f,l2,v]
 exact keq_ne (r:=true) x y u q (by have:=ab.units;unfold QB;exact Wa this rfl) (λae=>sv c j e k h) (g▸o ι s.heap s.toks _ r (.refl ..) (.bool false))
theorem bL.zf (t:cH C)(v:σ[n]?=some (.list l))(q:σ[m]?=some (.list [])):bL p prog w aa C (n2 .Eq) (.h n) (.h m) σ (.bool l.isEmpty) σ/\bL p prog w aa C (n2 .NotEq) (.h n) (.h m) σ (.bool (!l.isEmpty)) σ:=by
 have d:C.A.units<cLine:=by have:=t.units;unfold QB;exact Wa this rfl
 have g:∀ {ι:e0 hD} {s:gc} {wa wb:fB},Rel p prog w aa C.fr ι σ s.heap->TQ p ι s.heap (.h n) wa->TQ p ι s.heap (.h m) wb->Ri C.A s wa wb l.isEmpty/\NH C.A s wa wb (!l.isEmpty):=by
  intro ι s wa wb r a b;refine r.list' v a λy ws af c k=>?_;refine r.list' q b λab z ae e u=>?_;cases u;cases l with
  |nil=>
   cases k;exact⟨Sq (e:=λo=>true) (ha c) (ha e) rfl d (λj h=>iv h (n3 j)),Gp (e:=λo=>true) (ha c) (ha e) rfl d (λj h=>iv h (n3 j))⟩
  |cons x l=>
   cases k;exact⟨ME (ha c) (ha e) rfl d,LL (ha c) (ha e) rfl d⟩
 exact⟨λι s wa wb Q E r a b f=>(g r a b).1 prog w E Q (f ι s.heap s.toks _ r (.refl ..) (.bool _)),λι s wa wb Q E r a b f=>(g r a b).2 prog w E Q (f ι s.heap s.toks _ r (.refl ..) (.bool _))⟩
end
theorem TC.BE (a:n≠m)(c:σ[n]?=some (.list l))(b:σ[m]?=some (.list l'))(e:mu σ l l'):TC z F (.cm .NotEq) (.h n) (.h m) σ (.bool false) σ:=λC R=>bL.BE z.G.B R.ok a c b e
theorem TC.FN{a b:TU}(d:σ[n]?=some (.dict (aE a)))(c:σ[m]?=some (.dict (aE b)))(e:a.length=b.length)(h:∀ r∈a,b.lookup r.1=some r.2):TC z F (.cm .NotEq) (.h n) (.h m) σ (.bool false) σ:=λC R=>bL.FN z.G.B R.ok d c e h
theorem TC.zf (c:σ[n]?=some (.list l))(b:σ[m]?=some (.list []))(a:l.isEmpty=o):TC z F (.cm .Eq) (.h n) (.h m) σ (.bool o) σ:=λC R=>a▸(bL.zf R.ok c b).1
theorem TC.Kc (c:σ[n]?=some (.list l))(b:σ[m]?=some (.list []))(a:(!l.isEmpty)=o):TC z F (.cm .NotEq) (.h n) (.h m) σ (.bool o) σ:=λC R=>a▸(bL.zf R.ok c b).2
end
section
set_option backward.match.sparseCases false
theorem Old.mono (h:Old lk σ)(a:σ<+:ae):Old lk ae:=λi hi=>fC (h i hi) a.length_le
theorem jJ{a:H}(h:σ<+:a)(b:σ.length<=m):σ<+:a.set m c:=by
 obtain⟨j,rfl⟩:=h;rw[r5 _ _ b];exact e1 ..
noncomputable def TN (t:e0 e5)(v:V):Prop:=(aU [32] t=[]/\v=.none)\/(aU [32] t≠[]/\(∀ c∈aU [32] t,iF c=true)/\ji 0 (aU [32] t)<=65529/\v=.int (ji 0 (aU [32] t)))
theorem Pg (h:∀ a∈t,iF a=true):∀ (L pre:e0 e5) (ρ:aZ),t=pre++L->∃ am,ie z F ρ σ M (.str t) pre.length (.lo 35) (.c (.cmp .NotIn (.lo 35) (.gl 147)) .n) (.lo 35) am σ:=by
 intro L;induction L with
 |nil=>intro pre ρ b;exact⟨ρ,.done (DJ b)⟩
 |cons a L e=>
  intro pre ρ b;obtain⟨am,w⟩:=e (pre++[a]) (aB ρ 35 (.str [a])) (by rw[b];exact s5 ..);have d:=h a (DF b);refine⟨am,.skip (v:=.str [a]) (DI b) .lo (.cmp (.lo bu) (.gl rfl) (TC.cmp (by show some (!([48,49,50,51,52,53,54,55,56,57]:e0 e5).contains a)=_;exact hC (λc=>some (!c)) d))) ?_⟩;rw[hg]at w;exact w
theorem wG (h:TN t v)(m:t.length<=1000)(k:Old lk σ):∃ ae,TK z (d+2) none lk 60 [.str t] σ v ae/\σ<+:ae:=by
 have e:t.length<=sz:=e2 m J;rcases h with⟨b,rfl⟩|⟨b,c,g,rfl⟩
 .refine⟨σ,?_,fV⟩
  apply TK.of0 (f:=.ret _) [(21,.str t)] rfl;apply bx.cons (TF.aP rfl (TB.cE rfl (.lo rfl) (.c .s .n) (M2.strip e)));rw[b];exact .oB (.cmp (.lo rfl) .s (TC.cmp rfl)) rfl (.re .no)
 .refine⟨σ++[.list []]++[.list []],?_,by exact(e1 ..).trans (e1 ..)⟩
  generalize j:aU [32] t=a at*
  apply TK.of0 (f:=.ret _) [(21,.str t)] rfl;apply bx.cons (TF.aP rfl (TB.cE rfl (.lo rfl) (.c .s .n) (M2.strip e)));rw[j];apply bx.g6 (TD.cmp (.lo rfl) .s (TC.Uh rfl (b))) rfl .n;obtain⟨au,w⟩:=Pg (z:=z) (F:=⟨⟨[],It.lk (.str a) lk,none⟩,[(20,f6),(35,f6),(147,hZ)],d+1⟩) (M:=σ.length) (σ:=σ++[.list []]) (t:=a) c a [] [] rfl;apply bx.g6 (TD.cmp (.comp (Ug.str (x:=a) (U:=σ) rfl (.lo rfl) (by rw[hw];intro f l;have:=(oC f (c f l)).1;simp;exact tl this rfl)) rfl (by exact cY (lk:=lk) k (e6 _)) rfl w) (.li .n (hq _)) (TC.Kc (bf bc) bc rfl)) rfl .n;exact .re (TB.call (.gl rfl) (.c (TB.call (.gl rfl) (.c (.lo rfl) .n) (J9 c)) .n) (BD (sr _ _ J J).1 g))
noncomputable def loV:V->V
 | .none=>.int 0
 |v=>v
noncomputable def hiV:V->V
 | .none=>.int 65529
 |v=>v
theorem TN.BF (h:TN t v):v=.none\/∃ i,v=.int i:=by
 rcases h with⟨_,rfl⟩|⟨_,_,_,rfl⟩
 .exact .inl rfl
 .exact .inr ⟨_,rfl⟩
theorem kz c (l):(bR c l).1.length<=l.length/\(bR c l).2.2.length<=l.length:=by
 induction l with
 |nil=>exact⟨e6 _,e6 _⟩
 |cons a l b=>
  unfold bR;split
  .exact⟨hq _,jr _⟩
  .exact⟨hm b.1,sn b.2⟩
theorem Kd (hs:(bR 45 t).2.1=[])(h:TN (bR 45 t).1 (.int i))(a:t.length<=1000)(e:Old lk σ):∃ ae,TK z (d+3) none lk 61 [.str t] σ (.tup [.int i,.int i]) ae/\σ<+:ae:=by
 have c:t.length<=sz:=e2 a J;obtain⟨ae,w,b⟩:=wG (z:=z) (d:=d) (lk:=lk) (σ:=σ) h (e2 (kz 45 t).1 a) e;refine⟨ae,?_,b⟩;apply TK.of0 (f:=.ret _) [(21,.str t)] rfl;apply bx.cons (TF.dI (TB.cE rfl (.lo rfl) (.c .s .n) (M2.part c)) (DA.tu rfl (.cons .lo (.cons .lo (.cons .lo .nil)))));apply bx.cons (TF.aP rfl (TB.call (.gl rfl) (.c (.lo rfl) .n) w));apply bx.oB (TD.cmp (.lo rfl) .s (TC.cmp (by rw[hs];rfl))) rfl;exact .re (.bA (.cmp (.lo rfl) .no (TC.cmp rfl)) (.tu (.c (.lo rfl) (.c (.lo rfl) .n)) (eW rfl)))
theorem Ke (hs:(bR 45 t).2.1=[45])(h:TN (bR 45 t).1 v)(h':TN (bR 45 t).2.2 u)(a:t.length<=1000)(c:Old lk σ):∃ ae,TK z (d+3) none lk 61 [.str t] σ (.tup [loV v,hiV u]) ae/\σ<+:ae:=by
 have f:t.length<=sz:=e2 a J;obtain⟨U,w,b⟩:=wG (z:=z) (d:=d) (lk:=lk) (σ:=σ) h (e2 (kz 45 t).1 a) c;obtain⟨af,w2,e⟩:=wG (z:=z) (d:=d) (lk:=lk) (σ:=U) h' (e2 (kz 45 t).2 a) (c.mono b);refine⟨af,?_,b.trans e⟩;apply TK.of0 (f:=.ret _) [(21,.str t)] rfl;apply bx.cons (TF.dI (TB.cE rfl (.lo rfl) (.c .s .n) (M2.part f)) (DA.tu rfl (.cons .lo (.cons .lo (.cons .lo .nil)))));apply bx.cons (TF.aP rfl (TB.call (.gl rfl) (.c (.lo rfl) .n) w));apply bx.g6 (TD.cmp (.lo rfl) .s (TC.cmp (by rw[hs];rfl))) rfl .n;apply bx.cons (TF.aP rfl (TB.call (.gl rfl) (.c (.lo rfl) .n) w2));refine .re (.tu (.c (v:=loV v) (U:=af) ?_ (.c (v:=hiV u) (U:=af) ?_ .n)) (eW rfl))
 .rcases h.BF with rfl|⟨i,rfl⟩
  .exact .cf (.cmp (.lo rfl) .no (TC.cmp rfl)) .i
  .exact .bA (.cmp (.lo rfl) .no (TC.cmp rfl)) (.lo rfl)
 .rcases h'.BF with rfl|⟨i,rfl⟩
  .exact .cf (.cmp (.lo rfl) .no (TC.cmp rfl)) (.gl rfl)
  .exact .bA (.cmp (.lo rfl) .no (TC.cmp rfl)) (.lo rfl)
theorem Kf (h:bg t 0 1=[34])(h2:(bR 34 (bg t 1 t.length)).1≠[])(c:t.length<=1000):TK z (d+1) hn lk 63 [.str t] σ (.str (bR 34 (bg t 1 t.length)).1) σ:=by
 have a:t.length<=sz:=e2 c J;have b:(bg t 1 t.length).length<=sz:=e2 qA a;apply TK.of0 (f:=.ret _) [(21,.str t)] rfl;apply bx.J8 (TD.cmp (.st (k:=1) (.lo rfl) .i a) .s (TC.cmp (by show some (decide (bg t 0 ((1:e5):hA)=[34]))=_;rw[show((1:e5):hA)=1 from rfl,h];rfl))) rfl (.c (.aP rfl (.sub (.cE rfl (.UI (k:=1) (.lo rfl) .i a) (.c .s .n) (M2.part b)) .i (T9.tup (k:=0) rfl J))) .n);apply bx.g6 (TD.cmp (.lo rfl) .s (TC.Uh rfl h2)) rfl .n;exact .re (.lo rfl)
theorem Ph (h:bg t 0 1≠[34])(h2:t≠[])(a:t.length<=1000):TK z (d+1) hn lk 63 [.str t] σ (.str t) σ:=by
 have b:t.length<=sz:=e2 a J;apply TK.of0 (f:=.ret _) [(21,.str t)] rfl;apply bx.g6 (TD.cmp (.st (k:=1) (.lo rfl) .i b) .s (TC.cmp (by show some (decide (bg t 0 ((1:e5):hA)=[34]))=_;rw[show((1:e5):hA)=1 from rfl];simp[h]))) rfl .n;apply bx.g6 (TD.cmp (.lo rfl) .s (TC.Uh rfl (h2))) rfl .n;exact .re (.lo rfl)
end
variable{p:TU}{a:hA}{ln:e5}
section
set_option backward.match.sparseCases false
theorem aR{a:H}{n:e5}(b:σ<+:a)(h:σ[n]?=some c):a[n]?=some c:=bC b h
theorem oE (h:σ[n]?=some (.dict (aE p)))(c:p.length<64)(e:Old lk σ):
  ∃ ae r,TK z (d+1) none lk 16 [.h n,.int a,.int b] σ (.h r) ae/\σ<+:ae/\ae[r]?=some (.list ((within p a b).map V.int))/\σ.length<=r:=by
 obtain⟨j,w⟩:=O4 (z:=z) (d:=d) (a:=a) (b:=b) h c e;exact⟨_,_,w,by rw[lE];exact e1 ..,bc,by simp⟩
theorem Pj (u:F.c.cm.lookup 15=some ca)(n1:M≠ln)(m:M≠ca)(t:M≠n):∀ (L pre:e0 hA) (a:e0 V) (ρ:aZ) (σ:H),
  σ[ln]?=some (.list ((pre++L).map V.int))->σ[ca]?=some (.cell (some (.h n)))->σ[n]?=some (.dict (aE p))->σ[M]?=some (.list a)->a.length+L.length<=16777216->(∀ k∈L,k.natAbs<1000000000/\(aG k).length<=100/\∃ r,p.lookup k=some r/\r.length<=1000)->
  ∃ am,ie z F ρ σ M (.list ln) pre.length (.lo 9) .n (.bin .Add (.bin .Add (.bi 17 (.c (.lo 9) .n)) (.s [32])) (.sub (.fr 15) (.lo 9))) am (σ.set M (.list (a++L.map λk=>.str (bj p k)))):=by
 intro L;induction L with
 |nil=>
  intro pre a ρ σ c g e d b f;refine⟨ρ,?_⟩;rw[s4,j6,jS d];exact .done (DH c)
 |cons x L v=>
  intro pre a ρ σ c g e d b f;obtain⟨l,h,r,j,o⟩:=f x (.head _);have s:(pre++x::L)=(pre++[x])++L:=by exact s5 ..
  have hx:It.nx (.list ln) pre.length σ=some (some (.int x)):=DG c;obtain⟨am,w⟩:=v (pre++[x]) (a++[.str (bj p x)]) (aB ρ 9 (.int x)) (σ.set M (.list (a++[.str (bj p x)]))) (by rw[<-s];exact bv c n1) (bv g m) (bv e t) (dK d) (by simp at b ⊢;exact Eu b) (λk hk=>f k (by exact .tail _ hk));have q:bj p x=aG x++[32]++r:=by rw[bj,j];rfl
  refine⟨am,.y5 (v':=.str (bj p x)) hx .lo ?_ d (by simp at b;show _<=16777216;exact mI b) ?_⟩
  .rw[q]
   exact .bin (.bin (.bi rfl (.c (.lo bu) .n) (B1.str l)) .s (TC.cD (by simp;show _<=16777216;exact ta h rfl))) (.sub (.fr u g) (.lo (v:=.int x) bu) (T9.dict (key:=.int x) rfl e (by rw[eg,j];rfl))) (TC.cD (by simp;show _<=16777216;exact tl (kl (hm h) o) rfl))
  .simpa using w
theorem bK.at_ (g:bK p){k:hA}(hk:k∈within p a b):k.natAbs<1000000000/\(aG k).length<=100/\∃ r,p.lookup k=some r/\r.length<=1000:=by
 obtain⟨r,f,h⟩:=lookup_mem (jI hk).1;obtain⟨c,d,e⟩:=g.row _ h;exact⟨by simp only at c d;exact na (k:=1000) (g7 J c) d rfl,cK (by simp only at c;exact rA c) (by simp only at d;exact vL d),r,f,by simp only at e;exact tl e rfl⟩
theorem Pk (h:σ[n]?=some (.dict (aE p)))(f:bK p)(l:Old lk σ):
  ∃ ae r,TK z (d+2) none lk 18 [.h n,.int a,.int b] σ (.h r) ae/\σ<+:ae/\ae[r]?=some (.list ((within p a b).map λk=>.str (bj p k)))/\σ.length<=r:=by
 have hn:n<σ.length:=(e4.mp h).1;obtain⟨U,r,w,g,e,m⟩:=oE (z:=z) (d:=d) (lk:=lk) (σ:=σ++[.cell (some (.h n))]) (a:=a) (b:=b) (bf h) f.len (l.mono (e1 ..));have c:σ<+:U:=(e1 ..).trans g;have j:σ.length+1<=U.length:=by have:=g.length_le;simpa using this
 have o:r<U.length:=(e4.mp e).1;have t:σ.length+1<=r:=by simpa using m
 have s:(within p a b).length<64:=hQ (gA p a b) f.len;obtain⟨am,w2⟩:=Pj (z:=z) (F:=Fm.comp ⟨⟨[(15,σ.length)],lk,none⟩,JR.sc,d+1⟩ (.list r) [(20,f6),(9,f6),(17,hZ),(15,.free)]) (n:=n) (ca:=σ.length) (ln:=r) (M:=U.length) rfl (by exact hj o) (by exact hj j) (by exact hj (hO hn j)) (within p a b) [] [] []
  (U++[.list []]) (bf (by exact e)) (bf (aR g bc)) (bf (aR c h)) bc (by simp;exact vM s) (λk hk=>f.at_ hk)
 have q:(U++[TH.list []]).set U.length (.list ([]++(within p a b).map λk=>.str (bj p k)))=U++[.list ((within p a b).map λk=>.str (bj p k))]:=by simp
 rw[q]at w2;refine⟨_,U.length,?_,c.trans (e1 ..),bc,c.length_le⟩;apply TK.jm (f:=.ret _) [(15,σ.length)] [(55,.int b),(54,.int a)] (σ++[.cell (some (.h n))]) rfl;exact .re (.comp (Ug.list rfl (.call (.gl rfl) (.c (.ce rfl bc) (.c (.lo rfl) (.c (.lo rfl) .n))) w) e) rfl (by exact cY (lk:=lk) (l.mono c) (e6 _)) rfl w2)
set_option tactic.hygienic true in
theorem Pl{z:Z}{F:Fm}{n ln:e5}(f:F.c.lk.contains n=false)(j:ln≠n):∀ (L pre:e0 hA) (p:TU) (ρ:aZ) (σ:H),ρ.lookup 15=some (.h n)->σ[n]?=some (.dict (aE p))->σ[ln]?=some (.list ((pre++L).map V.int))->p.length<=1000->L.Nodup->(∀ k∈L,∃ r,p.lookup k=some r)->
  ∃ am,U1 z F ρ σ (.list ln) pre.length (.lo 9) (.c (.ex (.me (.lo 15) 27 (.c (.lo 9) .n))) .n) .next am (σ.set n (.dict (aE (L.foldl cQ p)))):=by
 intro L;induction L with
 |nil=>
  intro pre p ρ σ c a b _ _ _;refine⟨ρ,?_⟩;rw[List.foldl_nil,jS a];exact .done (DH b)
 |cons x L l=>
  intro pre p ρ σ c a b e hn d;obtain⟨r,g⟩:=d x (.head _);rw[ku]at hn;have h:(pre++x::L)=(pre++[x])++L:=by exact s5 ..
  obtain⟨am,w⟩:=l (pre++[x]) (cQ p x) (aB ρ 9 (.int x)) (σ.set n (.dict (aE (cQ p x)))) (aM rfl c) (dK a) (by rw[<-h];exact bv b (Ne.symm j)) (e2 (wC ..) e) hn.2 λk hk=>by
   rw[qX (show k≠x from λz=>hn.1 (by rw[<-z];exact hk))];exact d k (by exact .tail _ hk)
  refine⟨am,.turn (v:=.int x) (DG b) .lo (.c (.ex (.cE rfl (.lo (aM rfl c)) (.c (.lo (v:=.int x) bu) .n) (M2.pop (key:=.int x) rfl a (by rw[dJ];show _<=16777216;exact tl e rfl) (by rw[eg,g];rfl) f))) .n) ?_⟩;rw[lU];simpa using w
theorem Pm (h:σ[n]?=some (.dict (aE p)))(e:bK p)(m:Old lk σ)(j:lk.contains n=false)(l:within p a b≠[]):
  ∃ ae,TK z (d+2) none lk 17 [.h n,.int a,.int b] σ .none (ae.set n (.dict (aE ((within p a b).foldl cQ p))))/\σ<+:ae:=by
 have hn:n<σ.length:=(e4.mp h).1;obtain⟨U,r,w,f,c,g⟩:=oE (z:=z) (d:=d) (lk:=lk) (σ:=σ) (a:=a) (b:=b) h e.len m;have o:(within p a b).length<64:=hQ (gA p a b) e.len;have q:r<U.length:=(e4.mp c).1;obtain⟨am,w2⟩:=Pl (z:=z) (F:=Fm.lock ⟨⟨[],lk,none⟩,JQ.sc,d+1⟩ (.list r)) (n:=n) (ln:=r) j (by exact hj (fC hn g)) (within p a b) [] p [(55,.int b),(54,.int a),(15,.h n),(56,.h r)] U rfl (aR f h) (by exact c) (by have:=e.len;exact tl (gB this) rfl) (pE e a b) λk hk=>let⟨r,h,_⟩:=lookup_mem (jI hk).1;⟨r,h⟩
 refine⟨U,?_,f⟩;apply TK.of0 (f:=.next) [(55,.int b),(54,.int a),(15,.h n)] rfl;apply bx.cons (TF.aP rfl (.call (.gl rfl) (.c (.lo rfl) (.c (.lo rfl) (.c (.lo rfl) .n))) w));apply bx.g6 (TD.cmp (.bi rfl (.c (.lo rfl) .n) (B1.kQ c (jh (by exact vM o)))) .i (TC.Uh rfl (by simp[l]))) rfl .n;exact .cons (.fo (Ug.list rfl (.lo rfl) c) w2) .nil
theorem Kg (h:σ[n]?=some (.dict (aE p)))(f:bK p)(g:Old lk σ)(e:within p a b=[]):
  ∃ ae,gn z (d+2) none lk 17 [.h n,.int a,.int b] σ (.str [70,67]) (.str [68,69,76,69,84,69]) ae/\σ<+:ae:=by
 obtain⟨U,r,w,j,c,k⟩:=oE (z:=z) (d:=d) (lk:=lk) (σ:=σ) (a:=a) (b:=b) h f.len g;rw[e]at c;refine⟨U,?_,j⟩;apply gn.of0 [(55,.int b),(54,.int a),(15,.h n)] rfl;exact⟨_,.tl (TF.aP rfl (.call (.gl rfl) (.c (.lo rfl) (.c (.lo rfl) (.c (.lo rfl) .n))) w)) (.hd (.iff (o:=true) (TD.cmp (.bi rfl (.c (.lo rfl) .n) (B1.kQ c (hq _))) .i (TC.cmp rfl)) (.hd (.t6 rfl (.c .s (.c .s .n))))))⟩
end
variable{C:Prop}{τ:H}{a t:X}{w:V}{l m:Ss}{Q Q':Uk->aZ->H->Prop}{L':e0 e5}
section
set_option backward.match.sparseCases false
section
variable{z:Z}{F:Fm}{b e:X}{v:V}{ss:Ss}{f:Uk}{s:S}
noncomputable def ag (z:Z)(F:Fm)(ρ:aZ)(σ:H)(b:Ss)(Q:Uk->aZ->H->Prop):Prop:=∃ f am ae,DB z F ρ σ b f am ae/\Q f am ae
noncomputable def WC (z:Z)(F:Fm)(ss:Ss)(Q:Uk->aZ->H->Prop):Uk->aZ->H->Prop
 | .next,ρ,σ=>ag z F ρ σ ss Q
 | .cont,ρ,σ=>Q .cont ρ σ
 | .brk,ρ,σ=>Q .brk ρ σ
 | .ret v,ρ,σ=>Q (.ret v) ρ σ
set_option tactic.hygienic true in
theorem ag.nil (h:Q .next ρ σ):ag z F ρ σ .n Q:=⟨_,_,_,.n,h⟩
theorem ag.st (h1:TF z F ρ σ s f ai U)(h2:WC z F ss Q f ai U):ag z F ρ σ (.c s ss) Q:=by
 cases f with
 |next=>refine cB h2 λf r s c b=>?_;exact jt f r s (.c h1 c) b
 |cont=>exact jt _ _ _ (.J3 h1) h2
 |brk=>exact jt _ _ _ (λC R a=>TZ.stop (h1 C R (w2 a).1) nofun) h2
 |ret v=>exact jt _ _ _ (.r h1) h2
set_option tactic.hygienic true in
theorem ag.cons (h1:TF z F ρ σ s .next ai U)(h2:ag z F ai U ss Q):ag z F ρ σ (.c s ss) Q:=ag.st (f:=.next) h1 h2
theorem ag.re (h1:TB z F ρ σ a v U)(h:Q (.ret v) ρ U):ag z F ρ σ (.c (.re a) ss) Q:=ag.st (.re h1) h
theorem ag.r0 (h:Q (.ret .none) ρ σ):ag z F ρ σ (.c .r0 ss) Q:=ag.st .r0 h
theorem ag.co (h:Q .cont ρ σ):ag z F ρ σ (.c .co ss) Q:=ag.st .co h
theorem ag.cf (h1:TD z F ρ σ t true U)(h2:ag z F ρ U l (WC z F ss Q)):ag z F ρ σ (.c (.iff t l m) ss) Q:=cB h2 λf r s b a=>.st (.cf h1 b) a
theorem ag.bA (h1:TD z F ρ σ t false U)(h2:ag z F ρ U m (WC z F ss Q)):ag z F ρ σ (.c (.iff t l m) ss) Q:=cB h2 λf r s b a=>.st (.bA h1 b) a
noncomputable def BG (P:aZ->H->Prop)(Q:Uk->aZ->H->Prop):Uk->aZ->H->Prop
 | .next,ρ,σ=>P ρ σ
 | .cont,ρ,σ=>P ρ σ
 | .brk,_,_=>P2
 | .ret v,ρ,σ=>Q (.ret v) ρ σ
noncomputable def Kh (P:aZ->H->Prop):Uk->aZ->H->Prop
 | .next,ρ,σ=>P ρ σ
 | .cont,_,_=>P2
 | .brk,_,_=>P2
 | .ret _,_,_=>P2
set_option tactic.hygienic true in
theorem FO{C:Prop}(n:e5)(P:e5->aZ->H->Prop)(hn:∀ ρ σ,P n ρ σ->I.nx n σ=some none)
  (hs:∀ i ρ σ,i<n->P i ρ σ->∃ v ai U,I.nx i σ=some (some v)/\DA z F ρ σ t v ai U/\ag z F ai U ss (BG (P (i+1)) Q)):∀ k i ρ σ,i+k=n->P i ρ σ->(∀ am ae,U1 z F ρ σ I i t ss .next am ae->P n am ae->C)->(∀ w am ae,U1 z F ρ σ I i t ss (.ret w) am ae->Q (.ret w) am ae->C)->C:=by
 intro k;induction k with
 |zero=>intro i ρ σ e h g l;obtain rfl:i=n:=e;exact g ρ σ (.done (hn _ _ h)) h
 |succ k o=>
  intro i ρ σ e h g l;obtain⟨v,ai,U,b,c,f,au,af,a,j⟩:=hs i ρ σ (e▸p4 (xu k)) h;have m:i+1+k=n:=(Pe i k).trans e;cases f with
  |next=>exact o (i+1) au af m j (λam ae d=>g am ae (.turn b c a d)) λw am ae d=>l w am ae (.turn b c a d)
  |cont=>exact o (i+1) au af m j (λam ae d=>g am ae (.cont b c a d)) λw am ae d=>l w am ae (.cont b c a d)
  |brk=>exact j.elim
  |ret w=>exact l w au af (.ret b c a) j
theorem ag.fo n (P:e5->aZ->H->Prop)(h:Ug z F ρ σ t e I U)(c:P 0 ρ U)(hn:∀ ρ σ,P n ρ σ->I.nx n σ=some none)(hs:∀ i ρ σ,i<n->P i ρ σ->∃ v ai U,I.nx i σ=some (some v)/\DA z (F.lock I) ρ σ t v ai U/\ag z (F.lock I) ai U l (BG (P (i+1)) Q))(k:∀ am ae,P n am ae->ag z F am ae ss Q):ag z F ρ σ (.c (.fo t e l) ss) Q:=
 FO (Q:=Q) n P hn hs n 0 ρ U (ki n) c (λam ae b a=>.cons (.fo h b) (k _ _ a)) λw am ae b a=>.st (.fo h b) a
set_option tactic.hygienic true in
theorem FP (P:e5->aZ->H->Prop)(hs:∀ i ρ σ,P i ρ σ->(∃ U,TD z F ρ σ t false U/\i=0/\P 0 ρ U)\/∃ j U,i=j+1/\TD z F ρ σ t true U/\ag z F ρ U ss (λf am ae=>f=.next/\P j am ae)):∀ k ρ σ,P k ρ σ->∃ am ae,Vx z F ρ σ t ss .next am ae/\P 0 am ae:=by
 intro k;induction k with
 |zero=>
  intro ρ σ h;rcases hs 0 ρ σ h with⟨U,a,_,b⟩|⟨j,_,a,_⟩
  .exact eT ρ U (.done a) b
  .lia
 |succ k g=>
  intro ρ σ h;rcases hs _ ρ σ h with⟨U,a,c,b⟩|⟨j,U,a,b,f,au,af,c,rfl,d⟩
  .lia
  .obtain rfl:k=j:=by exact s3 a
   refine b5 (g au af d) λam ae l e=>?_;exact eT am ae (.turn b c l) e
theorem ag.iy (P:e5->aZ->H->Prop) k (a:P k ρ σ)(hs:∀ i ρ σ,P i ρ σ->(∃ U,TD z F ρ σ t false U/\i=0/\P 0 ρ U)\/∃ j U,i=j+1/\TD z F ρ σ t true U/\ag z F ρ U l (λf am ae=>f=.next/\P j am ae))(h:∀ am ae,P 0 am ae->ag z F am ae ss Q):ag z F ρ σ (.c (.iy t l) ss) Q:=by
 refine b5 (FP P hs k ρ σ a) λam ae c b=>?_;exact .cons (.iy c) (h _ _ b)
theorem ag.scan{rest:Ss} tx a text f k (d:tx≠a)(g:∀ (ρ:aZ) k c,ρ.lookup tx=some (.str text)->ρ.lookup a=some (.int (k:e5))->k<text.length->text[k]?=some c->TD z F ρ σ t (f c) σ)(e:∀ (ρ:aZ),ρ.lookup tx=some (.str text)->ρ.lookup a=some (.int text.length)->TD z F ρ σ t false σ)(l:∀ (ρ:aZ) (k:e5),ρ.lookup a=some (.int k)->DB z F ρ σ ss .next (aB ρ a (.int ((k:hA)+1))) σ)(hk:k<=text.length)(h1:ρ.lookup tx=some (.str text))(h2:ρ.lookup a=some (.int k))(h:∀ am:aZ,(∀ y,y≠a->am.lookup y=ρ.lookup y)->am.lookup a=some (.int ((k+cnt f (text.drop k):e5):hA))->ag z F am σ rest Q):ag z F ρ σ (.c (.iy t ss) rest) Q:=
 ba (ze (f:=f) d g e l _ k ρ rfl hk h1 h2) λam w j b=>.cons (.iy w) (h am j b)
theorem oF.of0{P:V->H->Prop} aN (o:VU k args aN B sc)(h:ag z ⟨⟨[],lk,hn⟩,sc,d⟩ aN σ B (λf b ae=>P f.val ae)):∃ v ae,TK z (d+1) hn lk k args σ v ae/\P v ae:=
 cB h λf am ae h a=>⟨f.val,ae,TK.of0 aN o ⟨_,h⟩,a⟩
theorem dh.of0{P:H->Prop} aN (o:VU k args aN B sc)(h:ag z ⟨⟨[],lk,hn⟩,sc,d⟩ aN σ B (λf c ae=>f.val=v/\P ae)):∃ ae,TK z (d+1) hn lk k args σ v ae/\P ae:=
 fx h λf am ae h a b=>⟨ae,a▸TK.of0 aN o ⟨_,h⟩,b⟩
theorem oF.jm{P:V->H->Prop} cm aN σ₀ (o:VT k args σ cm aN σ₀ B sc)(h:ag z ⟨⟨cm,lk,hn⟩,sc,d⟩ aN σ₀ B (λf b ae=>P f.val ae)):∃ v ae,TK z (d+1) hn lk k args σ v ae/\P v ae:=
 cB h λf am ae h a=>⟨f.val,ae,TK.jm cm aN σ₀ o ⟨_,h⟩,a⟩
theorem dh.jm{P:H->Prop} cm aN σ₀ (o:VT k args σ cm aN σ₀ B sc)(h:ag z ⟨⟨cm,lk,hn⟩,sc,d⟩ aN σ₀ B (λf c ae=>f.val=v/\P ae)):∃ ae,TK z (d+1) hn lk k args σ v ae/\P ae:=
 fx h λf am ae h a b=>⟨ae,a▸TK.jm cm aN σ₀ o ⟨_,h⟩,b⟩
theorem sw.of0 aN (o:VU k args aN B sc)(h:ag z ⟨⟨[],lk,hn⟩,sc,d⟩ aN σ B (λf a ae=>TK z (d+1) hn lk k args σ f.val ae->C)):C:=
 (oF.of0 (P:=λv ae=>TK z (d+1) hn lk k args σ v ae->C) aN o h).elim λa b=>b.elim λa h=>h.2 h.1
theorem sw.jm cm aN σ₀ (o:VT k args σ cm aN σ₀ B sc)(h:ag z ⟨⟨cm,lk,hn⟩,sc,d⟩ aN σ₀ B (λf a ae=>TK z (d+1) hn lk k args σ f.val ae->C)):C:=
 (oF.jm (P:=λv ae=>TK z (d+1) hn lk k args σ v ae->C) cm aN σ₀ o h).elim λa b=>b.elim λa h=>h.2 h.1
noncomputable def cA (z:Z)(F:Fm)(ρ:aZ)(σ:H)(b:Ss)(u:V)(P:H->Prop):Prop:=∃ w am ae,i8 z F ρ σ b u w am ae/\P ae
variable{P:H->Prop}
theorem cA.hd (h:j0 z F ρ σ s u w ai U)(h2:P U):cA z F ρ σ (.c s ss) u P:=⟨_,_,_,.hd h,h2⟩
set_option tactic.hygienic true in
theorem cA.tl (h:TF z F ρ σ s .next ai U)(h2:cA z F ai U ss u P):cA z F ρ σ (.c s ss) u P:=cB h2 λw r s b a=>⟨w,r,s,.tl h b,a⟩
theorem cA.pF (h1:TD z F ρ σ t true U)(h2:cA z F ρ U l u P):cA z F ρ σ (.c (.iff t l m) ss) u P:=cB h2 λw r s b a=>⟨w,r,s,.hd (.iff (o:=true) h1 b),a⟩
theorem cA.Ki (h1:TD z F ρ σ t false U)(h2:cA z F ρ U m u P):cA z F ρ σ (.c (.iff t l m) ss) u P:=cB h2 λw r s b a=>⟨w,r,s,.hd (.iff (o:=false) h1 b),a⟩
set_option tactic.hygienic true in
theorem cA.Pn (h1:TD z F ρ σ t false U)(h2:DB z F ρ U m .next ai af)(a:cA z F ai af ss u P):cA z F ρ σ (.c (.iff t l m) ss) u P:=.tl (.bA h1 h2) a
theorem cA.FG (hn:F.c.hn=none)(h:bV z F ρ σ xs [u] U)(h2:P U):cA z F ρ σ (.c (.ra x xs) ss) u P:=.hd (.FG hn h) h2
theorem cA.t6 (hn:F.c.hn=none)(h:bV z F ρ σ xs [u,w] U)(h2:P U):cA z F ρ σ (.c (.ra x xs) ss) u P:=.hd (.t6 hn h) h2
theorem lV.of0 aN (o:VU k args aN B sc)(h:cA z ⟨⟨[],lk,hn⟩,sc,d⟩ aN σ B u P):∃ w ae,gn z (d+1) hn lk k args σ u w ae/\P ae:=
 cB h λw am ae h a=>⟨w,ae,gn.of0 aN o ⟨_,h⟩,a⟩
theorem lV.jm cm aN σ₀ (o:VT k args σ cm aN σ₀ B sc)(h:cA z ⟨⟨cm,lk,hn⟩,sc,d⟩ aN σ₀ B u P):∃ w ae,gn z (d+1) hn lk k args σ u w ae/\P ae:=
 cB h λw am ae h a=>⟨w,ae,gn.jm cm aN σ₀ o ⟨_,h⟩,a⟩
theorem Kj{α:Type} el f (L:e0 α)(d:M=τ.length)(m:L.length<=1000000)(b:∀ i a,I.nx i (τ++[.list a])=some (L[i]?.map el))(hs:∀ (x:α) a ρ,x∈L->∃ ai,DA z F ρ (τ++[.list a]) t (el x) ai (τ++[.list a])/\TB z F ai (τ++[.list a]) e (f x) (τ++[.list a])):∀ k i ρ a,i+k=L.length->a.length=i->∃ am,ie z F ρ (τ++[.list a]) M I i t .n e am (τ++[.list (a++(L.drop i).map f)]):=by
 subst d;intro k;induction k with
 |zero=>
  intro i ρ a e h;refine⟨ρ,?_⟩;rw[De (by exact iP e.symm),s4,j6];exact .done (by rw[b,lF (by exact iP e.symm)];rfl)
 |succ k l=>
  intro i ρ a e h;have hi:i<L.length:=by exact AU e
  refine ah (hs L[i] a ρ (j5 hi)) λai j n=>?_;refine av (l (i+1) ai (a++[f L[i]]) (by exact xO e) (by rw[hg,h];rfl)) λam c=>?_;refine⟨am,.y5 (by rw[b,hv hi];rfl) j n bc (by show _<=16777216;exact Ex m e h) ?_⟩;have g:(τ++[TH.list a]).set τ.length (.list (a++[f L[i]]))=τ++[.list (a++[f L[i]])]:=by simp
  rw[g,lv hi,iO];simpa using c
theorem Po{α:Type} el f c (L:e0 α)(p:M=τ.length)(s:L.length<=1000000)(l:∀ i b,I.nx i (τ++[.list b])=some (L[i]?.map el))(hs:∀ (x:α) b ρ,x∈L->∃ ai,DA z F ρ (τ++[.list b]) t (el x) ai (τ++[.list b])/\TD z F ai (τ++[.list b]) a (c x) (τ++[.list b])/\(c x=true->TB z F ai (τ++[.list b]) e (f x) (τ++[.list b]))):∀ k i ρ b,i+k=L.length->b.length<=i->∃ am,ie z F ρ (τ++[.list b]) M I i t (.c a .n) e am (τ++[.list (b++((L.drop i).filter c).map f)]):=by
 subst p;intro k;induction k with
 |zero=>
  intro i ρ b e h;refine⟨ρ,?_⟩;rw[De (by exact iP e.symm),t1,s4,j6];exact .done (by rw[l,lF (by exact iP e.symm)];rfl)
 |succ k n=>
  intro i ρ b e h;have hi:i<L.length:=by exact AU e
  refine ba (hs L[i] b ρ (j5 hi)) λai m d o=>?_;rw[lv hi,lf];cases j:c L[i]with
  |true=>
   rw[j]at d;refine av (n (i+1) ai (b++[f L[i]]) (by exact xO e) (by simp;exact h)) λam g=>?_;refine⟨am,.take (by rw[l,hv hi];rfl) m d (o j) bc (by show _<=16777216;exact MQ s e h) ?_⟩;have q:(τ++[TH.list b]).set τ.length (.list (b++[f L[i]]))=τ++[.list (b++[f L[i]])]:=by simp
   rw[q];simpa using g
  |false=>
   rw[j]at d;refine av (n (i+1) ai b (by exact xO e) (by exact cv h)) λam g=>?_;refine⟨am,.skip (by rw[l,hv hi];rfl) m d ?_⟩;simpa using g
theorem TB.oG{α:Type} el f (L:e0 α)(h:Ug z F ρ σ t b I U)(hk:I.lP t=true)(d:(I.lk F.c.lk).contains U.length=false)(j:sc.all (λc=>c.2!=.free||(F.c.cm.lookup c.1).isSome)=true)(g:L.length<=1000000)(k:∀ i a,I.nx i (U++[.list a])=some (L[i]?.map el))(hs:∀ (x:α) a ρ,x∈L->∃ ai,DA z (F.comp I sc) ρ (U++[.list a]) t (el x) ai (U++[.list a])/\TB z (F.comp I sc) ai (U++[.list a]) e (f x) (U++[.list a])):TB z F ρ σ (.comp e t b .n sc) (.h U.length) (U++[.list (L.map f)]):=by
 refine av (Kj (z:=z) (F:=F.comp I sc) el f L rfl g k hs L.length 0 [] [] (by exact ki _) rfl) λam w=>?_;exact .comp h hk d j (by exact w)
theorem TB.ub{α:Type} el f c (L:e0 α)(h:Ug z F ρ σ t b I U)(hk:I.lP t=true)(j:(I.lk F.c.lk).contains U.length=false)(l:sc.all (λg=>g.2!=.free||(F.c.cm.lookup g.1).isSome)=true)(k:L.length<=1000000)(m:∀ i d,I.nx i (U++[.list d])=some (L[i]?.map el))(hs:∀ (x:α) d ρ,x∈L->∃ ai,DA z (F.comp I sc) ρ (U++[.list d]) t (el x) ai (U++[.list d])/\TD z (F.comp I sc) ai (U++[.list d]) a (c x) (U++[.list d])/\(c x=true->TB z (F.comp I sc) ai (U++[.list d]) e (f x) (U++[.list d]))):TB z F ρ σ (.comp e t b (.c a .n) sc) (.h U.length) (U++[.list ((L.filter c).map f)]):=by
 refine av (Po (z:=z) (F:=F.comp I sc) el f c L rfl k m hs L.length 0 [] [] (by exact ki _) (e6 _)) λam w=>?_;exact .comp h hk j l (by exact w)
theorem TF.FQ{α:Type} el f (L:e0 α)(h:Ug z F ρ σ t b I U)(hk:I.lP t=true)(d:(I.lk F.c.lk).contains U.length=false)(j:sc.all (λc=>c.2!=.free||(F.c.cm.lookup c.1).isSome)=true)(g:L.length<=1000000)(k:∀ i a,I.nx i (U++[.list a])=some (L[i]?.map el))(hs:∀ (x:α) a ρ,x∈L->∃ ai,DA z (F.comp I sc) ρ (U++[.list a]) t (el x) ai (U++[.list a])/\TB z (F.comp I sc) ai (U++[.list a]) e (f x) (U++[.list a])):TF z F ρ σ (.asg (.lo x) (.comp e t b .n sc)) .next (aB ρ x (.h U.length)) (U++[.list (L.map f)]):=by
 refine av (Kj (z:=z) (F:=F.comp I sc) el f L rfl g k hs L.length 0 [] [] (by exact ki _) rfl) λam w=>?_;exact .FH h hk d j (by exact w)
end
noncomputable def Md (L:e0 e5)(σ ae:H):Prop:=σ.length<=ae.length/\∀ i,i<σ.length->i∉L->ae[i]?=σ[i]?
section
variable{n:e5}{c:TH}
theorem Md.refl:Md L σ σ:=⟨e6 _,λa a a=>rfl⟩
theorem Md.trans (a:Md L σ U)(b:Md L' U af)(h:∀ i∈L',i<σ.length->i∈L):Md L σ af:=⟨e2 a.1 b.1,λi c d=>(b.2 i (fC c a.1) λe=>d (h i e c)).trans (a.2 i c d)⟩
theorem Md.aK (h:σ<+:U):Md L σ U:=⟨h.length_le,λi b c=>by(refine av h ?_;clear h;intro t a;subst a);rw[hN b]⟩
theorem Md.get (h:Md L σ U)(e:σ[n]?=some c)(hn:n∉L):U[n]?=some c:=(h.2 n (e4.mp e).1 hn).trans e
theorem Md.set:Md [n] σ (σ.set n c):=⟨by exact iP (JK ..).symm,λi b h=>pq (by simp at h;exact λa=>h a.symm)⟩
theorem Md.sub (h:Md L σ U)(hs:∀ i∈L,i<σ.length->i∈L'):Md L' σ U:=⟨h.1,λi a b=>h.2 i a λc=>b (hs i c a)⟩
end
end
variable{l:e0 e5}{x₃:e5}
section
set_option backward.match.sparseCases false
section
variable{z:Z}{F:Fm}{b:X}{v:V}{es:Xs}{n:e5}
theorem Ez{t:e5}(n:x≠y):(aB (aB ρ x v) y u).lookup t=mH t ((x,v)::(y,u)::ρ):=by
 rw[za,za,eh,eh,BC n]
theorem TF.mx (hn:F.c.hn=none)(h:bV z F ρ σ es [v,u] U)(k:∀ l,Wv (es.es z.nm l)):TF z F ρ σ (.yl (.c (.lo x) (.c (.lo y) .n)) es) .next (aB (aB ρ x v) y u) U:=λC R g {n}=>by
 have f:x8 C.hn U:=by rw[R.1.hn,hn];trivial
 (refine az (w3 g) λj a=>?_;rcases j with⟨b,e⟩)
 have a:=w2 (show(_&&_)=true from a);have hx:=wq (w2 b).1;have d:=wq (w2 (w2 b).2).1;have c:=gf a.2;refine TZ.lQ (TZ.rJ R.1.ok f (Ev.tuple (h C _ R.1 e) (eW rfl)) rfl ?_ rfl (qN z.G R.1 hx d (gf a.1) (by exact ij _) c (k _))) (ai:=(x,v)::(y,u)::ρ) λt m h=>(Ez c).symm.trans h;exact .cons (Ue.bind (c9 z.G R.1 d)) (.cons (Ue.bind (c9 z.G R.1 hx)) .nil)
theorem DA.dr (h2:TB z F ρ σ a (.h n) U)(k:U[n]?=some (.inst kk nd))(f:U[nd]?=some (.ns e))(j:e.length<1000)(d:T0.fq (kk+1) x=true)(g:F.c.lk.contains nd=false):DA z F ρ σ (.dr a x) v ρ (U.set nd (.ns (aB e x v))):=λC R b {l}=>by
 replace b:=w2 b;refine ah (z.G.fq.inst _ _ d) λc h hk=>?_;exact Ue.attr (h2 C R b.1) (pO.setAttr z.G.B k f (z.G.fq.lt _ _ d) h hk j (R.md _ g))
end
set_option tactic.hygienic true in
theorem wH{l:e0 e5}{c:e5}(h:c∈l)(f:c≠32):aU [32] l≠[]:=by
 intro b;unfold aU at b;rw[List.reverse_eq_nil_iff]at b;have d:∀ m:e0 e5,c∈m->c∈m.dropWhile [32].contains:=by
  intro m;induction m with
  |nil=>simp
  |cons a m g=>
   intro h;rw[xh];split
   .rename_i e
    rcases hr.mp h with rfl|h
    .simp at e;exact iv e f
    .exact g h
   .exact h
 have:=d _ (by rw[AJ];exact d l h);rw[b]at this;simp at this
theorem Kk (t:e0 e5)(k:e5):bg t (k:hA) t.length=t.drop k:=by simp[bg]
theorem sx{a:e5}(b:a≠32):(aU [32] (a::l))≠[]:=wH (c:=a) (.head _) b
theorem qY l m n:g5 n (l++m)=g5 (g5 n l) m:=by
 induction l generalizing n with
 |nil=>rfl
 |cons a l b=>exact b _
theorem sy l n M (h:∀ c∈l,48<=c/\c<=57)(b:0<=n)(h1:n<M):0<=g5 n l/\g5 n l<M*10^l.length:=by
 induction l generalizing n M with
 |nil=>exact⟨b,by rw[rI,Int.pow_zero,Int.mul_one];exact h1⟩
 |cons a l d=>
  have h':=gx.mp h;have:=d (10*n+a -48) (M*10) h'.2 (by exact MR b h'.1) (by exact Hz h1 h'.1);rw[ol,Int.pow_succ,Pf (10^l.length),<-Int.mul_assoc];exact this
theorem wI (h:f c=false):cnt f (c::l)=0:=by simp[cnt,h]
theorem c1 (s:∀ a∈ds,48<=a/\a<=57)(aa:ds≠[])(g:ds.length<=5)(aA:g5 0 ds<=65529)(ax:r.length<=1000):
  TK z (d+1) none lk 1 [.str (ds++32::r)] σ (.tup [.int (g5 0 ds),.str r]) σ:=by
 have w:(ds++32::r).length<=1010:=by simp;exact tl (kl g (hm ax)) rfl
 have ao:(ds++32::r).length<=16777216:=by exact tl w rfl
 have aq:cnt blank (ds++32::r)=0:=by
  cases ds with
  |nil=>exact iv rfl aa
  |cons a ds=>have:=s a (.head _);exact wI (je (hj (fC (eW rfl) this.1)))
 generalize o:ds++32::r=t at*
 suffices h:∃ ae,TK z (d+1) none lk 1 [.str t] σ (.tup [.int (g5 0 ds),.str r]) ae/\ae=σ by(refine ah h ?_;clear h;intro ab h ap;subst ap);exact h
 apply dh.of0 [(5,.str t)] rfl;apply ag.cons (TF.aP rfl .i);apply ag.scan 5 6 t blank 0 J (hk:=hq _) (h1:=rfl) (h2:=rfl)
 .intro ρ k a aw ai ar ay
  apply TD.fS
  .apply TD.cmp;apply TB.lo;assumption;apply TB.bi;rfl;apply bV.c;apply TB.lo;assumption;exact bV.n;apply B1.c8;assumption;exact TC.Uw rfl (iW.mpr (by assumption))
  .apply TD.cmp;apply TB.sub;apply TB.lo;assumption;apply TB.lo;assumption;apply T9.str;assumption;exact tl (e2 ar w) rfl;exact TB.s;exact TC.cmp eq1
 .intro ρ aw ai
  apply TD.gz;apply TD.cmp;apply TB.lo;assumption;apply TB.bi;rfl;apply bV.c;apply TB.lo;assumption;exact bV.n;apply B1.c8;assumption;exact TC.Uh rfl (by exact qo)
 .intro ρ k h
  exact .c (.aug h .i) .n
 .intro am as q
  rw[qS,ki,aq]at q;have aj:am.lookup 5=some (.str t):=(as 5 J).trans rfl;apply ag.cons (TF.mx rfl (.c (.lo q) (.c .i .n)) λab=>⟨rfl,hC (λau=>au&&(true&&true)) (z.G.jE 6 J)⟩);apply ag.iy (λi ρ τ=>∃ m l,ds=m++l/\l.length=i/\ρ.lookup 5=some (.str t)/\ρ.lookup 6=some (.int (m.length:e5))/\ρ.lookup 8=some (.int 0)/\ρ.lookup 9=some (.int (g5 0 m))/\τ=σ) ds.length
  .exact xJ [] ds rfl rfl (aM rfl (aM rfl aj)) (aM rfl (aM rfl q)) (aM rfl bu) bu rfl
  .rintro i ρ τ ⟨m,l,b,p,e,c,f,j,rfl⟩
   cases l with
   |nil=>
    left;refine⟨τ,?_,p.symm,m,[],b,rfl,e,c,f,j,rfl⟩;have:t[m.length]?=some 32:=by rw[<-o,b];simp
    have u:m.length<t.length:=(e4.mp this).1;apply TD.fS
    .apply TD.cmp;apply TB.lo;assumption;apply TB.bi;rfl;apply bV.c;apply TB.lo;assumption;exact bV.n;apply B1.c8;assumption;exact TC.Uw rfl (iW.mpr (by assumption))
    .have:=oD (z:=z) (F:=⟨⟨[],lk,none⟩,f1.sc,d⟩) (ρ:=ρ) (σ:=τ) (lo:=48) (hi:=57) (c:=32) (.sub (a:=.lo 5) (b:=.lo 6) (.lo e) (.lo c) (T9.str this (by exact tl (e2 u w) rfl)))
     exact this
   |cons a l=>
    right;have x:=s a (by rw[b];simp);have n:t[m.length]?=some a:=by rw[<-o,b];simp
    have u:m.length<t.length:=(e4.mp n).1;have v:m.length<5:=by rw[b]at g;simp at g;exact ry g
    have y:=sy m 0 1 (λa x=>s a (by rw[b];simp[x])) J J;have ak:g5 0 m<100000:=t7 y.2 (by
     have:(10:hA)^m.length<=10^5:=by
      have:=Nat.pow_le_pow_right (n:=10) J (gB v)
      exact_mod_cast this
     lia)
    refine gD l.length τ p.symm ?_ ?_
    .apply TD.fS
     .apply TD.cmp;apply TB.lo;assumption;apply TB.bi;rfl;apply bV.c;apply TB.lo;assumption;exact bV.n;apply B1.c8;assumption;exact TC.Uw rfl (iW.mpr (by assumption))
     .have:=oD (z:=z) (F:=⟨⟨[],lk,none⟩,f1.sc,d⟩) (ρ:=ρ) (σ:=τ) (lo:=48) (hi:=57) (c:=a) (.sub (a:=.lo 5) (b:=.lo 6) (.lo e) (.lo c) (T9.str n (by exact tl v rfl)))
      rw[show(decide (48<=a)&&decide (a<=57))=true by simp;exact x]at this;exact this
    .apply ag.bA
     .exact .cmp (.bin (.lo c) (.lo f) TC.ow) (.gl rfl) (TC.Xi rfl (iW.mpr (by assumption)))
     .apply ag.nil
      apply ag.cons (TF.aP rfl (.bin (.bin (.bin .i (.lo j) (TC.se J (by exact na (k:=99999) y.1 (EO ak) rfl))) (.bi rfl (.c (.sub (.lo e) (.lo c) (T9.str n (by exact tl v rfl))) .n) .ord) TC.fg) .i TC.ow));apply ag.cons (TF.aug (i:=(m.length:e5)) (aM rfl c) .i);apply ag.nil;refine⟨rfl,m++[a],l,by rw[b];exact s5 ..,rfl,?_,?_,?_,?_,rfl⟩
      .simp[eh,e]
      .simp[eh]
      .simp[eh,f]
      .simp[eh,qY,g5]
  .rintro ρ τ ⟨m,l,b,p,e,c,f,j,rfl⟩
   obtain rfl:l=[]:=kx p;rw[j6]at b;subst b;have n:t[ds.length]?=some 32:=by rw[<-o];simp
   have u:ds.length<t.length:=(e4.mp n).1;have af:ds.length≠0:=λh=>aa (kx h);apply ag.bA (TD.cmp (.lo c) (.lo f) (TC.Uh rfl (by exact HA af)));apply ag.nil;apply ag.bA (TD.cmp (.lo j) (.gl rfl) (TC.Uh rfl (mm.mpr (by assumption))));apply ag.nil;apply ag.cf
   .apply TD.fS
    .apply TD.cmp;apply TB.lo;assumption;apply TB.bi;rfl;apply bV.c;apply TB.lo;assumption;exact bV.n;apply B1.c8;assumption;exact TC.Uw rfl (iW.mpr (by assumption))
    .apply TD.cmp;apply TB.sub;apply TB.lo;assumption;apply TB.lo;assumption;apply T9.str;assumption;exact Wa g rfl;exact TB.s;apply TC.cmp;rfl
   .apply ag.cons (TF.aug c .i)
    apply ag.nil;apply ag.re (TB.tu (.c (.lo (v:=.int (g5 0 ds)) (aM rfl j)) (.c (.UI (k:=ds.length+1) (.lo (v:=.str t) (aM rfl e)) (.lo bu) ao) .n)) (eW rfl));refine⟨?_,rfl⟩;have:bg t ((ds.length+1:e5):hA) t.length=r:=by
     rw[Kk,<-o];simp
    show V.tup _=_;rw[this]
end
variable{k:hA}{l:e0 (e0 e5)}
section
set_option backward.match.sparseCases false
noncomputable abbrev TJ:e0 Nat:=[69,78,68]
noncomputable abbrev VL:e0 Nat:=[82,69,77,32,97,98,99]
noncomputable abbrev Vj:e0 Nat:=[83,84,79,80]
structure eK (p:TU):Prop where
 ok:bK p
 tx:∀ q∈p,q.2=TJ\/q.2=VL\/q.2=Vj
theorem p5 (e:0<=k)(h:k<=1100):(∀ b∈aG k,48<=b/\b<=57)/\aG k≠[]/\(aG k).length<=4/\g5 0 (aG k)=k:=by
 obtain⟨c,rfl⟩:=Bk e;have t:∀ k<1101,(aG (sY k)≠[]/\g5 0 (aG (sY k))=sY k):=by decide+kernel
 have a:=pX c (by exact vl (kf.mp h));have d:=t c (by exact vl (kf.mp h));refine⟨λb f=>?_,d.1,a.1,d.2⟩;have:=hw.mp a.2 b f;simpa using this
noncomputable def cq (p:TU):e0 Nat:=dM [] ((an p).map λk=>bj p k++[10])
theorem my l:dM [] l=l.flatten:=by
 induction l with
 |nil=>rfl
 |cons a l c=>cases l with
  |nil=>exact(j6 a).symm
  |cons b l=>
   show a++[]++dM [] (b::l)=a++(b::l).flatten;rw[j6,c]
theorem wK{B:e5}(h:∀ x∈l,x.length<=B):l.flatten.length<=B*l.length:=by
 induction l with
 |nil=>exact hq _
 |cons a l b=>
  have h':=gx.mp h;rw[Hn,hg,ol,Nat.mul_succ,xt];exact kl (b h'.2) h'.1
theorem oH:k∈an p↔k∈p.map (λa=>a.1):=i9
theorem er (a:bK p):(an p).Nodup:=(dk _).nodup_iff.mpr a.nd
theorem bK.key (b:bK p)(h:k∈an p):1<=k/\k<=1000/\∃ r,p.lookup k=some r/\(k,r)∈p/\r.length<=200:=by
 obtain⟨r,c,a⟩:=lookup_mem (oH.mp h);have:=b.row _ a;exact⟨this.1,this.2.1,r,c,a,this.2.2⟩
theorem p6 (e:bK p)(h:k∈an p):(bj p k).length<=301:=by
 obtain⟨a,c,r,d,f,b⟩:=e.key h;have:=cK (k:=k) (by exact rA a) (by exact vL c);simp[bj,d];exact tl (kl this (hm b)) rfl
theorem mz (a:bK p):(cq p).length<=20000:=by
 rw[cq,my];have:=wK (B:=302) (l:=(an p).map λk=>bj p k++[10]) λx hx=>by
  obtain⟨k,hk,rfl⟩:=h4.mp hx;have:=p6 a hk;simp;exact this
 rw[g0,bP]at this;exact e2 this (tl (pV 302 (gB a.len)) rfl)
theorem FS{α:Type}{el:α->V}{l:e0 α}(h:τ[r]?=some (.list (l.map el))) i:It.nx (.list r) i τ=some (l[i]?.map el):=(jl h i).trans (hC some jb)
theorem c2 (h:σ[n]?=some (.dict (aE p)))(b:bK p)(l:Old lk σ):
  ∃ ae,TK z (d+1) none lk 2 [.h n] σ (.str (cq p)) ae/\σ<+:ae:=by
 apply dh.jm [(15,σ.length)] [] (σ++[.cell (some (.h n))]) rfl;have hk:((aE p).map (λe=>e.1))=(p.map (λe=>e.1)).map Key.int:=by simp[aE]
 apply ag.re
 .refine TB.me (U:=σ++[.cell (some (.h n))]) (af:=σ++[.cell (some (.h n))]++[.list ((an p).map V.int)]++[.list ((an p).map λk=>.str (bj p k++[10]))]) rfl .s (.c ?_ .n) rfl (M2.join bc (ja (λk=>bj p k++[10]) (an p)) ?_)
  .apply TB.oG (I:=.list (σ.length+1)) (α:=hA) (el:=V.int) (f:=λk=>.str (bj p k++[10])) (L:=an p) (U:=σ++[TH.cell (some (V.h n))]++[TH.list ((an p).map V.int)])
   .have:(σ++[TH.cell (some (.h n))]).length=σ.length+1:=by simp
    rw[<-this];exact Ug.list rfl (.bi rfl (.c (.ce rfl bc) .n) (B1.sorted rfl (bf h) hk (by simpa using b.len))) bc
   .rfl
   .exact cY l (by simp)
   .rfl
   .rw[bP];have:=b.len;exact tl (gB this) rfl
   .intro i m
    rw[jl (l:=(an p).map V.int) (by simp)];simp
   .intro k m ρ hk
    obtain⟨a,g,r,j,o,f⟩:=b.key hk;have c:=cK (k:=k) (by exact rA a) (by exact vL g);refine⟨_,.lo,?_⟩;rw[show bj p k++[10]=aG k++[32]++r++[10] by simp[bj,j]];refine .bin (.bin (.bin (.bi rfl (.c (.lo (v:=.int k) bu) .n) (B1.str (by exact na (k:=1000) (g7 J a) g rfl))) .s (TC.cD (by simp;show _<=16777216;exact ta c rfl))) (.sub (.fr (k:=σ.length) rfl (v:=.h n) (by simp)) (.lo (v:=.int k) bu) (T9.dict (key:=.int k) rfl (bf (bf (bf h))) (by rw[eg,j];rfl))) (TC.cD (by simp;show _<=16777216;exact tl (kl (hm c) f) rfl))) .s (TC.cD (by simp;show _<=16777216;exact tl (hm (kl c (hm f))) rfl))
  .have:=mz b
   show(cq p).length+0<=16777216;exact tl this rfl
 .exact⟨rfl,by simp⟩
theorem DK{x rest:e0 e5}(h:c∉x):br c (x++c::rest)=x::br c rest:=jB h
theorem qZ (h:∀ x∈l,c∉x):br c (l.map (·++[c])).flatten=l++[[]]:=by
 induction l with
 |nil=>rfl
 |cons a l b=>
  have h':=gx.mp h;rw[iO,Hn,lE,Dz,jB h'.1,b h'.2];rfl
theorem lW (h:k∉p.map (λb=>b.1)):b3 p k r=p++[(k,r)]:=by
 induction p with
 |nil=>rfl
 |cons b p c=>rw[b3,hb λa:b.1=k=>h (a▸.head _),c λa=>h (.tail _ a)];rfl
noncomputable def pick (p:TU)(l:e0 hA):TU:=l.map λk=>(k,(p.lookup k).getD [])
noncomputable def eL (p:TU):TU:=pick p (an p)
theorem oI p l:(pick p l).map (λa=>a.1)=l:=by simp[pick,sj]
theorem eK.row (j:eK p)(h:k∈an p):1<=k/\k<=1000/\∃ r,p.lookup k=some r/\bj p k=aG k++32::r/\aU [32] r≠[]/\10∉bj p k/\aU [32] (bj p k)≠[]/\r.length<=200:=by
 obtain⟨a,f,r,g,o,n⟩:=j.ok.key h;have d:bj p k=aG k++32::r:=by simp[bj,g]
 obtain⟨f1,f2,f3,f4⟩:=p5 (k:=k) (by exact rA a) (by exact vL f);have m:=j.tx _ o;refine⟨a,f,r,g,d,?_,?_,?_,n⟩
 .rcases m with c|c|c<;>(simp only at c;rw[c];decide)
 .rw[d]
  intro b;rcases jd.mp b with b|b
  .have:=f1 _ b;exact iv this J
  .rcases hr.mp b with b|b
   .cases b
   .rcases m with c|c|c<;>(simp only at c;rw[c]at b;revert b;decide)
 .rw[d]
  cases e:aG k with
  |nil=>exact iv e f2
  |cons q l=>exact sx (by have:=f1 q (by rw[e];simp);exact hj (fC (eW rfl) this.1))
theorem c3 (b:eK p)(v:Old lk σ):
  ∃ ae,TK z (d+2) none lk 3 [.str (cq p)] σ (.h σ.length) ae/\σ<+:ae/\ae[σ.length]?=some (.dict (aE (eL p))):=by
 have ab:(cq p).length<=20000:=mz b.ok;have s:br 10 (cq p)=(an p).map (bj p)++[[]]:=by
  rw[cq,my,<-qZ (l:=(an p).map (bj p)) (λx hx=>by
   obtain⟨k,hk,rfl⟩:=h4.mp hx;exact(b.row hk).2.2.choose_spec.2.2.2.1)]
  simp[sj]
 have aj:(an p).length<64:=by rw[bP];exact b.ok.len
 apply dh.of0 [(21,.str (cq p))] rfl;apply ag.cons (TF.aP rfl .lS);have h:(σ++[TH.dict []]).length=σ.length+1:=by simp
 apply ag.fo (I:=.list (σ.length+1)) (n:=(an p).length+1) (λi ρ τ=>ρ.lookup 22=some (.h σ.length)/\τ=σ++[.dict (aE (pick p ((an p).take i)))]++[.list (((an p).map (bj p)++[[]]).map V.str)])
 .rw[<-h]
  exact Ug.list rfl (.cE rfl (.lo rfl) (.c .s .n) (M2.split (by exact tl ab rfl))) bc
 .exact⟨rfl,by rw[s];simp[pick,aE]⟩
 .rintro ρ τ ⟨c,rfl⟩
  rw[jl (l:=((an p).map (bj p)++[[]]).map V.str) (by simp)];simp
 .rintro i ρ τ hi ⟨c,rfl⟩
  by_cases hk:i<(an p).length
  .obtain⟨a,g,r,y,f,n,af,t,e⟩:=b.row (j5 hk)
   obtain⟨f1,f2,f3,f4⟩:=p5 (k:=(an p)[i]) (by exact rA a) (by exact vL g);have o:(bj p (an p)[i]).length<=400:=by rw[f];simp;exact tl (kl f3 (hm e)) rfl
   refine⟨.str (bj p (an p)[i]),_,_,?_,.lo,?_⟩
   .rw[jl (l:=((an p).map (bj p)++[[]]).map V.str) (by simp)]
    simp[hk,List.getElem?_append]
   .apply ag.bA (TD.cmp (.cE rfl (.lo (v:=.str (bj p (an p)[i])) bu) (.c .s .n) (M2.strip (by show _<=16777216;exact tl o rfl))) .s (TC.Uh rfl (t)))
    apply ag.nil;have w:=c1 (z:=z) (d:=d) (lk:=lk) (σ:=σ++[.dict (aE (pick p ((an p).take i)))]++[.list (((an p).map (bj p)++[[]]).map V.str)]) (ds:=aG (an p)[i]) (r:=r) f1 f2 (by exact tl f3 rfl) (by rw[f4];exact g7 g J) (by exact tl e rfl);rw[<-f,f4]at w;apply ag.cons (TF.dI (.call (.gl rfl) (.c (.lo bu) .n) w) (.tu rfl (.cons .lo (.cons .lo .nil))));apply ag.bA (TD.cmp (.lo (v:=.int (an p)[i]) (aM rfl bu)) .no (TC.cmp rfl));apply ag.nil;apply ag.bA (TD.cmp (.cE rfl (.lo (v:=.str r) bu) (.c .s .n) (M2.strip (by show _<=16777216;exact tl e rfl))) .s (TC.Uh rfl (n)));have l:lk.contains σ.length=false:=cY v (e6 _);apply ag.cons (TF.fh (.lo (v:=.str r) bu) (.lo (v:=.h σ.length) (aM rfl (aM rfl (aM rfl c)))) (.lo (v:=.int (an p)[i]) (aM rfl bu)) (S2.dict (key:=.int (an p)[i]) (d:=aE (pick p ((an p).take i))) rfl (by simp) (by rw[dJ,pick,g0];exact e2 (List.length_take_le' ..) (tl (gB (by rw[bP];exact b.ok.len)) rfl)) l));apply ag.nil;apply ag.nil;refine⟨(aM rfl (aM rfl (aM rfl c))),?_⟩;have hn:(an p)[i]∉(pick p ((an p).take i)).map (λq=>q.1):=by
     rw[oI];intro aa;obtain⟨j,ai,u⟩:=zt.mp aa;have:=(nu (er b.ok)).mp u;lia
    have m:pick p ((an p).take (i+1))=pick p ((an p).take i)++[((an p)[i],r)]:=by
     unfold pick;rw[kn hk,pl];simp only[iO,s4,y,Jv]
    rw[fj,lW hn,m];simp
  .obtain rfl:i=(an p).length:=by exact Dg (lx hi) (mq hk)
   refine⟨.str [],_,_,?_,.lo,?_⟩
   .rw[jl (l:=((an p).map (bj p)++[[]]).map V.str) (by simp)]
    simp
   .apply ag.cf (TD.cmp (.cE rfl (.lo (v:=.str []) bu) (.c .s .n) (M2.strip (hq _))) .s (TC.cmp rfl))
    apply ag.co;refine⟨(aM rfl c),?_⟩;rw[ia (e6 _),ia (by exact jr _)]
 .rintro ρ τ ⟨c,rfl⟩
  apply ag.re (.lo c);refine⟨rfl,by simp,?_⟩;rw[ia (by exact jr _)];simp[eL]
end
variable{wi fi Vl:e5}{fd:e0 (Key×V)}
section
set_option backward.match.sparseCases false
section
variable{z:Z}{F:Fm}{b c:X}{o:jW}
theorem TD.Kn (h:TD z F ρ σ a true U)(h2:TD z F ρ U (.dL .And (.c b xs)) o af):TD z F ρ σ (.dL .And (.c a (.c b xs))) o af:=λC R c {i}=>Tv.dL (by
 have c:=w2 c;have w2:=h2 C R c.2 (t:=.List (kids i).tail i.pos);exact Tv.tz (h C R c.1) (λι s m Q E g d=>w2 ι s m Q E g d))
theorem TD.FT (h:TD z F ρ σ a false U)(h2:TD z F ρ U (.dL .Or (.c b xs)) o af):TD z F ρ σ (.dL .Or (.c a (.c b xs))) o af:=λC R c {i}=>Tv.dL (by
 have c:=w2 c;have w2:=h2 C R c.2 (t:=.List (kids i).tail i.pos);exact Tv.x5 (h C R c.1) (λι s m Q E g d=>w2 ι s m Q E g d))
end
theorem wL{d:e0 (Key×V)}(h:τ[n]?=some (.dict d)) i:It.nx (.keys n) i τ=some (d[i]?.map λx=>x.1.v):=by simp[It.nx,m5,h]
theorem Ko (h:τ[n]?=some (.dict (aE p))) i:It.nx (.keys n) i τ=some (p[i]?.map λa=>.int a.1):=by rw[wL h];simp[aE];rfl
theorem uc{l:e0 V}(h:τ[n]?=some (.list l)) i:It.nx (.enum n) i τ=some (l[i]?.map λa=>.tup [.int i,a]):=by simp[It.nx,kN,h]
theorem q1 p q k r:bw p (q++[(k,r)])=b3 (bw p q) k r:=by simp[bw]
theorem sA p:∀ a:TU,(bw p a).length<=p.length+a.length:=by
 intro a;induction a generalizing p with
 |nil=>simp[bw]
 |cons x a c=>
  have:=c (b3 p x.1 x.2);have b:=jU x.1 x.2 p;simp only[bw,J2,ol]at this ⊢;exact HB this b
theorem c4{m:e5}{q:TU}(h:σ[n]?=some (.dict (aE p)))(h2:σ[m]?=some (.dict (aE q)))(k:bK p)(e:bK q)(t:Old lk σ):
  ∃ ae,TK z (d+1) none lk 4 [.h n,.h m] σ (.h σ.length) ae/\σ<+:ae/\ae[σ.length]?=some (.dict (aE (bw p q))):=by
 have l:=k.len;have u:=e.len;have g:m<σ.length:=(e4.mp h2).1;apply dh.of0 [(28,.h m),(15,.h n)] rfl;apply ag.cons (TF.aP rfl (.bi rfl (.c (.lo rfl) .n) (B1.lM h (by rw[dJ];show _<=16777216;exact vM l))));apply ag.fo (I:=.keys m) (n:=q.length) (λi ρ τ=>ρ.lookup 22=some (.h σ.length)/\ρ.lookup 28=some (.h m)/\τ=σ++[.dict (aE (bw p (q.take i)))])
 .exact Ug.keys rfl (.lo rfl) (bf h2)
 .exact⟨rfl,rfl,rfl⟩
 .rintro ρ τ ⟨a,b,rfl⟩
  rw[wL (bf h2)];simp[aE]
 .rintro i ρ τ hi ⟨a,b,rfl⟩
  have o:=kI e.nd (x:=q[i].1) (y:=q[i].2) (j5 hi);have s:=sA p (q.take i);have f:(m::lk).contains σ.length=false:=cY (σ:=σ) (by intro j c;rcases hr.mp c with rfl|c;exact g;exact t j c) (e6 _);refine gS (.int q[i].1) _ _ ?_ .lo ?_
  .rw[wL (bf h2)];simp[aE,hi];rfl
  .apply ag.cons (TF.fh (.sub (.lo (v:=.h m) (aM rfl b)) (.lo (v:=.int q[i].1) bu) (T9.dict (key:=.int q[i].1) rfl (bf h2) (by rw[eg,o];rfl))) (.lo (v:=.h σ.length) (aM rfl a)) (.lo (v:=.int q[i].1) bu) (S2.dict (key:=.int q[i].1) rfl bc (by rw[dJ];rw[nv]at s;show _<=16777216;lia) f))
   apply ag.nil;refine⟨(aM rfl a),(aM rfl b),?_⟩;rw[fj,kn hi,q1];simp
 .rintro ρ τ ⟨a,b,rfl⟩
  apply ag.re (.lo a);exact⟨rfl,by simp,by rw[ia (e6 _)];exact bc⟩
noncomputable def pG (f:V):V->V
 | .none=>f
 |v=>v
noncomputable abbrev zg:e0 (e0 e5)->e0 V->Prop:=dZ TN
theorem zg.len{ts vs}(h:zg ts vs):vs.length=ts.length:=(dZ.len h).symm
theorem zg.get{ts vs}(h:zg ts vs):∀ (i:e5) (h1:i<ts.length) (h2:i<vs.length),TN ts[i] vs[i]:=dZ.get h
theorem Pp{α c d:Type}{f:α->c->d}{a:e0 α}{b:e0 c}(h:b.length=a.length):(Ho f a b).length=a.length:=by rw[List.length_zipWith,h,NK]
theorem Pq{α:Type}{l m:e0 α}(h:l.length=m.length)(hi:i<m.length):(l.take i++m.drop i).length=m.length:=by rw[hg,nv,vO,h,pe (gB hi),Nat.add_sub_cancel' (gB hi)]
theorem Pr{α:Type}{l m:e0 α}{x:α}(h:l.length=m.length)(hi:i<m.length)(hx:∀ h,l[i]'h=x):(l.take i++m.drop i).set i x=l.take (i+1)++m.drop (i+1):=by
 have a:i<l.length:=h▸hi;have b:(l.take i).length=i:=List.length_take_of_le (gB a);rw[r5 _ _ (iP b),b,xr,lv hi,List.set_cons_zero,kn a,hx,lE];rfl
theorem FU{t:e0 e5}{ps:e0 (e0 e5)}(hs:br 44 t=ps)(p:zg ps vs)(hf:σ[n]?=some (.list fs))(a:ps.length=fs.length)(g:fs.length<=1000)(ai:t.length<=1000)(aj:∀ x∈ps,x.length<=1000)(v:Old lk σ):
  ∃ y ae,TK z (d+3) none lk 62 [.str t,.h n] σ y ae/\∃ m,y=.h m/\σ<+:ae/\ae[m]?=some (.list (Ho pG fs vs)):=by
 have u:=p.len;have l:=Pp (f:=pG) (u.trans a);apply oF.of0 [(151,.h n),(21,.str t)] rfl;apply ag.cons (TF.aP rfl (.cE rfl (.lo rfl) (.c .s .n) (M2.split (by exact tl ai rfl))));rw[hs];apply ag.bA (TD.cmp (.bi rfl (.c (.lo rfl) .n) (B1.kQ (l:=ps.map V.str) bc (jh (by exact HC a g)))) (.bi rfl (.c (.lo rfl) .n) (B1.kQ (l:=fs) (bf hf) (by show _<=16777216;exact tl g rfl))) (TC.Uh rfl (by rw[g0];exact mm.mpr (kf.mpr (by exact iP a)))));apply ag.nil;apply ag.cons (TF.aP rfl (.bi rfl (.c (.lo rfl) .n) (B1.list (bf hf) (by show _<=16777216;exact tl g rfl))));have af:(σ++[TH.list (ps.map V.str)]).length=σ.length+1:=by simp
 rw[af];apply ag.fo (I:=.enum σ.length) (n:=ps.length) (λi ρ τ=>ρ.lookup 22=some (.h (σ.length+1))/\ρ.lookup 151=some (.h n)/\τ[σ.length+1]?=some (.list ((Ho pG fs vs).take i++fs.drop i))/\τ[σ.length]?=some (.list (ps.map V.str))/\σ<+:τ)
 .exact Ug.enum rfl rfl (.lo rfl) (bf bc)
 .exact lC rfl rfl (by simp) (by simp) (by simp)
 .rintro ρ τ ⟨f,h,c,e,b⟩
  rw[uc e];simp
 .rintro i ρ τ hi ⟨f,h,c,e,b⟩
  have q:i<vs.length:=by exact rB u hi
  have j:i<fs.length:=by exact HD a hi
  refine ah (wG (z:=z) (d:=d) (lk:=lk) (σ:=τ) (p.get i hi q) (aj _ (j5 hi)) (v.mono b)) λs w w2=>?_;have aa:lk.contains (σ.length+1)=false:=cY v (by exact jr _);refine gS (.tup [.int i,.str ps[i]]) _ _ (by rw[uc e];simp[hi]) (.tu rfl (.cons .lo (.cons .lo .nil))) ?_;apply ag.cons (TF.aP rfl (.call (.gl rfl) (.c (.lo (v:=.str ps[i]) bu) .n) w));have ab:=Pr l j (x:=pG fs[i] vs[i]) λak=>List.getElem_zipWith;have hx:TB z (Fm.lock ⟨⟨[],lk,none⟩,JX.sc,d+2⟩ (.enum σ.length)) (aB (aB (aB ρ 6 (.int i)) 154 (.str ps[i])) 9 vs[i]) s (.fy (.cmp .Is (.lo 9) .no) (.sub (.lo 151) (.lo 6)) (.lo 9)) (pG fs[i] vs[i]) s:=by
   rcases(p.get i hi q).BF with o|⟨k,o⟩
   .rw[o]
    exact .cf (.cmp (.lo (v:=.none) bu) .no (TC.cmp rfl)) (.sub (.lo (v:=.h n) (aM rfl (aM rfl (aM rfl h)))) (.lo (v:=.int i) (aM rfl (aM rfl bu))) (T9.list (aR (b.trans w2) hf) (by simp[j];rfl) (by exact fC hi (e2 (iP a) (tl g rfl)))))
   .rw[o]
    exact .bA (.cmp (.lo (v:=.int k) bu) .no (TC.cmp rfl)) (.lo (by simp[eh];rfl))
  apply ag.cons (TF.fh hx (.lo (v:=.h (σ.length+1)) (aM rfl (aM rfl (aM rfl f)))) (.lo (v:=.int i) (aM rfl (aM rfl bu))) (S2.list (aR w2 c) (by rw[Pq l j];exact j) (by exact fC hi (e2 (iP a) (tl g rfl))) aa));apply ag.nil;refine lC (aM rfl (aM rfl (aM rfl f))) (aM rfl (aM rfl (aM rfl h))) (by rw[<-ab];exact dK (aR w2 c)) (by rw[pq (by exact q5 _)];exact aR w2 e) (jJ (b.trans w2) (by exact jr _))
 .rintro ρ τ ⟨f,h,c,e,b⟩
  apply ag.re (.lo f);refine eS _ rfl b ?_;rw[c,ia (iP (l.trans a.symm)),Ce (by exact iP a.symm),j6]
theorem Wg (h1:σ[wi]?=some (.inst 0 nd))(h2:σ[nd]?=some (.ns o))(f:o.lookup 32=some (.h fi))(a:σ[fi]?=some (.dict fd))(b:σ[n]?=some (.dict (aE p)))(g:bK p)(k:fd.length<=1000)(j:Old lk σ)(c:lk.contains fi=false):
  ∃ ae,TK z (d+2) none lk 5 [.h wi,.str name,.h n] σ .none ae/\Md [fi] σ ae/\ae[fi]?=some (.dict (putK fd (.str name) (.str (cq p)))):=by
 refine ah (c2 (z:=z) (d:=d) (lk:=lk) b g j) λτ w w2=>?_;apply dh.of0 [(15,.h n),(31,.str name),(30,.h wi)] rfl;apply ag.cons (TF.fh (.call (.gl rfl) (.c (.lo rfl) .n) w) (.dr (.lo rfl) (aR w2 h1) (aR w2 h2) f rfl) (.lo rfl) (S2.dict (key:=.str name) rfl (aR w2 a) (by show _<=16777216;exact tl k rfl) c));apply ag.nil;exact⟨rfl,(Md.aK w2).trans Md.set (λe h e=>h),dK (aR w2 a)⟩
theorem V9 (h1:σ[wi]?=some (.inst 0 nd))(h2:σ[nd]?=some (.ns e))(c:e.lookup 37=some (.h Vl))(b:σ[Vl]?=some (.dict [])):
  ∃ ae,TK z (d+1) none lk 8 [.h wi] σ .none ae/\σ<+:ae:=by
 apply dh.of0 [(30,.h wi)] rfl;apply ag.fo (I:=.list σ.length) (n:=0) (λi ρ τ=>τ=σ++[.list []])
 .exact Ug.list rfl (.bi rfl (.c (.dr (.lo rfl) h1 h2 c rfl) .n) (B1.sorted (ks:=[]) rfl b rfl J)) bc
 .rfl
 .rintro ρ τ rfl
  rw[jl (l:=[]) wB];rfl
 .exact λi a a hi=>iv hi (n3 i)
 .rintro ρ τ rfl
  apply ag.nil;exact⟨rfl,by simp⟩
theorem Wh (h1:σ[wi]?=some (.inst 0 nd))(h2:σ[nd]?=some (.ns n))(g:n.lookup 32=some (.h fi))(e:σ[fi]?=some (.dict fd))(o:n.lookup 37=some (.h Vl))(c:σ[Vl]?=some (.dict []))(l:atK fd (.str name)=some v)(q:fd.length<=1000)(k:Old lk σ)(p:lk.contains fi=false):
  ∃ ae,TK z (d+1) none lk 9 [.h wi,.str name] σ .none ae/\Md [fi] σ ae/\ae[fi]?=some (.dict (fc fd (.str name))):=by
 apply dh.jm [(30,σ.length),(31,σ.length+1)] [] (σ++[TH.cell (some (V.h wi)),TH.cell (some (V.str name))]) rfl;have a:(σ++[TH.cell (some (V.h wi)),TH.cell (some (V.str name))])[σ.length]?=some (.cell (some (.h wi))):=by simp
 have h:(σ++[TH.cell (some (V.h wi)),TH.cell (some (V.str name))])[σ.length+1]?=some (.cell (some (.str name))):=by simp
 apply ag.bA (TD.cmp (.ce rfl h) (.dr (.ce rfl a) (bf h1) (bf h2) g rfl) (by have:=TC.ms (z:=z) (F:=⟨⟨[(30,σ.length),(31,σ.length+1)],lk,none⟩,WU.sc,d⟩) (key:=.str name) (b:=.str name) rfl (bf (t:=[TH.cell (some (V.h wi)),TH.cell (some (V.str name))]) e);rw[l]at this;exact this));apply ag.nil;have m:Vl<σ.length:=(e4.mp c).1;apply ag.bA (U:=σ++[TH.cell (some (V.h wi)),TH.cell (some (V.str name))]++[TH.list []]++[TH.list []])
 .refine TD.cmp (va:=.h (σ.length+2)) (vb:=.h (σ.length+3)) (U:=σ++[TH.cell (some (V.h wi)),TH.cell (some (V.str name))]++[TH.list []]) ?_ ?_ (TC.Kc (bf (by rw[<-show(σ++[TH.cell (some (V.h wi)),TH.cell (some (V.str name))]).length=σ.length+2 by simp];exact bc)) (by rw[<-show(σ++[TH.cell (some (V.h wi)),TH.cell (some (V.str name))]++[TH.list []]).length=σ.length+3 by simp];exact bc) rfl)
  .have b:(σ++[TH.cell (some (V.h wi)),TH.cell (some (V.str name))]).length=σ.length+2:=by simp
   rw[<-b];refine TB.ub (I:=.keys Vl) (α:=hA) (el:=V.int) (f:=V.int) (c:=λt=>true) (L:=[]) (U:=σ++[TH.cell (some (V.h wi)),TH.cell (some (V.str name))]) (Ug.keys rfl (.dr (.ce rfl a) (bf h1) (bf h2) o rfl) (bf c)) rfl ?_ rfl (hq _) ?_ ?_
   .exact cY (σ:=σ) (by intro j f;rcases hr.mp f with rfl|f;exact m;exact k j f) (by simp)
   .intro i s
    rw[wL (bf (bf c))];simp
   .intro x s ρ hx
    simp at hx
  .have b:(σ++[TH.cell (some (V.h wi)),TH.cell (some (V.str name))]++[TH.list []]).length=σ.length+3:=by simp
   rw[<-b];exact .li .n (hq _)
 .apply ag.nil
  apply ag.cons (TF.ex (.cE rfl (.dr (.ce rfl (bf (bf a))) (bf (bf (bf h1))) (bf (bf (bf h2))) g rfl) (.c (.ce rfl (bf (bf h))) .n) (M2.pop (key:=.str name) rfl (bf (bf (bf e))) (by show _<=16777216;exact tl q rfl) l p)));apply ag.nil;exact⟨rfl,Md.trans (U:=σ++[TH.cell (some (V.h wi)),TH.cell (some (V.str name))]++[TH.list []]++[TH.list []]) (Md.aK (by simp)) Md.set (λi hi k=>hi),dK (bf (bf (bf e)))⟩
end
variable{t:e0 e5}{Wz:V}
section
set_option backward.match.sparseCases false
section
variable{z:Z}{F:Fm}{b c e:X}{o:jW}
theorem TB.oy (h1:TB z F ρ σ a va U)(h2:TB z F ρ U b vb af)(h:TC z F (.cm op) va vb af (.bool true) af)(f:TB z F ρ af c Wz ao)(g:TC z F (.cm op') vb Wz ao (.bool o) ao):TB z F ρ σ (.lK op op' a b c) (.bool o) ao:=λC R d {e}=>by
 replace d:=w3 d;exact Ev.chain (h1 C R d.1.1) (h2 C R d.1.2) (h C R) (λj=>by cases j) (λe=>⟨f C R d.2,g C R⟩) (by exact gQ op')
theorem TB.sg (h1:TB z F ρ σ a va U)(h2:TB z F ρ U b vb af)(h:TC z F (.cm op) va vb af (.bool false) af):TB z F ρ σ (.lK op op' a b c) (.bool false) af:=λC R d {e}=>by
 replace d:=w3 d;exact Ev.chain (c:=.none) (ao:=af) (h1 C R d.1.1) (h2 C R d.1.2) (h C R) (λe=>⟨rfl,rfl⟩) (λf=>by exact UC f) (by exact gQ op')
theorem sB{lo hi c:e5}(h:TB z F ρ σ e (.str [c]) σ):TB z F ρ σ (.lK .LtE .LtE (.s [lo]) e (.s [hi])) (.bool (decide (lo<=c)&&decide (c<=hi))) σ:=by
 by_cases a:lo<=c
 .rw[h8 a,F6]
  exact .oy .s h (TC.cmp (by rw[wF,h8 a])) .s (TC.cmp wF)
 .rw[je a,EP]
  exact .sg .s h (TC.cmp (by rw[wF,je a]))
theorem TB.pG{o':jW}(h1:TB z F ρ σ a (.bool o) σ)(h2:TB z F ρ σ (.dL .Or (.c b xs)) (.bool o') σ):TB z F ρ σ (.dL .Or (.c a (.c b xs))) (.bool (o||o')) σ:=by
 cases o
 .exact .OX h1 h2
 .exact .J0 h1
theorem ag.Kr{l:Ss}(h:TD z F ρ σ a true U)(f:ag z F ρ U l (λc am ae=>∃ b,c=.ret b/\Q (.ret b) am ae)):ag z F ρ σ (.c (.iy a l) n) Q:=by
 obtain⟨c,am,ae,d,b,rfl,e⟩:=f;exact jt _ _ _ (.r (.iy (.ret h d))) e
end
noncomputable abbrev oK:e5->Bool:=λc=>(decide (65<=c)&&decide (c<=90))||((decide (97<=c)&&decide (c<=122))||(iF c||[46,36,37,33].contains c))
theorem FV{x:e0 e5}:jA .In (.str [c]) (.str x) σ=some (x.contains c):=rfl
theorem FW:TK z (d+1) hn lk 19 [.str [c]] σ (.bool (oK c)) σ:=by
 apply TK.of0 (f:=.ret _) [(35,.str [c])] rfl;exact .re (.pG (sB (.lo rfl)) (.pG (sB (.lo rfl)) (.pG (.cmp (.lo rfl) (.gl rfl) (TC.cmp FV)) (.u5 (.cmp (.lo rfl) .s (TC.cmp FV))))))
theorem Ks{k:e5}(hk:k<=t.length)(f:t.length<=16777216):TK z (d+2) hn lk 20 [.str t,.int k] σ (.int ((k+cnt oK (t.drop k):e5):hA)) σ:=by
 apply TK.of0 (f:=.ret _) [(6,.int k),(21,.str t)] rfl;apply bx.scan 21 6 t oK k J (hk:=hk) (h1:=rfl) (h2:=rfl)
 .intro ρ k l a b c e
  apply TD.fS
  .apply TD.cmp;apply TB.lo;assumption;apply TB.bi;rfl;apply bV.c;apply TB.lo;assumption;exact bV.n;apply B1.c8;assumption;exact TC.Uw rfl (iW.mpr (by assumption))
  .exact .call (.call (.gl rfl) (.c (.sub (.lo a) (.lo b) (T9.str e (by exact tl (e2 c f) rfl))) .n) FW)
 .intro ρ a b
  apply TD.gz;apply TD.cmp;apply TB.lo;assumption;apply TB.bi;rfl;apply bV.c;apply TB.lo;assumption;exact bV.n;apply B1.c8;assumption;exact TC.Uh rfl (by exact qo)
 .intro ρ k h
  exact .c (.aug h .i) .n
 .intro am j g
  apply bx.re;apply TB.lo;assumption
theorem DL (b:t=TJ\/t=Vj):∃ ae,TK z (d+3) none lk 23 [.str t] σ (.h σ.length) ae/\σ<+:ae/\ae[σ.length]?=some (.list []):=by
 have f:t.length<=16777216:=by rcases b with rfl|rfl<;>decide
 have u:cnt oK (t.drop 0)=t.length:=by rcases b with rfl|rfl<;>decide
 have h:bg t 0 t.length=t:=by rcases b with rfl|rfl<;>rfl
 have n:(t.map λa=>if 97<=a/\a<=122 then a -32 else a)=t:=by rcases b with rfl|rfl<;>rfl
 have k:∃ a,t[0]?=some a/\oK a=true/\a≠34/\a≠39:=by rcases b with rfl|rfl<;>exact iX _ rfl J J J
 refine lA k λa o p x y=>?_;have s:t≠[82,69,77]:=by rcases b with rfl|rfl<;>decide
 have l:t≠[68,65,84,65]:=by rcases b with rfl|rfl<;>decide
 have aa:0<t.length:=by rcases b with rfl|rfl<;>decide
 apply dh.of0 [(21,.str t)] rfl;apply ag.cons (TF.mx rfl (.c (.li .n (hq _)) (.c .i .n)) (by exact λv=>⟨rfl,rfl⟩));apply ag.iy (λi ρ τ=>ρ.lookup 21=some (.str t)/\ρ.lookup 22=some (.h σ.length)/\τ=σ++[.list []]/\((i=1/\ρ.lookup 6=some (.int 0))\/(i=0/\ρ.lookup 6=some (.int t.length)))) 1
 .exact js rfl rfl rfl (.inl ⟨rfl,rfl⟩)
 .rintro i ρ τ ⟨c,g,rfl,⟨rfl,e⟩|⟨rfl,e⟩⟩
  .right
   refine gD 0 (σ++[.list []]) rfl (.cmp (.lo e) (.bi rfl (.c (.lo c) .n) (B1.c8 f)) (TC.Uw rfl (iW.mpr (by assumption)))) ?_;apply ag.cons (TF.aP rfl (.sub (.lo c) (.lo e) (T9.str (k:=0) o J)));apply ag.bA (TD.cmp (.lo (v:=.str [a]) bu) .s (TC.Uh rfl (by lia)));apply ag.bA (TD.cmp (.lo (v:=.str [a]) bu) .s (TC.Uh rfl (by lia)));have j:=FW (z:=z) (d:=d+1) (hn:=none) (lk:=lk) (σ:=σ++[.list []]) (c:=a);rw[p]at j;apply ag.cf (TD.call (.call (.gl rfl) (.c (.lo (v:=.str [a]) bu) .n) j));have w:=Ks (z:=z) (d:=d) (hn:=none) (lk:=lk) (σ:=σ++[.list []]) (t:=t) (k:=0) (hq _) f;rw[u,ki]at w;apply ag.cons (TF.aP rfl (.call (.gl rfl) (.c (.lo (v:=.str t) (aM rfl c)) (.c (.lo (v:=.int 0) (aM rfl e)) .n)) w));have q:t.all (λm=>m<128)=true:=by rcases b with rfl|rfl<;>decide
   apply ag.cons (TF.aP rfl (.cE rfl (.sb (l:=t) (i:=0) (k:=t.length) (.lo (v:=.str t) (aM rfl (aM rfl c))) (.lo (v:=.int 0) (aM rfl (aM rfl e))) (.lo bu) f) .n (M2.upper (by show(bg t 0 t.length).all _=true;rw[h];exact q) (by show(bg t 0 t.length).length<=_;rw[h];exact f))));rw[show(bg t ((0:e5):hA) t.length)=t from h,n];apply ag.bA (TD.cmp (.lo (v:=.str t) bu) .s (TC.Uh rfl (s)));apply ag.nil;apply ag.cons (TF.aP rfl (.bA (.cmp (.lo (v:=.str t) bu) .s (TC.Uh rfl (l))) (.lo (v:=.int t.length) (aM rfl bu))));apply ag.bA (TD.cmp (.lo (v:=.str t) (aM rfl bu)) (.gl rfl) (TC.cmp (by rcases b with rfl|rfl<;>rfl)))
   repeat apply ag.nil
   exact lC rfl (aM rfl (aM rfl (aM rfl (aM rfl c)))) (aM rfl (aM rfl (aM rfl (aM rfl g)))) rfl (.inr ⟨rfl,bu⟩)
  .left
   exact El (σ++[.list []]) (.cmp (.lo e) (.bi rfl (.c (.lo c) .n) (B1.c8 f)) (TC.Uh rfl (by exact qo))) rfl c g rfl (.inr ⟨rfl,e⟩)
 .rintro ρ τ ⟨c,g,rfl,_⟩
  exact .re (.lo g) ⟨rfl,by exact e1 ..,bc⟩
theorem Ku:∃ ae,TK z (d+3) none lk 23 [.str VL] σ (.h σ.length) ae/\σ<+:ae/\ae[σ.length]?=some (.list []):=by
 apply dh.of0 [(21,.str VL)] rfl;apply ag.cons (TF.mx rfl (.c (.li .n (hq _)) (.c .i .n)) (by exact λa=>⟨rfl,rfl⟩));apply ag.Kr (TD.cmp (.lo rfl) (.bi rfl (.c (.lo rfl) .n) (B1.c8 J)) (TC.cmp rfl));apply ag.cons (TF.aP rfl (.sub (.lo rfl) (.lo rfl) (T9.str (c:=82) (k:=0) rfl J)));apply ag.bA (TD.cmp (.lo rfl) .s (TC.cmp rfl));apply ag.bA (TD.cmp (.lo rfl) .s (TC.cmp rfl));apply ag.cf (TD.call (.call (.gl rfl) (.c (.lo rfl) .n) (FW (c:=82))));apply ag.cons (TF.aP rfl (.call (.gl rfl) (.c (.lo rfl) (.c (.lo rfl) .n)) (Ks (t:=VL) (k:=0) J J)));apply ag.cons (TF.aP rfl (.cE rfl (.sb (l:=VL) (i:=0) (k:=3) (.lo rfl) (.lo rfl) (.lo rfl) J) .n (M2.upper J J)));apply ag.cf (TD.cmp (.lo rfl) .s (TC.cmp rfl));apply ag.re (.lo rfl);exact iX _ rfl rfl (by exact e1 ..) bc
noncomputable def Tx (t:e0 e5):Prop:=t=TJ\/t=VL\/t=Vj
theorem Kv (a:Tx t):∃ ae,TK z (d+3) none lk 23 [.str t] σ (.h σ.length) ae/\σ<+:ae/\ae[σ.length]?=some (.list []):=by
 rcases a with rfl|rfl|rfl
 .exact DL (.inl rfl)
 .exact Ku
 .exact DL (.inr rfl)
theorem Pw (e:Tx t)(f:Old lk σ):∃ a ae,TK z (d+4) none lk 25 [.str t] σ a ae/\∃ m,a=.h m/\σ<+:ae/\ae[m]?=some (.list []):=by
 have c:(σ++[TH.cell (some (V.str t))]).length=σ.length+1:=by exact hg
 refine ba (Kv (z:=z) (d:=d) (lk:=lk) (σ:=σ++[TH.cell (some (V.str t))]) e) λτ w w2 w3=>?_;rw[c]at w w3;apply oF.jm [(21,σ.length)] [] (σ++[TH.cell (some (V.str t))]) rfl;have b:=w2.length_le;refine ag.re (TB.oG (I:=.list (σ.length+1)) (α:=hA) (el:=V.int) (f:=V.int) (L:=[]) (U:=τ) ?_ rfl ?_ rfl (hq _) ?_ ?_) ?_
 .exact Ug.list rfl (.call (.gl rfl) (.c (.ce rfl bc) .n) w) w3
 .exact cY (lk:=lk) f (by rw[c]at b;exact gB b)
 .intro i g
  rw[jl (l:=[]) (bf w3)];simp
 .intro x g ρ hx
  simp at hx
 exact eS _ rfl ((e1 ..).trans (w2.trans (e1 ..))) bc
theorem Px (b:Tx t)(k:Old lk σ):∃ ae,TK z (d+4) none lk 26 [.str t,v] σ (.str t) ae/\σ<+:ae:=by
 have e:t.length<=16777216:=by rcases b with rfl|rfl|rfl<;>decide
 refine ba (Kv (z:=z) (d:=d) (lk:=lk) (σ:=σ) b) λτ w w2 w3=>?_;apply dh.of0 [(70,v),(21,.str t)] rfl;apply ag.cons (TF.FF (.tu (.c .s (.c .i .n)) (eW rfl)) (.tu rfl (.cons .lo (.cons .lo .nil))) (by intro _;rfl));apply ag.fo (I:=.list σ.length) (n:=0) (λi ρ a=>a=τ/\ρ.lookup 22=some (.str [])/\ρ.lookup 6=some (.int 0)/\ρ.lookup 21=some (.str t))
 .exact Ug.list rfl (.call (.gl rfl) (.c (.lo rfl) .n) w) w3
 .exact js rfl rfl rfl rfl
 .rintro ρ a ⟨rfl,_⟩
  rw[jl w3];rfl
 .exact λi f f hi=>iv hi (n3 i)
 .rintro ρ a ⟨rfl,h,j,g⟩
  have c:bg t ((0:e5):hA) t.length=t:=by simp[bg]
  apply ag.re (.bin (.lo h) (.UI (k:=0) (.lo g) (.lo j) e) (TC.cD (by rw[c];show 0+t.length<=16777216;exact hH e _)));exact⟨by rw[c];rfl,w2⟩
end
section
set_option backward.match.sparseCases false
noncomputable def dC (new st:hA)(ks:e0 hA):e0 (Key×V):=ks.mapIdx λi k=>(Key.int k,V.int (new+i*st))
theorem jc{st:hA}:(dC new st ks).length=ks.length:=by simp[dC]
theorem sC{st:hA}:dC new st (ks++[k])=dC new st ks++[(.int k,.int (new+ks.length*st))]:=by simp[dC]
theorem wM{k:Key}{d:e0 (Key×V)}(h:k∉d.map (λb=>b.1)):putK d k v=d++[(k,v)]:=by
 induction d with
 |nil=>rfl
 |cons b p c=>rw[putK,hb λa:b.1=k=>h (a▸.head _),c λa=>h (.tail _ a)];rfl
theorem zi{d:e0 (Key×V)}(hn:(d.map (λa=>a.1)).Nodup):∀ {k:Key} {v:V},(k,v)∈d->atK d k=some v:=by
 induction d with
 |nil=>intro k v h;simp at h
 |cons a d c=>
  intro k v h;rw[iO,ku]at hn;unfold atK;rw[pd];rcases hr.mp h with rfl|h
  .simp
  .have:¬ a.1=k:=λb=>hn.1 (by rw[b];exact kK (f:=(λa=>a.1)) h)
   simp only[this,decide_false];exact c hn.2 h
theorem mB{st:hA}:(dC new st ks).map (λa=>a.1)=ks.map Key.int:=by
 apply Jw<;>simp[dC]
theorem pH{ks:e0 hA}(h:ks.Nodup):(ks.map Key.int).Nodup:=Hp.mpr (h.imp λb a=>b (by injection a))
theorem lX{st:hA}(hn:ks.Nodup){i:e5} h:atK (dC new st ks) (.int ks[i])=some (.int (new+i*st)):=by
 apply zi (by rw[mB];exact pH hn);have:(dC new st ks)[i]'(by rw[jc];exact h)=(.int ks[i],.int (new+i*st)):=by simp[dC]
 rw[<-this];exact j5 _
theorem sD (a:bK p):within p 0 65529=an p:=by
 rw[within,tB];intro k hk;have:=a.key hk;rw[h8 (g7 J this.1),h8 (g7 this.2.1 J)];rfl
theorem q2 (a:bK p):within p 0 (-1)=[]:=by
 rw[within,List.filter_eq_nil_iff];intro k hk;have:=a.key hk;rw[je (λh=>iv (g7 this.1 h) J:¬ k<= -1),ve];exact kA
theorem Py{st:hA}(h:σ[n]?=some (.dict (aE p)))(e:bK p)(ai:Old lk σ)(aO:0<=new)(h1:new<=100)(h2:1<=st)(aq:st<=100):
  ∃ ap ae,TK z (d+2) none lk 27 [.h n,.int new,.int 0,.int st] σ ap ae/\∃ m,ap=.h m/\σ<+:ae/\σ.length<=m/\ae[m]?=some (.dict (dC new st (an p))):=by
 refine f5 (oE (z:=z) (d:=d) (lk:=lk) (σ:=σ) (a:=0) (b:=65529) h e.len ai) λU r w u x ao=>?_;refine f5 (oE (z:=z) (d:=d) (lk:=lk) (σ:=U) (a:=0) (b:= -1) (aR u h) e.len (ai.mono u)) λaf aD aA v aj aQ=>?_;rw[sD e]at x;rw[q2 e]at aj;have g:(an p).length=p.length:=bP p;have t:=e.len;have l:=aR v x;have am:r<U.length:=(e4.mp x).1;have as:=v.length_le;have aV:=u.length_le;apply oF.of0 [(71,.int st),(40,.int 0),(41,.int new),(15,.h n)] rfl;apply ag.cons (TF.aP rfl (.call (.gl rfl) (.c (.lo rfl) (.c (.lo rfl) (.c (.gl rfl) .n))) w));apply ag.cons (TF.aP rfl (.call (.gl rfl) (.c (.lo rfl) (.c .i (.c (.bin (.lo rfl) .i TC.ow) .n))) aA));have f:∀ τ,af<+:τ->∀ F:Fm,B1 z F .len [.h r] τ (.int p.length) τ:=λτ b F=>by
  have:=B1.kQ (z:=z) (F:=F) (aR b l) (jh (by exact HG g t));simpa[g]using this
 apply ag.bA
 .apply TD.FT (TD.cmp (.lo rfl) .i (TC.Uh rfl (mm.mpr (by assumption))))
  apply TD.Bz (TD.cmp (.lo rfl) .i (TC.Uh rfl (mm.mpr (by assumption))));by_cases a:p=[]
  .apply TD.fS (TD.cmp (.bi rfl (.c (.lo rfl) .n) (f _ fV _)) .i (TC.cmp (by rw[a];rfl)))
   exact TD.cmp (.bi rfl (.c (.lo rfl) .n) (B1.yj (aR (u.trans v) h) (by rw[dJ];show _<=16777216;exact vM t))) .i (TC.cmp (by rw[a];rfl))
  .exact TD.gz (TD.cmp (.bi rfl (.c (.lo rfl) .n) (f _ fV _)) .i (TC.Uh rfl (λo=>a (kx (ny o)))))
 apply ag.nil;apply ag.cons (TF.aP rfl .lS);have au:lk.contains af.length=false:=cY ai (by exact e2 (e2 ao (gB am)) as);apply ag.fo (I:=.enum r) (n:=p.length) (λi ρ τ=>τ=af++[.dict (dC new st ((an p).take i))]/\ρ.lookup 70=some (.h af.length)/\ρ.lookup 72=some (.h r)/\ρ.lookup 73=some (.h aD)/\ρ.lookup 41=some (.int new)/\ρ.lookup 71=some (.int st))
 .exact Ug.enum rfl rfl (.lo rfl) (bf l)
 .exact xF rfl rfl rfl rfl rfl rfl
 .rintro ρ τ ⟨rfl,_⟩
  rw[uc (bf l)];simp[g]
 .rintro i ρ τ hi ⟨rfl,q,c,y,aa,ab⟩
  have ar:i<(an p).length:=by exact rB g hi
  refine gS (.tup [.int i,.int (an p)[i]]) _ _ (by rw[uc (bf l)];simp[ar]) (.tu rfl (.cons .lo (.cons .lo .nil))) ?_;apply ag.cons (TF.fh (.bin (.lo (v:=.int new) (aM rfl (aM rfl aa))) (.bin (.lo (v:=.int i) (aM rfl bu)) (.lo (v:=.int st) (aM rfl (aM rfl ab))) (TC.se (by exact tl (gB (hQ hi t)) rfl) (by exact na (k:=100) (g7 J h2) aq rfl))) TC.fg) (.lo (v:=.h af.length) (aM rfl (aM rfl q))) (.lo (v:=.int (an p)[i]) bu) (S2.dict (key:=.int (an p)[i]) rfl bc (by rw[jc,nv];show _<=16777216;lia) au));apply ag.nil;refine xF ?_ (aM rfl (aM rfl q)) (aM rfl (aM rfl c)) (aM rfl (aM rfl y)) (aM rfl (aM rfl aa)) (aM rfl (aM rfl ab));have hn:Key.int (an p)[i]∉(dC new st ((an p).take i)).map (λax=>ax.1):=by
   rw[mB];intro aL;refine ah (h4.mp aL) λk hk o=>?_;injection o with o;obtain⟨j,aP,ay⟩:=zt.mp hk;have:=(nu (er e)).mp (ay.trans o);lia
  rw[wM hn,kn ar,sC,nv,pe (by exact HH g hi)];simp
 .rintro ρ τ ⟨rfl,q,c,y,aa,ab⟩
  rw[ia (by exact iP g)];have b:af<+:af++[TH.dict (dC new st (an p))]:=e1 ..;apply ag.bA
  .by_cases a:p=[]
   .exact TD.gz (TD.cmp (.bi rfl (.c (.lo c) .n) (f _ b _)) .i (TC.cmp (by rw[a];rfl)))
   .have s:0<p.length:=Fp.mpr a
    apply TD.fS (TD.cmp (.bi rfl (.c (.lo c) .n) (f _ b _)) .i (TC.Uw rfl (iW.mpr (by exact s))));have ak:p.length -1<(an p).length:=by exact HI g s
    have aN:((p.length:e5):hA) -1=((p.length -1:e5):hA):=by exact HJ s
    have aw:TC z ⟨⟨[],lk,none⟩,JS.sc,d+1⟩ (.bn .Sub) (.int p.length) (.int 1) (af++[TH.dict (dC new st (an p))]) (.int ((p.length -1:e5):hA)) (af++[TH.dict (dC new st (an p))]):=by rw[<-aN];exact TC.ow
    refine TD.cmp (.sub (.lo q) (.sub (.lo c) (.bin (.bi rfl (.c (.lo c) .n) (f _ b _)) .i aw) (T9.list (v:=.int (an p)[p.length -1]) (bf l) (by simp[ak]) (by exact HK t))) (T9.dict (key:=.int (an p)[p.length -1]) rfl bc (lX (er e) ak))) (.gl rfl) (TC.Uh rfl ?_);have aK:((p.length -1:e5):hA)<=63:=by exact HL t
    have aJ:((p.length -1:e5):hA)*st<=63*100:=LM aK aq (by exact rA h2) J;exact mm.mpr (g7 (qj h1 aJ) J)
  apply ag.nil;apply ag.bA
  .by_cases a:p=[]
   .exact TD.gz (TD.cmp (.bi rfl (.c (.lo c) .n) (f _ b _)) .i (TC.cmp (by rw[a];rfl)))
   .have s:0<p.length:=Fp.mpr a
    apply TD.Kn (TD.cmp (.bi rfl (.c (.lo c) .n) (f _ b _)) .i (TC.Uw rfl (iW.mpr (by exact s))));exact TD.gz (TD.cmp (.bi rfl (.c (.lo y) .n) (B1.kQ (bf aj) (hq _))) .i (TC.cmp rfl))
  apply ag.nil;apply ag.re (.lo q);exact iX _ rfl ((u.trans v).trans b) (by exact e2 (e2 ao (gB am)) as) bc
theorem Ky (h:σ[n]?=some (.dict (aE p)))(b:bK p)(c:Old lk σ):
  ∃ w ae,gn z (d+2) none lk 27 [.h n,.int new,.int 0,.int 0] σ (.str [70,67]) w ae/\σ<+:ae:=by
 refine f5 (oE (z:=z) (d:=d) (lk:=lk) (σ:=σ) (a:=0) (b:=65529) h b.len c) λU r w a k j=>?_;refine f5 (oE (z:=z) (d:=d) (lk:=lk) (σ:=U) (a:=0) (b:= -1) (aR a h) b.len (c.mono a)) λaf l e f g m=>?_;apply lV.of0 [(71,.int 0),(40,.int 0),(41,.int new),(15,.h n)] rfl;apply cA.tl (TF.aP rfl (.call (.gl rfl) (.c (.lo rfl) (.c (.lo rfl) (.c (.gl rfl) .n))) w));apply cA.tl (TF.aP rfl (.call (.gl rfl) (.c (.lo rfl) (.c .i (.c (.bin (.lo rfl) .i TC.ow) .n))) e));apply cA.pF (TD.FC (TD.cmp (.lo rfl) .i (TC.cmp rfl)));apply cA.t6 rfl (.c .s (.c .s .n));exact a.trans f
theorem Pz (h:σ[n]?=some (.dict (aE p)))(f:eK p)(x:Old lk σ):
  ∃ ae,TK z (d+5) none lk 28 [.h n] σ (.h σ.length) ae/\σ<+:ae/\ae[σ.length]?=some (.list []):=by
 have hk:((aE p).map (λk=>k.1))=(p.map (λk=>k.1)).map Key.int:=by simp[aE]
 have q:(an p).length=p.length:=bP p;apply dh.of0 [(15,.h n)] rfl;apply ag.cons (TF.aP rfl (.li .n (hq _)));have t:(σ++[TH.list []]).length=σ.length+1:=by simp
 apply ag.fo (I:=.list (σ.length+1)) (n:=p.length) (λi ρ τ=>σ++[.list []]<+:τ/\τ[σ.length+1]?=some (.list ((an p).map V.int))/\ρ.lookup 15=some (.h n)/\ρ.lookup 22=some (.h σ.length))
 .rw[<-t]
  exact Ug.list rfl (.bi rfl (.c (.lo rfl) .n) (B1.sorted rfl (bf h) hk (by simpa using f.ok.len))) bc
 .exact js (e1 ..) (by rw[<-t];exact bc) rfl rfl
 .rintro ρ τ ⟨_,g,_⟩
  rw[jl g];simp[q]
 .rintro i ρ τ hi ⟨b,c,e,j⟩
  have s:i<(an p).length:=by exact rB q hi
  obtain⟨a,aa,r,f1,f2,f3⟩:=f.ok.key (j5 s);have u:τ[n]?=some (.dict (aE p)):=aR b (bf h);obtain⟨y,v,w,m,rfl,w2,w3⟩:=Pw (z:=z) (d:=d) (lk:=lk) (σ:=τ) (f.tx _ f2) (x.mono ((e1 ..).trans b));refine gS (.int (an p)[i]) _ _ (by rw[jl c];simp[s]) .lo ?_;apply ag.fo (I:=.list m) (n:=0) (λo am l=>l=v/\am=aB ρ 18 (.int (an p)[i]))
  .exact Ug.list rfl (.call (.gl rfl) (.c (.sub (.lo (v:=.h n) (aM rfl e)) (.lo (v:=.int (an p)[i]) bu) (T9.dict (key:=.int (an p)[i]) rfl u (by rw[eg,f1];rfl))) .n) w) w3
  .exact⟨rfl,rfl⟩
  .rintro am l ⟨rfl,_⟩
   rw[jl w3];rfl
  .exact λi o o hi=>iv hi (n3 i)
  .rintro am l ⟨rfl,rfl⟩
   apply ag.nil;exact js (b.trans w2) (aR w2 c) (aM rfl e) (aM rfl j)
 .rintro ρ τ ⟨b,c,e,j⟩
  apply ag.re (.lo j);exact⟨rfl,(e1 ..).trans b,aR b bc⟩
noncomputable def iQ (p:TU)(new st:hA)(ks:e0 hA):TU:=ks.mapIdx λi k=>(new+i*st,(p.lookup k).getD [])
noncomputable def fk (p:TU)(new st:hA):TU:=iQ p new st (an p)
theorem ud{st:hA}:iQ p new st (ks++[k])=iQ p new st ks++[(new+ks.length*st,(p.lookup k).getD [])]:=by simp[iQ]
theorem lY{st:hA}:(iQ p new st ks).length=ks.length:=by simp[iQ]
theorem wN{st:hA}(h:1<=st):new+ks.length*st∉(iQ p new st ks).map (λb=>b.1):=by
 intro e;refine ah (h4.mp e) λb d a=>?_;obtain⟨i,hi,c⟩:=Dv.mp d;rw[<-c]at a;simp only at a;have f:(i:hA)*st=(ks.length:hA)*st:=by exact Fq a
 have g:=zk (show st≠0 by exact ym h) f;exact hc hi (ny g)
theorem Kz i τ:It.nx (.range k) i τ=some (if(i:hA)<k then some (.int i)else none):=rfl
theorem PB{st:hA}(h:σ[n]?=some (.dict (aE p)))(e:eK p)(aa:Old lk σ)(aA:0<=new)(h1:new<=100)(h2:1<=st)(aK:st<=100):
  ∃ q ae,TK z (d+5) none lk 29 [.h n,.int new,.int 0,.int st] σ q ae/\∃ m,q=.h m/\σ<+:ae/\σ.length<=m/\ae[m]?=some (.dict (aE (fk p new st))):=by
 obtain⟨_,U,w,m,rfl,au,w2,w3⟩:=Py (z:=z) (d:=d+2) (lk:=lk) h e.ok aa aA h1 h2 aK;have s:(an p).length=p.length:=bP p;have aL:=e.ok.len;have ao:m<U.length:=(e4.mp w3).1;have aP:=au.length_le;apply oF.of0 [(71,.int st),(40,.int 0),(41,.int new),(15,.h n)] rfl;apply ag.cons (TF.aP rfl (.call (.gl rfl) (.c (.lo rfl) (.c (.lo rfl) (.c (.lo rfl) (.c (.lo rfl) .n)))) w));apply ag.cons (TF.aP rfl .lS);have aJ:Old (m::lk) U:=by intro j ak;rcases hr.mp ak with rfl|ak;exact ao;exact fC (aa j ak) aP
 apply ag.fo (I:=.keys m) (n:=p.length) (λi ρ τ=>U<+:τ/\(∃ dd,τ[U.length]?=some (.dict dd)/\dd.length<=i)/\ρ.lookup 70=some (.h m)/\ρ.lookup 77=some (.h U.length)/\ρ.lookup 15=some (.h n))
 .exact Ug.keys rfl (.lo rfl) (bf w3)
 .exact lC (e1 ..) ⟨[],bc,e6 _⟩ rfl rfl rfl
 .rintro ρ τ ⟨c,_⟩
  rw[wL (aR c w3)];rw[lF (by rw[jc,s];exact e6 _)];rfl
 .rintro i ρ τ hi ⟨c,⟨dd,ap,aq⟩,t,v,y⟩
  have b:i<(an p).length:=by exact rB s hi
  obtain⟨a,aO,r,f1,f2,f3⟩:=e.ok.key (j5 b);have ai:(m::lk).contains U.length=false:=cY aJ (e6 _);refine gS (.int (an p)[i]) _ _ ?_ .lo ?_
  .rw[wL (aR c w3),hv (by rw[jc];exact b)]
   simp[dC];rfl
  .apply ag.cf (TD.cmp (.lo (v:=.int (an p)[i]) bu) .i (TC.V8 rfl (by exact ym a)))
   apply ag.cons (TF.fh (.sub (.lo (v:=.h m) (aM rfl t)) (.lo (v:=.int (an p)[i]) bu) (T9.dict (key:=.int (an p)[i]) rfl (aR c w3) (lX (er e.ok) b))) (.lo (v:=.h U.length) (aM rfl v)) (.lo (v:=.int (an p)[i]) bu) (S2.dict (key:=.int (an p)[i]) rfl ap (by show _<=16777216;exact tl (gB (hQ aq (hO hi aL))) rfl) ai));apply ag.nil;apply ag.nil;refine lC (jJ c (e6 _)) ⟨_,dK ap,?_⟩ (aM rfl t) (aM rfl v) (aM rfl y);have:∀ (k:Key) (q:V) (d:e0 (Key×V)),(putK d k q).length<=d.length+1:=by
    intro k q d;induction d with
    |nil=>simp[putK]
    |cons x d aQ=>unfold putK;split<;>simp<;>exact aQ
   have:=this (.int (an p)[i]) (.int (new+i*st)) dd;exact e2 this (hm aq)
 .rintro ρ τ ⟨c,⟨dd,ap,aq⟩,t,v,y⟩
  apply ag.cons (TF.aP rfl .lS);have hk:((aE p).map (λx=>x.1))=(p.map (λx=>x.1)).map Key.int:=by simp[aE]
  have aw:(τ++[TH.dict []]).length=τ.length+1:=by simp
  have ax:=c.length_le;have ab:=au.trans c;apply ag.fo (I:=.list (τ.length+1)) (n:=p.length) (λi ρ f=>τ<+:f/\f[τ.length]?=some (.dict (aE (iQ p new st ((an p).take i))))/\f[τ.length+1]?=some (.list ((an p).map V.int))/\ρ.lookup 70=some (.h m)/\ρ.lookup 77=some (.h U.length)/\ρ.lookup 15=some (.h n)/\ρ.lookup 22=some (.h τ.length))
  .rw[<-aw]
   exact Ug.list rfl (.bi rfl (.c (.lo (v:=.h n) (aM rfl y)) .n) (B1.sorted rfl (bf (aR ab h)) hk (by simpa using e.ok.len))) bc
  .exact xG (by simp) (bf bc) (by rw[<-aw];exact bc) (aM rfl t) (aM rfl v) (aM rfl y) bu
  .rintro ρ f ⟨_,_,o,_⟩
   rw[jl o];simp[s]
  .rintro i ρ f hi ⟨g,l,o,aj,am,ar,af⟩
   have b:i<(an p).length:=by exact rB s hi
   obtain⟨a,aO,r,f1,f2,f3⟩:=e.ok.key (j5 b);refine ah (Px (z:=z) (d:=d) (lk:=lk) (σ:=f) (t:=r) (v:=.h U.length) (e.tx _ f2) (aa.mono (ab.trans g))) λaD u u2=>?_;have ai:lk.contains τ.length=false:=cY aa (by exact e2 (e2 w2 (gB ao)) ax);refine gS (.int (an p)[i]) _ _ (by rw[jl o];simp[b]) .lo ?_;have aN:aD[m]?=some (.dict (dC new st (an p))):=aR (c.trans (g.trans u2)) w3;have ay:(atK (dC new st (an p)) (.int (an p)[i])).getD (.int (an p)[i])=.int (new+i*st):=by rw[lX (er e.ok) b];rfl
   have as:=M2.get (z:=z) (F:=Fm.lock ⟨⟨[],lk,none⟩,JT.sc,d+4⟩ (.list (τ.length+1))) (key:=.int (an p)[i]) (b:=.int (an p)[i]) (u:=.int (an p)[i]) rfl aN;rw[ay]at as;apply ag.cons (TF.fh (.call (.gl rfl) (.c (.sub (.lo (v:=.h n) (aM rfl ar)) (.lo (v:=.int (an p)[i]) bu) (T9.dict (key:=.int (an p)[i]) rfl (aR (ab.trans g) h) (by rw[eg,f1];rfl))) (.c (.lo (v:=.h U.length) (aM rfl am)) .n)) u) (.lo (v:=.h τ.length) (aM rfl af)) (.cE rfl (.lo (v:=.h m) (aM rfl aj)) (.c (.lo (v:=.int (an p)[i]) bu) (.c (.lo (v:=.int (an p)[i]) bu) .n)) as) (S2.dict (key:=.int (new+i*st)) rfl (aR u2 l) (by rw[dJ,lY,nv];show _<=16777216;lia) ai));apply ag.nil;refine xG (jJ (g.trans u2) (e6 _)) ?_ (by rw[pq (by exact(q5 _).symm)];exact aR u2 o) (aM rfl aj) (aM rfl am) (aM rfl ar) (aM rfl af);rw[dK (aR u2 l),fj];have hn:=wN (p:=p) (new:=new) (ks:=(an p).take i) h2;rw[nv,pe (by exact gB b)]at hn;rw[lW hn,kn b,ud,nv,pe (by exact gB b),f1];rfl
  .rintro ρ f ⟨g,l,o,aj,am,ar,af⟩
   apply ag.re (.lo af);refine iX _ rfl (ab.trans g) (by exact e2 (e2 w2 (gB ao)) ax) ?_;rw[ia (by exact iP s)]at l;exact l
theorem KD (h:σ[n]?=some (.dict (aE p)))(a:bK p)(e:Old lk σ):
  ∃ w ae,gn z (d+3) none lk 29 [.h n,.int new,.int 0,.int 0] σ (.str [70,67]) w ae/\σ<+:ae:=by
 refine b5 (Ky (z:=z) (d:=d) (lk:=lk) (new:=new) h a e) λw U b c=>?_;apply lV.of0 [(71,.int 0),(40,.int 0),(41,.int new),(15,.h n)] rfl;exact cA.hd (.aP rfl (.call (.gl rfl) (.c (.lo rfl) (.c (.lo rfl) (.c (.lo rfl) (.c (.lo rfl) .n)))) b)) c
noncomputable abbrev bM (p:TU)(k:hA):Bool:=(p.lookup k).isSome
theorem k9 (p:TU) k:(atK (aE p) (.int k)).isSome=bM p k:=by rw[eg,Option.isSome_map]
theorem ue (h:σ[n]?=some (.dict (aE p))):TC z F (.cm .In) (.int k) (.h n) σ (.bool (bM p k)) σ:=by
 have:=TC.inD (z:=z) (F:=F) (key:=.int k) (b:=.int k) rfl h;rwa[k9]at this
theorem PC (h:σ[n]?=some (.dict (aE p)))(b:0<=k)(h1:k<=1100):
  TK z (d+2) hn lk 30 [.h n,.int k] σ (.str (aG k++[if bM p k then 42 else 32])) σ:=by
 have:=cK b h1;apply TK.of0 (f:=.ret _) [(9,.int k),(15,.h n)] rfl;refine bx.re (.bin (.bi rfl (.c (.call (.gl rfl) (.c (.lo rfl) .n) (BD b (by exact g7 h1 J))) .n) (B1.str (by exact na (k:=1100) b h1 rfl))) (vb:=.str [if bM p k then 42 else 32]) ?_ (TC.cD (by simp;show _<=16777216;exact ta this rfl)));have a:=ue (z:=z) (F:=⟨⟨[],lk,hn⟩,JU.sc,d+1⟩) (k:=k) h;cases c:bM p k with
 |true=>rw[c]at a;exact .cf (.cmp (.lo rfl) (.lo rfl) a) .s
 |false=>rw[c]at a;exact .bA (.cmp (.lo rfl) (.lo rfl) a) .s
theorem KE{st:hA}(a:0<st)(h1:k+st<=65529):TK z (d+1) hn lk 31 [.int k,.int st] σ (.int (k+st)) σ:=by
 apply TK.of0 (f:=.ret _) [(71,.int st),(9,.int k)] rfl;exact bx.re (.cf (.fS (.cmp (.lo rfl) .i (TC.Uw rfl (a))) (.cmp (.bin (.lo rfl) (.lo rfl) TC.fg) (.gl rfl) (TC.Uw rfl (h1)))) (.bin (.lo rfl) (.lo rfl) TC.fg))
theorem KG (h:σ[n]?=some (.dict (aE p))):TK z (d+1) hn lk 32 [.h n,.int k,.str []] σ (.bool (bM p k)) σ:=by
 apply TK.of0 (f:=.ret _) [(21,.str []),(9,.int k),(15,.h n)] rfl;exact bx.oB (.cmp (.cE rfl (.lo rfl) (.c .s .n) (M2.strip (hq _))) .s (TC.cmp rfl)) rfl (.re (.cmp (.lo rfl) (.lo rfl) (ue h)))
theorem PD (h:σ[n]?=some (.dict (aE p)))(hs:aU [32] t=t)(j:t≠[])(c:t.length<=1000)(f:p.length<=1000)(g:0<=k)(h1:k<=1100)(e:lk.contains n=false):TK z (d+2) hn lk 32 [.h n,.int k,.str t] σ (.bool true) (σ.set n (.dict (aE (b3 p k t)))):=by
 apply TK.of0 (f:=.ret _) [(21,.str t),(9,.int k),(15,.h n)] rfl;apply bx.g6 (TD.cmp (.cE rfl (.lo rfl) (.c .s .n) (M2.strip (by show _<=16777216;exact tl c rfl))) .s (TC.Uh rfl (by lia))) rfl .n;have a:=M2.strip (z:=z) (F:=⟨⟨[],lk,hn⟩,f32.sc,d+1⟩) (σ:=σ) (x:=t) (y:=[32]) (by show _<=16777216;exact tl c rfl);rw[hs]at a;have b:=S2.dict (z:=z) (F:=⟨⟨[],lk,hn⟩,f32.sc,d+1⟩) (key:=.int k) (v:=.str t) rfl h (by rw[dJ];show _<=16777216;exact tl f rfl) e;rw[fj]at b;apply bx.cons (TF.fh (.cE rfl (.lo rfl) (.c .s .n) a) (.lo rfl) (.call (.gl rfl) (.c (.lo rfl) .n) (BD g (by exact g7 h1 J))) b);exact .re .bo
end
variable{hi:e5}{k w:e0 e5}
section
set_option backward.match.sparseCases false
theorem FZ{lo:e5}(h:TB z F ρ σ e (.str [c]) σ)(a:lo<=c/\c<=hi):TD z F ρ σ (.lK .LtE .LtE (.s [lo]) e (.s [hi])) true σ:=by
 have:=oD (lo:=lo) (hi:=hi) h;rwa[show(decide (lo<=c)&&decide (c<=hi))=true by simp[a]]at this
theorem F0{lo:e5}(h:TB z F ρ σ e (.str [c]) σ)(a:¬ (lo<=c/\c<=hi)):TD z F ρ σ (.lK .LtE .LtE (.s [lo]) e (.s [hi])) false σ:=by
 have:=oD (lo:=lo) (hi:=hi) h;rwa[show(decide (lo<=c)&&decide (c<=hi))=false by simp;exact λd=>Ju λb=>a ⟨d,b⟩]at this
theorem KH:TK z (d+1) hn lk 35 [.str [c]] σ (.bool (letter c)) σ:=by
 apply TK.of0 (f:=.ret _) [(35,.str [c])] rfl;exact .re (.pG (sB (.lo rfl)) (.u5 (sB (.lo rfl))))
theorem KI:TK z (d+1) hn lk 36 [.str [c]] σ (.bool (digit c)) σ:=by
 apply TK.of0 (f:=.ret _) [(35,.str [c])] rfl;exact .re (sB (.lo rfl))
theorem KJ (e:t.all (λb=>b<128)=true)(c:t.length<=1000)(g:Old lk σ):∃ ae,TK z (d+1) none lk 37 [.str t] σ (.str (t.map up)) ae/\σ<+:ae:=by
 apply dh.of0 [(21,.str t)] rfl;refine ag.re (v:=.str (t.map up)) (U:=σ++[.list (t.map λa=>.str [up a])]) (TB.me (U:=σ) (af:=σ++[.list (t.map λa=>.str [up a])]) rfl .s (.c (TB.oG (I:=.str t) (α:=e5) (el:=λa=>.str [a]) (f:=λa=>.str [up a]) (L:=t) (U:=σ) ?_ rfl ?_ rfl (by exact tl c rfl) ?_ ?_) .n) rfl ?_) ⟨rfl,e1 ..⟩
 .exact Ug.str rfl (.lo rfl) e
 .exact cY (lk:=lk) g (e6 _)
 .intro i k;rfl
 .intro a k ρ j
  have l:a<128:=by simpa using List.all_eq_true.mp e a j
  refine⟨_,.lo,?_⟩;by_cases h:97<=a/\a<=122
  .rw[show up a=((a:hA) -32).toNat by simp[up,h];exact Hw]
   exact .cf (FZ (.lo (v:=.str [a]) bu) h) (.bi rfl (.c (.bin (.bi rfl (.c (.lo (v:=.str [a]) bu) .n) .ord) .i TC.ow) .n) (B1.chr (by exact Hx h) (by exact Hy h)))
  .rw[show up a=a by simp[up];exact λb f=>iv ⟨b,f⟩ h]
   exact .bA (F0 (.lo (v:=.str [a]) bu) h) (.lo bu)
 .have h:=M2.join (z:=z) (F:=⟨⟨[],lk,none⟩,JV.sc,d⟩) (x:=[]) (σ:=σ++[.list (t.map λa=>.str [up a])]) bc (ja _ t) (by rw[join_one];simp;show _<=16777216;exact tl c rfl)
  rw[join_one]at h;exact h
noncomputable abbrev sk:e5->Bool:=λc=>[32,9].contains c
theorem KL{k:e5}(hk:k<=t.length)(f:t.length<=16777216):TK z (d+1) hn lk 39 [.str t,.int k] σ (.int ((k+cnt sk (t.drop k):e5):hA)) σ:=by
 apply TK.of0 (f:=.ret _) [(6,.int k),(5,.str t)] rfl;apply bx.scan 5 6 t sk k J (hk:=hk) (h1:=rfl) (h2:=rfl)
 .intro ρ k l a b c e
  apply TD.fS
  .apply TD.cmp;apply TB.lo;assumption;apply TB.bi;rfl;apply bV.c;apply TB.lo;assumption;exact bV.n;apply B1.c8;assumption;exact TC.Uw rfl (iW.mpr (by assumption))
  .exact .cmp (.sub (.lo a) (.lo b) (T9.str e (by exact tl (e2 c f) rfl))) .s (TC.cmp FV)
 .intro ρ a b
  apply TD.gz;apply TD.cmp;apply TB.lo;assumption;apply TB.bi;rfl;apply bV.c;apply TB.lo;assumption;exact bV.n;apply B1.c8;assumption;exact TC.Uh rfl (by exact qo)
 .intro ρ k h
  exact .c (.aug h .i) .n
 .intro am j g
  apply bx.re;apply TB.lo;assumption
noncomputable abbrev lZ:e5->Bool:=λc=>letter c||(digit c||decide (c=46))
theorem KN{k:e5}(hk:k<=t.length)(l:t.length<=16777216)(q:k+cnt lZ (t.drop k)=e)(hx:jA .In (.str (bg t e (e+1:e5))) (.tup [.str [37],.str [36],.str [33]]) σ=some false):TK z (d+2) hn lk 42 [.str t,.int k] σ (.int e) σ:=by
 apply TK.of0 (f:=.ret _) [(6,.int k),(5,.str t)] rfl;apply bx.scan 5 6 t lZ k J (hk:=hk) (h1:=rfl) (h2:=rfl)
 .intro ρ k a j m p s
  apply TD.fS
  .apply TD.cmp;apply TB.lo;assumption;apply TB.bi;rfl;apply bV.c;apply TB.lo;assumption;exact bV.n;apply B1.c8;assumption;exact TC.Uw rfl (iW.mpr (by assumption))
  .have b:∀ F:Fm,TB z F ρ σ (.sub (.lo 5) (.lo 6)) (.str [a]) σ:=λF=>.sub (.lo j) (.lo m) (T9.str s (by exact tl (e2 p l) rfl))
   have c:TK z (d+1) hn lk 35 [.str [a]] σ (.bool (letter a)) σ:=KH;have o:TK z (d+1) hn lk 36 [.str [a]] σ (.bool (digit a)) σ:=KI;cases g:letter a with
   |true=>
    rw[g]at c;rw[show lZ a=true by simp only[lZ,g,NF]];exact .FC (.call (.call (.gl rfl) (.c (b _) .n) c))
   |false=>
    rw[g]at c;rw[show lZ a=(digit a||decide (a=46)) by simp only[lZ,g,FY]];refine .FT (.call (.call (.gl rfl) (.c (b _) .n) c)) (.or (.call (.call (.gl rfl) (.c (b _) .n) o)) (.cmp (b _) .s (TC.cmp eq1)))
 .intro ρ j m
  apply TD.gz;apply TD.cmp;apply TB.lo;assumption;apply TB.bi;rfl;apply bV.c;apply TB.lo;assumption;exact bV.n;apply B1.c8;assumption;exact TC.Uh rfl (by exact qo)
 .intro ρ k h
  exact .c (.aug h .i) .n
 .intro am u f
  rw[q]at f;have n:am.lookup 5=some (.str t):=(u 5 J).trans rfl;exact .re (.bA (.gz (.cmp (.sb (k:=e+1) (.lo n) (.lo f) (.bin (.lo f) .i TC.fg) l) (.tu (.c .s (.c .s (.c .s .n))) (eW rfl)) (TC.cmp hx))) (.lo f))
noncomputable abbrev tr:e0 Nat:=[114,101,109,32,97,98,99]
noncomputable abbrev te:e0 Nat:=[101,110,100]
noncomputable abbrev ts:e0 Nat:=[115,116,111,112]
noncomputable def Wd (t W:e0 e5):Prop:=(W=TJ/\(t=TJ\/t=te))\/(W=Vj/\t=ts)
theorem TC.PE{l:e0 V}{a:V}(e:σ[n]?=some (.list l))(h:jz a l=some o):TC z F (.cm .In) a (.h n) σ (.bool o) σ:=TC.cmp (by
 show(match σ[n]? with|some (.list l)=>jz a l|_=>none:gN jW)=_;rw[e];exact h)
theorem PF (a:W=TJ\/W=Vj):∃ ae,TK z (d+1) hn lk 34 [.str W] σ (.bool true) ae/\σ<+:ae:=by
 apply dh.of0 [(2,.str W)] rfl;refine ag.re (.J0 (.cmp (.lo rfl) (.cE rfl (.gl rfl) (.c .s .n) (M2.split (eW rfl))) (TC.PE bc ?_))) ⟨rfl,e1 ..⟩;rcases a with rfl|rfl<;>rfl
theorem PG:TK z (d+1) hn lk 46 [.str [32,97,98,99]] σ (.str [97,98,99]) σ:=by
 apply TK.of0 (f:=.ret _) [(21,.str [32,97,98,99])] rfl;exact .re (.cf (.cmp (.st (k:=1) (.lo rfl) .i J) .s (TC.cmp rfl)) (.UI (l:=[32,97,98,99]) (k:=1) (.lo rfl) .i J))
theorem PH (a:Wd t W)(p:Old lk σ):∃ e ae,TK z (d+3) none lk 47 [.str t,.int 0] σ e ae/\∃ m,e=.tup [.h m,.int t.length]/\σ<+:ae/\ae[m]?=some (.list [.tup [.str [119,111,114,100],.str W]]):=by
 have f:t.length<=16777216:=by rcases a with⟨_,rfl|rfl⟩|⟨_,rfl⟩<;>decide
 have c:W=TJ\/W=Vj:=by rcases a with⟨h,_⟩|⟨h,_⟩<;>simp[h]
 have n:t.map up=W:=by rcases a with⟨rfl,rfl|rfl⟩|⟨rfl,rfl⟩<;>rfl
 have k:bg t ((0:e5):hA) t.length=t:=by simp[bg]
 have o:=KN (z:=z) (d:=d) (hn:=none) (lk:=lk) (σ:=σ) (t:=t) (k:=0) (e:=t.length) (hq _) f (by rcases a with⟨_,rfl|rfl⟩|⟨_,rfl⟩<;>decide) (by rcases a with⟨_,rfl|rfl⟩|⟨_,rfl⟩<;>rfl);refine ah (KJ (z:=z) (d:=d+1) (lk:=lk) (σ:=σ) (t:=t) (by rcases a with⟨_,rfl|rfl⟩|⟨_,rfl⟩<;>decide) (by rcases a with⟨_,rfl|rfl⟩|⟨_,rfl⟩<;>decide) p) λτ b g=>?_;rw[n]at b;refine ah (PF (z:=z) (d:=d+1) (hn:=none) (lk:=lk) (σ:=τ) c) λq j l=>?_;apply oF.of0 [(6,.int 0),(5,.str t)] rfl;apply ag.cons (TF.aP rfl (.call (.gl rfl) (.c (.lo rfl) (.c (.lo rfl) .n)) o));rw[<-k]at b;apply ag.cons (TF.aP rfl (.call (.gl rfl) (.c (.sb (l:=t) (i:=0) (k:=t.length) (.lo rfl) (.lo rfl) (.lo rfl) f) .n) b));apply ag.bA (TD.cmp (.lo rfl) .s (TC.cmp (by rcases c with rfl|rfl<;>rfl)));apply ag.nil;apply ag.bA (TD.cmp (.lo rfl) .s (TC.cmp (by rcases c with rfl|rfl<;>rfl)));apply ag.nil;apply ag.re (.tu (.c (.li (.c (.tu (.c (.cf (.call (.call (.gl rfl) (.c (.lo rfl) .n) j)) .s) (.c (.lo rfl) .n)) (eW rfl)) .n) (eW rfl)) (.c (.lo rfl) .n)) (eW rfl));exact eS _ rfl (g.trans (l.trans (e1 ..))) bc
theorem KO (f:Old lk σ):∃ a ae,TK z (d+3) none lk 47 [.str tr,.int 0] σ a ae/\∃ m,a=.tup [.h m,.int 7]/\σ<+:ae/\ae[m]?=some (.list [.tup [.str [114,101,109],.str [97,98,99]]]):=by
 have e:=KN (z:=z) (d:=d) (hn:=none) (lk:=lk) (σ:=σ) (t:=tr) (k:=0) (e:=3) (hq _) J J rfl;refine ah (KJ (z:=z) (d:=d+1) (lk:=lk) (σ:=σ) (t:=[114,101,109]) J J f) λτ c b=>?_;apply oF.of0 [(6,.int 0),(5,.str tr)] rfl;apply ag.cons (TF.aP rfl (.call (.gl rfl) (.c (.lo rfl) (.c (.lo rfl) .n)) e));apply ag.cons (TF.aP rfl (.call (.gl rfl) (.c (.sb (l:=tr) (i:=0) (k:=3) (.lo rfl) (.lo rfl) (.lo rfl) J) .n) c));apply ag.cf (TD.cmp (.lo rfl) .s (TC.cmp rfl));apply ag.re (.tu (.c (.li (.c (.tu (.c .s (.c (.call (.gl rfl) (.c (.UI (l:=tr) (k:=3) (.lo rfl) (.lo rfl) J) .n) PG) .n)) (eW rfl)) .n) (eW rfl)) (.c (.bi rfl (.c (.lo rfl) .n) (B1.c8 J)) .n)) (eW rfl));exact eS _ rfl (b.trans (e1 ..)) bc
noncomputable def Tk (t:e0 e5)(k w W:e0 e5):Prop:=(Wd t W/\k=[119,111,114,100]/\w=W)\/(t=tr/\k=[114,101,109]/\w=[97,98,99]/\W=VL)
theorem Tk.len (h:Tk t k w W):0<t.length/\t.length<=10/\∃ a,t[0]?=some a/\letter a=true/\digit a=false/\a≠46/\cnt sk t=0:=by
 rcases h with⟨⟨_,rfl|rfl⟩|⟨_,rfl⟩,_⟩|⟨rfl,_⟩<;>exact⟨by decide,by decide,_,rfl,by decide,by decide,by decide,by decide⟩
theorem PJ (h:Tk t k w W)(f:Old lk σ):∃ a ae,TK z (d+4) none lk 48 [.str t,.int 0] σ a ae/\∃ m,a=.tup [.h m,.int t.length]/\σ<+:ae/\ae[m]?=some (.list [.tup [.str k,.str w]]):=by
 have l:∃ a ae,TK z (d+3) none lk 47 [.str t,.int 0] σ a ae/\∃ m,a=.tup [.h m,.int t.length]/\σ<+:ae/\ae[m]?=some (.list [.tup [.str k,.str w]]):=by
  rcases h with⟨h,rfl,rfl⟩|⟨rfl,rfl,rfl,rfl⟩
  .exact PH h f
  .exact KO f
 refine b5 l λa ae o p=>?_;obtain⟨q,l2,b,g,j,n,s,_⟩:=h.len;have e:TK z (d+3) none lk 35 [.str [b]] σ (.bool (letter b)) σ:=KH;have c:TK z (d+3) none lk 36 [.str [b]] σ (.bool (digit b)) σ:=KI;rw[j]at e;rw[n]at c;apply oF.of0 [(6,.int 0),(5,.str t)] rfl;apply ag.cons (TF.aP rfl (.sub (.lo rfl) (.lo rfl) (T9.str (k:=0) g J)));apply ag.bA (TD.Bz (.call (.call (.gl rfl) (.c (.lo rfl) .n) c)) (.gz (.cmp (.lo rfl) .s (TC.Uh rfl (by lia)))));apply ag.nil;apply ag.cf (TD.call (.call (.gl rfl) (.c (.lo rfl) .n) e));apply ag.re (.call (.gl rfl) (.c (.lo rfl) (.c (.lo rfl) .n)) o);exact p
theorem PM (h:Tk t k w W)(n:Old lk σ):∃ ae,TK z (d+5) none lk 49 [.str t] σ (.h σ.length) ae/\σ<+:ae/\ae[σ.length]?=some (.list [.tup [.str k,.str w]]):=by
 obtain⟨x,l2,aj,af,ai,aa,ab,q⟩:=h.len;have f:t.length<=16777216:=by exact tl l2 rfl
 obtain⟨_,τ,u,m,rfl,g,p⟩:=PJ (z:=z) (d:=d) (lk:=lk) (σ:=σ++[.list []]) h (n.mono (e1 ..));have s:∀ σ:H,TK z (d+4) none lk 39 [.str t,.int 0] σ (.int 0) σ:=λσ=>by
  have:=KL (z:=z) (d:=d+3) (hn:=none) (lk:=lk) (σ:=σ) (t:=t) (k:=0) (hq _) f;rw[qS,ki,q]at this;exact this
 have v:∀ σ:H,TK z (d+4) none lk 39 [.str t,.int t.length] σ (.int t.length) σ:=λσ=>by
  have:=KL (z:=z) (d:=d+3) (hn:=none) (lk:=lk) (σ:=σ) (t:=t) (k:=t.length) (e6 _) f;rw[A0]at this;exact this
 have o:lk.contains σ.length=false:=cY n (e6 _);apply dh.of0 [(5,.str t)] rfl;apply ag.bA (TD.cmp (.bi rfl (.c (.lo rfl) .n) (B1.c8 f)) (.gl rfl) (TC.Uh rfl (by exact mm.mpr (kf.mpr (tl l2 rfl)))));apply ag.nil;apply ag.cons (TF.mx rfl (.c (.li .n (hq _)) (.c (.call (.gl rfl) (.c (.lo rfl) (.c .i .n)) (s _)) .n)) (by exact λy=>⟨rfl,rfl⟩));apply ag.iy (λi ρ c=>ρ.lookup 5=some (.str t)/\ρ.lookup 22=some (.h σ.length)/\((i=1/\ρ.lookup 6=some (.int 0)/\c=σ++[.list []])\/(i=0/\ρ.lookup 6=some (.int t.length)/\σ<+:c/\c[σ.length]?=some (.list [.tup [.str k,.str w]])))) 1
 .exact⟨rfl,rfl,.inl ⟨rfl,rfl,rfl⟩⟩
 .rintro i ρ c ⟨a,e,⟨rfl,b,rfl⟩|⟨rfl,b,j,l⟩⟩
  .right
   refine gD 0 _ rfl (.cmp (.lo b) (.bi rfl (.c (.lo a) .n) (B1.c8 f)) (TC.Uw rfl (iW.mpr (by assumption)))) ?_;apply ag.cons (TF.dI (.call (.gl rfl) (.c (.lo a) (.c (.lo b) .n)) u) (.tu rfl (.cons .lo (.cons .lo .nil))));apply ag.cons (TF.ex (.cE rfl (.lo (v:=.h σ.length) (aM rfl (aM rfl e))) (.c (.lo (v:=.h m) (aM rfl bu)) .n) (M2.extend (aR g bc) p (eW rfl) o)));apply ag.cons (TF.aP rfl (.call (.gl rfl) (.c (.lo (v:=.str t) (aM rfl (aM rfl a))) (.c (.lo (v:=.int t.length) bu) .n)) (v _)));apply ag.nil;exact js rfl (aM rfl (aM rfl (aM rfl a))) (aM rfl (aM rfl (aM rfl e))) (.inr ⟨rfl,bu,jJ ((e1 ..).trans g) (e6 _),dK (aR g bc)⟩)
  .left
   exact Ek c (.cmp (.lo b) (.bi rfl (.c (.lo a) .n) (B1.c8 f)) (TC.Uh rfl (by exact qo))) rfl a e (.inr ⟨rfl,b,j,l⟩)
 .rintro ρ c ⟨a,e,⟨h,_⟩|⟨_,b,j,l⟩⟩
  .cases h
  .exact .re (.lo e) ⟨rfl,j,l⟩
theorem PP (h:Tk t k w W):TK z (d+1) none lk 50 [.tup [.str k,.str w]] σ (.str W) σ:=by
 apply TK.of0 (f:=.ret _) [(110,.tup [.str k,.str w])] rfl;apply bx.cons (TF.dI (.lo rfl) (.tu rfl (.cons .lo (.cons .lo .nil))));rcases h with⟨h,rfl,rfl⟩|⟨rfl,rfl,rfl,rfl⟩
 .apply bx.g6 (TD.cmp (.lo rfl) .s (TC.cmp rfl)) rfl .n
  apply bx.g6 (TD.cmp (.lo rfl) .s (TC.cmp rfl)) rfl .n;exact .re (.lo rfl)
 .apply bx.g6 (TD.cmp (.lo rfl) .s (TC.cmp rfl)) rfl .n
  apply bx.oB (TD.cmp (.lo rfl) .s (TC.cmp rfl)) rfl;exact .re (.cf (.cmp (.lo rfl) .s (TC.cmp rfl)) (.bin .s (.lo rfl) (TC.cD J)))
theorem Tk.W{W:e0 e5}(h:Tk t k w W):W.length<=10/\W≠[]:=by
 rcases h with⟨⟨rfl,_⟩|⟨rfl,_⟩,_⟩|⟨_,_,_,rfl⟩<;>decide
theorem PQ (h:Tk t k w W)(e:σ[n]?=some (.list [.tup [.str k,.str w]])):∃ ae,TK z (d+2) none lk 52 [.h n] σ (.str W) ae/\ae=σ:=by
 have b:=h.W;apply dh.of0 [(114,.h n)] rfl;apply ag.cons (TF.aP rfl .s);apply ag.fo (I:=.enum n) (n:=1) (λi ρ a=>a=σ/\((i=0/\ρ.lookup 22=some (.str []))\/(i=1/\ρ.lookup 22=some (.str W))))
 .exact Ug.enum rfl rfl (.lo rfl) e
 .exact⟨rfl,.inl ⟨rfl,rfl⟩⟩
 .rintro ρ a ⟨rfl,_⟩
  rw[uc e];rfl
 .rintro i ρ a hi ⟨rfl,⟨rfl,g⟩|⟨rfl,g⟩⟩
  .refine gS (.tup [.int 0,.tup [.str k,.str w]]) _ _ (by rw[uc e];rfl) (.tu rfl (.cons .lo (.cons .lo .nil))) ?_
   apply ag.cons (TF.aP rfl (.call (.gl rfl) (.c (.lo (v:=.tup [.str k,.str w]) bu) .n) (PP h)));apply ag.bA (TD.gz (.cmp (.lo (v:=.int 0) (aM rfl (aM rfl bu))) .i (TC.cmp rfl)));apply ag.nil;apply ag.cons (TF.aP rfl (.bin (.lo (v:=.str []) (aM rfl (aM rfl (aM rfl g)))) (.lo (v:=.str W) bu) (TC.cD (by simp;show _<=16777216;lia))));apply ag.nil;exact⟨rfl,.inr ⟨rfl,bu⟩⟩
  .lia
 .rintro ρ a ⟨rfl,⟨h,_⟩|⟨_,g⟩⟩
  .cases h
  .exact .re (.lo g) ⟨rfl,rfl⟩
theorem zl (h:Tk t k w W)(g:Old lk σ):∃ ae,TK z (d+6) none lk 53 [.str t] σ (.str W) ae/\σ<+:ae:=by
 refine ba (PM (z:=z) (d:=d) (lk:=lk) (σ:=σ) h g) λτ e a c=>?_
 (refine ah (PQ (z:=z) (d:=d+3) (lk:=lk) h c) λj b f=>?_;subst f)
 have l:=h.W;apply dh.of0 [(5,.str t)] rfl;apply ag.cons (TF.aP rfl (.call (.gl rfl) (.c (.call (.gl rfl) (.c (.lo rfl) .n) e) .n) b));apply ag.bA (TD.cmp (.bi rfl (.c (.lo rfl) .n) (B1.c8 (by show _<=16777216;lia))) (.gl rfl) (TC.Uh rfl (by lia)));apply ag.nil;exact .re (.lo rfl) ⟨rfl,a⟩
end
variable{a:e0 (e5×V)}{υ:H}
section
set_option backward.match.sparseCases false
theorem zm (h:n=σ.length):TB z F ρ σ (.UO .n .n) (.h n) (σ++[.dict []]):=by subst h;exact .lS
theorem S9 (hx:bV z F ρ σ xs vs U)(h:n=U.length)(a:vs.length<=sz):TB z F ρ σ (.li xs) (.h n) (U++[.list vs]):=by subst h;exact .li hx a
noncomputable def U9:e0 Nat:=[119,120,121,122,123,124,125,126,127,128,5,129,32,37,38,130,131,132,133,134,135,136,137,138,139,140,141,142]
structure WN (a:e0 (e5×V)):Prop where
 ks:a.map (λq=>q.1)=U9
 out:a.lookup 128=some (.h 18)
 row:a.lookup 5=some (.str [])
 fi:a.lookup 32=some (.h 20)
 op:a.lookup 37=some (.h 21)
theorem oM (h:x∈a.map (λb=>b.1)):(aB a x v).map (λb=>b.1)=a.map (λb=>b.1):=by
 induction a with
 |nil=>exact nomatch h
 |cons b a d=>
  obtain⟨y,u⟩:=b;by_cases c:y=x
  .rw[aB,hz c];exact hC (·::a.map (λb=>b.1)) c.symm
  .rw[aB,hb c];exact hC (y::·) (d ((hr.mp h).resolve_left (Ne.symm c)))
theorem WN.len (h:WN a):a.length<1000:=by
 have:=hC nl h.ks;rw[g0]at this;rw[this];decide
theorem WN.set (h:WN a)(hx:x∈U9)(h1:128≠x)(h2:5≠x)(c:32≠x)(b:37≠x):WN (aB a x v):=
 ⟨by rw[oM (by rw[h.ks];exact hx),h.ks],by rw[eh,hb h1,h.out],by rw[eh,hb h2,h.row],by rw[eh,hb c,h.fi],by rw[eh,hb b,h.op]⟩
theorem WN.put (h:WN a):WN (aB a 5 (.str [])):=
 ⟨by rw[oM (by rw[h.ks];decide),h.ks],by rw[eh,hb J,h.out],by rw[eh,hz rfl],by rw[eh,hb J,h.fi],by rw[eh,hb J,h.op]⟩
structure Wo (τ:H)(out:e0 (e0 e5))(fd:e0 (Key×V)):Prop where
 w:τ[12]?=some (.inst 0 13)
 n:∃ a,τ[13]?=some (.ns a)/\WN a
 out:τ[18]?=some (.list (out.map V.str))
 fi:τ[20]?=some (.dict fd)
 op:τ[21]?=some (.dict [])
noncomputable abbrev oN (b:e5)(a:V):e0 (e5×V):=[(15,.h b),(30,.h 12),(143,.h 10),(144,.h 11),(145,a)]
structure So (τ:H)(pr:e5)(p:TU)(Ub:V):Prop where
 s:τ[26]?=some (.inst 1 27)
 n:τ[27]?=some (.ns (oN pr Ub))
 p:τ[pr]?=some (.dict (aE p))
 ge:28<=pr
theorem Wo.pre{out fd}(h:Wo τ out fd)(b:τ<+:υ):Wo υ out fd:=
 ⟨aR b h.w,h.n.imp λa=>oa (aR b),aR b h.out,aR b h.fi,aR b h.op⟩
theorem So.pre{c p b}(h:So τ c p b)(a:τ<+:υ):So υ c p b:=⟨aR a h.s,aR a h.n,aR a h.p,h.ge⟩
theorem Wo.md{out fd}(h:Wo τ out fd)(b:Md L τ υ)(h1:12∉L)(h2:13∉L)(e:18∉L)(d:20∉L)(c:21∉L):Wo υ out fd:=
 ⟨b.get h.w h1,h.n.imp λa=>oa λg=>b.get g h2,b.get h.out e,b.get h.fi d,b.get h.op c⟩
theorem So.md{b p c}(h:So τ b p c)(a:Md L τ υ)(h1:26∉L)(h2:27∉L)(d:b∉L):So υ b p c:=⟨a.get h.s h1,a.get h.n h2,a.get h.p d,h.ge⟩
structure VM (σ τ:H):Prop where
 w:τ[12]?=some (.inst 0 13)
 n:∃ a,τ[13]?=some (.ns a)/\WN a
 m:Md [13] σ τ
noncomputable def DM (x:e5):Bool:=U9.contains x&&(128!=x&&(5!=x&&(32!=x&&(37!=x&&T0.fq 1 x))))
theorem VM.cons{ρ:aZ}{σ τ:H}{x:e5}{v:V}{xs:Xs}{vs:e0 V}(h:VM σ τ)(g:F.c.lk=[])(f:ρ.lookup 30=some (.h 12))(hx:DM x=true)(k:∀ τ,VM σ τ->∃ b,oz z F ρ τ xs vs ρ b/\VM σ b):∃ b,oz z F ρ τ (.c (.dr (.lo 30) x) xs) (v::vs) ρ b/\VM σ b:=by
 refine ah h.n λa g2 c=>?_;simp only[DM,hE,Lw,r6]at hx;refine ah (k (τ.set 13 (.ns (aB a x v))) ⟨bv h.w J,⟨_,dK g2,c.set hx.1 hx.2.1 hx.2.2.1 hx.2.2.2.1 hx.2.2.2.2.1⟩,h.m.trans .set λi h j=>h⟩) λb d e=>?_;exact⟨b,.cons (.dr (.lo f) h.w g2 c.len hx.2.2.2.2.2 (by rw[g];rfl)) d,e⟩
theorem VM.nil (h:VM σ τ):∃ a,oz z F ρ τ .n [] ρ a/\VM σ a:=⟨τ,.nil,h⟩
theorem F2{out fd}(h:Wo σ out fd):∃ ae,TK z (d+1) none [] 55 [.h 12] σ .none ae/\Md [13] σ ae/\Wo ae out fd:=by
 refine ah h.n λa j m=>?_;have e:σ<+:σ++[TH.dict []]++[TH.dict []]++[TH.dict []]++[TH.dict []]:=by simp
 apply dh.of0 [(30,.h 12)] rfl;refine ah ((show VM σ (σ++[TH.dict []]++[TH.dict []]++[TH.dict []]++[TH.dict []])from⟨aR e h.w,⟨a,aR e j,m⟩,Md.aK (L:=[13]) e⟩).cons (z:=z) (F:=⟨⟨[],[],none⟩,Bw.sc,d⟩) (ρ:=[(30,.h 12)]) (x:=124) (v:=.h σ.length) rfl rfl rfl λb h=>h.cons (x:=125) (v:=.h (σ.length+1)) rfl rfl rfl λb h=>h.cons (x:=126) (v:=.h (σ.length+2)) rfl rfl rfl λb h=>h.cons (x:=127) (v:=.h (σ.length+3)) rfl rfl rfl λb h=>h.nil) λo n g=>?_;apply ag.cons (TF.lT (v:=.tup [.h σ.length,.h (σ.length+1),.h (σ.length+2),.h (σ.length+3)]) (.tu (.c .lS (.c (zm (by simp)) (.c (zm (by simp)) (.c (zm (by simp)) .n)))) (eW rfl)) (.tu rfl n) (λb=>⟨_,.head _,.inl nofun⟩));refine ah (g.cons (z:=z) (F:=⟨⟨[],[],none⟩,Bw.sc,d⟩) (ρ:=[(30,.h 12)]) (x:=131) (v:=.int 0) rfl rfl rfl λb h=>h.cons (x:=132) (v:=.int 0) rfl rfl rfl λb h=>h.cons (x:=133) (v:=.int 1) rfl rfl rfl λb h=>h.nil) λp l k=>?_;apply ag.cons (TF.lT (.tu (.c .i (.c .i (.c .i .n))) (eW rfl)) (.tu rfl l) (λb=>⟨_,.head _,.inl nofun⟩));refine ah (k.cons (z:=z) (F:=⟨⟨[],[],none⟩,Bw.sc,d⟩) (ρ:=[(30,.h 12)]) (x:=136) (v:=.int 0) rfl rfl rfl λb h=>h.cons (x:=137) (v:=.bool false) rfl rfl rfl λb h=>h.cons (x:=138) (v:=.int 0) rfl rfl rfl λb h=>h.cons (x:=139) (v:=.str []) rfl rfl rfl λb h=>h.nil) λτ f c=>?_;apply ag.cons (TF.lT (.tu (.c .i (.c .bo (.c .i (.c .s .n)))) (eW rfl)) (.tu rfl f) (λb=>⟨_,.head _,.inl nofun⟩));exact .nil ⟨rfl,c.m,⟨c.w,c.n,c.m.get h.out J,c.m.get h.fi J,c.m.get h.op J⟩⟩
end
variable{k:hA}{kk:e0 e5}{pr:e5}{Ub:V}{out:e0 (e0 e5)}
section
set_option backward.match.sparseCases false
section
variable{z:Z}{F:Fm}{v:V}
theorem bI (h:So τ pr p Ub)(b:ρ.lookup 155=some (.h 26))(hx:(oN pr Ub).lookup x=some v)(a:T0.fq 2 x=true:=by rfl):TB z F ρ τ (.dr (.lo 155) x) v τ:=.dr (.lo b) h.s h.n hx a
theorem zo (h:So τ pr p Ub)(b:Wo τ out fd)(d:ρ.lookup 155=some (.h 26)):TB z F ρ τ (.dr (.dr (.lo 155) 30) 32) (.h 20) τ:=b.n.elim λa c=>.dr (bI h d rfl) b.w c.1 c.2.fi rfl
theorem Md.mono (h:Md L τ υ)(hs:∀ i∈L,i∈L'):Md L' τ υ:=h.sub λi hi a=>hs i hi
theorem DN (h:Wo σ out fd)(f:t.length<=1000)(e:out.length<=1000000):∃ ae,TK z (d+1) hn [] 56 [.h 12,.str t] σ .none ae/\Md [18,13] σ ae/\Wo ae (out++[t]) fd:=by
 refine ah h.n λa c b=>?_;have w:=O2 (z:=z) (d:=d) (hn:=hn) (lk:=[]) h.w c b.out h.out b.row (t:=t) (by simp;exact tl f rfl) (jh (by exact tl e rfl)) b.len rfl rfl J J;refine⟨_,w,(Md.set.mono (pD (.head _))).trans Md.set (dU (.tail _ (.head _))),bv (bv h.w J) J,⟨_,dK (bv c J),b.put⟩,?_,bv (bv h.fi J) J,bv (bv h.op J) J⟩;rw[bv (dK h.out) J];simp
noncomputable def gI (code:e0 e5)(line:hA):e0 Nat:=[63]++code++[32,69,114,114,111,114]++(if 0<line then[32,105,110,32]++aG line else[])
noncomputable def tell (out:e0 (e0 e5))(code:e0 e5)(line:hA):e0 (e0 e5):=if code=[]then out else out++[gI code line]
set_option tactic.hygienic true in
theorem F3{hn:gN e5}{code:e0 e5}{line:hA}(j:hn=none\/∃ m nd,hn=some m/\σ[m]?=some (.gK nd))(h:So σ pr p Ub)(f:Wo σ out fd)(a:code.length<=100)(l:0<=line)(h1:line<=1000)(o:out.length<=1000000):
  ∃ ae,TK z (d+2) hn [] 77 [.h 26,.tup [.str code,.int line]] σ .none ae/\Md [18,13] σ ae/\Wo ae (tell out code line) fd:=by
 have c:=cK l (by exact vL h1);apply dh.of0 [(186,.tup [.str code,.int line]),(155,.h 26)] rfl;have g:DA z ⟨⟨[],[],hn⟩,Fv.sc,d+1⟩ [(186,.tup [.str code,.int line]),(155,.h 26)] σ (.tu (.c (.lo 1) (.c (.lo 18) .n))) (.tup [.str code,.int line]) (aB (aB [(186,.tup [.str code,.int line]),(155,.h 26)] 1 (.str code)) 18 (.int line)) σ:=by
  rcases j with rfl|⟨m,nd,rfl,k⟩
  .exact .tu rfl (.cons .lo (.cons .lo .nil))
  .exact .OY rfl k (.cons .lo (.cons .lo .nil))
 apply ag.cons (TF.dI (.lo rfl) g);by_cases e:code=[]
 .subst e
  apply ag.bA (TD.cmp (.lo (v:=.str []) rfl) .s (TC.cmp rfl));apply ag.nil;apply ag.nil;exact⟨rfl,.refl,f⟩
 .have n:(gI code line).length<=1000:=by unfold gI;split<;>simp<;>lia
  refine ba (DN (z:=z) (d:=d) (hn:=hn) (t:=gI code line) f n o) λae w w2 w3=>?_;apply ag.cf (TD.cmp (.lo (v:=.str code) rfl) .s (TC.V8 rfl (e)));have hx:TB z ⟨⟨[],[],hn⟩,Fv.sc,d+1⟩ [(186,.tup [.str code,.int line]),(155,.h 26),(1,.str code),(18,.int line)] σ (.bin .Add (.bin .Add (.bin .Add (.s [63]) (.lo 1)) (.s [32,69,114,114,111,114])) (.fy (.cmp .Gt (.lo 18) (.i 0)) (.bin .Add (.s [32,105,110,32]) (.bi 17 (.c (.lo 18) .n))) (.s []))) (.str (gI code line)) σ:=by
   unfold gI;split
   .rename_i b
    exact .bin (.bin (.bin .s (.lo rfl) (TC.cD (by simp;show _<=16777216;exact uJ a))) .s (TC.cD (by simp;show _<=16777216;exact ta (k:=7) a rfl))) (.cf (.cmp (.lo (v:=.int line) rfl) .i (TC.Uw rfl (b))) (.bin .s (.bi rfl (.c (.lo (v:=.int line) rfl) .n) (B1.str (by exact na (k:=1000) (Dd b) h1 rfl))) (TC.cD (by simp;show _<=16777216;exact CI c)))) (TC.cD (by simp;show _<=16777216;exact CJ a c))
   .rename_i b
    exact .bin (.bin (.bin .s (.lo rfl) (TC.cD (by simp;show _<=16777216;exact uJ a))) .s (TC.cD (by simp;show _<=16777216;exact ta (k:=7) a rfl))) (.bA (.cmp (.lo (v:=.int line) rfl) .i (TC.Uh rfl (by assumption))) .s) (TC.cD (by simp;show _<=16777216;exact ta a rfl))
  apply ag.cons (TF.ex (.call (.gl rfl) (.c (bI h rfl rfl) (.c (v:=.str (gI code line)) ?_ .n)) w))
  .apply ag.nil
   apply ag.nil;exact⟨rfl,w2,by rw[tell,hb e];exact w3⟩
  .unfold gI
   split
   .rename_i b
    exact .bin (.bin (.bin .s (.lo rfl) (TC.cD (by simp;show _<=16777216;exact uJ a))) .s (TC.cD (by simp;show _<=16777216;exact ta (k:=7) a rfl))) (.cf (.cmp (.lo (v:=.int line) rfl) .i (TC.Uw rfl (b))) (.bin .s (.bi rfl (.c (.lo (v:=.int line) rfl) .n) (B1.str (by exact na (k:=1000) (Dd b) h1 rfl))) (TC.cD (by simp;show _<=16777216;exact CI c)))) (TC.cD (by simp;show _<=16777216;exact CJ a c))
   .rename_i b
    exact .bin (.bin (.bin .s (.lo rfl) (TC.cD (by simp;show _<=16777216;exact uJ a))) .s (TC.cD (by simp;show _<=16777216;exact ta (k:=7) a rfl))) (.bA (.cmp (.lo (v:=.int line) rfl) .i (TC.Uh rfl (by assumption))) .s) (TC.cD (by simp;show _<=16777216;exact ta a rfl))
theorem zp (h:So σ pr p .none):TK z (d+1) none [] 82 [.h 26] σ (.str [79,107]) σ:=by
 apply TK.of0 (f:=.ret _) [(155,.h 26)] rfl;exact bx.oB (.cmp (bI h rfl rfl) .no (TC.cmp rfl)) rfl (.re .s)
theorem F4{st:hA}(h:So σ pr p (.tup [.int k,.int st]))(a:0<=k)(h1:k<=1100):TK z (d+3) none [] 82 [.h 26] σ (.str (aG k++[if bM p k then 42 else 32])) σ:=by
 apply TK.of0 (f:=.ret _) [(155,.h 26)] rfl;apply bx.g6 (TD.cmp (bI h rfl rfl) .no (TC.cmp rfl)) rfl .n;exact .re (.call (.gl rfl) (.c (bI h rfl rfl) (.c (.sub (bI h rfl rfl) .i (T9.tup (k:=0) rfl J)) .n)) (PC h.p a h1))
theorem PU (h:So σ pr p Ub)(b:Tk t kk w W)(f:p.length<=1000)(hs:aU [32] t≠[]):
  ∃ ae,TK z (d+7) none [] 78 [.h 26,.int k,.str t] σ .none ae/\Md [pr] σ ae/\ae[pr]?=some (.dict (aE (b3 p k W))):=by
 refine ah (zl (z:=z) (d:=d) (lk:=[]) (σ:=σ) b (by intro i hi;simp at hi)) λτ g c=>?_;have j:=b.len;have a:=h.pre c;apply dh.of0 [(25,.str t),(9,.int k),(155,.h 26)] rfl;apply ag.cf (TD.cmp (.cE rfl (.lo rfl) (.c .s .n) (M2.strip (by show _<=16777216;lia))) .s (TC.V8 rfl (hs)));apply ag.cons (TF.fh (.call (.gl rfl) (.c (.lo rfl) .n) g) (bI a rfl rfl) (.lo rfl) (S2.dict (key:=.int k) rfl a.p (by rw[dJ];show _<=16777216;exact tl f rfl) rfl));apply ag.nil;apply ag.nil;exact⟨rfl,(Md.aK c).trans Md.set (λe h e=>h),by rw[dK a.p,fj]⟩
theorem KR (h:So σ pr p Ub)(b:p.length<=1000)(hk:bM p k=true):∃ ae,TK z (d+1) none [] 78 [.h 26,.int k,.str []] σ .none ae/\Md [pr] σ ae/\ae[pr]?=some (.dict (aE (cQ p k))):=by
 refine av (l7.mp hk) λr c=>?_;have a:=ue (z:=z) (F:=⟨⟨[],[],none⟩,Fw.sc,d⟩) (k:=k) h.p;rw[hk]at a;apply dh.of0 [(25,.str []),(9,.int k),(155,.h 26)] rfl;apply ag.bA (TD.cmp (.cE rfl (.lo rfl) (.c .s .n) (M2.strip (hq _))) .s (TC.cmp rfl));apply ag.cf (TD.cmp (.lo rfl) (bI h rfl rfl) a);apply ag.cons (TF.ex (.cE rfl (bI h rfl rfl) (.c (.lo rfl) .n) (M2.pop (key:=.int k) rfl h.p (by rw[dJ];show _<=16777216;exact tl b rfl) (by rw[eg,c];rfl) rfl)));apply ag.nil;apply ag.nil;apply ag.nil;exact⟨rfl,.set,by rw[dK h.p,lU]⟩
theorem KS (h:So σ pr p Ub)(hk:bM p k=false):∃ w ae,gn z (d+1) none [] 78 [.h 26,.int k,.str []] σ (.str [85,76]) w ae/\ae=σ:=by
 have a:=ue (z:=z) (F:=⟨⟨[],[],none⟩,Fw.sc,d⟩) (k:=k) h.p;rw[hk]at a;apply lV.of0 [(25,.str []),(9,.int k),(155,.h 26)] rfl;apply cA.Ki (TD.cmp (.cE rfl (.lo rfl) (.c .s .n) (M2.strip (hq _))) .s (TC.cmp rfl));apply cA.Ki (TD.cmp (.lo rfl) (bI h rfl rfl) a);exact cA.t6 rfl (.c .s (.c (.lo rfl) .n)) rfl
theorem mC (h:So σ pr p Ub)(h2:Md [pr] σ τ)(b:pr≠27/\pr≠26){q:TU}(c:τ[pr]?=some (.dict (aE q))):So (τ.set 27 (.ns (oN pr j1))) pr q j1/\Md [27,pr] σ (τ.set 27 (.ns (oN pr j1))):=
 ⟨⟨bv (h2.get h.s (by simpa using λa=>b.2 a.symm)) J,dK (h2.get h.n (by simpa using λa=>b.1 a.symm)),bv c (λa=>b.1 a.symm),h.ge⟩,(h2.mono (pD (.tail _ (.head _)))).trans Md.set (dU (.head _))⟩
theorem So.ne (h:So σ pr p Ub):pr≠27/\pr≠26:=by have:=h.ge;exact HM this
theorem KU{st:hA}(h:So σ pr p (.tup [.int k,.int st]))(c:0<st)(h1:k+st<=65529):
  ∃ ae,TK z (d+3) none [] 80 [.h 26,.str []] σ .none ae/\Md [27,pr] σ ae/\So ae pr p (if bM p k then .tup [.int (k+st),.int st]else .none):=by
 apply dh.of0 [(21,.str []),(155,.h 26)] rfl;apply ag.cons (TF.dI (bI h rfl rfl) (.tu rfl (.cons .lo (.cons .lo .nil))));apply ag.cons (TF.aP rfl (.call (.gl rfl) (.c (.lo rfl) (.c (.lo rfl) .n)) (KE c h1)));apply ag.cons (TF.aP rfl (.call (.gl rfl) (.c (bI h rfl rfl) (.c (.lo rfl) (.c (.bA (.cmp (.cE rfl (.lo rfl) (.c .s .n) (M2.strip (hq _))) .s (TC.cmp rfl)) .s) .n))) (KG h.p)));have a:=mC (j1:=if bM p k then .tup [.int (k+st),.int st]else .none) h Md.refl h.ne h.p;cases b:bM p k with
 |true=>
  rw[b]at a;apply ag.cons (TF.ip (.cf (.fS (.lo rfl) (.cmp (.lo rfl) .no (TC.cmp rfl))) (.tu (.c (.lo rfl) (.c (.lo rfl) .n)) (eW rfl))) (.lo rfl) h.s h.n (eW rfl) rfl rfl);apply ag.nil;exact⟨rfl,a.2,a.1⟩
 |false=>
  rw[b]at a;apply ag.cons (TF.ip (.bA (.gz (.lo rfl)) .no) (.lo rfl) h.s h.n (eW rfl) rfl rfl);apply ag.nil;exact⟨rfl,a.2,a.1⟩
theorem Tk.strip{k W:e0 e5}(h:Tk t k w W):aU [32] t=t/\t≠[]/\aU [32] W=W:=by
 rcases h with⟨⟨rfl,rfl|rfl⟩|⟨rfl,rfl⟩,_⟩|⟨rfl,_,_,rfl⟩<;>exact⟨by decide,by decide,by decide⟩
theorem PV{st:hA}(h:So σ pr p (.tup [.int k,.int st]))(a:Tk t kk w W)(n:p.length<=1000)(g:0<st)(h1:k+st<=1100)(hk:0<=k):
  ∃ ae,TK z (d+7) none [] 80 [.h 26,.str t] σ .none ae/\Md [27,pr] σ ae/\So ae pr (b3 p k W) (.tup [.int (k+st),.int st]):=by
 refine ah (zl (z:=z) (d:=d) (lk:=[]) (σ:=σ) a (by intro i hi;simp at hi)) λτ s e=>?_;have v:=a.len;have q:=a.W;refine eR a.strip λu x j=>?_;have b:=h.pre e;have o:=PD (z:=z) (d:=d+4) (hn:=none) (lk:=[]) (k:=k) b.p j q.2 (by lia) n hk (by exact g7 (oA (Dd g)) h1) rfl;apply dh.of0 [(21,.str t),(155,.h 26)] rfl;apply ag.cons (TF.dI (bI h rfl rfl) (.tu rfl (.cons .lo (.cons .lo .nil))));apply ag.cons (TF.aP rfl (.call (.gl rfl) (.c (.lo rfl) (.c (.lo rfl) .n)) (KE g (by exact g7 h1 J))));apply ag.cons (TF.aP rfl (.call (.gl rfl) (.c (bI h rfl rfl) (.c (.lo rfl) (.c (.cf (.cmp (.cE rfl (.lo rfl) (.c .s .n) (M2.strip (by show _<=16777216;lia))) .s (TC.V8 rfl (by lia))) (.call (.gl rfl) (.c (.lo rfl) .n) s)) .n))) o));have l:Md [pr] σ (τ.set pr (.dict (aE (b3 p k W)))):=(Md.aK e).trans Md.set (λm h m=>h);have c:=mC (j1:=.tup [.int (k+st),.int st]) h l h.ne (dK b.p);have f:=h.ne;apply ag.cons (TF.ip (.cf (.fS (.lo rfl) (.cmp (.lo rfl) .no (TC.cmp rfl))) (.tu (.c (.lo rfl) (.c (.lo rfl) .n)) (eW rfl))) (.lo rfl) (bv b.s f.2) (bv b.n f.1) (eW rfl) rfl rfl);apply ag.nil;exact⟨rfl,c.2,c.1⟩
end
end
variable{q:TU}{rest:e0 e5}{a:hA}
section
set_option backward.match.sparseCases false
theorem Old.nil:Old [] σ:=λi hi=>by simp at hi
noncomputable def Vc (rest:e0 e5)(a b:hA):Prop:=∀ (z:Z) (d:e5) (σ:H),∃ ae,TK z (d+3) none [] 61 [.str rest] σ (.tup [.int a,.int b]) ae/\σ<+:ae
noncomputable def NM (rest name:e0 e5):Prop:=∀ (z:Z) (d:e5) (σ:H),TK z (d+1) none [] 63 [.str rest] σ (.str name) σ
section
variable{z:Z}{v:V}{name:e0 e5}{b:hA}
theorem So.lt (h:So σ pr p Ub):28<=σ.length:=(e4.mp h.n).1
theorem So.Vm (h:So σ pr p Ub)(a:∀ i∈L,i=18\/i=13\/i=20\/i=9)(b:Md L σ τ):So τ pr p Ub:=by
 have:=h.ge;refine h.md b ?_ ?_ ?_<;>(intro hi;have:=a _ hi;lia)
theorem PX (h:So σ pr p Ub)(t:Wo σ out fd)(k:bK p)(n:Vc rest a b)(aa:out.length<=900000):
  ∃ ae,TK z (d+4) none [] 66 [.h 26,.str rest] σ .none ae/\Md [18,13] σ ae/\Wo ae (out++(within p a b).map (bj p)) fd:=by
 refine ah (n z d σ) λU x m=>?_;have g:=h.pre m;refine f5 (Pk (z:=z) (d:=d+1) (lk:=[]) (a:=a) (b:=b) g.p k .nil) λaf r w2 j l q=>?_;have v:=g.pre j;have ai:=gA p a b;have aj:=k.len;have s:=g.lt;apply dh.of0 [(25,.str rest),(155,.h 26)] rfl;apply ag.cons (TF.dI (.call (.gl rfl) (.c (.lo rfl) .n) x) (.tu rfl (.cons .lo (.cons .lo .nil))));apply ag.fo (I:=.list r) (n:=(within p a b).length) (λi ρ υ=>ρ.lookup 155=some (.h 26)/\Md [18,13] af υ/\Wo υ (out++((within p a b).map (bj p)).take i) fd)
 .exact Ug.list rfl (.call (.gl rfl) (.c (bI g rfl rfl) (.c (.lo rfl) (.c (.lo rfl) .n))) w2) l
 .exact⟨rfl,.refl,by simpa using(t.pre m).pre j⟩
 .rintro ρ υ ⟨f,c,e⟩
  rw[jl (c.get l (Er (xP q s)))];simp
 .rintro i ρ υ hi ⟨f,c,e⟩
  have n:=p6 k (k:=(within p a b)[i]) (oH.mpr (jI (j5 hi)).1);refine ba (DN (z:=z) (d:=d+2) (hn:=none) (t:=bj p (within p a b)[i]) e (by exact tl n rfl) (by simp;lia)) λab w3 u w=>?_;refine gS (.str (bj p (within p a b)[i])) _ _ (by rw[jl (c.get l (Er (xP q s)))];simp[hi]) .lo ?_;apply ag.cons (TF.ex (.call (.gl rfl) (.c (bI (v.Vm J c) (aM rfl f) rfl) (.c (.lo (v:=.str (bj p (within p a b)[i])) bu) .n)) w3));apply ag.nil;refine⟨(aM rfl f),c.trans u (λi h o=>h),?_⟩;have y:(out++((within p a b).map (bj p)).take i)++[bj p (within p a b)[i]]=out++((within p a b).map (bj p)).take (i+1):=by
   rw[kn (by simpa using hi),lE,Jx]
  rw[<-y];exact w
 .rintro ρ υ ⟨f,c,e⟩
  apply ag.nil;refine⟨rfl,((Md.aK m).trans (Md.aK (L:=[18,13]) j) (λi h o=>h)).trans c (λi h o=>h),?_⟩;rwa[ia (by simp)]at e
theorem PY (h:So σ pr p Ub)(l:bK p)(j:Vc rest a b)(k:rest≠[])(m:within p a b≠[]):
  ∃ ae,TK z (d+4) none [] 67 [.h 26,.str rest] σ .none ae/\Md [pr] σ ae/\ae[pr]?=some (.dict (aE ((within p a b).foldl cQ p))):=by
 refine ah (j z d σ) λU n f=>?_;have c:=h.pre f;refine ah (Pm (z:=z) (d:=d+1) (lk:=[]) (a:=a) (b:=b) c.p l .nil rfl m) λaf w2 e=>?_;apply dh.of0 [(25,.str rest),(155,.h 26)] rfl;apply ag.bA (TD.cmp (.lo rfl) .s (TC.Uh rfl (k)));apply ag.nil;apply ag.cons (TF.dI (.call (.gl rfl) (.c (.lo rfl) .n) n) (.tu rfl (.cons .lo (.cons .lo .nil))));apply ag.cons (TF.ex (.call (.gl rfl) (.c (bI c rfl rfl) (.c (.lo rfl) (.c (.lo rfl) .n))) w2));apply ag.nil;exact⟨rfl,(Md.aK (f.trans e)).trans Md.set (λg h g=>h),dK (aR e c.p)⟩
theorem KV (h:So σ pr p Ub)(k:bK p)(g:Vc rest a b)(j:rest≠[])(l:within p a b=[]):
  ∃ w ae,gn z (d+4) none [] 67 [.h 26,.str rest] σ (.str [70,67]) w ae/\σ<+:ae:=by
 refine ah (g z d σ) λU m e=>?_;have c:=h.pre e;refine ah (Kg (z:=z) (d:=d+1) (lk:=[]) (a:=a) (b:=b) c.p k .nil l) λaf w2 f=>?_;apply lV.of0 [(25,.str rest),(155,.h 26)] rfl;apply cA.Pn (TD.cmp (.lo rfl) .s (TC.Uh rfl (j))) .n;apply cA.tl (TF.dI (.call (.gl rfl) (.c (.lo rfl) .n) m) (.tu rfl (.cons .lo (.cons .lo .nil))));exact cA.hd (.ex (.call (.gl rfl) (.c (bI c rfl rfl) (.c (.lo rfl) (.c (.lo rfl) .n))) w2)) (e.trans f)
theorem lc{m:e5}(h:So σ pr p Ub)(b:σ[m]?=some (.dict (aE q)))(a:28<=m):So (σ.set 27 (.ns (oN m Ub))) m q Ub:=
 ⟨bv h.s J,dK h.n,bv b (by exact hc a),a⟩
theorem PZ (h:So σ pr p Ub)(s:Wo σ out fd):∃ ae,TK z (d+2) none [] 65 [.h 26,.str rest] σ .none ae/\Md [27,13] σ ae/\∃ m,So ae m [] Ub/\Wo ae out fd/\σ.length<=m:=by
 have c:σ<+:σ++[TH.dict []]:=e1 ..;have f:=h.pre c;have g:=lc (m:=σ.length) (q:=[]) f bc h.lt;have l:Md [27,13] σ ((σ++[TH.dict []]).set 27 (.ns (oN σ.length Ub))):=(Md.aK c).trans Md.set (dU (.head _));have b:Wo ((σ++[TH.dict []]).set 27 (.ns (oN σ.length Ub))) out fd:=(s.pre c).md Md.set J J J J J;refine ah b.n λa g1 q=>?_;refine ah (V9 (z:=z) (d:=d) (lk:=[]) b.w g1 q.op b.op) λτ n e=>?_;have j:=g.pre e;refine ba (F2 (z:=z) (d:=d) (b.pre e)) λυ o k t=>?_;apply dh.of0 [(25,.str rest),(155,.h 26)] rfl;apply ag.cons (TF.ip .lS (.lo rfl) f.s f.n (eW rfl) rfl rfl);apply ag.cons (TF.ex (.call (.gl rfl) (.c (bI g rfl rfl) .n) n));apply ag.cons (TF.ex (.call (.gl rfl) (.c (bI j rfl rfl) .n) o));apply ag.nil;exact⟨rfl,(l.trans (Md.aK (L:=[]) e) g4).trans k (dU (.tail _ (.head _))),σ.length,j.Vm J k,t,e6 _⟩
end
end
section
set_option backward.match.sparseCases false
section
variable{z:Z}{v:V}{name:e0 e5}{b:hA}
theorem jK p:(eL p).map (λq=>q.1)=an p:=oI p _
theorem wO (b:eK p):eK (eL p):=by
 have c:∀ q∈eL p,q∈p:=by
  intro q a
  (refine ah (h4.mp a) λk hk d=>?_;subst d)
  obtain⟨_,_,r,e,f,_⟩:=b.ok.key hk;rw[e];exact f
 exact⟨⟨by rw[<-g0 (f:=(λq=>q.1)),jK,bP];exact b.ok.len,λq a=>b.ok.row q (c q a),by rw[jK];exact er b.ok⟩,λq a=>b.tx q (c q a)⟩
theorem KW (h:So σ pr p Ub)(a:Wo σ out fd)(hf:atK fd (.str name)=some (.str (cq q)))(b:eK q):
  ∃ v ae,TK z (d+3) none [] 71 [.h 26,.str name] σ v ae/\∃ m,v=.h m/\σ<+:ae/\σ.length<=m/\ae[m]?=some (.dict (aE (eL q))):=by
 refine ba (c3 (z:=z) (d:=d) (lk:=[]) (σ:=σ) b .nil) λτ w3 c e=>?_;have hn:=TC.ms (z:=z) (F:=⟨⟨[],[],none⟩,Fu.sc,d+2⟩) (key:=.str name) (b:=.str name) rfl a.fi;rw[hf]at hn;apply oF.of0 [(31,.str name),(155,.h 26)] rfl;apply ag.bA (TD.cmp (.lo rfl) (zo h a rfl) hn);apply ag.nil;apply ag.re (.call (.gl rfl) (.c (.sub (zo h a rfl) (.lo rfl) (T9.dict (key:=.str name) rfl a.fi hf)) .n) w3);exact iX _ rfl c (e6 _) e
theorem DO (h:So σ pr p Ub)(a:Wo σ out fd)(hf:atK fd (.str name)=none):
  ∃ w ae,gn z (d+1) none [] 71 [.h 26,.str name] σ (.str [70,70]) w ae/\ae=σ:=by
 have hn:=TC.ms (z:=z) (F:=⟨⟨[],[],none⟩,Fu.sc,d⟩) (key:=.str name) (b:=.str name) rfl a.fi;rw[hf]at hn;apply lV.of0 [(31,.str name),(155,.h 26)] rfl;apply cA.pF (TD.cmp (.lo rfl) (zo h a rfl) hn);exact cA.t6 rfl (.c .s (.c (.lo rfl) .n)) rfl
theorem P0 (h:So σ pr p Ub)(g:Wo σ out fd)(y:NM rest name)(hf:atK fd (.str name)=some (.str (cq q)))(o:eK q):
  ∃ ae,TK z (d+4) none [] 72 [.h 26,.str rest] σ .none ae/\Md [27,13] σ ae/\∃ m,So ae m (eL q) Ub/\Wo ae out fd/\σ.length<=m:=by
 obtain⟨_,U,v,m,rfl,f,l,x⟩:=KW (z:=z) (d:=d) h g hf o;have s:=h.lt;have e:=h.pre f;have n:=lc (m:=m) (q:=eL q) e x (by exact e2 s l);have aa:Md [27,13] σ (U.set 27 (.ns (oN m Ub))):=(Md.aK f).trans Md.set (dU (.head _));have b:Wo (U.set 27 (.ns (oN m Ub))) out fd:=(g.pre f).md Md.set J J J J J;refine ah b.n λa g1 u=>?_;refine ah (V9 (z:=z) (d:=d+2) (lk:=[]) b.w g1 u.op b.op) λτ ab c=>?_;have j:=n.pre c;refine ba (F2 (z:=z) (d:=d+2) (b.pre c)) λυ t k w=>?_;apply dh.of0 [(25,.str rest),(155,.h 26)] rfl;apply ag.cons (TF.ip (.call (.gl rfl) (.c (.lo rfl) (.c (.call (.gl rfl) (.c (.lo rfl) .n) (y z (d+2) σ)) .n)) v) (.lo rfl) e.s e.n (eW rfl) rfl rfl);apply ag.cons (TF.ex (.call (.gl rfl) (.c (bI n rfl rfl) .n) ab));apply ag.cons (TF.ex (.call (.gl rfl) (.c (bI j rfl rfl) .n) t));apply ag.nil;exact⟨rfl,(aa.trans (Md.aK (L:=[]) c) g4).trans k (dU (.tail _ (.head _))),m,j.Vm J k,w,l⟩
theorem KX (h:So σ pr p Ub)(e:Wo σ out fd)(a:NM rest name)(hf:atK fd (.str name)=none):
  ∃ w ae,gn z (d+2) none [] 72 [.h 26,.str rest] σ (.str [70,70]) w ae/\ae=σ:=by
 (refine b5 (DO (z:=z) (d:=d) h e hf) λw f c b=>?_;subst b)
 apply lV.of0 [(25,.str rest),(155,.h 26)] rfl;exact cA.hd (.ip (.call (.gl rfl) (.c (.lo rfl) (.c (.call (.gl rfl) (.c (.lo rfl) .n) (a z d _)) .n)) c)) rfl
theorem P1 (h:So σ pr p Ub)(s:Wo σ out fd)(j:NM rest name)(o:eK p)(hf:atK fd (.str name)=some (.str (cq q)))(c:eK q):
  ∃ ae,TK z (d+4) none [] 73 [.h 26,.str rest] σ .none ae/\Md [27] σ ae/\∃ m,So ae m (bw p (eL q)) Ub/\σ.length<=m:=by
 obtain⟨_,U,n,m,rfl,a,w,v⟩:=KW (z:=z) (d:=d) h s hf c;have t:=h.lt;have g:=h.pre a;refine ba (c4 (z:=z) (d:=d+2) (lk:=[]) g.p v o.ok (wO c).ok .nil) λaf Va e k=>?_;have b:=g.pre e;have f:=a.length_le;have u:=lc (m:=U.length) (q:=bw p (eL q)) b k (by exact e2 t f);apply dh.of0 [(25,.str rest),(155,.h 26)] rfl;apply ag.cons (TF.ip (.call (.gl rfl) (.c (bI h rfl rfl) (.c (.call (.gl rfl) (.c (.lo rfl) (.c (.call (.gl rfl) (.c (.lo rfl) .n) (j z (d+2) σ)) .n)) n) .n)) Va) (.lo rfl) b.s b.n (eW rfl) rfl rfl);apply ag.nil;exact⟨rfl,(Md.aK (a.trans e)).trans Md.set (λl h l=>h),U.length,u,f⟩
theorem KY (h:So σ pr p Ub)(e:Wo σ out fd)(a:NM rest name)(hf:atK fd (.str name)=none):
  ∃ w ae,gn z (d+2) none [] 73 [.h 26,.str rest] σ (.str [70,70]) w ae/\ae=σ:=by
 (refine b5 (DO (z:=z) (d:=d) h e hf) λw f c b=>?_;subst b)
 apply lV.of0 [(25,.str rest),(155,.h 26)] rfl;exact cA.hd (.ip (.arg2 (.gl rfl) (bI h rfl rfl) (.call (.gl rfl) (.c (.lo rfl) (.c (.call (.gl rfl) (.c (.lo rfl) .n) (a z d _)) .n)) c))) rfl
theorem P4 (h:So σ pr p Ub)(b:Wo σ out fd)(e:NM rest name)(g:bK p)(j:fd.length<=1000):
  ∃ ae,TK z (d+3) none [] 70 [.h 26,.str rest] σ .none ae/\Md [20] σ ae/\Wo ae out (putK fd (.str name) (.str (cq p))):=by
 refine ah b.n λa g1 c=>?_;refine ba (Wg (z:=z) (d:=d) (lk:=[]) (name:=name) b.w g1 c.fi b.fi h.p g j .nil rfl) λae Vv m f=>?_;apply dh.of0 [(25,.str rest),(155,.h 26)] rfl;apply ag.cons (TF.ex (.call (.gl rfl) (.c (bI h rfl rfl) (.c (.call (.gl rfl) (.c (.lo rfl) .n) (e z (d+1) σ)) (.c (bI h rfl rfl) .n))) Vv));apply ag.nil;exact⟨rfl,m,m.get b.w J,⟨a,m.get g1 J,c⟩,m.get b.out J,f,m.get b.op J⟩
theorem P5 (c:Wo σ out fd)(hf:atK fd (.str name)=none):∃ w ae,gn z (d+1) none [] 9 [.h 12,.str name] σ (.str [70,70]) w ae/\σ<+:ae:=by
 refine ah c.n λa g1 e=>?_;have b:σ<+:σ++[TH.cell (some (V.h 12)),TH.cell (some (V.str name))]:=e1 ..;have hn:=TC.ms (z:=z) (F:=⟨⟨[(30,σ.length),(31,σ.length+1)],[],none⟩,WU.sc,d⟩) (key:=.str name) (b:=.str name) rfl (aR b c.fi);rw[hf]at hn;apply lV.jm [(30,σ.length),(31,σ.length+1)] [] (σ++[TH.cell (some (V.h 12)),TH.cell (some (V.str name))]) rfl;apply cA.pF (TD.cmp (.ce rfl (v:=.str name) FM) (.dr (.ce rfl (v:=.h 12) wB) (aR b c.w) (aR b g1) e.fi rfl) hn);exact cA.FG rfl (.c .s .n) b
theorem P6 (h:So σ pr p Ub)(b:Wo σ out fd)(e:NM rest name)(hf:atK fd (.str name)=some v)(j:fd.length<=1000):
  ∃ ae,TK z (d+2) none [] 74 [.h 26,.str rest] σ .none ae/\Md [20] σ ae/\Wo ae out (fc fd (.str name)):=by
 refine ah b.n λa g1 c=>?_;refine ba (Wh (z:=z) (d:=d) (lk:=[]) (name:=name) b.w g1 c.fi b.fi c.op b.op hf j .nil rfl) λae f m g=>?_;apply dh.of0 [(25,.str rest),(155,.h 26)] rfl;apply ag.cons (TF.ex (.call (.gl rfl) (.c (bI h rfl rfl) (.c (.call (.gl rfl) (.c (.lo rfl) .n) (e z d σ)) .n)) f));apply ag.nil;exact⟨rfl,m,m.get b.w J,⟨a,m.get g1 J,c⟩,m.get b.out J,g,m.get b.op J⟩
theorem KZ (h:So σ pr p Ub)(c:Wo σ out fd)(b:NM rest name)(hf:atK fd (.str name)=none):
  ∃ w ae,gn z (d+2) none [] 74 [.h 26,.str rest] σ (.str [70,70]) w ae/\σ<+:ae:=by
 refine b5 (P5 (z:=z) (d:=d) c hf) λw ae e a=>?_;apply lV.of0 [(25,.str rest),(155,.h 26)] rfl;exact cA.hd (.ex (.call (.gl rfl) (.c (bI h rfl rfl) (.c (.call (.gl rfl) (.c (.lo rfl) .n) (b z d σ)) .n)) e)) a
noncomputable def V0 (rest:e0 e5)(new st:hA):Prop:=rest.length<=100/\∃ x y,br 44 rest=[x,[],y]/\TN x (.int new)/\TN y (.int st)/\x.length<=100/\y.length<=100
noncomputable def Wj (rest:e0 e5)(new st:hA):Prop:=rest.length<=100/\∃ x y,br 44 rest=[x,y]/\TN x (.int new)/\TN y (.int st)/\x.length<=100/\y.length<=100
theorem P8{st:hA}(h:So σ pr p Ub)(au:V0 rest new st)(j:eK p)(aa:0<=new)(h1:new<=100)(h2:1<=st)(ak:st<=100):
  ∃ ae,TK z (d+6) none [] 68 [.h 26,.str rest] σ .none ae/\Md [27] σ ae/\∃ m,So ae m (fk p new st) Ub/\σ.length<=m:=by
 obtain⟨ax,x,y,t,aq,ar,hx,ay⟩:=au;obtain⟨_,U,am,aA,rfl,as,v⟩:=FU (z:=z) (d:=d+2) (lk:=[]) (σ:=σ++[.list [.int 10,.int 0,.int 10]]) (n:=σ.length) (fs:=[.int 10,.int 0,.int 10]) (vs:=[.int new,.none,.int st]) t (.cons aq (.cons (.inl ⟨rfl,rfl⟩) (.cons ar .nil))) bc rfl J (by exact tl ax rfl) (by intro u o;simp at o;rcases o with rfl|rfl|rfl<;>first|lia|simp) .nil;have e:σ<+:U:=(e1 ..).trans as;have c:=h.pre e;obtain⟨_,af,ab,m,rfl,n,l,aw⟩:=PB (z:=z) (d:=d) (lk:=[]) c.p j .nil aa h1 h2 ak;have b:=c.pre n;refine ba (Pz (z:=z) (d:=d) (lk:=[]) b.p j .nil) λao s f k=>?_;have g:=b.pre f;have q:=e.length_le;have ai:=h.lt;have w:=lc (m:=m) g (aR f aw) (by exact e2 ai (e2 q l));apply dh.of0 [(25,.str rest),(155,.h 26)] rfl;apply ag.cons (TF.dI (.call (.gl rfl) (.c (.lo rfl) (.c (.li (.c .i (.c .i (.c (.gl rfl) .n))) (eW rfl)) .n)) am) (.BA rfl v (.cons .lo (.cons .lo (.cons .lo .nil)))));apply ag.cons (TF.aP rfl (.call (.gl rfl) (.c (bI c rfl rfl) (.c (.lo rfl) (.c (.lo rfl) (.c (.lo rfl) .n)))) ab));apply ag.fo (I:=.list af.length) (n:=0) (λa ρ υ=>ρ.lookup 155=some (.h 26)/\ρ.lookup 70=some (.h m)/\υ=ao)
 .exact Ug.list rfl (.call (.gl rfl) (.c (bI b rfl rfl) .n) s) k
 .exact⟨rfl,rfl,rfl⟩
 .rintro ρ υ ⟨_,_,rfl⟩
  rw[jl k];rfl
 .exact λi a a hi=>iv hi (n3 i)
 .rintro ρ υ ⟨aj,ap,rfl⟩
  apply ag.cons (TF.ip (.lo ap) (.lo aj) g.s g.n (eW rfl) rfl rfl);apply ag.nil;exact⟨rfl,(Md.aK (e.trans (n.trans f))).trans Md.set (λa h a=>h),m,w,by exact e2 q l⟩
theorem K1 (h:So σ pr p Ub)(e:V0 rest new 0)(m:bK p):
  ∃ w ae,gn z (d+4) none [] 68 [.h 26,.str rest] σ (.str [70,67]) w ae/\σ<+:ae:=by
 obtain⟨q,x,y,k,n,o,hx,v⟩:=e;obtain⟨_,U,j,t,rfl,s,l⟩:=FU (z:=z) (d:=d) (lk:=[]) (σ:=σ++[.list [.int 10,.int 0,.int 10]]) (n:=σ.length) (fs:=[.int 10,.int 0,.int 10]) (vs:=[.int new,.none,.int 0]) k (.cons n (.cons (.inl ⟨rfl,rfl⟩) (.cons o .nil))) bc rfl J (by exact tl q rfl) (by intro u b;simp at b;rcases b with rfl|rfl|rfl<;>first|lia|simp) .nil;have a:σ<+:U:=(e1 ..).trans s;have c:=h.pre a;refine b5 (KD (z:=z) (d:=d) (lk:=[]) (new:=new) c.p m .nil) λw af g f=>?_;apply lV.of0 [(25,.str rest),(155,.h 26)] rfl;apply cA.tl (TF.dI (.call (.gl rfl) (.c (.lo rfl) (.c (.li (.c .i (.c .i (.c (.gl rfl) .n))) (eW rfl)) .n)) j) (.BA rfl l (.cons .lo (.cons .lo (.cons .lo .nil)))));exact cA.hd (.aP rfl (.call (.gl rfl) (.c (bI c rfl rfl) (.c (.lo rfl) (.c (.lo rfl) (.c (.lo rfl) .n)))) g)) (a.trans f)
theorem Qb{st:hA}(h:So σ pr p Ub)(e:Wj rest k st)(h2:1<=st):
  ∃ ae,TK z (d+4) none [] 69 [.h 26,.str rest] σ .none ae/\Md [27] σ ae/\So ae pr p (.tup [.int k,.int st]):=by
 obtain⟨s,x,y,g,o,q,hx,w⟩:=e;obtain⟨_,U,j,v,rfl,t,l⟩:=FU (z:=z) (d:=d) (lk:=[]) (σ:=σ++[.list [.int 10,.int 10]]) (n:=σ.length) (fs:=[.int 10,.int 10]) (vs:=[.int k,.int st]) g (.cons o (.cons q .nil)) bc rfl J (by exact tl s rfl) (by intro u c;simp at c;rcases c with rfl|rfl<;>lia) .nil;have b:σ<+:U:=(e1 ..).trans t;have a:=h.pre b;have n:=h.ne;apply dh.of0 [(25,.str rest),(155,.h 26)] rfl;apply ag.cons (TF.dI (.call (.gl rfl) (.c (.lo rfl) (.c (.li (.c (.gl rfl) (.c (.gl rfl) .n)) (eW rfl)) .n)) j) (.BA rfl l (.cons .lo (.cons .lo .nil))));apply ag.bA (TD.cmp (.lo (v:=.int st) rfl) .i (TC.Uh rfl (mm.mpr (by assumption))));apply ag.nil;apply ag.cons (TF.ip (.tu (.c (.lo rfl) (.c (.lo rfl) .n)) (eW rfl)) (.lo rfl) a.s a.n (eW rfl) rfl rfl);apply ag.nil;exact⟨rfl,(Md.aK b).trans Md.set (λf h f=>h),bv a.s J,dK a.n,bv a.p (λm=>n.1 m.symm),h.ge⟩
end
end
variable{TM:e0 (Key×V)}{hs:e0 V}
section
set_option backward.match.sparseCases false
noncomputable abbrev g8:e0 Nat:=[111,117,116,99,111,109,101]
structure Cl (τ:H)(TM:e0 (Key×V))(hs:e0 V):Prop where
 ra:τ[10]?=some (.ic 0 [0,1])
 rr:τ[11]?=some (.ic 1 [0,1])
 ch:τ[0]?=some (.cell (some (.h 9)))
 ct:τ[1]?=some (.cell (some (.h 4)))
 TM:τ[4]?=some (.dict TM)
 hd:τ[9]?=some (.list hs)
theorem Cl.pre{TM hs}(h:Cl τ TM hs)(a:τ<+:υ):Cl υ TM hs:=
 ⟨aR a h.ra,aR a h.rr,aR a h.ch,aR a h.ct,aR a h.TM,aR a h.hd⟩
theorem Cl.md{TM hs}(h:Cl τ TM hs)(f:Md L τ υ)(j:∀ i∈L,i=18\/i=13\/i=20\/i=27):Cl υ TM hs:=by
 have g:∀ e,e≠18->e≠13->e≠20->e≠27->e∉L:=λe a b c d hn=>by have:=j e hn;exact HN a b c d this
 exact⟨f.get h.ra (g _ J J J J),f.get h.rr (g _ J J J J),f.get h.ch (g _ J J J J),f.get h.ct (g _ J J J J),f.get h.TM (g _ J J J J),f.get h.hd (g _ J J J J)⟩
noncomputable def sG (z:Z)(d:e5):Prop:=∀ (τ:H) (pr:e5) (p:TU) (a:V) (TM:e0 (Key×V)) (hs:e0 V) (oc:V),Cl τ TM hs->τ[pr]?=some (.dict (aE p))->bK p->atK TM (.str g8)=some oc->hs.length<=1000->
 ∃ ae m,VZ z d none [] 10 [.h pr,a] τ oc ae/\Md [9] τ ae/\ae[9]?=some (.list (hs++[.tup [.h m,a]]))/\ae[m]?=some (.dict (aE p))/\τ.length<=m
noncomputable def sH (z:Z)(d:e5):Prop:=∀ (τ:H) (x:e0 e5) (TM:e0 (Key×V)) (hs:e0 V) (oc:V),Cl τ TM hs->atK TM (.str g8)=some oc->hs.length<=1000->
 ∃ ae,VZ z d none [] 11 [.str x] τ oc ae/\Md [9] τ ae/\ae[9]?=some (.list (hs++[.str x]))
section
variable{z:Z}{v:V}{name:e0 e5}{b:hA}
theorem Qc{code:e0 e5}{ln:hA}(R:sG z (d+2))(h:So σ pr p Ub)(y:Wo σ out fd)(u:Cl σ TM hs)(x:bK p)(t:TN rest n)(aJ:rest.length<=1000)(w:∀ i,n=.int i->bM p i=true)(aa:atK TM (.str g8)=some (.tup [.str code,.int ln]))(aq:hs.length<=1000)(ai:code.length<=100)(ab:0<=ln)(h1:ln<=1000)(ap:out.length<=1000000):
  ∃ ae,TK z (d+3) none [] 64 [.h 26,.str rest] σ .none ae/\Md [18,13,9] σ ae/\Wo ae (tell out code ln) fd/\∃ m,ae[9]?=some (.list (hs++[.tup [.h m,n]]))/\ae[m]?=some (.dict (aE p))/\σ.length<=m:=by
 refine ah (wG (z:=z) (d:=d) (lk:=[]) (σ:=σ) t aJ .nil) λU aD c=>?_;have f:=h.pre c;have e:=y.pre c;refine ah e.n λa g1 au=>?_;refine ah (V9 (z:=z) (d:=d+1) (lk:=[]) e.w g1 au.op e.op) λaf ay b=>?_;have q:=f.pre b;refine ba (F2 (z:=z) (d:=d+1) (e.pre b)) λao as j am=>?_;have g:=q.Vm J j;have s:Md [18,13,9] σ ao:=(Md.aK (c.trans b)).trans j (dU (.tail _ (.head _)));refine xx (R ao pr p n TM hs _ (((u.pre c).pre b).md j J) g.p x aa aq) λbt m ax l f1 f2 f3=>?_;have aj:=g.Vm J l;have aA:Wo bt out fd:=am.md l J J J J J;refine ba (F3 (z:=z) (d:=d) (code:=code) (line:=ln) (.inl rfl) aj aA ai ab h1 ap) λaN ak k v=>?_;have o:σ.length<=ao.length:=s.1;apply dh.of0 [(25,.str rest),(155,.h 26)] rfl;apply ag.cons (TF.aP rfl (.call (.gl rfl) (.c (.lo rfl) .n) aD));apply ag.bA
 .rcases t.BF with rfl|⟨i,rfl⟩
  .exact TD.gz (.cmp (.lo rfl) .no (TC.cmp rfl))
  .have hn:=TC.ms (z:=z) (F:=⟨⟨[],[],none⟩,f64.sc,d+2⟩) (key:=.int i) (b:=.int i) rfl f.p
   rw[k9,w i rfl]at hn;exact TD.fS (.cmp (.lo rfl) .no (TC.cmp rfl)) (.cmp (.lo rfl) (bI f rfl rfl) hn)
 apply ag.nil;apply ag.cons (TF.ex (.call (.gl rfl) (.c (bI f rfl rfl) .n) ay));apply ag.cons (TF.ex (.call (.gl rfl) (.c (bI q rfl rfl) .n) as));apply ag.cons (TF.aP rfl (bI g rfl rfl));have aK:=((((u.pre c).pre b).md j J)).ra;apply ag.cons (TF.ex (.call (.gl rfl) (.c (.lo rfl) (.c (.qL (.lo (v:=.h 10) rfl) (.c (bI g rfl rfl) (.c (.lo rfl) .n)) aK ax) .n)) ak));apply ag.nil;have aL:=(e4.mp f2).1;have ar:=h.lt;have aw:m∉[18,13]:=by simp;exact xP (e2 o f3) ar
 exact⟨rfl,(s.trans l (dU (.tail _ (.tail _ (.head _))))).trans k (by intro i hi _;simp at hi ⊢;exact hi.imp_right .inl),v,m,k.get f1 J,k.get f2 aw,by exact e2 o f3⟩
theorem K2 (h:So σ pr p Ub)(c:TN rest (.int i))(f:rest.length<=1000)(hi:bM p i=false):
  ∃ w ae,gn z (d+3) none [] 64 [.h 26,.str rest] σ (.str [85,76]) w ae/\σ<+:ae:=by
 refine ah (wG (z:=z) (d:=d) (lk:=[]) (σ:=σ) c f .nil) λU e a=>?_;have b:=h.pre a;have hn:=TC.ms (z:=z) (F:=⟨⟨[],[],none⟩,f64.sc,d+2⟩) (key:=.int i) (b:=.int i) rfl b.p;rw[k9,hi]at hn;apply lV.of0 [(25,.str rest),(155,.h 26)] rfl;apply cA.tl (TF.aP rfl (.call (.gl rfl) (.c (.lo rfl) .n) e));apply cA.pF (TD.fS (.cmp (.lo rfl) .no (TC.cmp rfl)) (.cmp (.lo rfl) (bI b rfl rfl) hn));exact cA.t6 rfl (.c .s (.c (.lo rfl) .n)) a
noncomputable def p7:e0 (Key×V):=[(.str [82,85,78],.fn 64),(.str [78,69,87],.fn 65),(.str [76,73,83,84],.fn 66),(.str [68,69,76,69,84,69],.fn 67),(.str [82,69,78,85,77],.fn 68),(.str [65,85,84,79],.fn 69),(.str [83,65,86,69],.fn 70),(.str [76,79,65,68],.fn 72),(.str [77,69,82,71,69],.fn 73),(.str [75,73,76,76],.fn 74),(.str [78,65,77,69],.fn 75)]
theorem Gc:∃ ae,TK z (d+1) none [] 76 [] σ (.h σ.length) ae/\σ<+:ae/\ae[σ.length]?=some (.dict p7):=by
 apply dh.of0 [] rfl;refine ag.re (.UO (.cons (key:=.str _) .s (.gl rfl) (.cons (key:=.str _) .s (.gl rfl) (.cons (key:=.str _) .s (.gl rfl) (.cons (key:=.str _) .s (.gl rfl) (.cons (key:=.str _) .s (.gl rfl) (.cons (key:=.str _) .s (.gl rfl) (.cons (key:=.str _) .s (.gl rfl) (.cons (key:=.str _) .s (.gl rfl) (.cons (key:=.str _) .s (.gl rfl) (.cons (key:=.str _) .s (.gl rfl) (.cons (key:=.str _) .s (.gl rfl) .nil))))))))))) bc) ⟨rfl,?_,?_⟩
 .exact jJ (e1 ..) (e6 _)
 .rw[dK bc];rfl
end
end
variable{k:e5}{w':V}
section
set_option backward.match.sparseCases false
theorem q3 f l:cnt f l<=l.length:=by
 induction l with
 |nil=>simp[cnt]
 |cons a l b=>unfold cnt at b ⊢;rw[p0];split<;>simp<;>exact b
structure WP (t w r:e0 e5):Prop where
 z:t.length<=1000
 a:t.all (λq=>q<128)=true
 z2:(aU [32] t).length<=1000
 a2:(aU [32] t).all (λq=>q<128)=true
 w:(bg (aU [32] t) 0 (cnt letter (aU [32] t))).map up=w
 r:aU [32] (bg (aU [32] t) (cnt letter (aU [32] t)) (aU [32] t).length)=r
section
variable{z:Z}{v:V}{r name:e0 e5}{b:hA}{P:H->Prop}
theorem WP.call (h:WP t w r) z d σ:∃ ae,TK z (d+2) none [] 58 [.str t] σ (.tup [.str w,.str r]) ae/\σ<+:ae:=by
 refine av (O8 (z:=z) (d:=d) (lk:=[]) (σ:=σ) (t:=t) rfl rfl h.z h.z2 (q3 _ _) h.a h.a2 .nil) λj b=>?_;rw[h.w,h.r]at b;exact⟨_,b,e1 ..⟩
theorem K3 (g:WP t w r)(hk:atK p7 (.str w)=some (.fn k))(h:∀ τ,σ<+:τ->∃ ae,TK z (d+6) none [] k [.h 26,.str r] τ .none ae/\P ae):∃ ae,TK z (d+7) none [] 79 [.h 26,.str t] σ .none ae/\P ae:=by
 refine ah (g.call z (d+4) σ) λU f l=>?_;refine ba (Gc (z:=z) (d:=d+5) (σ:=U)) λaf j c a=>?_;refine ah (h af (l.trans c)) λao U9 e=>?_;have b:=TC.inD (z:=z) (F:=⟨⟨[],[],none⟩,Bx.sc,d+6⟩) (key:=.str w) (b:=.str w) rfl a;rw[hk]at b;apply dh.of0 [(21,.str t),(155,.h 26)] rfl;apply ag.cons (TF.dI (.call (.gl rfl) (.c (.lo rfl) .n) f) (.tu rfl (.cons .lo (.cons .lo .nil))));apply ag.cons (TF.aP rfl (.call (.gl rfl) .n j));apply ag.cf (TD.cmp (.lo rfl) (.lo rfl) b);apply ag.cons (TF.aP rfl (.sub (.lo rfl) (.lo rfl) (T9.dict (key:=.str w) rfl a hk)));apply ag.cons (TF.ex (.call (.lo rfl) (.c (.lo rfl) (.c (.lo rfl) .n)) U9));apply ag.nil;apply ag.nil;exact⟨rfl,e⟩
theorem K4 (g:WP t w r)(hk:atK p7 (.str w)=some (.fn k))(h:∀ τ,σ<+:τ->∃ x ae,gn z (d+6) none [] k [.h 26,.str r] τ u x ae/\P ae):∃ x ae,gn z (d+7) none [] 79 [.h 26,.str t] σ u x ae/\P ae:=by
 refine ah (g.call z (d+4) σ) λU f l=>?_;refine ba (Gc (z:=z) (d:=d+5) (σ:=U)) λaf j c a=>?_;refine b5 (h af (l.trans c)) λx ao U9 e=>?_;have b:=TC.inD (z:=z) (F:=⟨⟨[],[],none⟩,Bx.sc,d+6⟩) (key:=.str w) (b:=.str w) rfl a;rw[hk]at b;apply lV.of0 [(21,.str t),(155,.h 26)] rfl;apply cA.tl (TF.dI (.call (.gl rfl) (.c (.lo rfl) .n) f) (.tu rfl (.cons .lo (.cons .lo .nil))));apply cA.tl (TF.aP rfl (.call (.gl rfl) .n j));apply cA.pF (TD.cmp (.lo rfl) (.lo rfl) b);apply cA.tl (TF.aP rfl (.sub (.lo rfl) (.lo rfl) (T9.dict (key:=.str w) rfl a hk)));exact cA.hd (.ex (.call (.lo rfl) (.c (.lo rfl) (.c (.lo rfl) .n)) U9)) e
theorem K5{code:e0 e5}{ln:hA}(R:sH z (d+6))(h:So σ pr p Ub)(n:Wo σ out fd)(g:Cl σ TM hs)(q:WP t w r)(hk:atK p7 (.str w)=none)(b:Tk t kk ww W)(u:atK TM (.str g8)=some (.tup [.str code,.int ln]))(am:hs.length<=1000)(ab:code.length<=100)(s:0<=ln)(h1:ln<=1000)(ai:out.length<=1000000):
  ∃ ae,TK z (d+7) none [] 79 [.h 26,.str t] σ .none ae/\Md [18,13,9] σ ae/\Wo ae (tell out code ln) fd/\ae[9]?=some (.list (hs++[.str W])):=by
 refine ah (q.call z (d+4) σ) λU o k=>?_;refine ba (Gc (z:=z) (d:=d+5) (σ:=U)) λaf aq e y=>?_;refine ah (zl (z:=z) (d:=d) (lk:=[]) (σ:=af) b .nil) λao aj v=>?_;have a:=k.trans (e.trans v);have ak:=h.pre a;refine ba (R ao W TM hs _ (g.pre a) u am) λbt ap c f1=>?_;have x:=ak.Vm J c;have ar:Wo bt out fd:=(n.pre a).md c J J J J J;refine ba (F3 (z:=z) (d:=d+4) (code:=code) (line:=ln) (.inl rfl) x ar ab s h1 ai) λax aa f l=>?_;have j:=TC.inD (z:=z) (F:=⟨⟨[],[],none⟩,Bx.sc,d+6⟩) (key:=.str w) (b:=.str w) rfl y;rw[hk]at j;refine eR b.strip λaw ay au=>?_;have as:=b.len;have m:=(g.pre a).rr;apply dh.of0 [(21,.str t),(155,.h 26)] rfl;apply ag.cons (TF.dI (.call (.gl rfl) (.c (.lo rfl) .n) o) (.tu rfl (.cons .lo (.cons .lo .nil))));apply ag.cons (TF.aP rfl (.call (.gl rfl) .n aq));apply ag.bA (TD.cmp (.lo rfl) (.lo rfl) j);apply ag.cf (TD.cmp (.cE rfl (.lo rfl) (.c .s .n) (M2.strip (by show _<=16777216;lia))) .s (TC.V8 rfl (by lia)));apply ag.cons (TF.aP rfl (bI (h.pre (k.trans e)) rfl rfl));apply ag.cons (TF.ex (.call (.gl rfl) (.c (.lo rfl) (.c (.qL (.lo (v:=.h 11) rfl) (.c (.call (.gl rfl) (.c (.lo rfl) .n) aj) .n) m ap) .n)) aa));apply ag.nil;apply ag.nil;apply ag.nil;exact js rfl (((Md.aK a).trans c (dU (.tail _ (.tail _ (.head _))))).trans f (by intro i hi _;simp at hi ⊢;exact hi.imp_right .inl)) l (f.get f1 J)
noncomputable def Vd (t:e0 e5)(v:V)(r:e0 e5):Prop:=∀ (z:Z) (d:e5) (σ:H),TK z (d+2) none [] 15 [.str t] σ (.tup [v,.str r]) σ
theorem ag.y9{rest:Ss}(h:ag z F ρ σ c (WC z F rest Q)):ag z F ρ σ (.c (.tr c x y ss') rest) Q:=cB h λf r s b a=>.st (.y9 b) a
theorem DP (h:So σ pr p Ub)(g:Ub≠.none)(a:∃ l,Ub=.tup l)(f:∃ ae,TK z (d+7) none [] 80 [.h 26,.str t] σ .none ae/\P ae):∃ ae,TK z (d+8) none [] 81 [.h 26,.str t] σ .none ae/\P ae:=by
 refine ah f λae e c=>?_
 (refine av a ?_;clear a;intro l b;subst b)
 apply dh.of0 [(21,.str t),(155,.h 26)] rfl;apply ag.y9;apply ag.cf (TD.cmp (bI h rfl rfl) .no (TC.cmp rfl));apply ag.cons (TF.ex (.call (.gl rfl) (.c (.lo rfl) (.c (.lo rfl) .n)) e));apply ag.r0;exact⟨rfl,c⟩
theorem zA (h:So σ pr p .none)(e:Vd t .none r)(a:∃ ae,TK z (d+7) none [] 79 [.h 26,.str r] σ .none ae/\P ae):∃ ae,TK z (d+8) none [] 81 [.h 26,.str t] σ .none ae/\P ae:=by
 refine ah a λae b c=>?_;apply dh.of0 [(21,.str t),(155,.h 26)] rfl;apply ag.y9;apply ag.bA (TD.cmp (bI h rfl rfl) .no (TC.cmp rfl));apply ag.nil;apply ag.cons (TF.dI (.call (.gl rfl) (.c (.lo rfl) .n) (e z (d+5) σ)) (.tu rfl (.cons .lo (.cons .lo .nil))));apply ag.cf (TD.cmp (.lo (v:=.none) rfl) .no (TC.cmp rfl));apply ag.cons (TF.ex (.call (.gl rfl) (.c (.lo rfl) (.c (.lo rfl) .n)) b));apply ag.nil;apply ag.nil;apply ag.nil;exact⟨rfl,c⟩
theorem DQ{k:hA}(h:So σ pr p .none)(c:Vd t (.int k) r)(a:∃ ae,TK z (d+7) none [] 78 [.h 26,.int k,.str r] σ .none ae/\P ae):∃ ae,TK z (d+8) none [] 81 [.h 26,.str t] σ .none ae/\P ae:=by
 refine ah a λae e b=>?_;apply dh.of0 [(21,.str t),(155,.h 26)] rfl;apply ag.y9;apply ag.bA (TD.cmp (bI h rfl rfl) .no (TC.cmp rfl));apply ag.nil;apply ag.cons (TF.dI (.call (.gl rfl) (.c (.lo rfl) .n) (c z (d+5) σ)) (.tu rfl (.cons .lo (.cons .lo .nil))));apply ag.bA (TD.cmp (.lo (v:=.int k) rfl) .no (TC.cmp rfl));apply ag.cons (TF.ex (.call (.gl rfl) (.c (.lo rfl) (.c (.lo rfl) (.c (.lo rfl) .n))) e));apply ag.nil;apply ag.nil;apply ag.nil;exact⟨rfl,b⟩
set_option tactic.hygienic true in
theorem ag.BB{F:Fm}{ρ ai:aZ}{u w':V}{U:H}{a ss' rest:Ss}{x y:e5}{Q:Uk->aZ->H->Prop}(hn:F.c.hn=none)(h:i8 z F ρ σ a u w' ai U)
  (h2:∃ au af,DB z ⟨⟨F.c.cm,F.c.lk,some (U.length+1)⟩,F.K,F.d⟩ (aB ai y (.h (U.length+1))) (U++[.ns [(T0.cd,u),(T0.td,w')],.gK U.length]) ss' .next au af/\ag z F [] af rest Q):ag z F ρ σ (.c (.tr a x y ss') rest) Q:=
 b5 h2 λr s c b=>.cons (.BB hn h c) b
set_option tactic.hygienic true in
theorem hand{code:e0 e5}{w':V}{ρ:aZ}{K:UE}{Q:H->Prop}(h:So σ pr p Ub)(n:Wo σ out fd)(j:ρ.lookup 155=some (.h 26))(o:code.length<=100)(l:code≠[])(q:out.length<=1000000)
  (k:∀ ae,Md [18,13] σ ae->Wo ae (out++[gI code 0]) fd->Q ae):
  ∃ am ae,DB z ⟨⟨[],[],some (σ.length+1)⟩,K,d+2+1⟩ (aB ρ 199 (.h (σ.length+1))) (σ++[.ns [(1,.str code),(2,w')],.gK σ.length]) (.c (.ex (.call (.gl 159) (.c (.lo 155) (.c (.tu (.c (.dr (.lo 199) 1) (.c (.i 0) .n))) .n)))) .n) .next am ae/\Q ae:=by
 have a:σ<+:σ++[TH.ns [(1,V.str code),(2,w')],TH.gK σ.length]:=e1 ..;have c:(σ++[TH.ns [(1,V.str code),(2,w')],TH.gK σ.length])[σ.length+1]?=some (.gK σ.length):=by simp
 have g:(σ++[TH.ns [(1,V.str code),(2,w')],TH.gK σ.length])[σ.length]?=some (.ns [(1,.str code),(2,w')]):=by simp
 refine ba (F3 (z:=z) (d:=d+1) (hn:=some (σ.length+1)) (code:=code) (line:=0) (.inr ⟨_,_,rfl,c⟩) (h.pre a) (n.pre a) o J J q) λae e m b=>?_;rw[tell,hb l]at b;exact eT _ ae (.c (.ex (.call (.gl rfl) (.c (.lo (aM rfl j)) (.c (.tu (.c (.JZ (.lo bu) c g rfl rfl) (.c .i .n)) (eW rfl)) .n)) e)) .n) (k ae ((Md.aK a).trans m (λf h f=>h)) b)
theorem Gd{code:e0 e5}(h:So σ pr p .none)(f:Vd t .none r)(k:∃ x ae,gn z (d+7) none [] 79 [.h 26,.str r] σ (.str code) x ae/\P ae)(l:code.length<=100)(g:code≠[])(j:out.length<=1000000)(c:∀ τ,P τ->So τ pr p .none/\Wo τ out fd):
  ∃ ae,TK z (d+8) none [] 81 [.h 26,.str t] σ .none ae/\∃ τ,P τ/\Md [18,13] τ ae/\Wo ae (out++[gI code 0]) fd:=by
 refine b5 k λx ae o a=>?_;refine az (c _ a) λe n=>?_;apply dh.of0 [(21,.str t),(155,.h 26)] rfl;apply ag.BB rfl
 .apply i8.tl
  .apply TF.bA (TD.cmp (bI h rfl rfl) .no (TC.cmp rfl)) .n
  .apply i8.tl (TF.dI (.call (.gl rfl) (.c (.lo rfl) .n) (f z (d+5) σ)) (.tu rfl (.cons .lo (.cons .lo .nil))))
   apply i8.hd;apply j0.iff (o:=true) (TD.cmp (.lo (v:=.none) rfl) .no (TC.cmp rfl));exact i8.hd (.ex (.call (.gl rfl) (.c (.lo rfl) (.c (.lo rfl) .n)) o))
 .apply hand (d:=d+4) e n rfl l g j
  intro υ m b;apply ag.nil;exact⟨rfl,ae,a,m,b⟩
theorem Ge{k:hA}{code:e0 e5}(h:So σ pr p .none)(f:Vd t (.int k) r)(l:∃ x ae,gn z (d+7) none [] 78 [.h 26,.int k,.str r] σ (.str code) x ae/\P ae)(n:code.length<=100)(j:code≠[])(g:out.length<=1000000)(c:∀ τ,P τ->So τ pr p .none/\Wo τ out fd):
  ∃ ae,TK z (d+8) none [] 81 [.h 26,.str t] σ .none ae/\∃ τ,P τ/\Md [18,13] τ ae/\Wo ae (out++[gI code 0]) fd:=by
 refine b5 l λx ae q a=>?_;refine az (c _ a) λe o=>?_;apply dh.of0 [(21,.str t),(155,.h 26)] rfl;apply ag.BB rfl
 .apply i8.tl
  .apply TF.bA (TD.cmp (bI h rfl rfl) .no (TC.cmp rfl)) .n
  .apply i8.tl (TF.dI (.call (.gl rfl) (.c (.lo rfl) .n) (f z (d+5) σ)) (.tu rfl (.cons .lo (.cons .lo .nil))))
   apply i8.hd;apply j0.iff (o:=false) (TD.cmp (.lo (v:=.int k) rfl) .no (TC.cmp rfl));exact i8.hd (.ex (.call (.gl rfl) (.c (.lo rfl) (.c (.lo rfl) (.c (.lo rfl) .n))) q))
 .apply hand (d:=d+4) e o rfl n j g
  intro υ m b;apply ag.nil;exact⟨rfl,ae,a,m,b⟩
end
end
variable{t pt:e5}{l:hA}{sh:e0 (e0 e5)}{ft:e0 (Key×V)}{oc:V}
section
set_option backward.match.sparseCases false
section
variable{z:Z}{F:Fm}{v:V}{es:Xs}{n:e5}
theorem EA (n1:x≠y)(a:x≠x₃)(b:y≠x₃):(aB (aB (aB ρ x v) y u) x₃ w').lookup t=mH t ((x,v)::(y,u)::(x₃,w')::ρ):=by
 rw[za,za,za,eh,eh,eh,BC n1,BC a,BC b]
theorem TF.DR (hn:F.c.hn=none)(h:bV z F ρ σ es [v,u,w'] U)(o:∀ l,Wv (es.es z.nm l)):TF z F ρ σ (.yl (.c (.lo x) (.c (.lo y) (.c (.lo x₃) .n))) es) .next (aB (aB (aB ρ x v) y u) x₃ w') U:=λC R k {q}=>by
 have j:x8 C.hn U:=by rw[R.1.hn,hn];trivial
 (refine az (w3 k) λd n=>?_;rcases d with⟨c,g⟩)
 have hx:=wq (w2 c).1;have f:=wq (w2 (w2 c).2).1;have e:=wq (w2 (w2 (w2 c).2).2).1
 (refine az (Va (show(_&&_&&_&&_)=true from n)) λd b=>?_;rcases d with⟨⟨m,n1⟩,a⟩)
 replace n1:=gf n1;replace a:=gf a;replace b:=gf b;refine TZ.lQ (TZ.rJ R.1.ok j (Ev.tuple (h C _ R.1 g) (eW rfl)) rfl ?_ rfl (qO z.G R.1 hx f e (gf m) (by exact ij _) (by exact ij _) n1 a b (o _))) (ai:=(x,v)::(y,u)::(x₃,w')::ρ) λt p h=>(EA n1 a b).symm.trans h;exact .cons (Ue.bind (c9 z.G R.1 e)) (.cons (Ue.bind (c9 z.G R.1 f)) (.cons (Ue.bind (c9 z.G R.1 hx)) .nil))
end
structure Uy (τ:H)(t:e5):Prop where
 c:∃ L:e0 hA,τ[2]?=some (.list (L.map V.int))/\L.length<=48
 f:τ[3]?=some (.list [.h 2,.int t])
theorem Uy.pre{t}(h:Uy τ t)(a:τ<+:υ):Uy υ t:=⟨h.c.imp λL=>oa (aR a),aR a h.f⟩
theorem Uy.md{t}(h:Uy τ t)(b:Md L τ υ)(h1:2∉L)(h2:3∉L):Uy υ t:=⟨h.c.imp λl=>oa λa=>b.get a h1,b.get h.f h2⟩
theorem Gf{m:e5}(h:0<m)(i:hA):(i.fmod m).toNat<m/\((i.fmod m).toNat:hA)=i.fmod m:=
 have a:=Int.fmod_nonneg_of_pos i (Dw.mpr h)
 ⟨(NJ a).mpr (Int.fmod_lt_of_pos i (Dw.mpr h)),tC a⟩
theorem jL{many:e5}(h:Uy σ t)(b:t<=100000)(j:0<many)(h1:many<=1000)(k:∀ v ae,v<many->TK z (d+1) none [] 83 [.h 3,.int many] σ (.int (v:e5)) ae->Md [3] σ ae->Uy ae (t+1)->C):C:=by
 refine ah h.c λL g1 f=>?_;have m:S2 z ⟨⟨[],[],none⟩,Fx.sc,d⟩ (.h 3) (.int 1) (.int ((t:hA)+1)) σ (σ.set 3 (.list [.h 2,.int ((t:hA)+1)])):=S2.list (k:=1) h.f (e6 _) J rfl;have l:=bv (b:=.list [.h 2,.int ((t:hA)+1)]) g1 (show 3≠2 by decide);have a:=B1.kQ (z:=z) (F:=⟨⟨[],[],none⟩,Fx.sc,d⟩) l (jh (tl f rfl));have c:=Dw.mpr j;have⟨i,w⟩:∃ i:hA,TK z (d+1) none [] 83 [.h 3,.int many] σ (.int (i.fmod many)) (σ.set 3 (.list [.h 2,.int ((t:hA)+1)])):=by
  refine(Nat.lt_or_ge t L.length).elim (λg=>⟨if L[t]<0 then -L[t]else L[t],?_⟩) λn=>⟨3+L.length+5*t+(t:hA).fdiv 6,?_⟩
  all_goals
   apply TK.of0 (f:=.ret _) [(202,.int many),(201,.h 3)] rfl;refine bx.cons (TF.dI (.lo rfl) (.BA rfl h.f (.cons .lo (.cons .lo .nil)))) ?_;refine bx.cons (TF.fh (.bin (.lo rfl) .i TC.fg) (.lo rfl) .i m) ?_
  .refine bx.oB (TD.cmp (.lo rfl) (.bi rfl (.c (.lo rfl) .n) a) (TC.Uw rfl (iW.mpr ((g0 (as:=L) V.int).symm▸g)))) rfl ?_
   exact .re (.bin (.bi rfl (.c (.sub (.lo rfl) (.lo rfl) (T9.list (v:=.int L[t]) l (jb.trans (hC (v2 V.int) (hv g))) (hQ b J))) .n) .abs) (.lo rfl) (TC.DC c))
  .rw[g0]at a
   refine bx.g6 (TD.cmp (.lo rfl) (.bi rfl (.c (.lo rfl) .n) a) (TC.Uh rfl (mm.mpr (kf.mpr n)))) rfl .n ?_;exact .re (.bin (.bin (.bin (.bin .i (.bi rfl (.c (.lo rfl) .n) a) TC.fg) (.bin .i (.lo rfl) (TC.se J (hQ b J))) TC.fg) (.bin (.lo rfl) .i (TC.FA (h3 t) (iW.mpr (hQ b J)) J J)) TC.fg) (.lo rfl) (TC.DC c))
 have e:=Gf j i;exact k _ _ e.1 (e.2▸w) Md.set ⟨⟨L,bv g1 J,f⟩,dK h.f⟩
noncomputable def UA (l:hA):Prop:=l=10\/l=20\/l=30\/l=45\/l=60
theorem UA.b (h:UA l):0<=l/\l<=60:=by rcases h with rfl|rfl|rfl|rfl|rfl<;>decide
theorem UA.z (h:UA l):l.natAbs<1000000000:=by rcases h with rfl|rfl|rfl|rfl|rfl<;>decide
theorem UA.s (h:UA l):(aG l).length<=100:=cK h.b.1 (g7 h.b.2 J)
theorem Uy.lt{t}(h:Uy τ t):3<τ.length:=(e4.mp h.f).1
theorem zC (h:Uy σ t)(g:t<=100000)(k:∀ l ae,UA l->TK z (d+2) none [] 84 [.h 3] σ (.int l) ae->Md [3] σ ae->Uy ae (t+1)->C):C:=by
 have a:σ<+:σ++[TH.list [.int 10,.int 20,.int 30,.int 45,.int 60]]:=e1 ..;refine jL (z:=z) (d:=d) (many:=5) (h.pre a) g J J λv ae b w m f=>?_;have e:=m.get (bc (σ:=σ)) (cP (hj h.lt));refine(WA (P:=UA) (l:=[10,20,30,45,60]) b (by simp[UA])).elim λl q=>k l ae q.1 ?_ ((Md.aK a).trans m (λc h c=>h)) f;apply TK.of0 (f:=.ret _) [(201,.h 3)] rfl;exact .re (.sub (.li (.c .i (.c .i (.c .i (.c .i (.c .i .n))))) (eW rfl)) (.call (.gl rfl) (.c (.lo rfl) (.c .i .n)) w) (T9.list e q.2 (hO b J)))
noncomputable abbrev oO:e0 Nat:=[112,114,111,103,114,97,109]
noncomputable abbrev zD:e0 Nat:=[102,105,108,101,115]
noncomputable abbrev q4:e0 Nat:=[115,104,111,119,110]
noncomputable abbrev zE:e0 Nat:=[104,101,97,114,100]
noncomputable abbrev et (pt st:e5)(oc:V):e0 (Key×V):=[(.str oO,.h pt),(.str zD,.h 6),(.str q4,.h st),(.str zE,.h 8),(.str g8,oc)]
structure Tw (τ:H)(pt st:e5)(p:TU)(sh:e0 (e0 e5))(ft:e0 (Key×V))(hs:e0 V)(oc:V):Prop where
 TM:τ[4]?=some (.dict (et pt st oc))
 pr:τ[pt]?=some (.dict (aE p))
 sh:τ[st]?=some (.list (sh.map V.str))
 tf:τ[6]?=some (.dict ft)
 th:τ[8]?=some (.list hs)
 cF:pt=5\/29<=pt
 hst:st=7\/29<=st
 hne:pt≠st
section
variable{z:Z}{F:Fm}{st:e5}
theorem Tw.md (h:Tw τ pt st p sh ft hs oc)(a:Md L τ υ)(h1:4∉L)(h2:pt∉L)(d:st∉L)(c:6∉L)(b:8∉L):Tw υ pt st p sh ft hs oc:=
 ⟨a.get h.TM h1,a.get h.pr h2,a.get h.sh d,a.get h.tf c,a.get h.th b,h.cF,h.hst,h.hne⟩
theorem Tw.pre (h:Tw τ pt st p sh ft hs oc)(a:τ<+:υ):Tw υ pt st p sh ft hs oc:=h.md (Md.aK (L:=[]) a) (h6) (h6) (h6) (h6) (h6)
theorem Tw.draw (h:Tw τ pt st p sh ft hs oc)(a:Md [3] τ υ):Tw υ pt st p sh ft hs oc:=by
 have:=h.cF;have:=h.hst;exact h.md a J (cP (by lia)) (cP (by exact Up this rfl)) J J
theorem ug (h:Tw τ pt st p sh ft hs oc)(a:ρ.lookup 207=some (.h 4)):TB z F ρ τ (.sub (.lo 207) (.s oO)) (.h pt) τ:=.sub (.lo a) .s (T9.dict (key:=.str oO) rfl h.TM rfl)
theorem Qi (h:Tw τ pt st p sh ft hs oc)(a:ρ.lookup 207=some (.h 4)):TB z F ρ τ (.sub (.lo 207) (.s q4)) (.h st) τ:=.sub (.lo a) .s (T9.dict (key:=.str q4) rfl h.TM rfl)
theorem Tw.sI (h:Tw τ pt st p sh ft hs oc)(p':TU):Tw (τ.set pt (.dict (aE p'))) pt st p' sh ft hs oc:=by
 have a:=h.cF;have c:=h.hst;have b:=h.hne;exact⟨bv h.TM (by exact Up a rfl),dK h.pr,bv h.sh b,bv h.tf (by exact Up a rfl),bv h.th (by exact Up a rfl),a,c,b⟩
theorem Tw.mC (h:Tw τ pt st p sh ft hs oc) x:Tw (τ.set st (.list (sh.map V.str++[.str x]))) pt st p (sh++[x]) ft hs oc:=by
 have d:=h.cF;have a:=h.hst;have b:=h.hne;exact⟨bv h.TM (by exact Up a rfl),bv h.pr (λc=>b c.symm),by rw[dK h.sh];simp,bv h.tf (by exact Up a rfl),bv h.th (by exact Up a rfl),d,a,b⟩
noncomputable abbrev zF:e0 Nat:=[63,85,76,32,69,114,114,111,114]
inductive vo (p:TU)(sh:e0 (e0 e5))(k:hA):e0 e5->TU->e0 (e0 e5)->Prop
 |put {t kk w W:e0 e5}:Tk t kk w W->vo p sh k t (b3 p k W) sh
 |del:bM p k=true->vo p sh k [] (cQ p k) sh
 |bad:bM p k=false->vo p sh k [] p (sh++[zF])
theorem zG{k:hA}(hk:UA k)(l:tx.length<=100)(hf:Uy τ t)(q:t<=100000)(p:ρ.lookup 201=some (.h 3))(o:ρ.lookup 18=some (.int k))(n:ρ.lookup 21=some (.str tx))(K:∀ a ae,a=[]\/a=[32,32]->Md [3] τ ae->Uy ae (t+1)->Q (.ret (.str (a++aG k++[32]++tx))) ρ ae):
  ag z ⟨⟨[],[],none⟩,yZ.sc,d+6⟩ ρ τ (.c (.re (.bin .Add (.bin .Add (.bin .Add (.sub (.li (.c (.s []) (.c (.s [32,32]) .n))) (.call (.gl 206) (.c (.lo 201) (.c (.i (2)) .n)))) (.bi 17 (.c (.lo 18) .n))) (.s [32])) (.lo 21))) s) Q:=by
 have g:τ<+:τ++[TH.list [.str [],.str [32,32]]]:=e1 ..;refine jL (z:=z) (d:=d+5) (many:=2) (hf.pre g) q J J λv' ae e w' f j=>?_;refine(Wf (P:=λx=>(x=[]\/x=[32,32])/\x.length<=2) (l:=[[],[32,32]]) e (zb ⟨.inl rfl,by decide⟩ ⟨.inr rfl,by decide⟩)).elim λa b=>?_;have c:=jH b.1.2 hk.s;exact ag.re (.bin (.bin (.bin (.sub (.li (.c .s (.c .s .n)) (eW rfl)) (.call (.gl rfl) (.c (.lo p) (.c .i .n)) w') (T9.list (f.get bc (cP (hj hf.lt))) b.2 (hO e J))) (.bi rfl (.c (.lo o) .n) (B1.str hk.z)) (TC.UL b.1.2 hk.s rfl)) .s (TC.UL c (e6 1) rfl)) (.lo n) (TC.UL (jH c (e6 1)) l rfl)) (K a ae b.1.1 ((Md.aK g).trans f (λm h m=>h)) j)
theorem Qj (h:Tw σ pt st p sh ft hs oc)(hf:Uy σ t)(f:t<=90000)(aa:p.length<=1000)(ap:sh.length<=100000)(K:∀ c k l ab y ae,c=[]\/c=[32,32]->UA k->vo p sh k l ab y->TK z (d+7) none [] 86 [.h 3,.h 4] σ (.str (c++aG k++[32]++l)) ae->Md [3,pt,st] σ ae->Tw ae pt st ab y ft hs oc->Uy ae (t+3)->C):C:=by
 refine zC (z:=z) (d:=d+4) hf (tl f rfl) λk U hk aq ak f1=>?_;refine jL (z:=z) (d:=d+5) (many:=4) f1 (ta f rfl) J J λv af ai ao aj f2=>?_;refine(Wf (P:=λx=>x=[]\/∃ kk w W,Tk x kk w W) (l:=[TJ,tr,ts,[]]) ai (J6 (.inr ⟨_,_,TJ,.inl ⟨.inl ⟨rfl,.inl rfl⟩,rfl,rfl⟩⟩) (.inr ⟨_,_,VL,.inr ⟨rfl,rfl,rfl,rfl⟩⟩) (.inr ⟨_,_,Vj,.inl ⟨.inr ⟨rfl,rfl⟩,rfl,rfl⟩⟩) (.inl rfl))).elim λl hx=>?_;have m:af<+:af++[TH.list [.str TJ,.str tr,.str ts,.str []]]:=e1 ..;have a:=((h.draw ak).draw aj).pre m;have f3:=f2.pre m;have u:Md [3,pt,st] σ _:=((ak.mono (pD (.head _))).trans aj (dU (.head _))).trans (Md.aK (L:=[]) m) g4;have np:∀ i,i=5\/29<=i->2≠i/\3≠i:=λi h=>by exact HO h
 refine sw.of0 (z:=z) (k:=86) (args:=[.h 3,.h 4]) [(207,.h 4),(201,.h 3)] rfl (ag.cons (TF.mx rfl (.c (.call (.gl rfl) (.c (.lo rfl) .n) aq) (.c (.call (.gl rfl) (.c (.lo rfl) (.c .i .n)) ao) .n)) (by exact λas=>⟨rfl,rfl⟩)) (ag.cons (TF.aP rfl (.sub (.li (.c .s (.c .s (.c .s (.c .s .n)))) (eW rfl)) (.lo rfl) (T9.list bc hx.2 (hO ai J)))) ?_));have au:=m;generalize af++[TH.list [.str TJ,.str tr,.str ts,.str []]]=S at*
 rcases hx.1 with rfl|⟨kk,w,W,o⟩
 .have n:=ue (z:=z) (F:=⟨⟨[],[],none⟩,yZ.sc,d+6⟩) (k:=k) a.pr
  refine ag.bA (TD.cmp (.lo (v:=.str []) rfl) .s (TC.cmp rfl)) ?_;cases j:bM p k with
  |true=>
   rw[j]at n;refine(l7.mp j).elim λr ar=>?_;have hs:=M2.pop (z:=z) (F:=⟨⟨[],[],none⟩,yZ.sc,d+6⟩) (key:=.int k) rfl a.pr (wD aa rfl) ((eg k p).trans (hC (v2 V.str) ar)) rfl;rw[lU]at hs;refine ag.cf (TD.cmp (.lo rfl) (ug a rfl) n) (ag.cons (TF.ex (.cE rfl (ug a rfl) (.c (.lo rfl) .n) hs)) (ag.nil (ag.nil ?_)));exact zG hk (hq _) (f3.md Md.set (cP (np pt h.cF).1) (cP (np pt h.cF).2)) (ta (k:=2) f rfl) rfl rfl rfl λc ae b e g w=>K c k [] _ _ ae b hk (.del j) w ((u.trans Md.set (dU (.tail _ (.head _)))).trans e (dU (.head _))) ((a.sI _).draw e) g
  |false=>
   rw[j]at n;refine ag.bA (TD.cmp (.lo rfl) (ug a rfl) n) (ag.cons (TF.ex (.cE rfl (Qi a rfl) (.c .s .n) (M2.append a.sh (jh (tl ap rfl)) rfl))) (ag.nil (ag.nil ?_)));have am:2≠st/\3≠st:=by have:=h.hst;exact uK this
   exact zG hk (hq _) (f3.md Md.set (cP am.1) (cP am.2)) (ta (k:=2) f rfl) rfl rfl rfl λc ae b e g w=>K c k [] _ _ ae b hk (.bad j) w ((u.trans Md.set (dU (.tail _ (.tail _ (.head _))))).trans e (dU (.head _))) ((a.mC _).draw e) g
 .refine(zl (z:=z) (d:=d) (lk:=[]) (σ:=S) o .nil).elim λbt q=>?_
  have s:=a.pre q.2;have hs:=S2.dict (z:=z) (F:=⟨⟨[],[],none⟩,yZ.sc,d+6⟩) (key:=.int k) (v:=.str W) rfl s.pr (wD aa rfl) rfl;rw[fj]at hs;refine ag.cf (TD.cmp (.lo (v:=.str l) rfl) .s (TC.V8 rfl o.strip.2.1)) (ag.cons (TF.fh (.call (.gl rfl) (.c (.lo rfl) .n) q.1) (ug s rfl) (.lo rfl) hs) (ag.nil ?_));exact zG hk (tl o.len.2.1 rfl) ((f3.pre q.2).md Md.set (cP (np pt h.cF).1) (cP (np pt h.cF).2)) (ta (k:=2) f rfl) rfl rfl rfl λc ae b e g w=>K c k l _ _ ae b hk (.put o) w (((u.trans (Md.aK (L:=[]) q.2) g4).trans Md.set (dU (.tail _ (.head _)))).trans e (dU (.head _))) ((s.sI _).draw e) g
end
end
variable{x:e0 e5}{hi:hA}{m:e5}{mT:V}
section
set_option backward.match.sparseCases false
inductive U5:e0 e5->hA->hA->hA->Prop
 |one {f:hA}:UA f->U5 (aG f) f f f
 |BK {f:hA}:UA f->U5 (aG f++[45]) f 65529 99999
 |to {l:hA}:UA l->U5 ([45]++aG l) 0 l l
 |both {f l:hA}:UA f->UA l->U5 (aG f++[45]++aG l) f l l
theorem U5.within (h:U5 x a b hi)(c:bK p):(an p).filter (λk=>decide (a<=k)&&decide (k<=hi))=within p a b:=by
 cases h with
 |BK d=>
  apply Hq;intro k hk;have:=c.key hk;rw[h8 (g7 this.2.1 J),h8 (g7 this.2.1 J)]
 |_=>rfl
theorem p8:(aE p).map (λq=>q.1)=(p.map (λq=>q.1)).map Key.int:=by simp[aE]
theorem U5.len (h:U5 x a b hi):x.length<=201:=by
 cases h with
 |one c=>exact tl c.s rfl
 |BK c=>exact tl (jH (y:=[45]) c.s (e6 1)) rfl
 |to c=>exact tl (jH (x:=[45]) (e6 1) c.s) rfl
 |both c d=>exact jH (jH (y:=[45]) c.s (e6 1)) d.s
theorem U5.menu (hf:UA f)(b:UA l)(d:v<4)(K:∀ x a c hi,U5 x a c hi->([.str (aG f),.str (aG f++[45]),.str ([45]++aG l),.str (aG f++[45]++aG l)]:e0 V)[v]?=some (.str x)->([.int f,.int f,.int 0,.int f]:e0 V)[v]?=some (.int a)->([.int f,.int 99999,.int l,.int l]:e0 V)[v]?=some (.int hi)->C):C:=by
 rcases l4 d with rfl|rfl|rfl|rfl
 .exact K _ _ _ _ (.one hf) rfl rfl rfl
 .exact K _ _ _ _ (.BK hf) rfl rfl rfl
 .exact K _ _ _ _ (.to b) rfl rfl rfl
 .exact K _ _ _ _ (.both hf b) rfl rfl rfl
section
variable{z:Z}{F:Fm}{st:e5}{b:X}
theorem K7{k b:hA}(h1:TB z F ρ τ f (.int a) τ)(h2:TB z F ρ τ c (.int k) τ)(d:TB z F ρ τ e (.int b) τ):TD z F ρ τ (.lK .LtE .LtE f c e) (decide (a<=k)&&decide (k<=b)) τ:=by
 by_cases h:a<=k
 .rw[h8 h,F6]
  exact .oy h1 h2 (TC.Uw rfl (h)) d (TC.cmp rfl)
 .rw[je h,EP]
  exact .sg h1 h2 (TC.Uh rfl (h))
theorem jj (h:Tw τ pt st p sh ft hs oc)(hx:TB z F ρ τ b (.h 4) τ):TB z F ρ τ (.sub b (.s oO)) (.h pt) τ:=.sub hx .s (T9.dict (key:=.str oO) rfl h.TM rfl)
theorem oP (h:Tw τ pt st p sh ft hs oc)(hx:TB z F ρ τ b (.h 4) τ):TB z F ρ τ (.sub b (.s q4)) (.h st) τ:=.sub hx .s (T9.dict (key:=.str q4) rfl h.TM rfl)
theorem Tw.lc{p':TU}(h:Tw τ pt st p sh ft hs oc)(d:τ[m]?=some (.dict (aE p')))(b:29<=m)(c:m≠st):Tw (τ.set 4 (.dict (et m st oc))) m st p' sh ft hs oc:=by
 have a:=h.hst;exact⟨dK h.TM,bv d (by exact hc (e2 (eW rfl) b)),bv h.sh (by exact(Up a rfl).symm),bv h.tf J,bv h.th J,.inr b,a,c⟩
theorem Tw.DS (h:Tw τ pt st p sh ft hs oc)(d:τ[m]?=some (.list (eO.map V.str)))(b:29<=m)(c:pt≠m):Tw (τ.set 4 (.dict (et pt m oc))) pt m p eO ft hs oc:=by
 have a:=h.cF;exact⟨dK h.TM,bv h.pr (by exact(Up a rfl).symm),bv d (by exact hc (e2 (eW rfl) b)),bv h.tf J,bv h.th J,a,.inr b,c⟩
theorem Tw.K8 (h:Tw τ pt st p sh ft hs oc):Tw (τ.set 4 (.dict (et pt st mT))) pt st p sh ft hs mT:=by
 have b:=h.cF;have a:=h.hst;exact⟨dK h.TM,bv h.pr (by exact(Up b rfl).symm),bv h.sh (by exact(Up a rfl).symm),bv h.tf J,bv h.th J,b,a,h.hne⟩
theorem BL (h:Tw τ pt st p sh ft hs oc)(a:F.c.lk=[]):S2 z F (.h 4) (.str oO) (.h m) τ (τ.set 4 (.dict (et m st oc))):=S2.dict (key:=.str oO) rfl h.TM (eW rfl) (by rw[a];rfl)
theorem K9 (h:Tw τ pt st p sh ft hs oc)(a:F.c.lk=[]):S2 z F (.h 4) (.str q4) (.h m) τ (τ.set 4 (.dict (et pt m oc))):=S2.dict (key:=.str q4) rfl h.TM (eW rfl) (by rw[a];rfl)
theorem Ql (h:Tw τ pt st p sh ft hs oc)(a:F.c.lk=[]):S2 z F (.h 4) (.str g8) mT τ (τ.set 4 (.dict (et pt st mT))):=S2.dict (key:=.str g8) rfl h.TM (eW rfl) (by rw[a];rfl)
theorem Qm (h:Tw σ pt st p sh ft hs oc)(hf:Uy σ t)(s:t<=95000)(o:bK p)(K:∀ x a b hi r ae,U5 x a b hi->TK z (d+3) none [] 85 [.h 3,.h 4] σ (.tup [.str x,.h r]) ae->Md [3] σ ae->Uy ae (t+3)->σ.length<=r->ae[r]?=some (.list ((within p a b).map V.int))->C):C:=by
 have as:σ<+:σ++[TH.cell none,TH.cell none]:=e1 ..;refine zC (z:=z) (d:=d) (hf.pre as) (tl s rfl) λf U g ay aD f1=>?_;refine zC (z:=z) (d:=d) f1 (ta s rfl) λl af m w2 aA f2=>?_;refine jL (z:=z) (d:=d+1) (many:=4) f2 (ta (k:=2) s rfl) J J λv ao ar w3 aJ f3=>?_;refine U5.menu g m ar λx a b hi aq g1 g2 aw=>?_;have e:=hf.lt;have u:v<4294967296:=hO ar J;have aa:Md [3] (σ++[TH.cell none,TH.cell none]) ao:=(aD.trans aA (λi h j=>h)).trans aJ (λi h j=>h);have ap:ao[σ.length]?=some (.cell none):=aa.get wB (cP (hj e));have au:ao[σ.length+1]?=some (.cell none):=aa.get FM (cP (hj (m1 e)));have q:∀ {F:Fm} {τ:H},B1 z F .str [.int f] τ (.str (aG f)) τ:=B1.str g.z;have ab:∀ {F:Fm} {τ:H},B1 z F .str [.int l] τ (.str (aG l)) τ:=B1.str m.z;refine sw.jm (z:=z) (k:=85) (args:=[.h 3,.h 4]) [(210,σ.length),(211,σ.length+1)] [(207,.h 4),(201,.h 3)] (σ++[TH.cell none,TH.cell none]) rfl (ag.cons (TF.DR rfl (.c (.call (.gl rfl) (.c (.lo rfl) .n) ay) (.c (.call (.gl rfl) (.c (.lo rfl) .n) w2) (.c (.call (.gl rfl) (.c (.lo rfl) (.c .i .n)) w3) .n))) (by exact λj=>⟨rfl,rfl⟩)) ?_);refine ag.cons (TF.aP rfl (.sub (.li (.c (.bi rfl (.c (.lo rfl) .n) q) (.c (.bin (.bi rfl (.c (.lo rfl) .n) q) .s (TC.UL g.s (e6 1) rfl)) (.c (.bin .s (.bi rfl (.c (.lo rfl) .n) ab) (TC.UL (e6 1) m.s rfl)) (.c (.bin (.bin (.bi rfl (.c (.lo rfl) .n) q) .s (TC.UL g.s (e6 1) rfl)) (.bi rfl (.c (.lo rfl) .n) ab) (TC.UL (jH g.s (e6 1)) m.s rfl)) .n)))) (eW rfl)) (.lo rfl) (T9.list bc g1 u))) ?_;generalize TH.list [V.str (aG f),.str (aG f++[45]),.str ([45]++aG l),.str (aG f++[45]++aG l)]=A;have c:ao<+:ao++[A]++[TH.list [.int f,.int f,.int 0,.int f]]++[TH.list [.int f,.int 99999,.int l,.int l]]:=((e1 ..).trans (e1 ..)).trans (e1 ..);refine ag.cons (TF.lT (.tu (.c (.sub (.li (.c (.lo rfl) (.c (.lo rfl) (.c .i (.c (.lo rfl) .n)))) (eW rfl)) (.lo rfl) (T9.list bc g2 u)) (.c (.sub (.li (.c (.lo rfl) (.c .i (.c (.lo rfl) (.c (.lo rfl) .n)))) (eW rfl)) (.lo rfl) (T9.list bc aw u)) .n)) (eW rfl)) (.tu rfl (.cons (DA.ce rfl (aR c ap) rfl) (.cons (DA.ce rfl (bv (aR c au) (hc (qi _))) rfl) .nil))) (λj=>⟨_,.head _,.inr ⟨_,_,rfl,by decide,rfl⟩⟩)) ?_;generalize(ao++[A]++[TH.list [.int f,.int f,.int 0,.int f]]++[TH.list [.int f,.int 99999,.int l,.int l]])=aj at c;have Uv:Md [3] σ ((aj.set σ.length (.cell (some (.int a)))).set (σ.length+1) (.cell (some (.int hi)))):=
  ((((Md.aK as).trans aa (λi h j=>h)).trans (Md.aK (L:=[]) c) g4).trans Md.set (zc (e6 _))).trans Md.set (zc (jr _))
 have Us:=((f3.pre c).md (Md.set (n:=σ.length) (c:=.cell (some (.int a)))) (cP (hc (pM e))) (cP (hc e))).md (Md.set (n:=σ.length+1) (c:=.cell (some (.int hi)))) (cP (hc (m1 (pM e)))) (cP (hc (m1 e)));have ak:=bv (m:=σ.length+1) (b:=.cell (some (.int hi))) (dK (b:=.cell (some (.int a))) (aR c ap)) (q5 _);have am:=dK (b:=.cell (some (.int hi))) (bv (m:=σ.length) (b:=.cell (some (.int a))) (aR c au) (hc (qi _)));generalize((aj.set σ.length (.cell (some (.int a)))).set (σ.length+1) (.cell (some (.int hi))))=n at Uv Us ak am;have ai:=h.draw Uv;have ax:∀ x y,Md [3] σ (n++[x]++[y]):=λx y=>(Uv.trans (Md.aK (L:=[]) (e1 n [x])) g4).trans (Md.aK (L:=[]) (e1 _ [y])) g4;refine ag.re (.tu (.c (.lo rfl) (.c (TB.ub (I:=.list n.length) (α:=hA) (el:=V.int) (f:=V.int) (c:=λk=>decide (a<=k)&&decide (k<=hi)) (L:=an p) (U:=n++[TH.list ((an p).map V.int)]) (Ug.list rfl (.bi rfl (.c (jj ai (.lo rfl)) .n) (B1.sorted rfl ai.pr p8 ((g0 _).symm▸o.len))) bc) rfl rfl rfl (bP p▸tl (gB o.len) rfl) (λi aK=>FS (bf bc) i) λk aK ρ hk=>⟨_,.lo,K7 (.fr rfl (bf (bf ak))) (.lo (v:=.int k) bu) (.fr rfl (bf (bf am))),λj=>.lo bu⟩) .n)) (eW rfl)) λw=>K x a b hi _ _ aq w (ax _ _) ((Us.pre (e1 ..)).pre (e1 ..)) (e2 Uv.1 (hg▸hM ..)) (aq.within o▸bc)
end
end
variable{k:hA}{L:e0 hA}
section
set_option backward.match.sparseCases false
structure TR (σ:H)(pt st:e5)(ae:H)(t:e5)(p:TU)(sh:e0 (e0 e5))(ft:e0 (Key×V))(hs:e0 V)(oc:V):Prop where
 x:∃ pt' st',Tw ae pt' st' p sh ft hs oc/\(pt'=pt\/σ.length<=pt')/\(st'=st\/σ.length<=st')
 f:Uy ae t
 m:Md [3,pt,st,4,6,8] σ ae
noncomputable def jM (σ ae:H):Prop:=∀ a b c,ae[4]?=some (.dict (et a b c))->a<σ.length
theorem jM.of{st:e5}(h:ae[4]?=some (.dict (et pt st oc)))(e:pt<σ.length):jM σ ae:=λa b c d=>by
 rw[h]at d;simp only[et,mS,TH.dict.injEq,Ds,F7,V.h.injEq]at d;rw[<-d.1.2];exact e
noncomputable abbrev wR:e0 Nat:=[63,70,67,32,69,114,114,111,114]
inductive BM (p:TU)(sh:e0 (e0 e5))(a b:hA):e0 e5->TU->e0 (e0 e5)->Prop
 |list:BM p sh a b [76,73,83,84,32] p (sh++(within p a b).map (bj p))
 |bad:within p a b=[]->BM p sh a b [100,101,108,101,116,101,32] p (sh++[wR])
 |del:within p a b≠[]->BM p sh a b [100,101,108,101,116,101,32] ((within p a b).foldl cQ p) sh
theorem ei (L:e0 hA) p:L.foldl cQ p=p.filter λq=>decide (q.1∉L):=by
 induction L generalizing p with
 |nil=>exact(tB.mpr λd d=>rfl).symm
 |cons k L a=>
  rw[J2,a,cQ,List.filter_filter];apply Hq;intro q _;by_cases c:q.1=k<;>by_cases b:q.1∈L<;>simp[c,b]
theorem uj (L:e0 hA):jz (.int k) (L.map V.int)=some (decide (k∈L)):=by
 induction L with
 |nil=>rfl
 |cons a L c=>
  show(some (decide (a=k))).bind (λx=>(jz (.int k) (L.map V.int)).map (x||·))=_
  rw[c];refine hC some (?_:(decide (a=k)||decide (k∈L))=decide (k∈a::L));rw[<-Bool.decide_or];exact vW.mpr ⟨λh=>h.elim (λb=>b▸.head _) (.tail _),λh=>(hr.mp h).imp Eq.symm id⟩
theorem fm (p:TU):pairsOf (p.map λq=>.tup [.int q.1,.str q.2])=some (aE p):=by
 induction p with
 |nil=>rfl
 |cons q p a=>exact rX rfl a
theorem j9 (q p:TU):putAll (aE p) (aE q)=aE (bw p q):=by
 induction q generalizing p with
 |nil=>rfl
 |cons x q a=>exact(hC (putAll · (aE q)) (fj ..)).trans (a (b3 p x.1 x.2))
theorem oQ q p (hn:(q.map (λq=>q.1)).Nodup)(h:∀ x∈q,x.1∉p.map (λq=>q.1)):bw p q=p++q:=by
 induction q generalizing p with
 |nil=>exact(j6 p).symm
 |cons x q d=>
  have h':=gx.mp h;rw[iO,ku]at hn;have c:=lW (r:=x.2) h'.1;show bw (b3 p x.1 x.2) q=_;rw[c,d _ hn.2,lE];rfl;intro y b a;rw[pl]at a;exact(jd.mp a).elim (h'.2 y b) λa=>hn.1 ((gP.mp a:y.1=x.1)▸kK (f:=(λq=>q.1)) b)
theorem oR (hn:(p.map (λq=>q.1)).Nodup):putAll [] (aE p)=aE p:=by
 have:=j9 p [];rw[oQ p [] hn (by simp)]at this;exact this
section
variable{z:Z}{F:Fm}{st:e5}
theorem Tw.lt (h:Tw σ pt st p sh ft hs oc):9<=σ.length/\pt<σ.length/\st<σ.length:=⟨(e4.mp h.th).1,(e4.mp h.pr).1,(e4.mp h.sh).1⟩
theorem TR.of{S d:H}(h:Tw S n c p sh ft hs oc)(f:Uy S t)(m:Md [3,pt,st,4,6,8] σ S)(a:n=pt\/σ.length<=n)(b:c=st\/σ.length<=c)(e:S<+:d):TR σ pt st d t p sh ft hs oc:=⟨⟨_,_,h.pre e,a,b⟩,f.pre e,m.trans (Md.aK (L:=[]) e) g4⟩
theorem sJ:pairsOf ((p.filter λq=>decide (q.1∉L)).map λq=>.tup [.int q.1,.str q.2])=some (aE (L.foldl cQ p)):=by rw[ei,fm]
theorem zI (hn:(p.map (λq=>q.1)).Nodup):((L.foldl cQ p).map (λq=>q.1)).Nodup:=by rw[ei];exact(Bh _ xo).nodup hn
theorem wT:(L.foldl cQ p).length<=p.length:=by rw[ei];exact oW ..
theorem TC.La (e:σ[n]?=some (.list (L.map V.int))):TC z F (.cm .NotIn) (.int k) (.h n) σ (.bool (decide (k∉L))) σ:=TC.cmp (by
 show(match σ[n]? with|some (.list l)=>jz (.int k) l|_=>none:gN jW).map (λq=>!q)=_;rw[e];exact(hC (v2 (λq=>!q)) (uj L)).trans (hC some Gk.symm))
theorem B1.q6{l:e0 V}(hn:F.c.hn=none)(e:σ[n]?=some (.list l))(a:pairsOf l=some (aE p))(b:(p.map (λq=>q.1)).Nodup)(h:p.length<=1000):B1 z F .dict [.h n] σ (.h σ.length) (σ++[.dict (aE p)]):=by
 have:=B1.nY (z:=z) hn e a (wD h rfl);rwa[oR b]at this
noncomputable abbrev Gg:e0 Nat:=[76,73,83,84,32]
noncomputable abbrev Gh:e0 Nat:=[100,101,108,101,116,101,32]
theorem zJ (hx:x.length<=201)(a:ρ.lookup 212=some (.bool o))(b:ρ.lookup 21=some (.str x))(K:Q (.ret (.str ((bif o then Gg else Gh)++x))) ρ (τ++[TH.list [V.str Gg,V.str Gh]])):
  ag z F ρ τ (.c (.re (.bin .Add (.sub (.li (.c (.s Gg) (.c (.s Gh) .n))) (.fy (.lo 212) (.i 0) (.i 1))) (.lo 21))) .n) Q:=by
 cases o
 .exact ag.re (.bin (.sub (.li (.c .s (.c .s .n)) (eW rfl)) (.bA (.lo a) .i) (T9.list (k:=1) bc rfl J)) (.lo b) (TC.UL (e6 7) hx rfl)) K
 .exact ag.re (.bin (.sub (.li (.c .s (.c .s .n)) (eW rfl)) (.cf (.lo a) .i) (T9.list (k:=0) bc rfl J)) (.lo b) (TC.UL (e6 5) hx rfl)) K
theorem Qn (h:Tw σ pt st p sh ft hs oc)(aA:29<=σ.length)(hf:Uy σ t)(au:t<=90000)(l:bK p)(aJ:sh.length<=100000)(K:∀ x a b hi w ax as ae,U5 x a b hi->BM p sh a b w ax as->TK z (d+4) none [] 87 [.h 3,.h 4] σ (.str (w++x)) ae->TR σ pt st ae (t+4) ax as ft hs oc->C):C:=by
 have am:σ<+:σ++[TH.cell (some (V.h 4)),TH.cell none]:=e1 ..;refine jL (z:=z) (d:=d+2) (many:=2) (hf.pre am) (tl au rfl) J J λv U a1 ay u f1=>?_;refine Qm (z:=z) (d:=d) ((h.pre am).draw u) f1 (ta au rfl) l λx a b hi r af ai w2 aK f2 aO aL=>?_;have aj:Md [3] (σ++[TH.cell (some (V.h 4)),TH.cell none]) af:=u.trans aK (λi h aq=>h);have e:=hf.lt;have aN:=cP (hj e);have aX:=cP (hj (m1 e));have c2:=aj.get FM aX;have aw:σ.length+2<=U.length:=e2 (iP (hg (as:=σ) (bs:=[TH.cell (some (V.h 4)),TH.cell none])).symm) u.1;have o:Md [3] σ (af.set (σ.length+1) (.cell (some (.h r)))):=((Md.aK am).trans aj (λi h aq=>h)).trans Md.set (zc (jr _));have f3:=f2.md (Md.set (n:=σ.length+1) (c:=.cell (some (.h r)))) (cP (hc (m1 (pM e)))) (cP (hc (m1 e)));have g:=bv (m:=σ.length+1) (b:=.cell (some (.h r))) (aj.get wB aN) (q5 _);have s:=dK (b:=.cell (some (.h r))) c2;have n:=bv (m:=σ.length+1) (b:=.cell (some (.h r))) aL (hc (e2 aw aO));refine sw.jm (z:=z) (k:=87) (args:=[.h 3,.h 4]) [(207,σ.length),(213,σ.length+1)] [(201,.h 3)] (σ++[TH.cell (some (V.h 4)),TH.cell none]) rfl (ag.cons (TF.aP rfl (.cmp (.call (.gl rfl) (.c (.lo rfl) (.c .i .n)) ay) .i (TC.cmp rfl))) (ag.cons (TF.dI (.call (.gl rfl) (.c (.lo rfl) (.c (.ce rfl (u.get wB aN)) .n)) w2) (.tu rfl (.cons .lo (.cons (.ce rfl c2 rfl) .nil)))) ?_));generalize af.set (σ.length+1) (.cell (some (.h r)))=S at o f3 g s n ⊢;clear aj c2 aL f2 w2 ay aK u f1 aw aO;have e:=h.draw o;have ak:=ai.len;have aP:(within p a b).length<=64:=e2 (gA p a b) (gB l.len);have aa:Md [3,pt,st,4,6,8] σ S:=o.mono (pD (.head _));have ao:=h.lt;rcases l2 a1 with rfl|rfl
 .have c:S<+:S++[TH.list ((within p a b).map λk=>.str (bj p k))]++[TH.list (sh.map V.str++(within p a b).map λk=>.str (bj p k))]:=(e1 ..).trans (e1 ..)
  have m:=e2 o.1 (jG (t:=[TH.list ((within p a b).map λk=>.str (bj p k))]));refine ag.cf (TD.lo rfl) (ag.cons (TF.fh (.bin (oP e (.ce rfl g)) (TB.oG (I:=.list r) (α:=hA) (el:=V.int) (f:=λk=>.str (bj p k)) (L:=within p a b) (U:=S) (Ug.list rfl (.ce rfl s) n) rfl rfl rfl (tl aP rfl) (λi ap=>FS (bf n) i) λk ap ρ hk=>?_) (TC.rV (bf e.sh) bc (FK aJ aP rfl))) (.ce rfl (aR c g)) .s (K9 (e.pre c) rfl)) (ag.nil ?_))
  .obtain⟨aY,ar,a2,aD,a0⟩:=l.at_ hk
   refine⟨_,.lo,?_⟩;rw[zd aD];exact .bin (.bin (.bi rfl (.c (.lo (v:=.int k) bu) .n) (B1.str aY)) .s (TC.UL ar (e6 1) rfl)) (.sub (jj (e.pre (e1 ..)) (.fr rfl (bf g))) (.lo (v:=.int k) bu) (T9.dict (key:=.int k) rfl (bf e.pr) (FJ aD))) (TC.UL (jH ar (e6 1)) a0 rfl)
  .exact zJ ak rfl bu λw=>K x a b hi _ _ _ _ ai .list w (.of ((e.pre c).DS (eO:=sh++(within p a b).map (bj p)) (by rw[pl,yg];exact t8) (e2 aA m) (hc (fC ao.2.1 m))) ((f3.pre c).md Md.set J J) ((aa.trans (Md.aK (L:=[]) c) g4).trans Md.set (dU (.tail _ (.tail _ (.tail _ (.head _)))))) (.inl rfl) (.inr m) (e1 ..))
 .have c:S<+:S++[TH.list []]:=e1 ..
  have f:=e.pre c;have aa:=aa.trans (Md.aK (L:=[]) c) g4;refine ag.bA (TD.lo rfl) ?_;by_cases ab:within p a b=[]
  .have ns:2≠st/\3≠st:=by have:=h.hst;exact uK this
   refine ag.cf (TD.cmp (.ce rfl s) (.li .n (hq _)) (TC.zf (aR c n) bc (by rw[ab];rfl))) (ag.cons (TF.ex (.cE rfl (oP f (.ce rfl (aR c g))) (.c .s .n) (M2.append f.sh (jh (tl aJ rfl)) rfl))) (ag.nil (ag.nil ?_)));exact zJ ak rfl bu λw=>K x a b hi _ _ _ _ ai (.bad ab) w (.of (f.mC wR) ((f3.pre c).md Md.set (cP ns.1) (cP ns.2)) (aa.trans Md.set (dU (.tail _ (.tail _ (.head _))))) (.inl rfl) (.inl rfl) (e1 ..))
  .have y:S++[TH.list []]<+:S++[TH.list []]++[TH.list ((p.filter λq=>decide (q.1∉within p a b)).map λq=>V.tup [.int q.1,.str q.2])]++[TH.dict (aE ((within p a b).foldl cQ p))]:=(e1 ..).trans (e1 ..)
   have m:=e2 (e2 o.1 (jG (t:=[TH.list []]))) (jG (t:=[TH.list ((p.filter λq=>decide (q.1∉within p a b)).map λq=>V.tup [.int q.1,.str q.2])]));refine ag.bA (TD.cmp (.ce rfl s) (.li .n (hq _)) (TC.zf (aR c n) bc (by simp[ab]))) (ag.cons (TF.fh (.bi rfl (.c (TB.ub (I:=.keys pt) (α:=hA×e0 e5) (el:=λq=>.int q.1) (f:=λq=>.tup [.int q.1,.str q.2]) (c:=λq=>decide (q.1∉within p a b)) (L:=p) (U:=S++[TH.list []]) (Ug.keys rfl (jj f (.ce rfl (aR c g))) f.pr) rfl (cY (σ:=S) (λj aV=>gP.mp aV▸fC ao.2.1 o.1) jG) rfl (tl (gB l.len) rfl) (λi ap=>Ko (bf f.pr) i) λq ap ρ aQ=>?_) .n) (B1.q6 rfl bc sJ (zI l.nd) (e2 wT (tl (gB l.len) rfl)))) (.ce rfl (aR y (aR c g))) .s (BL (f.pre y) rfl)) (ag.nil (ag.nil ?_)))
   .exact eS _ .lo (.cmp (.lo (v:=.int q.1) bu) (.fr rfl (bf (aR c s))) (TC.La (bf (aR c n)))) (λaq=>.tu (.c (.lo bu) (.c (.sub (jj (f.pre (e1 ..)) (.fr rfl (bf (aR c g)))) (.lo (v:=.int q.1) bu) (T9.dict (key:=.int q.1) rfl (bf f.pr) (FJ (kI l.nd aQ)))) .n)) (eW rfl))
   .exact zJ ak rfl bu λw=>K x a b hi _ _ _ _ ai (.del ab) w (.of ((f.pre y).lc (p':=(within p a b).foldl cQ p) t8 (e2 aA m) (hj (fC ao.2.2 m))) (((f3.pre c).pre y).md Md.set J J) ((aa.trans (Md.aK (L:=[]) y) g4).trans Md.set (dU (.tail _ (.tail _ (.tail _ (.head _)))))) (.inr m) (.inl rfl) (e1 ..))
end
end
variable{x t' Y:e5}{aD k' k0:hA}{l:Ss}{w:V}{p1:TU}{ys:e0 (e0 e5)}{seg:e0 (e0 e5×e0 e5)}
section
set_option backward.match.sparseCases false
section
variable{z:Z}{F:Fm}{a b e t:X}{v:V}{m ss:Ss}{f:Uk}{s:S}{xs:Xs}
set_option tactic.hygienic true in
theorem BO{x m:e5}(P:e5->aZ->H->Prop){C:Prop}(hs:∀ i ρ σ,i<m->P i ρ σ->ag z F (aB ρ x (.int i)) σ ss (BG (P (i+1)) Q)):∀ k i ρ σ,i+k=m->P i ρ σ->(∀ am ae,U1 z F ρ σ (.range m) i (.lo x) ss .next am ae->P m am ae->C)->(∀ w am ae,U1 z F ρ σ (.range m) i (.lo x) ss (.ret w) am ae->Q (.ret w) am ae->C)->C:=by
 intro k;induction k with
 |zero=>intro i ρ σ e h b g;obtain rfl:i=m:=e;exact b ρ σ (.done (by rw[Kz,hb (Fs _)])) h
 |succ k l=>
  intro i ρ σ e h b g;have hi:i<m:=e▸p4 (xu k);have hx:It.nx (.range m) i σ=some (some (.int i)):=by rw[Kz,hz (iW.mpr hi)]
  refine cB (hs i ρ σ hi h) λf au af a c=>?_;have j:i+1+k=m:=(Pe i k).trans e;cases f with
  |next=>exact l (i+1) au af j c (λam ae d=>b am ae (.turn hx .lo a d)) λw am ae d=>g w am ae (.turn hx .lo a d)
  |cont=>exact l (i+1) au af j c (λam ae d=>b am ae (.cont hx .lo a d)) λw am ae d=>g w am ae (.cont hx .lo a d)
  |brk=>exact c.elim
  |ret w=>exact g w au af (.ret hx .lo a) c
theorem ag.Qp{m:e5}(P:e5->aZ->H->Prop)(h:Ug z F ρ σ (.lo x) e (.range k) U)(hk:k=m)(d:P 0 ρ U)(hs:∀ i ρ σ,i<m->P i ρ σ->ag z (F.lock (.range k)) (aB ρ x (.int i)) σ l (BG (P (i+1)) Q))(c:∀ am ae,P m am ae->ag z F am ae ss Q):ag z F ρ σ (.c (.fo (.lo x) e l) ss) Q:=by
 subst hk;exact BO (Q:=Q) P hs m 0 ρ U (ki m) d (λam ae b a=>.cons (.fo h b) (c _ _ a)) λw am ae b a=>.st (.fo h b) a
set_option tactic.hygienic true in
theorem BP (P:e5->aZ->H->Prop){m:Ss}{C:Prop}(hs:∀ i ρ σ,P i ρ σ->∀ {C:Prop},(∀ U,TD z F ρ σ t false U->ag z F ρ U m Q->C)->(∀ U,TD z F ρ σ t true U->ag z F ρ U ss (Kh λam ae=>∃ j,j<i/\P j am ae)->C)->C):∀ b k ρ σ,k<b->P k ρ σ->(∀ am ae,Vx z F ρ σ t ss .next am ae->ag z F am ae m Q->C)->C:=by
 intro b;induction b with
 |zero=>intro k ρ σ h;exact iv h (n3 k)
 |succ b l=>
  intro k ρ σ hk h kk;refine hs k ρ σ h (λU g c=>kk ρ U (.done g) c) λU c a=>?_
  (refine cB a ?_;clear a;intro f au af a d)
  cases f with
  |next=>exact d.elim λj q=>l j au af (fC q.1 (lx hk)) q.2 λam ae e=>kk am ae (.turn c a e)
  |_=>exact d.elim
theorem ag.Lb (P:e5->aZ->H->Prop) k (a:P k ρ σ)(hs:∀ i ρ σ,P i ρ σ->∀ {C:Prop},(∀ U,TD z F ρ σ t false U->ag z F ρ U ss Q->C)->(∀ U,TD z F ρ σ t true U->ag z F ρ U l (Kh λam ae=>∃ j,j<i/\P j am ae)->C)->C):ag z F ρ σ (.c (.iy t l) ss) Q:=
 BP P hs (k+1) k ρ σ (qi k) a λam ae c b=>.cons (.iy c) b
end
theorem l0{P:hA×e0 e5->Prop}(h2:P (k,r))(h:∀ q∈p,P q):∀ q∈b3 p k r,P q:=by
 induction p with
 |nil=>exact gx.mpr ⟨h2,h⟩
 |cons a p c=>
  have h':=gx.mp h;by_cases b:a.1=k
  .rw[b3,hz b];exact gx.mpr ⟨h2,h'.2⟩
  .rw[b3,hb b];exact gx.mpr ⟨h'.1,c h'.2⟩
theorem u1{i:e5}(h:i<=3)(h':k<=60+25*(i:hA)):k<=135:=by exact HQ h h'
theorem u2{i:e5}(p:aD<=25)(h:k<=60+25*(i:hA)):k+aD<=60+25*((i+1:e5):hA):=by exact g7 (qj h p) (xq (Int.add_assoc ..))
theorem u3 (h:0<=k)(h':k<=25):k.natAbs<1000000000:=by exact na (k:=25) h h' rfl
theorem u4 (h:i<3):3 -(i+1)+1<=3 -i:=by exact HR h
theorem UZ (h:s<=3)(h':0<=k):s+(1100 -k).toNat<=1200:=by exact tl (kl h (Int.toNat_le_toNat (JI _ h'))) rfl
theorem u6{i:e5}(h:(i:hA)=1100 -k)(h':k+aD<=1100)(p:10<=aD):(1100 -(k+aD)).toNat<i:=by exact HS h h' p
theorem Vg{j:e5}(h:s+i<=1200)(h':j<i):s+1+j<=1200:=by exact HT h h'
noncomputable def iq (p:TU)(k:hA):e0 Nat:=aG k++[if bM p k then 42 else 32]
inductive g9 (aD:hA):e5->TU->hA->e0 (e0 e5×e0 e5)->TU->Prop
 |put {n:e5} {p p':TU} {k:hA} {rs:e0 (e0 e5×e0 e5)}:0<=k->k<=200->g9 aD n (b3 p k TJ) (k+aD) rs p'->g9 aD (n+1) p k ((te,iq p k)::rs) p'
 |skip {n:e5} {p p':TU} {k:hA} {rs:e0 (e0 e5×e0 e5)}:0<=k->k<=1100->bM p k=true->g9 aD n p (k+aD) rs p'->g9 aD n p k (([],iq p k)::rs) p'
 |stop {n:e5} {p:TU} {k:hA}:0<=k->k<=1100->bM p k=false->g9 aD n p k [([],iq p k)] p
theorem g9.mono (h:g9 aD n p k rs p')(c:n<=m):g9 aD m p k rs p':=by
 induction h generalizing m with
 |put a b _ d=>
  obtain⟨j,rfl⟩:∃ j,m=j+1:=⟨m -1,by exact HU c⟩;exact .put a b (d (by exact lx c))
 |skip a b e _ d=>exact .skip a b e (d c)
 |stop a b e=>exact .stop a b e
noncomputable abbrev Qq:e0 Nat:=[65,85,84,79,32]
noncomputable abbrev kD:e0 Nat:=[79,107]
noncomputable def fT (k aD:hA):e0 Nat:=Qq++aG k++[44]++aG aD
section
variable{z:Z}{F:Fm}{pt st t t' d X Y n x:e5}{sh xs ys:e0 (e0 e5)}{v:V}{e:e0 e5}
structure AR (X Y:e5)(aD:hA)(ρ:aZ)(k:hA):Prop where
 r1:ρ.lookup 219=some (.h X)
 r2:ρ.lookup 220=some (.h Y)
 r3:ρ.lookup 18=some (.int k)
 Wk:ρ.lookup 217=some (.int aD)
 W3:ρ.lookup 201=some (.h 3)
 Wm:ρ.lookup 207=some (.h 4)
theorem AR.set (h:AR X Y aD ρ k)(e:(n8 219 x||(n8 220 x||(n8 18 x||(n8 217 x||(n8 201 x||n8 207 x)))))=false):AR X Y aD (aB ρ x v) k:=
 have f:=hP.mp e;have b:=hP.mp f.2;have a:=hP.mp b.2;have d:=hP.mp a.2;have c:=hP.mp d.2
 ⟨aM f.1 h.r1,aM b.1 h.r2,aM a.1 h.r3,aM d.1 h.Wk,aM c.1 h.W3,aM c.2 h.Wm⟩
theorem AR.line (h:AR X Y aD ρ k):AR X Y aD (aB ρ 18 (.int k')) k':=
 ⟨aM rfl h.r1,aM rfl h.r2,bu,aM rfl h.Wk,aM rfl h.W3,aM rfl h.Wm⟩
structure UF (σ:H)(pt st X Y:e5)(sh:e0 (e0 e5))(ft:e0 (Key×V))(hs:e0 V)(oc:V)(τ:H)(t:e5)(p1:TU)(xs ys:e0 (e0 e5)):Prop where
 TM:Tw τ pt st p1 sh ft hs oc
 fd:Uy τ t
 x:τ[X]?=some (.list (xs.map V.str))
 y:τ[Y]?=some (.list (ys.map V.str))
 md:Md [3,pt] σ τ
 hX:σ.length<=X
 hY:σ.length<=Y
 ne:X≠Y
 h30:29<=σ.length
 cF:pt<σ.length
 hst:st<σ.length
 p:p1.length<=1000
 ky:∀ q∈p1,q.1<=1000
theorem UF.zK (h:UF σ pt st X Y sh ft hs oc τ t p1 xs ys):UF σ pt st X Y sh ft hs oc (τ.set Y (.list (ys.map V.str++[.str e]))) t p1 xs (ys++[e]):=by
 have d:=h.hY;have a:=h.h30;have b:=h.cF;have c:=h.hst;refine{h with TM:=h.TM.md (Md.set (n:=Y)) ?_ ?_ ?_ ?_ ?_,fd:=h.fd.md (Md.set (n:=Y)) ?_ ?_,x:=bv h.x h.ne.symm,y:=by rw[dK h.y];simp,md:=h.md.trans (Md.set (n:=Y)) ?_}
 all_goals first|(simp;done)|(simp;lia)|(intro i hi f;simp at hi;lia)
theorem UF.Le (h:UF σ pt st X Y sh ft hs oc τ t p1 xs ys):UF σ pt st X Y sh ft hs oc (τ.set X (.list (xs.map V.str++[.str e]))) t p1 (xs++[e]) ys:=by
 have a:=h.hX;have b:=h.h30;have c:=h.cF;have d:=h.hst;refine{h with TM:=h.TM.md (Md.set (n:=X)) ?_ ?_ ?_ ?_ ?_,fd:=h.fd.md (Md.set (n:=X)) ?_ ?_,x:=by rw[dK h.x];simp,y:=bv h.y h.ne,md:=h.md.trans (Md.set (n:=X)) ?_}
 all_goals first|(simp;done)|(simp;lia)|(intro i hi f;simp at hi;lia)
theorem UF.draw (h:UF σ pt st X Y sh ft hs oc τ t p1 xs ys)(a:Md [3] τ υ)(hf:Uy υ t'):UF σ pt st X Y sh ft hs oc υ t' p1 xs ys:=by
 have c:=h.hX;have d:=h.hY;have b:=h.h30;refine{h with TM:=h.TM.draw a,fd:=hf,x:=a.get h.x ?_,y:=a.get h.y ?_,md:=h.md.trans a ?_}
 .simp;exact CK c b
 .simp;exact CK d b
 .intro i hi _;simp at hi;simp[hi]
theorem UF.pre (h:UF σ pt st X Y sh ft hs oc τ t p1 xs ys)(a:τ<+:υ):UF σ pt st X Y sh ft hs oc υ t p1 xs ys:=
 {h with TM:=h.TM.pre a,fd:=h.fd.pre a,x:=aR a h.x,y:=aR a h.y,md:=h.md.trans (Md.aK (L:=[]) a) g4}
theorem UF.sI (h:UF σ pt st X Y sh ft hs oc τ t p1 xs ys)(c:p1.length<1000)(hk:k<=1000):UF σ pt st X Y sh ft hs oc (τ.set pt (.dict (aE (b3 p1 k TJ)))) t (b3 p1 k TJ) xs ys:=by
 have b:=h.hX;have d:=h.hY;have f:=h.h30;have a:=h.cF;have g:=h.hst;have:=h.TM.cF;refine{h with TM:=h.TM.sI _,fd:=h.fd.md (Md.set (n:=pt)) ?_ ?_,x:=bv h.x (by exact hc (fC a b)),y:=bv h.y (by exact hc (fC a d)),md:=h.md.trans (Md.set (n:=pt)) (λi hi e=>by simp at hi;simp[hi]),p:=?_,ky:=?_}
 .simp;exact(Up this rfl).symm
 .simp;exact(Up this rfl).symm
 .have:=jU k TJ p1;exact e2 this c
 .exact l0 (P:=λq=>q.1<=1000) hk h.ky
theorem UF.Qs (h:UF σ pt st X Y sh ft hs oc τ t p1 xs ys)(r:AR X Y aD ρ k):TB z F ρ τ (.cmp .In (.lo 18) (.sub (.lo 207) (.s oO))) (.bool (bM p1 k)) τ:=.cmp (.lo r.r3) (ug h.TM r.Wm) (ue h.TM.pr)
theorem zL (d:ρ.lookup 18=some (.int k))(a:0<=k)(h1:k<=1100)(c:TD z F ρ σ f b σ):TB z F ρ σ (.bin .Add (.bi 17 (.c (.lo 18) .n)) (.fy f (.s [42]) (.s [32]))) (.str (aG k++[if b then 42 else 32])) σ:=by
 have:=cK a h1;refine .bin (.bi rfl (.c (.lo d) .n) (B1.str (by exact na (k:=1100) a h1 rfl))) (vb:=.str [if b then 42 else 32]) ?_ (TC.cD (by simp;show _<=16777216;exact ta this rfl));cases b
 .exact .bA c .s
 .exact .cf c .s
theorem UF.zM{a:e0 e5}(h:UF σ pt st X Y sh ft hs oc τ t p1 (a::seg.map (λq=>q.1)) (b::seg.map (λq=>q.2)++[e])):UF σ pt st X Y sh ft hs oc (τ.set X (.list ((a::seg.map (λq=>q.1)).map V.str++[.str tx]))) t p1 (a::(seg++[(tx,e)]).map (λq=>q.1)) (b::(seg++[(tx,e)]).map (λq=>q.2)):=by rw[pl,pl];exact h.Le
theorem p9{α:Type}{f:α->e0 e5}{a:e0 e5}{l:e0 α}(h:l.length<=2000):((a::l.map f).map V.str).length<=sz:=jh (e2 (hm (jh h)) J)
theorem S2.put (h:σ[n]?=some (.dict (aE p)))(a:p.length<=1000)(b:F.c.lk.contains n=false):S2 z F (.h n) (.int k) (.str r) σ (σ.set n (.dict (aE (b3 p k r)))):=by
 have:=S2.dict (z:=z) (key:=.int k) (v:=.str r) rfl h (wD a rfl) b;rwa[fj]at this
theorem UF.pF (h:UF σ pt st X Y sh ft hs oc τ t p1 xs ys)(r:AR X Y aD ρ k):TD z F ρ τ (.cmp .In (.lo 18) (.sub (.lo 207) (.s oO))) (bM p1 k) τ:=.cmp (.lo r.r3) (ug h.TM r.Wm) (ue h.TM.pr)
theorem Qt (h:Tw σ pt st p sh ft hs oc)(bn:29<=σ.length)(hf:Uy σ t)(au:t<=90000)(a4:p.length<=900)(bl:∀ q∈p,q.1<=1000)(K:∀ k aD a b X Y ae t',t'<=t+6->UA k->aD=10\/aD=25->g9 aD 3 p k a b->TK z (d+7) none [] 91 [.h 3,.h 4] σ (.tup [.h X,.h Y]) ae->ae[X]?=some (.list ((fT k aD::a.map (λq=>q.1)).map V.str))->ae[Y]?=some (.list ((kD::a.map (λq=>q.2)).map V.str))->X≠Y->σ.length<=X->σ.length<=Y->TR σ pt st ae t' b sh ft hs oc->C):C:=by
 refine zC (z:=z) (d:=d+4) hf (tl au rfl) λk0 U y a5 a8 f1=>?_;have aX:U<+:U++[TH.list [.int 10,.int 25]]:=e1 ..;refine jL (z:=z) (d:=d+5) (many:=2) (f1.pre aX) (ta au rfl) J J λv1 af aK w2 aY f2=>?_;refine(WA (P:=λx=>x=10\/x=25) (l:=[10,25]) aK (zb (.inl rfl) (.inr rfl))).elim λaD aq=>?_;have s:10<=aD/\aD<=25:=by rcases aq.1 with rfl|rfl<;>decide
 have ai:0<=aD:=g7 J s.1;have Uv:Md [3] σ af:=(a8.trans (Md.aK (L:=[]) aX) g4).trans aY (λi h a3=>h);have a9:=h.lt;have ax:af<+:af++[TH.list [.str (fT k0 aD)]]++[TH.list [.str kD]]:=(e1 ..).trans (e1 ..);have aQ:UF σ pt st af.length (af++[TH.list [.str (fT k0 aD)]]).length sh ft hs oc (af++[TH.list [.str (fT k0 aD)]]++[TH.list [.str kD]]) (t+2) p (fT k0 aD::([]:e0 (e0 e5×e0 e5)).map (λq=>q.1)) (kD::([]:e0 (e0 e5×e0 e5)).map (λq=>q.2)):=
  ⟨(h.draw Uv).pre ax,f2.pre ax,bf bc,bc,(Uv.mono (pD (.head _))).trans (Md.aK (L:=[]) ax) g4,Uv.1,e2 Uv.1 jG,by rw[hg];exact hc (qi _),bn,a9.2.1,a9.2.2,e2 a4 J,bl⟩
 refine jL (z:=z) (d:=d+5) (many:=3) aQ.fd (ta (k:=2) au rfl) J J λaO ao bd w3 bb f3=>?_;have aV:=aQ.draw bb f3;refine sw.of0 (z:=z) (k:=91) (args:=[.h 3,.h 4]) [(207,.h 4),(201,.h 3)] rfl (ag.cons (TF.mx rfl (.c (.call (.gl rfl) (.c (.lo rfl) .n) a5) (.c (.sub (.li (.c .i (.c .i .n)) (eW rfl)) (.call (.gl rfl) (.c (.lo rfl) (.c .i .n)) w2) (T9.list (aY.get bc (cP (hj f1.lt))) aq.2 (hO aK J))) .n)) (by exact λa3=>⟨rfl,rfl⟩)) (ag.cons (TF.DR rfl (.c (.li (.c (.bin (.bin (.bin .s (.bi rfl (.c (.lo rfl) .n) (B1.str y.z)) (TC.UL (e6 5) y.s rfl)) .s (TC.UL (jH (e6 5) y.s) (e6 1) rfl)) (.bi rfl (.c (.lo rfl) .n) (B1.str (u3 ai s.2))) (TC.UL (jH (jH (e6 5) y.s) (e6 1)) (cK ai (g7 s.2 J)) rfl)) .n) (eW rfl)) (.c (v:=.h (af++[TH.list [.str (fT k0 aD)]]).length) (.li (.c .s .n) (eW rfl)) (.c (.lo rfl) .n))) (by exact λa3=>⟨rfl,rfl⟩)) ?_));replace aq:=aq.1;clear a5 w2 a8 aY f1 f2 aX ax aK Uv aQ bb f3;generalize(af++[TH.list [.str (fT k0 aD)]]).length=Y at aV ⊢;generalize af.length=X at aV ⊢;have ap:1+aO<=3:=hH (lx bd) 1;have fin:∀ {a:e0 (e0 e5×e0 e5)} {b:TU} {g:e5} {τ:H},g<=t+6->g9 aD 3 p k0 a b->UF σ pt st X Y sh ft hs oc τ g b (fT k0 aD::a.map (λq=>q.1)) (kD::a.map (λq=>q.2))->TK z (d+7) none [] 91 [.h 3,.h 4] σ (.tup [.h X,.h Y]) τ->C:=λg1 g2 A w=>K k0 aD _ _ X Y _ _ g1 y aq g2 w A.x A.y A.ne A.hX A.hY ⟨⟨pt,st,A.TM,.inl rfl,.inl rfl⟩,A.fd,A.md.mono (OZ (.head _) (.tail _ (.head _)))⟩;clear K;refine ag.Qp (m:=1+aO) (λi ρ τ=>∃ k p1 seg g,g<=t+3+i/\AR X Y aD ρ k/\UF σ pt st X Y sh ft hs oc τ g p1 (fT k0 aD::seg.map (λq=>q.1)) (kD::seg.map (λq=>q.2))/\0<=k/\k<=60+25*(i:hA)/\seg.length<=i/\p1.length<=900+i/\∀ a b,g9 aD (3 -i) p1 k a b->g9 aD 3 p k0 (seg++a) b)
   (Ug.range rfl rfl (.bin .i (.call (.gl rfl) (.c (.lo rfl) (.c .i .n)) w3) TC.fg) (h3 (1+aO)) (kf.mpr (e2 ap J))) rfl (tg k0 p [] (t+3) (e6 _) ⟨rfl,rfl,rfl,rfl,rfl,rfl⟩ aV y.b.1 y.b.2 (hq _) a4 λa b h=>h) (λi ρ τ hi ak=>?_) λρ τ ak=>?_
 .refine s9 ak λk p1 seg g aj R A c o v u n=>?_
  have am:=fC hi ap;have aJ:k<=200:=g7 (u1 (gB am) o) J;have e:k<=1100:=g7 aJ J;have m:seg.length<=2000:=e2 v (e2 (gB am) J);have a2:g+1<=t+6:=hm (e2 aj (hH (lx am) (t+3)));have a0:AR X Y aD (aB ρ 204 (.int i)) k:=R.set rfl;have j:AR X Y aD (aB (aB ρ 204 (.int i)) 222 (.bool (bM p1 k))) k:=a0.set rfl;have A2:=A.zK (e:=iq p1 k);have aN:(τ.set Y (.list ((kD::seg.map (λq=>q.2)).map V.str++[.str (iq p1 k)])))<+:(τ.set Y (.list ((kD::seg.map (λq=>q.2)).map V.str++[.str (iq p1 k)])))++[TH.list [.str te,.str []]]:=e1 ..;refine jL (z:=z) (d:=d+5) (many:=2) (A2.pre aN).fd (e2 (Nat.le_of_succ_le a2) (ta au rfl)) J J λbA bt aP Va a1 f4=>?_;refine(Wf (P:=λx=>x=te\/x=[]) (l:=[te,[]]) aP (zb (.inl rfl) (.inr rfl))).elim λaa aA=>?_;have aL:=(A2.pre aN).draw a1 f4;have f:AR X Y aD (aB (aB (aB ρ 204 (.int i)) 222 (.bool (bM p1 k))) 21 (.str aa)) k:=j.set rfl;have as:(aB (aB (aB ρ 204 (.int i)) 222 (.bool (bM p1 k))) 21 (.str aa)).lookup 21=some (.str aa):=bu;have ar:(aB (aB (aB ρ 204 (.int i)) 222 (.bool (bM p1 k))) 21 (.str aa)).lookup 222=some (.bool (bM p1 k)):=aM rfl bu;refine ag.cons (TF.aP rfl (A.Qs a0)) (ag.cons (TF.ex (.cE rfl (.lo j.r2) (.c (zL j.r3 c e (.lo bu)) .n) (M2.append A.y (p9 m) rfl))) (ag.cons (TF.aP rfl (.sub (.li (.c .s (.c .s .n)) (eW rfl)) (.call (.gl rfl) (.c (.lo j.W3) (.c .i .n)) Va) (T9.list (a1.get bc (cP (hj A2.fd.lt))) aA.2 (hO aP J)))) (ag.cons (TF.ex (.cE rfl (.lo f.r1) (.c (.lo as) .n) (M2.append aL.x (p9 m) rfl))) ?_)));have ay:=aL.zM (tx:=aa);clear Va a0 j a1 f4 aP A A2 aL aN ak;replace aA:=aA.1;have a7:∀ x:e0 e5×e0 e5,(seg++[x]).length<=i+1:=λx=>hg (as:=seg)▸hm v;generalize(aB (aB (aB ρ 204 (.int i)) 222 (.bool (bM p1 k))) 21 (.str aa))=bs at f as ar ⊢;generalize(bt.set X (.list ((fT k0 aD::seg.map (λq=>q.1)).map V.str++[.str aa])))=be at ay ⊢;rcases aA with rfl|rfl
  .refine(zl (z:=z) (d:=d) (lk:=[]) (σ:=be) (t:=te) (k:=[119,111,114,100]) (w:=TJ) (W:=TJ) (.inl ⟨.inl ⟨rfl,.inr rfl⟩,rfl,rfl⟩) .nil).elim λbE a6=>?_
   have aw:=ay.pre a6.2;exact ag.cf (TD.cmp (.lo as) .s (TC.cmp rfl)) (ag.cons (TF.fh (.call (.gl rfl) (.c (.lo as) .n) a6.1) (ug aw.TM f.Wm) (.lo f.r3) (S2.put aw.TM.pr aw.p rfl)) (ag.nil (ag.cons (TF.aP rfl (.bin (.lo f.r3) (.lo f.Wk) TC.fg)) (ag.nil (tg (k+aD) _ (seg++[(te,iq p1 k)]) (g+1) (hm aj) f.line (aw.sI (hQ u (fC (Nat.add_lt_add_left am 900) J)) (g7 aJ J)) (vn c ai) (u2 s.2 o) (a7 _) (e2 (jU k TJ p1) (hm u)) λa b ab=>by rw[lE];exact n _ _ (g9.mono (g9.put c aJ ab) (u4 am)))))))
  .refine ag.bA (TD.cmp (.lo as) .s (TC.cmp rfl)) ?_
   cases l:bM p1 k with
   |true=>
    rw[l]at ar;exact ag.bA (TD.UT (o:=true) (.lo ar)) (ag.nil (ag.nil (ag.cons (TF.aP rfl (.bin (.lo f.r3) (.lo f.Wk) TC.fg)) (ag.nil (tg (k+aD) _ (seg++[([],iq p1 k)]) (g+1) (hm aj) f.line ay (vn c ai) (u2 s.2 o) (a7 _) (e2 u (jr _)) λa b ab=>by rw[lE];exact n _ _ (g9.mono (g9.skip c e l ab) (e2 (jr _) (u4 am))))))))
   |false=>
    rw[l]at ar;exact ag.cf (TD.UT (o:=false) (.lo ar)) (ag.re (.tu (.c (.lo f.r1) (.c (.lo f.r2) .n)) (eW rfl)) (fin a2 (n _ _ (.stop c e l)) ay))
 .refine s9 ak λk p1 seg g aj R A c o v u n=>?_
  have e:k<=1100:=g7 (u1 ap o) J;have m:seg.length<=3:=e2 v ap;have bm:g<=t+6:=e2 aj (hH ap (t+3));have A2:=A.zK (e:=iq p1 k);refine ag.cons (TF.ex (.cE rfl (.lo R.r2) (.c (zL R.r3 c e (A.pF R)) .n) (M2.append A.y (p9 (tl m rfl)) rfl))) (ag.cons (TF.ex (.cE rfl (.lo R.r1) (.c .s .n) (M2.append A2.x (p9 (tl m rfl)) rfl))) ?_);refine ag.Lb (λi ρ τ=>∃ (k:hA) (p1:TU) (seg:e0 (e0 e5×e0 e5)),AR X Y aD ρ k/\UF σ pt st X Y sh ft hs oc τ g p1 (fT k0 aD::(seg++[([],iq p1 k)]:e0 (e0 e5×e0 e5)).map (λq=>q.1)) (kD::(seg++[([],iq p1 k)]:e0 (e0 e5×e0 e5)).map (λq=>q.2))/\0<=k/\k<=1100/\(i:hA)=1100 -k/\seg.length+i<=1200/\∀ a b,g9 aD 0 p1 k a b->g9 aD 3 p k0 (seg++a) b) (1100 -k).toNat
   (xK k p1 seg R A2.zM c e (tC (sE e)) (UZ m c) λa b ab=>n a b (ab.mono (hq _))) λi ρ τ ak C bh bi=>?_
  clear A A2 R aj c o v u n m e;refine D9 ak λk p1 seg R A c o v u n=>?_;cases l:bM p1 k with
  |false=>exact bh _ (l▸A.pF R) (ag.re (.tu (.c (.lo R.r1) (.c (.lo R.r2) .n)) (eW rfl)) (fin bm (n _ _ (.stop c o l)) A))
  |true=>
   have hk:k<=1000:=(l7.mp l).elim λr bo=>A.ky _ (dG bo);have j:AR X Y aD (aB ρ 18 (.int (k+aD))) (k+aD):=R.line;have e:k+aD<=1100:=g7 (qj hk s.2) J;have A2:=A.zK (e:=iq p1 (k+aD));have m:(seg++[([],iq p1 k)]).length<=2000:=by rw[hg];exact e2 (hm (mI u)) J
   refine bi _ (l▸A.pF R) (ag.cons (TF.aP rfl (.bin (.lo R.r3) (.lo R.Wk) TC.fg)) (ag.cons (TF.ex (.cE rfl (.lo j.r2) (.c (zL j.r3 (vn c ai) e (A.pF j)) .n) (M2.append A.y (p9 m) rfl))) (ag.cons (TF.ex (.cE rfl (.lo j.r1) (.c .s .n) (M2.append A2.x (p9 m) rfl))) (ag.nil ⟨(1100 -(k+aD)).toNat,u6 v e s.1,xK (k+aD) p1 (seg++[([],iq p1 k)]) j A2.zM (vn c ai) e (tC (sE e)) (by rw[hg];exact Vg u (u6 v e s.1)) λa b ab=>by rw[lE];exact n _ _ (.skip c o l ab)⟩))))
end
end
variable{a:TU}
section
set_option backward.match.sparseCases false
structure Sm (a b:TU):Prop where
 na:(a.map (λq=>q.1)).Nodup
 nb:(b.map (λq=>q.1)).Nodup
 lk:∀ k,a.lookup k=b.lookup k
theorem ir (hn:(a.map (λq=>q.1)).Nodup):a.lookup k=some r↔(k,r)∈a:=
 ⟨λh=>dG h,λh=>kI hn h⟩
theorem fU:(a.lookup k).isSome↔k∈a.map (λq=>q.1):=by
 constructor
 .intro h
  refine av (l7.mp h) λr h=>?_;exact kK (f:=(λq=>q.1)) (dG h)
 .intro h
  refine ah (lookup_mem h) λr b c=>?_;rw[b];rfl
theorem oS (h:(a.map (λq=>q.1)).Nodup):a.Nodup:=Sa (λh b=>h (by rw[b])) (Hp.mp h)
theorem Sm.perm (h:Sm a b):a.Perm b:=by
 refine(List.perm_ext_iff_of_nodup (oS h.na) (oS h.nb)).mpr λq=>?_;obtain⟨k,r⟩:=q;rw[<-ir h.na,<-ir h.nb,h.lk]
theorem Sm.zP{b:TU}(h:a.Perm b)(hn:(a.map (λq=>q.1)).Nodup):Sm a b:=by
 have d:(b.map (λq=>q.1)).Nodup:=(h.map (λq=>q.1)).nodup_iff.mp hn;refine⟨hn,d,λk=>?_⟩;cases c:b.lookup k with
 |some r=>exact(ir hn).mpr (h.mem_iff.mpr ((ir d).mp c))
 |none=>
  cases e:a.lookup k with
  |none=>rfl
  |some r=>rw[(ir d).mpr (h.mem_iff.mp ((ir hn).mp e))]at c;cases c
theorem Sm.symm (h:Sm a b):Sm b a:=⟨h.nb,h.na,λk=>(h.lk k).symm⟩
theorem Sm.trans (h:Sm a b)(h':Sm b c):Sm a c:=⟨h.na,h'.nb,λk=>(h.lk k).trans (h'.lk k)⟩
theorem Sm.refl (h:(a.map (λq=>q.1)).Nodup):Sm a a:=⟨h,h,λb=>rfl⟩
theorem Sm.len (h:Sm a b):a.length=b.length:=h.perm.length_eq
theorem Sm.keys (h:Sm a b):an a=an b:=
 kR ((dk _).trans ((h.perm.map (λq=>q.1)).trans (dk _).symm)) (ix _) (ix _)
theorem Sm.within (h:Sm a b) x y:Mine.Internal.within a x y=Mine.Internal.within b x y:=by unfold Mine.Internal.within;rw[h.keys]
theorem Sm.bj (h:Sm a b) k:Mine.Internal.bj a k=Mine.Internal.bj b k:=by unfold Mine.Internal.bj;rw[h.lk]
theorem Sm.rows (h:Sm a b) x y:(Mine.Internal.within a x y).map (Mine.Internal.bj a)=(Mine.Internal.within b x y).map (Mine.Internal.bj b):=by
 rw[h.within];exact Fl λk c=>h.bj k
theorem Sm.has (h:Sm a b) k:bM a k=bM b k:=by unfold bM;rw[h.lk]
theorem Sm.wV (h:Sm a b) x y:fk a x y=fk b x y:=by
 unfold fk iQ;rw[h.keys];congr 1;funext i k;rw[h.lk]
theorem Sm.ok (h:Sm a b)(p:eK a):eK b:=by
 have d:=h.perm;refine⟨⟨by rw[<-h.len];exact p.ok.len,λq c=>p.ok.row q (d.mem_iff.mpr c),h.nb⟩,λq c=>p.tx q (d.mem_iff.mpr c)⟩
theorem hG j q (a:TU):mH j (q::a)=if j=q.1 then some q.2 else a.lookup j:=by
 obtain⟨k,r⟩:=q;rw[hL];by_cases b:j=k
 .subst b;simp
 .have:(j==k)=false:=by simpa using b
  rw[this];simp[b]
theorem lh k r j a:(b3 a k r).lookup j=if j=k then some r else a.lookup j:=by
 induction a with
 |nil=>rw[b3,hG]
 |cons q a e=>
  by_cases c:q.1=k
  .rw[b3,hz c,hG,hG,c]
   by_cases b:j=k
   .rw[hz b,hz b]
   .rw[hb b,hb b,hb b]
  .rw[b3,hb c,hG,hG,e]
   by_cases b:j=k
   .rw[hb λd:j=q.1=>c (d.symm.trans b),hz b,hz b]
   .rw[hb b,hb b]
theorem lj (h:(a.map (λq=>q.1)).Nodup):((b3 a k r).map (λq=>q.1)).Nodup:=by
 induction a with
 |nil=>exact .cons (λe h=>nomatch h) .nil
 |cons q a c=>
  rw[iO,ku]at h;by_cases b:q.1=k
  .rw[b3,hz b,iO,ku,<-b];exact h
  .rw[b3,hb b,iO,ku]
   refine⟨λd=>?_,c h.2⟩;have:=fU.mpr d;rw[lh,hb b]at this;exact h.1 (fU.mp this)
theorem Sm.put (h:Sm a b) k r:Sm (b3 a k r) (b3 b k r):=⟨lj h.na,lj h.nb,λj=>by rw[lh,lh,h.lk]⟩
theorem q7 (h:(a.map (λq=>q.1)).Nodup):((a.filter f).map (λq=>q.1)).Nodup:=RS (Bh _ (xo ..)) h
theorem Sm.Lg (h:Sm a b) f:Sm (a.filter f) (b.filter f):=Sm.zP (h.perm.filter f) (q7 h.na)
theorem Sm.del (h:Sm a b) k:Sm (cQ a k) (cQ b k):=h.Lg _
theorem Sm.Lh (h:Sm a b)(L:e0 hA):Sm (L.foldl cQ a) (L.foldl cQ b):=by rw[ei,ei];exact h.Lg _
theorem jV j q p (hn:(q.map (λq=>q.1)).Nodup):(bw p q).lookup j=(q.lookup j).or (p.lookup j):=by
 induction q generalizing p with
 |nil=>rfl
 |cons x q b=>
  rw[iO,ku]at hn;show(bw (b3 p x.1 x.2) q).lookup j=_;rw[b _ hn.2,lh,hG];by_cases a:j=x.1
  .have:q.lookup j=none:=by
    cases h:q.lookup j with
    |none=>rfl
    |some r=>exact iv (fU.mp (by rw[h];rfl)) (a▸hn.1)
   rw[this,hz a,hz a];rfl
  .rw[hb a,hb a]
theorem qa (h:(p.map (λq=>q.1)).Nodup):((bw p q).map (λq=>q.1)).Nodup:=by
 induction q generalizing p with
 |nil=>exact h
 |cons x q a=>exact a (lj h)
theorem Sm.merge{p q:TU}(h:Sm a b)(h2:Sm p q):Sm (bw a p) (bw b q):=
 ⟨qa h.na,qa h.nb,λj=>by rw[jV j _ _ h2.na,jV j _ _ h2.nb,h.lk,h2.lk]⟩
theorem zQ p j l (h:∀ k∈l,k∈p.map (λq=>q.1)):(pick p l).lookup j=if j∈l then p.lookup j else none:=by
 induction l with
 |nil=>rfl
 |cons k l b=>
  have h':=gx.mp h;show mH j ((k,(p.lookup k).getD [])::pick p l)=_;rw[hG,b h'.2];by_cases a:j=k
  .refine ah (lookup_mem h'.1) λr c d=>?_
   rw[hz a,a,hz (.head _),c];rfl
  .rw[hb a]
   by_cases m:j∈l
   .rw[hz m,hz (.tail _ m)]
   .rw[hb m,hb λq:j∈k::l=>m ((hr.mp q).resolve_left a)]
theorem sL (h:(a.map (λq=>q.1)).Nodup):Sm (eL a) a:=by
 refine⟨?_,h,λj=>?_⟩
 .rw[jK];exact(dk _).nodup_iff.mpr h
 .rw[eL,zQ a j (an a) λk hk=>i9.mp hk]
  by_cases b:j∈an a
  .rw[hz b]
  .rw[hb b]
   cases c:a.lookup j with
   |none=>rfl
   |some r=>exact iv (i9.mpr (fU.mp (by rw[c];rfl))) b
theorem Sm.Li (h:Sm a b):∀ q∈a,b.lookup q.1=some q.2:=λq c=>by
 rw[<-h.lk];exact(ir h.na).mpr c
theorem Sm.Qw (h:Sm a b)(c:n≠m)(e:σ[n]?=some (.dict (aE a)))(d:σ[m]?=some (.dict (aE b)))(f:v=.none\/∃ i,v=.int i):su σ (.tup [.h n,v]) (.tup [.h m,v]):=.tup c e d h.len h.Li f
end
section
set_option backward.match.sparseCases false
noncomputable abbrev ll:e0 Nat:=[83,65,86,69]
noncomputable abbrev oU:e0 Nat:=[108,111,97,100]
noncomputable abbrev jN:e0 Nat:=[77,69,82,71,69]
noncomputable abbrev jn:e0 Nat:=[75,73,76,76]
noncomputable abbrev zR:e0 Nat:=[63,70,70,32,69,114,114,111,114]
noncomputable def U7 (n:e0 e5):Prop:=n=[70]\/n=[71]
noncomputable def Xl (τ:H)(ft:e0 (Key×V))(n:e0 e5):gN TU->Prop
 |none=>atK ft (.str n)=none
 |some q=>∃ m,atK ft (.str n)=some (.h m)/\τ[m]?=some (.dict (aE q))/\bK q/\29<=m
inductive wW (σ ae:H)(p:TU)(sh:e0 (e0 e5))(ft:e0 (Key×V))(n:e0 e5)(VO:gN TU):e0 e5->TU->e0 (e0 e5)->e0 (Key×V)->Prop
 |save {m:e5}:jM σ ae->σ.length<=m->ae[m]?=some (.dict (aE p))->wW σ ae p sh ft n VO ll p sh (putK ft (.str n) (.h m))
 |bad {w:e0 e5}:VO=none->w=oU\/w=jN\/w=jn->wW σ ae p sh ft n VO w p (sh++[zR]) ft
 |kill {q:TU}:VO=some q->wW σ ae p sh ft n VO jn p sh (fc ft (.str n))
 |load {q:TU}:VO=some q->wW σ ae p sh ft n VO oU q sh ft
 |merge {q:TU}:VO=some q->wW σ ae p sh ft n VO jN (bw p q) sh ft
noncomputable def TL (n tl:e0 e5):Prop:=tl=[32]++n\/tl=[32,34]++n++[34]
section
variable{z:Z}{F:Fm}{st:e5}{b:X}
theorem sM (h:Tw τ pt st p sh ft hs oc)(hx:TB z F ρ τ b (.h 4) τ):TB z F ρ τ (.sub b (.s zD)) (.h 6) τ:=.sub hx .s (T9.dict (key:=.str zD) rfl h.TM rfl)
theorem Tw.zS (h:Tw τ pt st p sh ft hs oc):Tw (τ.set 6 (.dict c)) pt st p sh c hs oc:=by
 have b:=h.cF;have a:=h.hst;exact⟨bv h.TM J,bv h.pr (by exact(Up b rfl).symm),bv h.sh (by exact(Up a rfl).symm),dK h.tf,bv h.th J,b,a,h.hne⟩
theorem Tw.zT (h:Tw τ pt st p sh ft hs oc):Tw (τ.set 8 (.list hs')) pt st p sh ft hs' oc:=by
 have b:=h.cF;have a:=h.hst;exact⟨bv h.TM J,bv h.pr (by exact(Up b rfl).symm),bv h.sh (by exact(Up a rfl).symm),bv h.tf J,dK h.th,b,a,h.hne⟩
theorem BR (p:TU):(aE p).map (λq=>V.tup [q.1.v,q.2])=p.map λq=>.tup [.int q.1,.str q.2]:=by simp[aE,Key.v]
theorem zU (hn:F.c.hn=none)(hx:TB z F ρ τ b (.h n) τ)(e:τ[n]?=some (.dict (aE q)))(a:q.length<64):TB z F ρ τ (.lits x y b) (.h τ.length) (τ++[.list (q.map λq=>.tup [.int q.1,.str q.2])]):=by
 have:=TB.lits (y:=y) (x:=x) hn hx e (wD (gB a) rfl);rwa[BR]at this
theorem lM (hn:F.c.hn=none)(hx:TB z F ρ τ b (.h n) τ)(e:τ[n]?=some (.dict (aE q)))(a:bK q):TB z F ρ τ (.bi 29 (.c (.lits x y b) .n)) (.h (τ++[TH.list (q.map λq=>.tup [.int q.1,.str q.2])]).length) (τ++[.list (q.map λq=>.tup [.int q.1,.str q.2])]++[.dict (aE q)]):=
 .bi rfl (.c (zU hn hx e a.len) .n) (B1.q6 hn bc (fm q) a.nd (tl (gB a.len) rfl))
theorem U7.of (h:v<2):∃ a,U7 [a]/\([70,71]:e0 e5)[v]?=some a:=by
 rcases l2 h with rfl|rfl
 .exact⟨70,.inl rfl,rfl⟩
 .exact⟨71,.inr rfl,rfl⟩
theorem vq{w:e0 e5}(n:w.length<=10)(hf:Uy τ (t+2))(o:t<=90000)(m:ρ.lookup 201=some (.h 3))(l:ρ.lookup 62=some (.str w))(b:ρ.lookup 31=some (.str [c]))(K:∀ tl ae,TL [c] tl->Md [3] τ ae->Uy ae (t+3)->Q (.ret (.str (w++tl))) ρ ae):ag z ⟨⟨[],[],none⟩,Fy.sc,d+1⟩ ρ τ (.c (.re (.bin .Add (.lo 62) (.sub (.li (.c (.bin .Add (.s [32]) (.lo 31)) (.c (.bin .Add (.bin .Add (.s [32,34]) (.lo 31)) (.s [34])) .n))) (.call (.gl 206) (.c (.lo 201) (.c (.i (2)) .n)))))) s) Q:=by
 have g:τ<+:τ++[TH.list [.str ([32]++[c]),.str ([32,34]++[c]++[34])]]:=e1 ..;refine jL (z:=z) (d:=d) (many:=2) (hf.pre g) (ta o rfl) J J λv' ae e w' f j=>?_;refine(Wf (P:=λtl=>TL [c] tl/\tl.length<=10) (l:=[[32]++[c],[32,34]++[c]++[34]]) e (zb ⟨.inl rfl,eW rfl⟩ ⟨.inr rfl,eW rfl⟩)).elim λtl a=>?_;exact ag.re (.bin (.lo l) (.sub (.li (.c (.bin .s (.lo b) (TC.cD (eW rfl))) (.c (.bin (.bin .s (.lo b) (TC.cD (eW rfl))) .s (TC.cD (eW rfl))) .n)) (eW rfl)) (.call (.gl rfl) (.c (.lo m) (.c .i .n)) w') (T9.list (f.get bc (cP (hj hf.lt))) a.2 (hO e J))) (TC.UL n a.1.2 rfl)) (K tl ae a.1.1 ((Md.aK g).trans f (λk h k=>h)) j)
noncomputable abbrev dQ (p:TU):e0 V:=p.map λq=>.tup [.int q.1,.str q.2]
theorem B1.Gl (hn:F.c.hn=none)(a:bK p)(b:bK q)(e:σ[n]?=some (.list (dQ p++dQ q))):B1 z F .dict [.h n] σ (.h σ.length) (σ++[.dict (aE (bw p q))]):=by
 have h:=B1.nY (z:=z) hn e (by rw[<-pl];exact fm (p++q)) (wD (hg▸kl (gB a.len) (gB b.len)) rfl);have c:bw [] (p++q)=bw p q:=by
  have:=oQ p [] a.nd (λd d=>h6);unfold bw at this ⊢;rw[List.foldl_append,this];rfl
 rw[show putAll [] (aE (p++q))=aE (bw [] (p++q))from j9 (p++q) [],c]at h;exact h
theorem Qx{T6:e0 e5->gN TU}(h:Tw σ pt st p sh ft hs oc)(aP:29<=σ.length)(hf:Uy σ t)(s:t<=90000)(y:bK p)(aV:sh.length<=100000)(aL:∀ f,U7 f->Xl σ ft f (T6 f))(aD:ft.length<=1000)(a2:∀ f m,atK ft (.str f)=some (.h m)->m≠pt/\m≠st)(K:∀ w f tl aw as aA ae,U7 f->TL f tl->wW σ ae p sh ft f (T6 f) w aw as aA->TK z (d+2) none [] 88 [.h 3,.h 4] σ (.str (w++tl)) ae->TR σ pt st ae (t+3) aw as aA hs oc->C):C:=by
 have ay:σ<+:σ++[TH.list [.str ll,.str oU,.str jN,.str jn]]:=e1 ..;refine jL (z:=z) (d:=d) (many:=4) (hf.pre ay) (tl s rfl) J J λv1 U au aN ax f1=>?_;refine jL (z:=z) (d:=d) (many:=2) f1 (ta s rfl) J J λa1 S aq w2 aY Us=>?_;refine(Wf (P:=λw=>(w=ll\/w≠ll/\(w=jn\/w≠jn/\(w=oU\/w=jN)))/\w.length<=10) (l:=[ll,oU,jN,jn]) au (J6 ⟨.inl rfl,by decide⟩ ⟨.inr ⟨by decide,.inr ⟨by decide,.inl rfl⟩⟩,by decide⟩ ⟨.inr ⟨by decide,.inr ⟨by decide,.inr rfl⟩⟩,by decide⟩ ⟨.inr ⟨by decide,.inl rfl⟩,by decide⟩)).elim λw g=>?_;refine(U7.of aq).elim λc v=>?_;have Uv:Md [3] σ S:=((Md.aK ay).trans ax (λam h am=>h)).trans aY (λi h am=>h);have a:=h.draw Uv;have ap:=h.lt;have ai:=g.1.2;refine sw.of0 (z:=z) (k:=88) (args:=[.h 3,.h 4]) [(207,.h 4),(201,.h 3)] rfl (ag.cons (TF.mx rfl (.c (.sub (.li (.c .s (.c .s (.c .s (.c .s .n)))) (eW rfl)) (.call (.gl rfl) (.c (.lo rfl) (.c .i .n)) aN) (T9.list (ax.get bc (cP (hj hf.lt))) g.2 (hO au J))) (.c (.sub .s (.call (.gl rfl) (.c (.lo rfl) (.c .i .n)) w2) (T9.str v.2 (hO aq J))) .n)) (by exact λam=>⟨rfl,rfl⟩)) ?_);have ab:Md [3,pt,st,4,6,8] σ S:=Uv.mono (pD (.head _));rcases g.1.1 with rfl|⟨aO,g⟩
 .have l:S<+:S++[TH.list (dQ p)]++[TH.dict (aE p)]:=(e1 ..).trans (e1 ..)
  have n:=a.pre l;have u:=e2 Uv.1 (jG (t:=[TH.list (dQ p)]));have aJ:∀ {i},i<9->(S++[TH.list (dQ p)]).length≠i:=λhi=>hj (fC hi (e2 ap.1 u));refine ag.cf (TD.cmp (.lo (v:=.str ll) rfl) .s (TC.cmp rfl)) (ag.cons (TF.fh (lM rfl (jj a (.lo rfl)) a.pr y) (sM n (.lo rfl)) (.lo rfl) (S2.dict (key:=.str [c]) rfl n.tf (tl aD rfl) rfl)) (ag.nil ?_));exact vq ai ((Us.pre l).md Md.set J J) s rfl rfl rfl λtl ae k b j w=>K ll [c] tl _ _ _ ae v.1 k (.save (jM.of (b.get n.zS.TM J) ap.2.1) u (b.get (bv t8 (aJ J).symm) (cP (aJ J)))) w ⟨⟨_,_,n.zS.draw b,.inl rfl,.inl rfl⟩,j,((ab.trans (Md.aK (L:=[]) l) g4).trans Md.set (dU (.tail _ (.tail _ (.tail _ (.tail _ (.head _))))))).trans b (dU (.head _))⟩
 .have aa:=TC.ms (z:=z) (F:=⟨⟨[],[],none⟩,Fy.sc,d+1⟩) (key:=.str [c]) (b:=.str [c]) rfl a.tf
  have af:=aL [c] v.1;refine ag.bA (TD.cmp (.lo (v:=.str w) rfl) .s (TC.Uh rfl aO)) ?_;cases o:T6 [c]with
  |none=>
   rw[o]at af;rw[show atK ft (.str [c])=none from af]at aa;have ns:2≠st/\3≠st:=by have:=h.hst;exact uK this
   refine ag.cf (TD.cmp (.lo rfl) (sM a (.lo rfl)) aa) (ag.cons (TF.ex (.cE rfl (oP a (.lo rfl)) (.c .s .n) (M2.append a.sh (jh (tl aV rfl)) rfl))) (ag.nil (ag.nil ?_)));exact vq ai (Us.md Md.set (cP ns.1) (cP ns.2)) s rfl rfl rfl λtl ae k b j w'=>K w [c] tl _ _ _ ae v.1 k (.bad o (g.elim (λe=>.inr (.inr e)) λe=>e.2.imp id .inl)) w' ⟨⟨_,_,(a.mC zR).draw b,.inl rfl,.inl rfl⟩,j,(ab.trans Md.set (dU (.tail _ (.tail _ (.head _))))).trans b (dU (.head _))⟩
  |some q=>
   rw[o]at af;refine lA af λm ao ak x aK=>?_;rw[ao]at aa;refine ag.bA (TD.cmp (.lo rfl) (sM a (.lo rfl)) aa) ?_;rcases g with rfl|⟨aX,g⟩
   .refine ag.cf (TD.cmp (.lo (v:=.str jn) rfl) .s (TC.cmp rfl)) (ag.cons (TF.ex (.cE rfl (sM a (.lo rfl)) (.c (.lo rfl) .n) (M2.pop (key:=.str [c]) rfl a.tf (tl aD rfl) ao rfl))) (ag.nil (ag.nil (ag.nil ?_))))
    exact vq ai (Us.md Md.set J J) s rfl rfl rfl λtl ae k b j w'=>K jn [c] tl _ _ _ ae v.1 k (.kill o) w' ⟨⟨_,_,a.zS.draw b,.inl rfl,.inl rfl⟩,j,(ab.trans Md.set (dU (.tail _ (.tail _ (.tail _ (.tail _ (.head _))))))).trans b (dU (.head _))⟩
   .refine ag.bA (TD.cmp (.lo (v:=.str w) rfl) .s (TC.Uh rfl aX)) ?_
    have ak:=Uv.get ak (cP (hj (e2 J aK)));have a0:∃ r:TU×TU,r.1.length<=64/\(w=oU/\r=([],q)\/w=jN/\r=(p,bw p q)):=g.elim (λe=>⟨_,hq _,.inl ⟨e,rfl⟩⟩) λe=>⟨_,gB y.len,.inr ⟨e,rfl⟩⟩;refine a0.elim λr aj=>?_;have l:S<+:S++[TH.list (dQ r.1)]++[TH.list (dQ q)]++[TH.list (dQ r.1++dQ q)]++[TH.dict (aE r.2)]:=(((e1 ..).trans (e1 ..)).trans (e1 ..)).trans (e1 ..);have n:=a.pre l;have ar:=a.pre (υ:=S++[TH.list (dQ r.1)]) (e1 ..);have u:=e2 (e2 (e2 Uv.1 (jG (t:=[TH.list (dQ r.1)]))) (jG (t:=[TH.list (dQ q)]))) (jG (t:=[TH.list (dQ r.1++dQ q)]));have aQ:∀ {F:Fm},F.c.hn=none->B1 z F .dict [.h (S++[TH.list (dQ r.1)]++[TH.list (dQ q)]).length] (S++[TH.list (dQ r.1)]++[TH.list (dQ q)]++[TH.list (dQ r.1++dQ q)]) (.h (S++[TH.list (dQ r.1)]++[TH.list (dQ q)]++[TH.list (dQ r.1++dQ q)]).length) (S++[TH.list (dQ r.1)]++[TH.list (dQ q)]++[TH.list (dQ r.1++dQ q)]++[TH.dict (aE r.2)]):=λhn=>by
     rcases aj.2 with⟨_,rfl⟩|⟨_,rfl⟩
     .exact B1.q6 hn bc (fm q) x.nd (tl (gB x.len) rfl)
     .exact B1.Gl hn y x bc
    refine ag.cons (TF.aP rfl (v:=.h S.length) (U:=S++[TH.list (dQ r.1)]) ?_) (ag.cons (TF.fh (.bi rfl (.c (.bin (.lo rfl) (zU rfl (.sub (sM ar (.lo rfl)) (.lo rfl) (T9.dict (key:=.str [c]) rfl ar.tf ao)) (bf ak) x.len) (TC.rV (bf bc) bc (FK aj.1 (gB x.len) rfl))) .n) (aQ rfl)) (.lo rfl) .s (BL n rfl)) (ag.nil (ag.nil (ag.nil ?_))))
    .rcases aj.2 with⟨rfl,rfl⟩|⟨rfl,rfl⟩
     .exact .cf (.cmp (.lo (v:=.str oU) rfl) .s (TC.cmp rfl)) (.li .n (hq _))
     .exact .bA (.cmp (.lo (v:=.str jN) rfl) .s (TC.cmp rfl)) (zU rfl (jj a (.lo rfl)) a.pr y.len)
    .exact vq ai ((Us.pre l).md Md.set J J) s rfl rfl rfl λtl ae k b j w'=>K w [c] tl _ _ _ ae v.1 k (aj.2.elim (λe=>e.1▸e.2▸.load o) λe=>e.1▸e.2▸.merge o) w' ⟨⟨_,_,(n.lc t8 (e2 aP u) (hj (fC ap.2.2 u))).draw b,.inr u,.inl rfl⟩,j,((ab.trans (Md.aK (L:=[]) l) g4).trans Md.set (dU (.tail _ (.tail _ (.tail _ (.head _)))))).trans b (dU (.head _))⟩
end
end
section
set_option backward.match.sparseCases false
noncomputable def VF (n:hA):Prop:=n=100\/n=5\/n=1
noncomputable def Vy (n:hA):Prop:=n=10\/n=1\/n=0
theorem VF.b (h:VF n):0<=n/\n<=100:=by rcases h with rfl|rfl|rfl<;>decide
theorem Vy.b (h:Vy n):0<=n/\n<=10:=by rcases h with rfl|rfl|rfl<;>decide
theorem VF.z (h:VF n):n.natAbs<1000000000:=by rcases h with rfl|rfl|rfl<;>decide
theorem Vy.z (h:Vy n):n.natAbs<1000000000:=by rcases h with rfl|rfl|rfl<;>decide
theorem VF.s (h:VF n):(aG n).length<=100:=cK h.b.1 (g7 h.b.2 J)
theorem Vy.s (h:Vy n):(aG n).length<=100:=cK h.b.1 (g7 h.b.2 J)
theorem Vy.pos (h:Vy n)(a:n≠0):1<=n:=by rcases h with rfl|rfl|rfl<;>first|decide|exact iv rfl a
theorem un:pairsOf (((an p).mapIdx λi k=>(i,(p.lookup k).getD [])).map λq=>V.tup [.int (new+aD*(q.1:e5)),.str q.2])=some (aE (fk p new aD)):=by
 rw[<-fm];refine hC pairsOf (Jw ?_ λi b a=>?_)
 .simp[fk,iQ]
 .simp[fk,iQ,Pf]
theorem Gm{l:H}{k:e5}(h:l[k]?=some c):(σ++l)[σ.length+k]?=some c:=by rw[gO (hM ..),qh];exact h
theorem BU (i j:e5)(h:n8 i j=false):n+i≠n+j:=λa=>h9 h (Fb a)
theorem mE (hs:1<=s):((fk p new s).map (λq=>q.1)).Nodup:=by
 refine List.pairwise_iff_getElem.mpr λi j hi e b a=>?_;simp only[fk,iQ,Jx,List.getElem_mapIdx]at a;have c:(i:hA)*s=(j:hA)*s:=by exact Fq a
 have d:=zk (show s≠0 by exact ym hs) c;exact hc b (ny d)
inductive Gn (p:TU)(sh:e0 (e0 e5))(new aD:hA):TU->e0 (e0 e5)->Prop
 |bad:aD=0->Gn p sh new aD p (sh++[wR])
 |wV:1<=aD->Gn p sh new aD (fk p new aD) sh
section
variable{z:Z}{F:Fm}{st:e5}
theorem Qy (h:Tw σ pt st p sh ft hs oc)(aQ:29<=σ.length)(hf:Uy σ t)(au:t<=90000)(n:bK p)(aV:sh.length<=100000)(K:∀ a aD aw aq ae,VF a->Vy aD->Gn p sh a aD aw aq->TK z (d+2) none [] 89 [.h 3,.h 4] σ (.str ([82,69,78,85,77,32]++aG a++[44,44]++aG aD)) ae->TR σ pt st ae (t+2) aw aq ft hs oc->C):C:=by
 have aL:σ<+:σ++[TH.cell (some (V.h 4)),TH.cell none,TH.cell none]:=e1 ..;have y:σ++[TH.cell (some (V.h 4)),TH.cell none,TH.cell none]<+:σ++[TH.cell (some (V.h 4)),TH.cell none,TH.cell none]++[TH.list [.int 100,.int 5,.int 1]]:=e1 ..;have u:=hf.pre aL;refine jL (z:=z) (d:=d) (many:=3) (u.pre y) (tl au rfl) J J λv1 U as ay ai f1=>?_;have aa:U<+:U++[TH.list [.int 10,.int 1,.int 0]]:=e1 ..;refine jL (z:=z) (d:=d) (many:=3) (f1.pre aa) (ta au rfl) J J λaX af ao w2 ab f2=>?_;refine(WA (P:=VF) (l:=[100,5,1]) as (FL (.inl rfl) (.inr (.inl rfl)) (.inr (.inr rfl)))).elim λa b=>?_;refine(WA (P:=Vy) (l:=[10,1,0]) ao (FL (.inl rfl) (.inr (.inl rfl)) (.inr (.inr rfl)))).elim λaD c=>?_;have aP:=hf.lt;have f:∀ {i} k,i<=3->i≠σ.length+k:=λk hi=>hc (hQ hi (fC aP (hM ..)));have l:Md [3] (σ++[TH.cell (some (V.h 4)),TH.cell none,TH.cell none]) af:=(((Md.aK y).trans ai (λm h m=>h)).trans (Md.aK (L:=[]) aa) g4).trans ab (λi h m=>h);have s:af[σ.length+1]?=_:=l.get (Gm rfl) (cP (f 1 (e6 3)).symm);have aA:af[σ.length+2]?=_:=l.get (Gm rfl) (cP (f 2 (e6 3)).symm);have c1:=bv (m:=σ.length+2) (b:=.cell (some (.int aD))) (bv (m:=σ.length+1) (b:=.cell (some (.int a))) (l.get (Gm (k:=0) rfl) (cP (f 0 (e6 3)).symm)) (BU 1 0 rfl)) (BU 2 0 rfl);have c2:=bv (m:=σ.length+2) (b:=.cell (some (.int aD))) (dK (b:=.cell (some (.int a))) s) (BU 2 1 rfl);have x:=bv (m:=σ.length+1) (b:=.cell (some (.int a))) aA (BU 1 2 rfl);have c3:=dK (b:=.cell (some (.int aD))) x;have Uv:Md [3] σ ((af.set (σ.length+1) (.cell (some (.int a)))).set (σ.length+2) (.cell (some (.int aD)))):=(((Md.aK aL).trans l (λi h m=>h)).trans Md.set (zc (hM ..))).trans Md.set (zc (hM ..));have Us:=(f2.md (Md.set (n:=σ.length+1) (c:=.cell (some (.int a)))) (cP (f 1 J)) (cP (f 1 J))).md (Md.set (n:=σ.length+2) (c:=.cell (some (.int aD)))) (cP (f 2 J)) (cP (f 2 J));refine sw.jm (z:=z) (k:=89) (args:=[.h 3,.h 4]) [(207,σ.length),(41,σ.length+1),(217,σ.length+2)] [(201,.h 3)] (σ++[TH.cell (some (V.h 4)),TH.cell none,TH.cell none]) rfl (ag.cons (TF.lT (.tu (.c (.sub (.li (.c .i (.c .i (.c .i .n))) (eW rfl)) (.call (.gl rfl) (.c (.lo rfl) (.c .i .n)) ay) (T9.list (ai.get bc (cP (hj u.lt))) b.2 (hO as J))) (.c (.sub (.li (.c .i (.c .i (.c .i .n))) (eW rfl)) (.call (.gl rfl) (.c (.lo rfl) (.c .i .n)) w2) (T9.list (ab.get bc (cP (hj f1.lt))) c.2 (hO ao J))) .n)) (eW rfl)) (.tu rfl (.cons (.ce rfl s rfl) (.cons (.ce rfl x rfl) .nil))) (λm=>⟨_,.head _,.inr ⟨_,_,rfl,by decide,rfl⟩⟩)) ?_);replace b:=b.1;replace c:=c.1;clear f1 f2 ay w2 aa y u s aA x ai ab l;generalize(af.set (σ.length+1) (.cell (some (.int a)))).set (σ.length+2) (.cell (some (.int aD)))=S at*
 have g:=h.draw Uv;have ak:=h.lt;by_cases o:aD=0
 .have ns:∀ {i},i<=3->i≠st:=λhi=>hc (hQ hi (by have:=h.hst;exact HP this))
  have aJ:∀ k,st≠σ.length+k:=λk=>hc (fC ak.2.2 (hM ..));refine ag.cf (TD.cmp (.ce rfl c3) .i (TC.Uw rfl o)) (ag.cons (TF.ex (.cE rfl (oP g (.ce rfl c1)) (.c .s .n) (M2.append g.sh (jh (tl aV rfl)) rfl))) (ag.nil ?_));exact ag.re (.bin (.bin (.bin .s (.bi rfl (.c (.ce rfl (bv c2 (aJ 1))) .n) (B1.str b.z)) (TC.UL (e6 6) b.s rfl)) .s (TC.UL (jH (e6 6) b.s) (e6 2) rfl)) (.bi rfl (.c (.ce rfl (bv c3 (aJ 2))) .n) (B1.str c.z)) (TC.UL (jH (jH (e6 6) b.s) (e6 2)) c.s rfl)) λw=>K a aD _ _ _ b c (.bad o) w ⟨⟨_,_,g.mC wR,.inl rfl,.inl rfl⟩,Us.md Md.set (cP (ns J)) (cP (ns J)),(Uv.mono (pD (.head _))).trans Md.set (dU (.tail _ (.tail _ (.head _))))⟩
 .have ax:=c.pos o
  have aj:(an p).length<64:=bP p▸n.len;have aN:=g.pre (e1 S [TH.list ((an p).map V.int)]);have e:S<+:S++[TH.list ((an p).map V.int)]++[TH.list ((an p).map λk=>.str ((p.lookup k).getD []))]:=(e1 ..).trans (e1 ..);have aK:=g.pre e;have ar:=t8 (S:=S) (x:=TH.list ((an p).map V.int)) (y:=TH.list ((an p).map λk=>.str ((p.lookup k).getD [])));have v:=e2 (e2 Uv.1 e.length_le) (jG (t:=[TH.list (((an p).mapIdx λi k=>(i,(p.lookup k).getD [])).map λq=>V.tup [.int (a+aD*(q.1:e5)),.str q.2])]));refine ag.bA (TD.cmp (.ce rfl c3) .i (TC.Uh rfl o)) (ag.cons (TF.FQ (I:=.list S.length) (α:=hA) (el:=V.int) (f:=λk=>.str ((p.lookup k).getD [])) (L:=an p) (U:=S++[TH.list ((an p).map V.int)]) (Ug.list rfl (.bi rfl (.c (jj g (.ce rfl c1)) .n) (B1.sorted rfl g.pr p8 ((g0 _).symm▸n.len))) bc) rfl rfl rfl (tl (gB aj) rfl) (λi am=>FS (bf bc) i) λk am ρ hk=>?_) ?_)
  .refine(n.key hk).2.2.elim λaY q=>⟨_,.lo,?_⟩
   rw[q.1];exact .sub (jj (aN.pre (e1 ..)) (.fr rfl (bf (bf c1)))) (.lo (v:=.int k) bu) (T9.dict (key:=.int k) rfl (bf aN.pr) (FJ q.1))
  .generalize S++[TH.list ((an p).map V.int)]++[TH.list ((an p).map λk=>V.str ((p.lookup k).getD []))]=R at*
   have c1:=aR e c1;have c2:=aR e c2;have c3:=aR e c3;have j:R<+:R++[TH.list (((an p).mapIdx λi k=>(i,(p.lookup k).getD [])).map λq=>V.tup [.int (a+aD*(q.1:e5)),.str q.2])]++[TH.dict (aE (fk p a aD))]:=(e1 ..).trans (e1 ..);refine ag.cons (TF.fh (.bi rfl (.c (TB.oG (I:=.enum (S++[TH.list ((an p).map V.int)]).length) (α:=e5×e0 e5) (el:=λq=>.tup [.int q.1,.str q.2]) (f:=λq=>.tup [.int (a+aD*(q.1:e5)),.str q.2]) (L:=(an p).mapIdx λi k=>(i,(p.lookup k).getD [])) (U:=R) (Ug.enum rfl rfl (.lo bu) ar) rfl rfl rfl (List.length_mapIdx.symm▸tl (gB aj) rfl) ?_ ?_) .n) (B1.q6 rfl bc un (mE ax) (by rw[fk,lY,bP];exact tl (gB n.len) rfl))) (.ce rfl (aR j c1)) .s (BL (aK.pre j) rfl)) (ag.nil ?_)
   .intro i am
    rw[uc (bf ar)];simp only[jb,List.getElem?_mapIdx,Option.map_map,sj]
   .intro q am ρ aO
    obtain⟨i,hi,rfl⟩:=Dv.mp aO;exact⟨_,.tu rfl (.cons .lo (.cons .lo .nil)),.tu (.c (.bin (.fr rfl (bf c2)) (.bin (.fr rfl (bf c3)) (.lo (v:=.int i) (aM rfl bu)) (TC.se (hO c.z J) (hO hi (hO aj J)))) TC.fg) (.c (.lo bu) .n)) (eW rfl)⟩
   .have ap:∀ k,4≠σ.length+k:=λk=>hc (fC (fC J ak.1) (hM ..))
    exact ag.re (.bin (.bin (.bin .s (.bi rfl (.c (.ce rfl (bv (aR j c2) (ap 1))) .n) (B1.str b.z)) (TC.UL (e6 6) b.s rfl)) .s (TC.UL (jH (e6 6) b.s) (e6 2) rfl)) (.bi rfl (.c (.ce rfl (bv (aR j c3) (ap 2))) .n) (B1.str c.z)) (TC.UL (jH (jH (e6 6) b.s) (e6 2)) c.s rfl)) λw=>K a aD _ _ _ b c (.wV ax) w ⟨⟨_,_,(aK.pre j).lc t8 (e2 aQ v) (hj (fC ak.2.2 v)),.inr v,.inl rfl⟩,((Us.pre e).pre j).md Md.set J J,((Uv.mono (pD (.head _))).trans (Md.aK (L:=[]) (e.trans j)) g4).trans Md.set (dU (.tail _ (.tail _ (.tail _ (.head _)))))⟩
end
end
variable{t w:e0 e5}{a p:hA}
section
set_option backward.match.sparseCases false
noncomputable def okN (t r:e0 e5):Bool:=decide (cnt iF (t.drop (cnt blank t))=0)&&decide (bg t (cnt blank t) t.length=r)&&decide (t.length<=1000)
theorem Vd.Lm (h:okN t r=true):Vd t .none r:=λz d σ=>by
 simp only[okN,hE,j8]at h;have:=Ka (z:=z) (d:=d) (lk:=[]) (σ:=σ) (t:=t) rfl h.1.1 (by lia) (q3 _ _);rwa[h.1.2]at this
noncomputable def Gq (t r:e0 e5)(k:hA):Bool:=
 decide (cnt blank t<cnt blank t+cnt iF (t.drop (cnt blank t)))&&(bg t (cnt blank t) ((cnt blank t+cnt iF (t.drop (cnt blank t)):e5):hA)).all iF&&decide (ji 0 (bg t (cnt blank t) ((cnt blank t+cnt iF (t.drop (cnt blank t)):e5):hA))=k)&&decide (k<=65529)&&
 decide ((if bg t ((cnt blank t+cnt iF (t.drop (cnt blank t)):e5):hA) ((cnt blank t+cnt iF (t.drop (cnt blank t))+1:e5):hA)=[32]then bg t ((cnt blank t+cnt iF (t.drop (cnt blank t))+1:e5):hA) t.length else bg t ((cnt blank t+cnt iF (t.drop (cnt blank t)):e5):hA) t.length)=r)&&decide (t.length<=1000)
theorem Vd.ofD (h:Gq t r k=true):Vd t (.int k) r:=λz d σ=>by
 simp only[Gq,hE,j8,hw]at h
 (refine az h ?_;clear h;intro e j;rcases e with⟨⟨⟨⟨c,g⟩,a⟩,f⟩,b⟩)
 have:=Kb (z:=z) (d:=d) (lk:=[]) (σ:=σ) (t:=t) rfl rfl (by exact tl j rfl) (q3 _ _) c b g (by rw[a];exact f);rwa[a]at this
noncomputable def Gr (t w r:e0 e5):Bool:=decide (t.length<=1000)&&t.all (λq=>q<128)&&decide ((aU [32] t).length<=1000)&&(aU [32] t).all (λq=>q<128)&&decide ((bg (aU [32] t) 0 (cnt letter (aU [32] t))).map up=w)&&decide (aU [32] (bg (aU [32] t) (cnt letter (aU [32] t)) (aU [32] t).length)=r)
theorem WP.of{r:e0 e5}(h:Gr t w r=true):WP t w r:=by
 simp only[Gr,hE,j8]at h;exact⟨h.1.1.1.1.1,h.1.1.1.1.2,h.1.1.1.2,h.1.1.2,h.1.2,h.2⟩
noncomputable def lP (t:e0 e5):gN hA->jW
 |none=>decide (aU [32] t=[])
 |some i=>decide (aU [32] t≠[])&&(aU [32] t).all iF&&decide (ji 0 (aU [32] t)=i)&&decide (i<=65529)
noncomputable def XO:gN hA->V
 |none=>.none
 |some i=>.int i
theorem TN.of (h:lP t v=true):TN t (XO v):=by
 cases v with
 |none=>exact .inl ⟨gf h,rfl⟩
 |some i=>
  have h:=Va (show(_&&_&&_&&_)=true from h);have a:=gf h.1.2;exact .inr ⟨gf h.1.1.1,hw.mp h.1.1.2,a▸gf h.2,a▸rfl⟩
noncomputable def zX (t:e0 e5)(i:hA):Bool:=decide ((bR 45 t).2.1=[])&&lP (bR 45 t).1 (some i)&&decide (t.length<=1000)
theorem Vc.Qz (h:zX t i=true):Vc t i i:=λz d σ=>by
 simp only[zX,hE,j8]at h;exact Kd h.1.1 (TN.of h.1.2) h.2 .nil
noncomputable def sN (t:e0 e5)(v u:gN hA):Bool:=decide ((bR 45 t).2.1=[45])&&lP (bR 45 t).1 v&&lP (bR 45 t).2.2 u&&decide (t.length<=1000)
theorem Vc.Gs{u:gN hA}(h:sN t v u=true):Vc t (v.getD 0) (u.getD 65529):=λz d σ=>by
 simp only[sN,hE,j8]at h;have:=Ke (z:=z) (d:=d) (lk:=[]) (σ:=σ) h.1.1.1 (TN.of h.1.1.2) (TN.of h.1.2) h.2 .nil;cases v<;>cases u<;>exact this
noncomputable def q8 (t w r:e0 e5):Bool:=okN t t&&Gr t w r
noncomputable abbrev V2:e0 Int:=[10,20,30,45,60]
theorem UA.mem (h:UA k):k∈V2:=by rcases h with rfl|rfl|rfl|rfl|rfl<;>decide
noncomputable abbrev BV:e0 Nat:=[76,73,83,84]
noncomputable abbrev zY:e0 Nat:=[68,69,76,69,84,69]
theorem zZ:∀ k∈V2,∀ a∈[TJ,te,tr,ts,[]],∀ b∈[[],[32,32]],Gq (b++aG k++[32]++a) a k=true:=by decide+kernel
theorem q9 (a:b=[]\/b=[32,32])(hk:UA k)(c:tx∈[TJ,te,tr,ts,[]]):Vd (b++aG k++[32]++tx) (.int k) tx:=
 .ofD (zZ k hk.mem tx c b (by rcases a with rfl|rfl<;>simp))
structure Uz (t w r:e0 e5):Prop where
 p:Vd t .none t
 w:WP t w r
theorem Uz.of (h:q8 t w r=true):Uz t w r:=by
 simp only[q8,hE]at h;exact⟨.Lm h.1,.of h.2⟩
noncomputable def wX (x:e0 e5):Bool:=q8 ([76,73,83,84,32]++x) BV x&&q8 ([100,101,108,101,116,101,32]++x) zY x&&decide (x≠[])
theorem l5:∀ a∈V2,(wX (aG a)&&zX (aG a) a&&(wX (aG a++[45])&&sN (aG a++[45]) (some a) none)&&(wX ([45]++aG a)&&sN ([45]++aG a) none (some a)))=true:=by decide+kernel
theorem wY:∀ a∈V2,∀ l∈V2,(wX (aG a++[45]++aG l)&&sN (aG a++[45]++aG l) (some a) (some l))=true:=by decide+kernel
theorem U5.facts{x:e0 e5}(h:U5 x a b hi):Vc x a b/\Uz ([76,73,83,84,32]++x) BV x/\Uz ([100,101,108,101,116,101,32]++x) zY x/\x≠[]:=by
 have d:∀ {x:e0 e5},wX x=true->Uz ([76,73,83,84,32]++x) BV x/\Uz ([100,101,108,101,116,101,32]++x) zY x/\x≠[]:=by
  intro x h;simp only[wX,hE,j8]at h;exact⟨.of h.1.1,.of h.1.2,h.2⟩
 cases h with
 |one c=>
  have h:=l5 _ c.mem;simp only[hE]at h;exact⟨.Qz h.1.1.2,d h.1.1.1⟩
 |BK c=>
  have h:=l5 _ c.mem;simp only[hE]at h;exact⟨Vc.Gs h.1.2.2,d h.1.2.1⟩
 |to c=>
  have h:=l5 _ c.mem;simp only[hE]at h;exact⟨Vc.Gs h.2.2,d h.2.1⟩
 |both c e=>
  have h:=wY _ c.mem _ e.mem;simp only[hE]at h;exact⟨Vc.Gs h.2,d h.1⟩
theorem z0:∀ a∈[[70],[71]],∀ w∈[(ll,ll),(oU,[76,79,65,68]),(jN,jN),(jn,jn)],(q8 (w.1++([32]++a)) w.2 a&&q8 (w.1++([32,34]++a++[34])) w.2 ([34]++a++[34]))=true:=by decide+kernel
theorem U7.at (h:U7 n){P:e0 e5->Prop}(a:P [70])(b:P [71]):P n:=h.elim (λc=>c▸a) λc=>c▸b
theorem U7.nm (h:U7 n):NM n n/\NM ([34]++n++[34]) n:=by
 rcases h with rfl|rfl<;>exact⟨λz d σ=>Ph J J J,λz d σ=>Kf (t:=[34,_,34]) J J J⟩
theorem TL.facts{tl:e0 e5}(hn:U7 n)(h:TL n tl)(a:(w,W)∈[(ll,ll),(oU,[76,79,65,68]),(jN,jN),(jn,jn)]):∃ r,Uz (w++tl) W r/\NM r n:=by
 have t:=z0 n (by rcases hn with rfl|rfl<;>simp) _ a;simp only[hE]at t;rcases h with rfl|rfl
 .exact⟨_,.of t.1,hn.nm.1⟩
 .exact⟨_,.of t.2,hn.nm.2⟩
noncomputable def Ln (t x y:e0 e5)(a b:hA):Bool:=lP x (some a)&&lP y (some b)&&decide (x.length<=100)&&decide (y.length<=100)&&decide (t.length<=100)
noncomputable def Lo (t:e0 e5)(a b:hA):Bool:=decide (br 44 t=[(br 44 t).headD [],[],(br 44 t).getLastD []])&&Ln t ((br 44 t).headD []) ((br 44 t).getLastD []) a b
theorem V0.of (h:Lo t a b=true):V0 t a b:=
 have q:=w2 h;have h:=Vv q.2
 ⟨gf h.2,_,_,gf q.1,TN.of h.1.1.1.1,TN.of h.1.1.1.2,gf h.1.1.2,gf h.1.2⟩
noncomputable def Lp (t:e0 e5)(a b:hA):Bool:=decide (br 44 t=[(br 44 t).headD [],(br 44 t).getLastD []])&&Ln t ((br 44 t).headD []) ((br 44 t).getLastD []) a b
theorem Wj.of (h:Lp t a b=true):Wj t a b:=
 have q:=w2 h;have h:=Vv q.2
 ⟨gf h.2,_,_,gf q.1,TN.of h.1.1.1.1,TN.of h.1.1.1.2,gf h.1.1.2,gf h.1.2⟩
noncomputable abbrev BW:e0 Nat:=[82,69,78,85,77]
noncomputable abbrev Gv:e0 Nat:=[65,85,84,79]
theorem z3:∀ a∈([100,5,1]:e0 hA),∀ p∈([10,1,0]:e0 hA),(q8 ([82,69,78,85,77,32]++aG a++[44,44]++aG p) BW (aG a++[44,44]++aG p)&&Lo (aG a++[44,44]++aG p) a p)=true:=by decide+kernel
theorem uo (hn:VF n)(a:Vy p):Uz ([82,69,78,85,77,32]++aG n++[44,44]++aG p) BW (aG n++[44,44]++aG p)/\V0 (aG n++[44,44]++aG p) n p:=by
 have t:=z3 n (by rcases hn with rfl|rfl|rfl<;>simp) p (by rcases a with rfl|rfl|rfl<;>simp);simp only[hE]at t;exact⟨.of t.1,.of t.2⟩
theorem z4:∀ k∈V2,∀ p∈([10,25]:e0 hA),(q8 (fT k p) Gv (aG k++[44]++aG p)&&Lp (aG k++[44]++aG p) k p)=true:=by decide+kernel
theorem uq (hk:UA k)(a:p=10\/p=25):Uz (fT k p) Gv (aG k++[44]++aG p)/\Wj (aG k++[44]++aG p) k p:=by
 have t:=z4 k hk.mem p (by rcases a with rfl|rfl<;>simp);simp only[hE]at t;exact⟨.of t.1,.of t.2⟩
noncomputable abbrev sO:e0 Nat:=[82,85,78]
theorem z5:∀ k∈V2,(q8 (sO++[32]++aG k) sO (aG k)&&lP (aG k) (some k))=true:=by decide+kernel
theorem oV (hk:UA k):Uz (sO++[32]++aG k) sO (aG k)/\TN (aG k) (.int k):=by
 have t:=z5 k hk.mem;simp only[hE]at t;exact⟨.of t.1,TN.of t.2⟩
theorem mF:Uz [114,117,110] sO []/\TN [] .none:=⟨.of (by decide+kernel),.inl ⟨rfl,rfl⟩⟩
theorem ur:Uz [78,101,119] [78,69,87] []:=.of (by decide+kernel)
theorem mG:Vd [32,32,115,116,111,112] .none ts/\WP ts Vj []:=⟨.Lm (by decide+kernel),.of (by decide+kernel)⟩
end
variable{xs ys:e0 (e0 hA)}{P' F' G N:e0 hA}
section
set_option backward.match.sparseCases false
theorem Gw{P:e0 hA}(hn:P.Nodup)(h:∀ k∈P,k∈L):P.length<=L.length:=by
 induction P generalizing L with
 |nil=>exact hq _
 |cons a P b=>
  rw[ku]at hn;have h':=gx.mp h;have b:=b (L:=L.erase a) hn.2 λk hk=>(List.mem_erase_of_ne (λc:k=a=>hn.1 (c▸hk))).mpr (h'.2 k hk);rw[List.length_erase_of_mem h'.1]at b;exact e2 (hm b) (iP (Ay (List.length_pos_of_mem h'.1)))
structure T5 where
 c:e5
 f:e5
 a:e5
 d:e5
 t:e5
noncomputable def T5.stp (s:T5):e0 T5:=[⟨s.c+3,s.f,s.a+3,s.d,s.t+3⟩,⟨s.c,s.f,s.c+s.f,s.d,s.c+s.d⟩,⟨s.c,max s.f s.c,s.a,s.a,s.a⟩,⟨s.f,s.f,max s.f s.d,s.d,s.d⟩,⟨s.a,s.f,s.t,s.d,s.t⟩]
noncomputable def T5.le (x y:T5):Bool:=decide (x.c<=y.c)&&decide (x.f<=y.f)&&decide (x.a<=y.a)&&decide (x.d<=y.d)&&decide (x.t<=y.t)
noncomputable def prune (l:e0 T5):e0 T5:=l.foldl (λa s=>if a.any (s.le ·) then a else s::a.filter (λx=>!x.le s)) []
noncomputable def fr:e5->e0 T5
 |0=>[⟨0,0,0,0,0⟩]
 |n+1=>prune ((fr n).flatMap T5.stp)
theorem BX:∀ a<11,((fr a).all λb=>b.stp.all λc=>(fr (a+1)).any (c.le ·))=true:=by decide+kernel
theorem BY:∀ b<12,((fr b).all λa=>decide (a.c<=60)&&decide (a.f<=60))=true:=by decide+kernel
noncomputable def UM (n:e5)(xs:e0 (e0 hA)):Prop:=∃ L:e0 hA,L.length<=n/\∀ x∈xs,∀ k∈x,k∈L
section
variable{n:e5}{P F:e0 hA}{s s':T5}
theorem UM.sub (h:UM n xs)(hn:n<=m)(hs:∀ y∈ys,∀ k∈y,∃ x∈xs,k∈x):UM m ys:=by
 refine ah h λL b a=>?_;refine⟨L,by exact e2 b hn,λy c k hk=>?_⟩;refine ah (hs y c k hk) λx hx hk=>?_;exact a x hx k hk
theorem UM.or (h:UM n xs)(h':UM m ys):UM (n+m) (xs++ys):=by
 refine ah h λL b a=>?_;refine ah h' λM d c=>?_;refine⟨L++M,by simp;exact kl b d,λx hx k hk=>?_⟩;rcases jd.mp hx with hx|hx
 .exact List.mem_append_left _ (a x hx k hk)
 .exact DY _ (c x hx k hk)
theorem UM.one (h:P.length<=n):UM n [P]:=⟨P,h,λx hx k hk=>by simp at hx;subst hx;exact hk⟩
theorem UM.len (h:UM n xs)(a:P∈xs)(hn:P.Nodup):P.length<=n:=by
 refine ah h λL b c=>?_;exact e2 (Gw hn (c P a)) b
structure sP (s:T5)(P F G:e0 hA):Prop where
 c:UM s.c [P]
 f:UM s.f [F]
 g:UM s.f [G]
 a:UM s.a [P,F]
 b:UM s.a [P,G]
 d:UM s.d [F,G]
 t:UM s.t [P,F,G]
theorem sP.swap (h:sP s P F G):sP s P G F:=
 ⟨h.c,h.g,h.f,h.b,h.a,h.d.sub (e6 _) (by intro y e k hk;simp at e ⊢;rcases e with rfl|rfl<;>simp[hk]),h.t.sub (e6 _) (by intro y e k hk;simp at e ⊢;rcases e with rfl|rfl|rfl<;>simp[hk])⟩
theorem sP.mono (h:sP s P F G)(hs:s.le s'=true):sP s' P F G:=by
 simp only[T5.le,hE,j8]at hs
 (refine az hs ?_;clear hs;intro p l;rcases p with⟨⟨⟨o,j⟩,e⟩,q⟩)
 have k:∀ {n m xs},UM n xs->n<=m->UM m xs:=λh hn=>h.sub hn λy u k hk=>⟨y,u,hk⟩;exact⟨k h.c o,k h.f j,k h.g j,k h.a e,k h.b e,k h.d q,k h.t l⟩
noncomputable def Uo (n:e5)(P F G:e0 hA):Prop:=∃ s∈fr n,sP s P F G
theorem Uo.swap (h:Uo n P F G):Uo n P G F:=rk (λs q=>⟨q.1,q.2.swap⟩) h
theorem Uo.nil:Uo 0 [] [] []:=by
 have k:∀ xs:e0 (e0 hA),(∀ x∈xs,x=[])->UM 0 xs:=λxs h=>⟨[],e6 _,λx hx k hk=>by rw[h x hx]at hk;simp at hk⟩;exact⟨_,.head _,k _ (by simp),k _ (by simp),k _ (by simp),k _ (by simp),k _ (by simp),k _ (by simp),k _ (by simp)⟩
theorem Uo.to (hn:n<11)(h:s∈fr n)(hs:s'∈s.stp)(a:sP s' P F G):Uo (n+1) P F G:=by
 have:=BX n hn;rw[hw]at this;have:=this s h;rw[hw]at this;refine ah (AP.mp (this s' hs)) λd c b=>?_;exact⟨d,c,a.mono b⟩
theorem Uo.len (h:Uo n P F G)(hn:n<=11)(a:P.Nodup):P.length<=60:=by
 refine ah h λs b c=>?_;have:=hw.mp (BY n (by exact Wa hn rfl)) s b;simp only[hE,j8]at this;exact e2 (c.c.len (by simp) a) this.1
theorem Uo.add (h:Uo n P F G)(hn:n<11)(e:N.length<=3)(d:∀ k∈P',k∈P\/k∈N):Uo (n+1) P' F G:=by
 refine ah h λs f a=>?_;refine .to hn f (.head _) ?_;have b:UM 3 [N]:=.one e;refine⟨(a.c.or b).sub (e6 _) ?_,a.f,a.g,(a.a.or b).sub (e6 _) ?_,(a.b.or b).sub (e6 _) ?_,a.d,(a.t.or b).sub (e6 _) ?_⟩
 all_goals
  intro y c k hk;simp at c ⊢
  first
  |(subst c;exact d k hk)
  |(rcases c with rfl|rfl
    .rcases d k hk with h|h<;>simp[h]
    .simp[hk])
  |(rcases c with rfl|rfl|rfl
    .rcases d k hk with h|h<;>simp[h]
    .simp[hk]
    .simp[hk])
theorem Uo.sub (h:Uo n P F G)(hn:n<11)(a:∀ k∈P',k∈P):Uo (n+1) P' F G:=h.add (N:=[]) hn (by simp) λk hk=>.inl (a k hk)
theorem Uo.wV (h:Uo n P F G)(hn:n<11)(d:P.Nodup)(e:P'.length<=P.length):Uo (n+1) P' F G:=by
 refine ah h λs c a=>?_;refine .to hn c (.tail _ (.head _)) ?_;have b:UM s.c [P']:=.one (e2 e (a.c.len (by simp) d));exact⟨b,a.f,a.g,b.or a.f,b.or a.g,a.d,b.or a.d⟩
theorem Uo.z6 (h:Uo n P F G)(hn:n<11)(c:∀ k∈F',k∈P):Uo (n+1) P F' G:=by
 refine ah h λs d a=>?_;refine .to hn d (.tail _ (.tail _ (.head _))) ?_;refine⟨a.c,a.c.sub (JA ..) ?_,a.g.sub (J5 ..) ?_,a.a.sub (e6 _) ?_,a.b,a.b.sub (e6 _) ?_,a.b.sub (e6 _) ?_⟩
 all_goals
  intro y b k hk;simp at b ⊢
  first
  |(subst b;first|exact c k hk|exact hk)
  |(rcases b with rfl|rfl
    .first|exact .inl (c k hk)|exact .inl hk
    .first|exact .inl (c k hk)|exact .inr hk)
  |(rcases b with rfl|rfl|rfl
    .exact .inl hk
    .exact .inl (c k hk)
    .exact .inr hk)
theorem Uo.z7 (h:Uo n P F G)(hn:n<11)(b:∀ k∈P',k∈F):Uo (n+1) P' F G:=by
 refine ah h λs d a=>?_;refine .to hn d (.tail _ (.tail _ (.tail _ (.head _)))) ?_;refine⟨a.f.sub (e6 _) ?_,a.f,a.g,a.f.sub (J5 ..) ?_,a.d.sub (JA ..) ?_,a.d,a.d.sub (e6 _) ?_⟩
 all_goals
  intro y c k hk;simp at c ⊢
  first
  |(subst c;exact b k hk)
  |(rcases c with rfl|rfl
    .first|exact b k hk|exact .inl (b k hk)
    .first|exact hk|exact .inr hk)
  |(rcases c with rfl|rfl|rfl
    .exact .inl (b k hk)
    .exact .inl hk
    .exact .inr hk)
theorem Uo.DU (h:Uo n P F G)(hn:n<11)(c:∀ k∈P',k∈P\/k∈F):Uo (n+1) P' F G:=by
 refine ah h λs d a=>?_;refine .to hn d (.tail _ (.tail _ (.tail _ (.tail _ (.head _))))) ?_;refine⟨a.a.sub (e6 _) ?_,a.f,a.g,a.t.sub (e6 _) ?_,a.t.sub (e6 _) ?_,a.d,a.t.sub (e6 _) ?_⟩
 all_goals
  intro y b k hk;simp at b ⊢
  first
  |(subst b;exact c k hk)
  |(rcases b with rfl|rfl
    .rcases c k hk with h|h<;>simp[h]
    .simp[hk])
  |(rcases b with rfl|rfl|rfl
    .rcases c k hk with h|h<;>simp[h]
    .simp[hk]
    .simp[hk])
theorem Uo.DV (h:Uo n P F G)(hn:n<11)(c:∀ k∈F',k∈F):Uo (n+1) P F' G:=by
 refine ah h λs d a=>?_;refine .to hn d (.head _) ?_;refine⟨a.c.sub (hM ..) ?_,a.f.sub (e6 _) ?_,a.g,a.a.sub (hM ..) ?_,a.b.sub (hM ..) ?_,a.d.sub (e6 _) ?_,a.t.sub (hM ..) ?_⟩
 all_goals
  intro y b k hk;simp at b ⊢
  first
  |(subst b;first|exact c k hk|exact hk)
  |(rcases b with rfl|rfl
    .first|exact .inl (c k hk)|exact .inl hk
    .first|exact .inr (c k hk)|exact .inr hk)
  |(rcases b with rfl|rfl|rfl
    .exact .inl hk
    .exact .inr (.inl (c k hk))
    .exact .inr (.inr hk))
end
end
variable{t:e5}{p:TU}
section
set_option backward.match.sparseCases false
noncomputable def VG (code:e0 e5)(ln:hA):Prop:=(code=[]/\ln=0)\/(code=[68,90]/\ln=20)\/(code=[83,78]/\ln=0)
noncomputable abbrev DW:e0 Nat:=[82,85,78,32]
inductive wZ (σ ae:H)(p:TU)(sh:e0 (e0 e5))(hs:e0 V)(oc:V):e0 e5->TU->e0 (e0 e5)->e0 V->V->Prop
 |new:wZ σ ae p sh hs oc [78,101,119] [] sh hs oc
 |ul {k:hA}:UA k->bM p k=false->wZ σ ae p sh hs oc (DW++aG k) p (sh++[zF]) hs oc
 |stop {code:e0 e5} {ln:hA}:VG code ln->wZ σ ae p sh hs oc [32,32,115,116,111,112] p (tell sh code ln) (hs++[.str Vj]) (.tup [.str code,.int ln])
 |run {code:e0 e5} {ln:hA} {m:e5}:jM σ ae->VG code ln->σ.length<=m->ae[m]?=some (.dict (aE p))->wZ σ ae p sh hs oc [114,117,110] p (tell sh code ln) (hs++[.tup [.h m,.none]]) (.tup [.str code,.int ln])
 |DX {code:e0 e5} {ln k:hA} {m:e5}:jM σ ae->VG code ln->UA k->bM p k=true->σ.length<=m->ae[m]?=some (.dict (aE p))->wZ σ ae p sh hs oc (DW++aG k) p (tell sh code ln) (hs++[.tup [.h m,.int k]]) (.tup [.str code,.int ln])
noncomputable def lp:e0 e5->e0 (e0 e5)
 |[]=>[]
 |[68,90]=>[[63,68,90,32,69,114,114,111,114,32,105,110,32,50,48]]
 |_=>[[63,83,78,32,69,114,114,111,114]]
theorem VG.tell{code:e0 e5}{ln:hA}(h:VG code ln) sh:tell sh code ln=sh++lp code:=by
 rcases h with⟨rfl,rfl⟩|⟨rfl,rfl⟩|⟨rfl,rfl⟩
 .exact(hz rfl).trans (j6 sh).symm
 .exact(hb J).trans (hC (λx=>sh++[x]) (show gI [68,90] 20=[63,68,90,32,69,114,114,111,114,32,105,110,32,50,48] by decide))
 .exact(hb J).trans (hC (λx=>sh++[x]) (show gI [83,78] 0=[63,83,78,32,69,114,114,111,114] by decide))
section
variable{z:Z}{F:Fm}{st:e5}{b:X}
theorem z8 (h:Tw τ pt st p sh ft hs oc)(hx:TB z F ρ τ b (.h 4) τ):TB z F ρ τ (.sub b (.s zE)) (.h 8) τ:=.sub hx .s (T9.dict (key:=.str zE) rfl h.TM rfl)
theorem Lq (h:Tw τ pt st p sh ft hs oc)(hx:TB z F ρ τ b (.h 4) τ):TB z F ρ τ (.sub b (.s g8)) oc τ:=.sub hx .s (T9.dict (key:=.str g8) rfl h.TM rfl)
theorem z9 (b:v<3)(K:∀ code ln,VG code ln->([.tup [.str [],.int 0],.tup [.str [68,90],.int 20],.tup [.str [83,78],.int 0]]:e0 V)[v]?=some (.tup [.str code,.int ln])->([[],[68,90],[83,78]]:e0 (e0 e5)).idxOf? code=some v->(lp code).length<=1->
  (∀ (G:H) x y,∃ a,([.h G.length,.h (G++[TH.list []]).length,.h (G++[TH.list []]++[TH.list [.str [63,68,90,32,69,114,114,111,114,32,105,110,32,50,48]]]).length]:e0 V)[v]?=some (.h a)/\(G++[TH.list []]++[TH.list [.str [63,68,90,32,69,114,114,111,114,32,105,110,32,50,48]]]++[TH.list [.str [63,83,78,32,69,114,114,111,114]]]++[x]++[y])[a]?=some (.list ((lp code).map V.str)))->C):C:=by
 rcases l3 b with rfl|rfl|rfl
 .exact K [] 0 (.inl ⟨rfl,rfl⟩) rfl rfl (hq _) λG x y=>⟨_,rfl,bf (bf (bf (bf bc)))⟩
 .exact K [68,90] 20 (.inr (.inl ⟨rfl,rfl⟩)) rfl rfl (e6 _) λG x y=>⟨_,rfl,bf (bf (bf bc))⟩
 .exact K [83,78] 0 (.inr (.inr ⟨rfl,rfl⟩)) rfl rfl (e6 _) λG x y=>⟨_,rfl,bf (bf bc)⟩
theorem QA (h:Tw σ pt st p sh ft hs oc)(aP:29<=σ.length)(hf:Uy σ t)(ao:t<=90000)(a0:bK p)(aQ:sh.length<=100000)(aA:hs.length<=1000)(K:∀ x aJ ax ay mT ae t',t'<=t+3->wZ σ ae p sh hs oc x aJ ax ay mT->TK z (d+3) none [] 90 [.h 3,.h 4] σ (.str x) ae->TR σ pt st ae t' aJ ax ft ay mT->C):C:=by
 refine jL (z:=z) (d:=d+1) (many:=4) hf (tl ao rfl) J J λv U a6 aK aV f1=>?_;refine zC (z:=z) (d:=d) f1 (ta ao rfl) λk S hk w2 a4 f2=>?_;have g:S<+:S++[TH.list [.tup [.str [],.int 0],.tup [.str [68,90],.int 20],.tup [.str [83,78],.int 0]]]:=e1 ..;refine jL (z:=z) (d:=d+1) (many:=3) (f2.pre g) (ta (k:=2) ao rfl) J J λa5 af aj w3 j f3=>?_;refine z9 aj λcode ln u aX aN a3 hn=>?_;have Uv:Md [3] σ S:=aV.trans a4 (λi h aY=>h);have b:=h.draw Uv;have ai:=h.lt;have e:Md [3,pt,st,4,6,8] σ S:=Uv.mono (pD (.head _));refine sw.of0 (z:=z) (k:=90) (args:=[.h 3,.h 4]) [(207,.h 4),(201,.h 3)] rfl (ag.cons (TF.mx rfl (.c (.call (.gl rfl) (.c (.lo rfl) (.c .i .n)) aK) (.c (.call (.gl rfl) (.c (.lo rfl) .n) w2) .n)) (by exact λaY=>⟨rfl,rfl⟩)) ?_);clear aK w2 aV f1 Uv;by_cases aO:v=3
 .subst aO
  have y:S<+:S++[TH.dict []]:=e1 ..;exact ag.cf (TD.cmp (.lo (v:=.int 3) rfl) .i (TC.cmp rfl)) (ag.cons (TF.fh .lS (.lo rfl) .s (BL (b.pre y) rfl)) (ag.re .s λw=>K _ _ _ _ _ _ _ (jr _) .new w ⟨⟨_,_,(b.pre y).lc (p':=[]) bc (e2 aP e.1) (hj (fC ai.2.2 e.1)),.inr e.1,.inl rfl⟩,(f2.pre y).md Md.set J J,(e.trans (Md.aK (L:=[]) y) g4).trans Md.set (dU (.tail _ (.tail _ (.tail _ (.head _)))))⟩))
 have f:=TC.ms (z:=z) (F:=⟨⟨[],[],none⟩,JY.sc,d+2⟩) (key:=.int k) (b:=.int k) rfl b.pr;rw[k9]at f;refine ag.bA (TD.cmp (.lo (v:=.int v) rfl) .i (TC.Uh rfl λa=>aO (ny a))) (ag.nil ?_);by_cases aa:v=1/\bM p k=false
 ·(refine az aa ?_;clear aa;intro a1 aL;subst a1)
  rw[aL]at f;have ns:2≠st/\3≠st:=by have:=h.hst;exact uK this
  exact ag.cf (TD.fS (TD.cmp (.lo (v:=.int 1) rfl) .i (TC.cmp rfl)) (TD.cmp (.lo rfl) (jj b (.lo rfl)) f)) (ag.cons (TF.ex (.cE rfl (oP b (.lo rfl)) (.c .s .n) (M2.append b.sh (jh (tl aQ rfl)) rfl))) (ag.re (.bin .s (.bi rfl (.c (.lo rfl) .n) (B1.str hk.z)) (TC.UL (e6 4) hk.s rfl)) λw=>K _ _ _ _ _ _ _ (jr _) (.ul hk aL) w ⟨⟨_,_,b.mC zF,.inl rfl,.inl rfl⟩,f2.md Md.set (cP ns.1) (cP ns.2),e.trans Md.set (dU (.tail _ (.tail _ (.head _))))⟩))
 refine ag.bA ?_ (ag.nil (ag.cons (TF.fh (.sub (.li (.c (.tu (.c .s (.c .i .n)) (eW rfl)) (.c (.tu (.c .s (.c .i .n)) (eW rfl)) (.c (.tu (.c .s (.c .i .n)) (eW rfl)) .n))) (eW rfl)) (.call (.gl rfl) (.c (.lo rfl) (.c .i .n)) w3) (T9.list (j.get bc (cP (hj f2.lt))) aX (hO aj J))) (.lo rfl) .s (Ql ((b.pre g).draw j) rfl)) ?_))
 .by_cases a:v=1
  .subst a
   rw[(z1 _).resolve_right λq=>aa ⟨rfl,q⟩]at f;exact TD.fS (TD.cmp (.lo (v:=.int 1) rfl) .i (TC.cmp rfl)) (TD.cmp (.lo rfl) (jj b (.lo rfl)) f)
  .exact TD.gz (TD.cmp (.lo (v:=.int v) rfl) .i (TC.Uh rfl λq=>a (ny q)))
 have aq:=((b.pre g).draw j).K8 (mT:=.tup [.str code,.int ln]);have l:=((e.trans (Md.aK (L:=[]) g) g4).trans j (dU (.head _))).trans (Md.set (n:=4) (c:=.dict (et pt st (.tup [.str code,.int ln])))) (dU (.tail _ (.tail _ (.tail _ (.head _)))));have Wc:=f3.md (Md.set (n:=4) (c:=.dict (et pt st (.tup [.str code,.int ln])))) J J;clear g w3 aX j f3 e f2 f;generalize af.set 4 (.dict (et pt st (.tup [.str code,.int ln])))=G at*
 have hn:=hn G (TH.list [.h G.length,.h (G++[TH.list []]).length,.h (G++[TH.list []]++[TH.list [.str [63,68,90,32,69,114,114,111,114,32,105,110,32,50,48]]]).length]) (TH.list [.str [],.str [68,90],.str [83,78]]);have ab:G<+:G++[TH.list []]++[TH.list [.str [63,68,90,32,69,114,114,111,114,32,105,110,32,50,48]]]++[TH.list [.str [63,83,78,32,69,114,114,111,114]]]++[TH.list [.h G.length,.h (G++[TH.list []]).length,.h (G++[TH.list []]++[TH.list [.str [63,68,90,32,69,114,114,111,114,32,105,110,32,50,48]]]).length]]++[TH.list [.str [],.str [68,90],.str [83,78]]]:=((((e1 ..).trans (e1 ..)).trans (e1 ..)).trans (e1 ..)).trans (e1 ..);refine hn.elim λn hn=>?_;have m:=aq.pre ab;refine ag.cons (TF.fh (.bin (oP aq (.lo rfl)) (.sub (.li (.c (.li .n (hq _)) (.c (.li (.c .s .n) (eW rfl)) (.c (.li (.c .s .n) (eW rfl)) .n))) (eW rfl)) (.cE (w:=.index) rfl (.li (.c .s (.c .s (.c .s .n))) (eW rfl)) (.c (.sub (Lq m (.lo rfl)) .i (T9.tup (k:=0) rfl J)) .n) (M2.qH bc rfl aN (eW rfl))) (T9.list (bf bc) hn.1 (hO aj J))) (TC.rV m.sh hn.2 (FK aQ a3 rfl))) (.lo rfl) .s (K9 (m.pre (e1 _ _)) rfl)) ?_;have l:=l.trans (Md.aK (L:=[]) ab) g4;have Wx:=Wc.pre ab;clear hn ab aq Wc aN;generalize G++[TH.list []]++[TH.list [.str [63,68,90,32,69,114,114,111,114,32,105,110,32,50,48]]]++[TH.list [.str [63,83,78,32,69,114,114,111,114]]]++[TH.list [.h G.length,.h (G++[TH.list []]).length,.h (G++[TH.list []]++[TH.list [.str [63,68,90,32,69,114,114,111,114,32,105,110,32,50,48]]]).length]]++[TH.list [.str [],.str [68,90],.str [83,78]]]=A at*
 have as:A<+:A++[TH.list (sh.map V.str++(lp code).map V.str)]:=e1 ..;have s:=l.1;have c:=(m.pre as).DS (m:=A.length) (eO:=tell sh code ln) (by rw[u.tell,pl];exact bc) (e2 aP s) (hc (fC ai.2.1 s));have ar:=(l.trans (Md.aK (L:=[]) as) g4).trans (Md.set (n:=4) (c:=.dict (et pt A.length (.tup [.str code,.int ln])))) (dU (.tail _ (.tail _ (.tail _ (.head _)))));have Wy:=(Wx.pre as).md (Md.set (n:=4) (c:=.dict (et pt A.length (.tup [.str code,.int ln])))) J J;clear m l Wx;generalize(A++[TH.list (sh.map V.str++(lp code).map V.str)]).set 4 (.dict (et pt A.length (.tup [.str code,.int ln])))=B at*
 by_cases aD:v=2
 .subst aD
  exact ag.cf (TD.cmp (.lo (v:=.int 2) rfl) .i (TC.cmp rfl)) (ag.cons (TF.ex (.cE rfl (z8 c (.lo rfl)) (.c .s .n) (M2.append c.th (tl aA rfl) rfl))) (ag.re .s λw=>K _ _ _ _ _ _ _ (e6 _) (.stop u) w ⟨⟨_,_,c.zT,.inl rfl,.inr s⟩,Wy.md Md.set J J,ar.trans Md.set (dU (.tail _ (.tail _ (.tail _ (.tail _ (.tail _ (.head _)))))))⟩))
 have ak:B<+:B++[TH.list (dQ p)]++[TH.dict (aE p)]:=(e1 ..).trans (e1 ..);have o:=c.pre ak;have a2:=(ik c.th).trans (ik o.th).symm;have au:=e2 ar.1 (jG (t:=[TH.list (dQ p)]));have am:=bv (m:=8) (b:=.list (hs++[.tup [.h (B++[TH.list (dQ p)]).length,if v=1 then .int k else .none]])) (t8 (S:=B) (x:=TH.list (dQ p)) (y:=.dict (aE p))) (hc (fC (fC J ai.1) au));have ap:TR σ pt st ((B++[TH.list (dQ p)]++[TH.dict (aE p)]).set 8 (.list (hs++[.tup [.h (B++[TH.list (dQ p)]).length,if v=1 then .int k else .none]]))) (t+3) p (tell sh code ln) ft (hs++[.tup [.h (B++[TH.list (dQ p)]).length,if v=1 then .int k else .none]]) (.tup [.str code,.int ln]):=⟨⟨_,_,o.zT,.inl rfl,.inr s⟩,(Wy.pre ak).md Md.set J J,(ar.trans (Md.aK (L:=[]) ak) g4).trans Md.set (dU (.tail _ (.tail _ (.tail _ (.tail _ (.tail _ (.head _)))))))⟩;have aw:=jM.of (σ:=σ) (o.zT (hs':=hs++[.tup [.h (B++[TH.list (dQ p)]).length,if v=1 then .int k else .none]])).TM ai.2.1;refine ag.bA (TD.cmp (.lo (v:=.int v) rfl) .i (TC.Uh rfl λa=>aD (ny a))) (ag.nil (ag.cons (TF.ex (.me rfl (z8 c (.lo rfl)) (.c (.tu (.c (lM rfl (jj c (.lo rfl)) c.pr a0) (.c (v:=if v=1 then .int k else .none) ?_ .n)) (eW rfl)) .n) a2 (M2.append o.th (tl aA rfl) rfl))) ?_))
 .by_cases a:v=1
  .rw[hz a];subst a;exact .cf (.cmp (.lo (v:=.int 1) rfl) .i (TC.cmp rfl)) (.lo rfl)
  .rw[hb a];exact .bA (.cmp (.lo (v:=.int v) rfl) .i (TC.Uh rfl λq=>a (ny q))) .no
 by_cases a:v=1
 .subst a
  exact ag.re (.cf (.cmp (.lo (v:=.int 1) rfl) .i (TC.cmp rfl)) (.bin .s (.bi rfl (.c (.lo rfl) .n) (B1.str hk.z)) (TC.UL (e6 4) hk.s rfl))) λw=>K _ _ _ _ _ _ _ (e6 _) (.DX aw u hk ((z1 _).resolve_right λq=>aa ⟨rfl,q⟩) au am) w ap
 .rw[hb a]at ap aw am ⊢
  exact ag.re (.bA (.cmp (.lo (v:=.int v) rfl) .i (TC.Uh rfl λq=>a (ny q))) .s) λw=>K _ _ _ _ _ _ _ (e6 _) (.run aw u au am) w ap
end
end
variable{ln:hA}{aQ k:e5}{p':TU}{j1:V}{out':e0 (e0 e5)}{fd':e0 (Key×V)}{t L:e0 e5}{hs':e0 V}
section
set_option backward.match.sparseCases false
structure Uj (τ:H)(pr:e5)(p:TU)(Ub:V)(out:e0 (e0 e5))(fd TM:e0 (Key×V))(hs:e0 V):Prop where
 so:So τ pr p Ub
 Ul:Wo τ out fd
 cl:Cl τ TM hs
structure Uq (σ:H)(pr:e5)(TM:e0 (Key×V))(ae:H)(aQ:e5)(p:TU)(Ub:V)(out:e0 (e0 e5))(fd:e0 (Key×V))(hs:e0 V):Prop where
 UG:Uj ae aQ p Ub out fd TM hs
 md:Md [18,13,27,20,9,pr] σ ae
 hp:aQ=pr\/σ.length<=aQ
section
variable{z:Z}{v:V}{r name code:e0 e5}{b:hA}
theorem Uj.pre (h:Uj σ pr p Ub out fd TM hs)(e:σ<+:τ):Uj τ pr p Ub out fd TM hs:=⟨h.so.pre e,h.Ul.pre e,h.cl.pre e⟩
theorem Uj.to (h:Uj σ pr p Ub out fd TM hs)(m:Md L σ τ)(b:∀ i∈L,i=18\/i=13\/i=27\/i=20\/i=9\/i=pr)(s:So τ aQ p' j1)(w:Wo τ out' fd')(g:τ[9]?=some (.list hs'))(j:aQ=pr\/σ.length<=aQ):Uq σ pr TM τ aQ p' j1 out' fd' hs':=by
 have k:=h.so.ge;have hn:∀ a,a<28->a≠18->a≠13->a≠27->a≠20->a≠9->a∉L:=λa e n d l c o f=>by
  have:=b a f;exact HV k e n d l c o this
 refine⟨⟨s,w,⟨?_,?_,m.get h.cl.ch (hn _ J J J J J J),m.get h.cl.ct (hn _ J J J J J J),m.get h.cl.TM (hn _ J J J J J J),g⟩⟩,m.mono λi hi=>?_,j⟩
 .exact m.get h.cl.ra (hn _ J J J J J J)
 .exact m.get h.cl.rr (hn _ J J J J J J)
 .have:=b i hi
  simp;exact this
theorem Uq.pre (h:Uq τ pr TM υ aQ p' j1 out' fd' hs')(e:σ<+:τ):Uq σ pr TM υ aQ p' j1 out' fd' hs':=
 ⟨h.UG,(Md.aK e).trans h.md λi hi a=>hi,h.hp.imp id λx=>e2 e.length_le x⟩
theorem Uj.tell (h:Uj σ pr p .none out fd TM hs)(e:σ<+:τ)(m:Md [18,13] τ υ)(w:Wo υ (out++[gI code 0]) fd):Uq σ pr TM υ pr p .none (out++[gI code 0]) fd hs:=
 ((h.pre e).to m (λi hi=>((qn hi).imp_right .inl)) ((h.pre e).so.Vm (λi hi=>((qn hi).imp_right .inl)) m) w (m.get (h.pre e).cl.hd J) (.inl rfl)).pre e
theorem qb (h:Uj σ pr p .none out fd TM hs)(cm:Uz t w r)(hk:atK p7 (.str w)=some (.fn k))(c:code.length<=100)(e:code≠[])(f:out.length<=100000)
  (j:∀ τ,Uj τ pr p .none out fd TM hs->∃ x ae,gn z (d+6) none [] k [.h 26,.str r] τ (.str code) x ae/\τ<+:ae):
  ∃ ae,TK z (d+8) none [] 81 [.h 26,.str t] σ .none ae/\Uq σ pr TM ae pr p .none (out++[gI code 0]) fd hs:=by
 obtain⟨ae,g,τ,a,m,w'⟩:=Gd (z:=z) (d:=d) (P:=λτ=>σ<+:τ) h.so cm.p (K4 cm.w hk λτ a=>by
  refine b5 (j τ (h.pre a)) λx ae w' b=>?_;exact eT x ae w' (a.trans b)) c e (by exact tl f rfl) λτ a=>⟨h.so.pre a,h.Ul.pre a⟩
 exact⟨ae,g,h.tell a m w'⟩
theorem rc (h:Uj σ pr p .none out fd TM hs)(cm:Uz t w r)(hk:atK p7 (.str w)=some (.fn k))
  (c:∀ τ,Uj τ pr p .none out fd TM hs->∃ ae,TK z (d+6) none [] k [.h 26,.str r] τ .none ae/\∃ aQ,Uq τ pr TM ae aQ p' j1 out' fd' hs'):
  ∃ ae,TK z (d+8) none [] 81 [.h 26,.str t] σ .none ae/\∃ aQ,Uq σ pr TM ae aQ p' j1 out' fd' hs':=
 zA h.so cm.p (K3 cm.w hk λτ a=>by
  obtain⟨ae,w',aQ,b⟩:=c τ (h.pre a);exact⟨ae,w',aQ,b.pre a⟩)
theorem So.put (h:So σ pr p Ub)(m:Md [pr] σ τ)(e:τ[pr]?=some (.dict (aE p'))):So τ pr p' Ub:=⟨m.get h.s (n1 (hc (e2 (eW rfl) h.ge))),m.get h.n (n1 (hc h.ge)),e,h.ge⟩
theorem Uj.Ab (h:Uj σ pr p Ub out fd TM hs)(m:Md L σ τ)(a:∀ i∈L,i=27\/i=pr)(s:So τ pr p' j1):Uq σ pr TM τ pr p' j1 out fd hs:=
 h.to m (λi hi=>HW (a i hi)) s (h.Ul.md m (V5 a h.so.ge rfl) (V5 a h.so.ge rfl) (V5 a h.so.ge rfl) (V5 a h.so.ge rfl) (V5 a h.so.ge rfl)) (m.get h.cl.hd (V5 a h.so.ge rfl)) (.inl rfl)
theorem GA (h:Uj σ pr p .none out fd TM hs)(f:Vd t (.int n) r)(a:Tk r kk ww W)(e:p.length<=1000):
  ∃ ae,TK z (d+8) none [] 81 [.h 26,.str t] σ .none ae/\∃ aQ,Uq σ pr TM ae aQ (b3 p n W) .none out fd hs:=by
 refine eR a.strip λb g j=>?_;have k:=h.so.ge;refine ba (DQ (z:=z) (d:=d) h.so f (PU (z:=z) (d:=d) (k:=n) h.so a e (by rw[b];exact g))) λae w' m c=>?_;refine⟨ae,w',pr,h.Ab m (λi hi=>.inr (nq hi)) (h.so.put m c)⟩
theorem GB (h:Uj σ pr p .none out fd TM hs)(b:Vd t (.int n) [])(c:p.length<=1000)(hk:bM p n=true):
  ∃ ae,TK z (d+8) none [] 81 [.h 26,.str t] σ .none ae/\∃ aQ,Uq σ pr TM ae aQ (cQ p n) .none out fd hs:=by
 have e:=h.so.ge;refine ba (DQ (z:=z) (d:=d) h.so b (KR (z:=z) (d:=d+6) (k:=n) h.so c hk)) λae w' m a=>?_;refine⟨ae,w',pr,h.Ab m (λi hi=>.inr (nq hi)) (h.so.put m a)⟩
theorem GC (h:Uj σ pr p .none out fd TM hs)(c:Vd t (.int n) [])(e:out.length<=100000)(hk:bM p n=false):
  ∃ ae,TK z (d+8) none [] 81 [.h 26,.str t] σ .none ae/\∃ aQ,Uq σ pr TM ae aQ p .none (out++[zF]) fd hs:=by
 obtain⟨ae,w',τ,a,m,w2⟩:=Ge (z:=z) (d:=d) (P:=λτ=>σ<+:τ) (code:=[85,76]) h.so c (by
  (refine b5 (KS (z:=z) (d:=d+6) (k:=n) h.so hk) λx ae f b=>?_;subst b)
  exact eT x _ f fV) J J (by exact tl e rfl) λτ a=>⟨h.so.pre a,h.Ul.pre a⟩
 exact⟨ae,w',pr,h.tell a m w2⟩
theorem B0 (h:Uj σ pr p .none out fd TM hs)(cm:Uz t BV r)(f:Vc r a b)(g:bK p)(e:out.length<=100000):
  ∃ ae,TK z (d+8) none [] 81 [.h 26,.str t] σ .none ae/\∃ aQ,Uq σ pr TM ae aQ p .none (out++(within p a b).map (bj p)) fd hs:=
 rc h cm (k:=66) rfl λτ c=>by
  refine ba (PX (z:=z) (d:=d+2) c.so c.Ul g f (by exact tl e rfl)) λae w' m w2=>?_;exact⟨ae,w',pr,c.to m (λi hi=>((qn hi).imp_right .inl)) (c.so.Vm (λi hi=>((qn hi).imp_right .inl)) m) w2 (m.get c.cl.hd J) (.inl rfl)⟩
theorem B2 (h:Uj σ pr p .none out fd TM hs)(cm:Uz t zY r)(e:Vc r a b)(g:r≠[])(j:bK p)(k:within p a b≠[]):
  ∃ ae,TK z (d+8) none [] 81 [.h 26,.str t] σ .none ae/\∃ aQ,Uq σ pr TM ae aQ ((within p a b).foldl cQ p) .none out fd hs:=
 rc h cm (k:=67) rfl λτ c=>by
  have l:=c.so.ge;refine ba (PY (z:=z) (d:=d+2) c.so j e g k) λae w' m f=>?_;exact⟨ae,w',pr,c.Ab m (λi hi=>.inr (nq hi)) (c.so.put m f)⟩
theorem B3 (h:Uj σ pr p .none out fd TM hs)(cm:Uz t zY r)(e:Vc r a b)(f:r≠[])(g:bK p)(k:out.length<=100000)(j:within p a b=[]):
  ∃ ae,TK z (d+8) none [] 81 [.h 26,.str t] σ .none ae/\∃ aQ,Uq σ pr TM ae aQ p .none (out++[wR]) fd hs:=by
 refine ah (qb (z:=z) (d:=d) (code:=[70,67]) h cm (k:=67) rfl J J k λτ c=>KV (z:=z) (d:=d+2) c.so g e f j) λae w' h'=>?_;exact⟨ae,w',pr,h'⟩
theorem B4 (h:Uj σ pr p .none out fd TM hs)(cm:Uz t ll r)(b:NM r name)(c:bK p)(e:fd.length<=1000):
  ∃ ae,TK z (d+8) none [] 81 [.h 26,.str t] σ .none ae/\∃ aQ,Uq σ pr TM ae aQ p .none out (putK fd (.str name) (.str (cq p))) hs:=
 rc h cm (k:=70) rfl λτ a=>by
  refine ba (P4 (z:=z) (d:=d+3) a.so a.Ul b c e) λae w' m w2=>?_;exact⟨ae,w',pr,a.to m (λi hi=>(.inr (.inr (.inr (.inl (nq hi)))))) (a.so.Vm (λi hi=>(.inr (.inr (.inl (nq hi))))) m) w2 (m.get a.cl.hd J) (.inl rfl)⟩
theorem B5 (h:Uj σ pr p .none out fd TM hs)(cm:Uz t [76,79,65,68] r)(b:NM r name)(hf:atK fd (.str name)=some (.str (cq q)))(c:eK q):
  ∃ ae,TK z (d+8) none [] 81 [.h 26,.str t] σ .none ae/\∃ aQ,Uq σ pr TM ae aQ (eL q) .none out fd hs:=
 rc h cm (k:=72) rfl λτ a=>by
  obtain⟨ae,w',m,e,f,w2,hn⟩:=P0 (z:=z) (d:=d+2) a.so a.Ul b hf c;exact⟨ae,w',e,a.to m (λi hi=>CL (qn hi)) f w2 (m.get a.cl.hd J) (.inr hn)⟩
theorem Ac (h:Uj σ pr p .none out fd TM hs)(cm:Uz t [76,79,65,68] r)(c:NM r name)(b:out.length<=100000)(hf:atK fd (.str name)=none):
  ∃ ae,TK z (d+8) none [] 81 [.h 26,.str t] σ .none ae/\∃ aQ,Uq σ pr TM ae aQ p .none (out++[zR]) fd hs:=by
 refine ah (qb (z:=z) (d:=d) (code:=[70,70]) h cm (k:=72) rfl J J b λτ a=>by
  obtain⟨x,ae,e,rfl⟩:=KX (z:=z) (d:=d+4) a.so a.Ul c hf;exact⟨x,_,e,fV⟩) λae w' h'=>?_
 exact⟨ae,w',pr,h'⟩
theorem Ad (h:Uj σ pr p .none out fd TM hs)(cm:Uz t jN r)(b:NM r name)(f:eK p)(hf:atK fd (.str name)=some (.str (cq q)))(c:eK q):
  ∃ ae,TK z (d+8) none [] 81 [.h 26,.str t] σ .none ae/\∃ aQ,Uq σ pr TM ae aQ (bw p (eL q)) .none out fd hs:=
 rc h cm (k:=73) rfl λτ a=>by
  obtain⟨ae,w',m,e,g,hn⟩:=P1 (z:=z) (d:=d+2) a.so a.Ul b f hf c;exact⟨ae,w',e,a.to m (λi hi=>(.inr (.inr (.inl (nq hi))))) g (a.Ul.md m J J J J J) (m.get a.cl.hd J) (.inr hn)⟩
theorem w0 (h:Uj σ pr p .none out fd TM hs)(cm:Uz t jN r)(c:NM r name)(b:out.length<=100000)(hf:atK fd (.str name)=none):
  ∃ ae,TK z (d+8) none [] 81 [.h 26,.str t] σ .none ae/\∃ aQ,Uq σ pr TM ae aQ p .none (out++[zR]) fd hs:=by
 refine ah (qb (z:=z) (d:=d) (code:=[70,70]) h cm (k:=73) rfl J J b λτ a=>by
  obtain⟨x,ae,e,rfl⟩:=KY (z:=z) (d:=d+4) a.so a.Ul c hf;exact⟨x,_,e,fV⟩) λae w' h'=>?_
 exact⟨ae,w',pr,h'⟩
theorem B6 (h:Uj σ pr p .none out fd TM hs)(cm:Uz t jn r)(b:NM r name)(hf:atK fd (.str name)=some v)(c:fd.length<=1000):
  ∃ ae,TK z (d+8) none [] 81 [.h 26,.str t] σ .none ae/\∃ aQ,Uq σ pr TM ae aQ p .none out (fc fd (.str name)) hs:=
 rc h cm (k:=74) rfl λτ a=>by
  refine ba (P6 (z:=z) (d:=d+4) a.so a.Ul b hf c) λae w' m w2=>?_;exact⟨ae,w',pr,a.to m (λi hi=>(.inr (.inr (.inr (.inl (nq hi)))))) (a.so.Vm (λi hi=>(.inr (.inr (.inl (nq hi))))) m) w2 (m.get a.cl.hd J) (.inl rfl)⟩
theorem Ae (h:Uj σ pr p .none out fd TM hs)(cm:Uz t jn r)(c:NM r name)(b:out.length<=100000)(hf:atK fd (.str name)=none):
  ∃ ae,TK z (d+8) none [] 81 [.h 26,.str t] σ .none ae/\∃ aQ,Uq σ pr TM ae aQ p .none (out++[zR]) fd hs:=by
 refine ah (qb (z:=z) (d:=d) (code:=[70,70]) h cm (k:=74) rfl J J b λτ a=>KZ (z:=z) (d:=d+4) a.so a.Ul c hf) λae w' h'=>?_;exact⟨ae,w',pr,h'⟩
theorem GD{st:hA}(h:Uj σ pr p .none out fd TM hs)(cm:Uz t BW r)(b:V0 r n st)(e:eK p)(f:0<=n)(h1:n<=100)(h2:1<=st)(c:st<=100):
  ∃ ae,TK z (d+8) none [] 81 [.h 26,.str t] σ .none ae/\∃ aQ,Uq σ pr TM ae aQ (fk p n st) .none out fd hs:=
 rc h cm (k:=68) rfl λτ a=>by
  obtain⟨ae,w',m,n,g,hn⟩:=P8 (z:=z) (d:=d) a.so b e f h1 h2 c;exact⟨ae,w',n,a.to m (λi hi=>(.inr (.inr (.inl (nq hi))))) g (a.Ul.md m J J J J J) (m.get a.cl.hd J) (.inr hn)⟩
theorem B7 (h:Uj σ pr p .none out fd TM hs)(cm:Uz t BW r)(b:V0 r n 0)(c:bK p)(a:out.length<=100000):
  ∃ ae,TK z (d+8) none [] 81 [.h 26,.str t] σ .none ae/\∃ aQ,Uq σ pr TM ae aQ p .none (out++[wR]) fd hs:=by
 refine ah (qb (z:=z) (d:=d) (code:=[70,67]) h cm (k:=68) rfl J J a λτ e=>K1 (z:=z) (d:=d+2) e.so b c) λae w' h'=>?_;exact⟨ae,w',pr,h'⟩
theorem GF (h:Uj σ pr p .none out fd TM hs)(cm:Uz t [78,69,87] r):
  ∃ ae,TK z (d+8) none [] 81 [.h 26,.str t] σ .none ae/\∃ aQ,Uq σ pr TM ae aQ [] .none out fd hs:=
 rc h cm (k:=65) rfl λτ a=>by
  obtain⟨ae,w',m,b,c,w2,hn⟩:=PZ (z:=z) (d:=d+4) (rest:=r) a.so a.Ul;exact⟨ae,w',b,a.to m (λi hi=>CL (qn hi)) c w2 (m.get a.cl.hd J) (.inr hn)⟩
theorem B8 (h:Uj σ pr p .none out fd TM hs)(cm:Uz t sO r)(b:TN r (.int n))(c:r.length<=1000)(hi:bM p n=false)(a:out.length<=100000):
  ∃ ae,TK z (d+8) none [] 81 [.h 26,.str t] σ .none ae/\∃ aQ,Uq σ pr TM ae aQ p .none (out++[zF]) fd hs:=by
 refine ah (qb (z:=z) (d:=d) (code:=[85,76]) h cm (k:=64) rfl J J a λτ e=>K2 (z:=z) (d:=d+3) e.so b c hi) λae w' h'=>?_;exact⟨ae,w',pr,h'⟩
theorem GG (R:sG z (d+5))(h:Uj σ pr p .none out fd TM hs)(cm:Uz t sO r)(o:bK p)(f:TN r e)(u:r.length<=1000)(n:∀ i,e=.int i->bM p i=true)(s:atK TM (.str g8)=some (.tup [.str code,.int ln]))(j:hs.length<=1000)(w:VG code ln)(q:out.length<=100000):
  ∃ ae,TK z (d+8) none [] 81 [.h 26,.str t] σ .none ae/\∃ m,Uq σ pr TM ae pr p .none (tell out code ln) fd (hs++[.tup [.h m,e]])/\ae[m]?=some (.dict (aE p))/\σ.length<=m:=by
 have b:code.length<=100/\0<=ln/\ln<=1000:=by rcases w with⟨rfl,rfl⟩|⟨rfl,rfl⟩|⟨rfl,rfl⟩<;>exact⟨by decide,by decide,by decide⟩
 refine zA h.so cm.p (K3 cm.w (k:=64) rfl λτ c=>?_);have a:=h.pre c;obtain⟨ae,w',m,w2,k,l,v,g⟩:=Qc (z:=z) (d:=d+3) R a.so a.Ul a.cl o f u n s j b.1 b.2.1 b.2.2 (by exact tl q rfl);exact⟨ae,w',k,(a.to m (λi hi=>CM (AS hi)) (a.so.Vm (λi hi=>CN (AS hi)) m) w2 l (.inl rfl)).pre c,v,e2 c.length_le g⟩
theorem B9 (R:sH z (d+6))(h:Uj σ pr p .none out fd TM hs)(f:atK TM (.str g8)=some (.tup [.str code,.int ln]))(b:hs.length<=1000)(g:VG code ln)(e:out.length<=100000):
  ∃ ae,TK z (d+8) none [] 81 [.h 26,.str [32,32,115,116,111,112]] σ .none ae/\∃ aQ,Uq σ pr TM ae aQ p .none (tell out code ln) fd (hs++[.str Vj]):=by
 have a:code.length<=100/\0<=ln/\ln<=1000:=by rcases g with⟨rfl,rfl⟩|⟨rfl,rfl⟩|⟨rfl,rfl⟩<;>exact⟨by decide,by decide,by decide⟩
 refine zA h.so mG.1 ?_;refine lA (K5 (z:=z) (d:=d) (kk:=[119,111,114,100]) (ww:=Vj) (W:=Vj) R h.so h.Ul h.cl mG.2 rfl (.inl ⟨.inr ⟨rfl,rfl⟩,rfl,rfl⟩) f b a.1 a.2.1 a.2.2 (by exact tl e rfl)) λae w' m w2 c=>?_;exact⟨ae,w',pr,h.to m (λi hi=>CM (AS hi)) (h.so.Vm (λi hi=>CN (AS hi)) m) w2 c (.inl rfl)⟩
theorem Ca{st:hA}(h:Uj σ pr p .none out fd TM hs)(cm:Uz t Gv r)(b:Wj r n st)(h2:1<=st):
  ∃ ae,TK z (d+8) none [] 81 [.h 26,.str t] σ .none ae/\∃ aQ,Uq σ pr TM ae aQ p (.tup [.int n,.int st]) out fd hs:=
 rc h cm (k:=69) rfl λτ a=>by
  refine ba (Qb (z:=z) (d:=d+2) a.so b h2) λae w' m c=>?_;exact⟨ae,w',pr,a.to m (λi hi=>(.inr (.inr (.inl (nq hi))))) c (a.Ul.md m J J J J J) (m.get a.cl.hd J) (.inl rfl)⟩
theorem GH{st:hA}(h:Uj σ pr p (.tup [.int n,.int st]) out fd TM hs)(b:p.length<=1000)(a:0<st)(h1:n+st<=1100)(hk:0<=n):
  ∃ ae,TK z (d+8) none [] 81 [.h 26,.str te] σ .none ae/\∃ aQ,Uq σ pr TM ae aQ (b3 p n TJ) (.tup [.int (n+st),.int st]) out fd hs:=by
 have e:=h.so.ge;refine ba (DP (z:=z) (d:=d) h.so (by simp) ⟨_,rfl⟩ (PV (z:=z) (d:=d) h.so (t:=te) (kk:=[119,111,114,100]) (w:=TJ) (W:=TJ) (.inl ⟨.inl ⟨rfl,.inr rfl⟩,rfl,rfl⟩) b a h1 hk)) λae w' m c=>?_;exact⟨ae,w',pr,h.Ab m (λi hi=>qn hi) c⟩
theorem vt{st:hA}(h:Uj σ pr p (.tup [.int n,.int st]) out fd TM hs)(a:0<st)(h1:n+st<=65529):
  ∃ ae,TK z (d+8) none [] 81 [.h 26,.str []] σ .none ae/\∃ aQ,Uq σ pr TM ae aQ p (if bM p n then .tup [.int (n+st),.int st]else .none) out fd hs:=by
 have c:=h.so.ge;refine ba (DP (z:=z) (d:=d) h.so (by simp) ⟨_,rfl⟩ (KU (z:=z) (d:=d+4) h.so a h1)) λae w' m b=>?_;exact⟨ae,w',pr,h.Ab m (λi hi=>qn hi) b⟩
end
end
variable{l hS hS' hT lq ut rg:e0 V}{pt' t:e5}{Uf rh pS:TU}{eO:e0 (e0 e5)}{jO ri uu:e0 (Key×V)}{T6 uv:e0 e5->gN TU}
section
set_option backward.match.sparseCases false
theorem gp q d k:atK (q::d) k=if q.1=k then some q.2 else atK d k:=by
 unfold atK;rw[pd];by_cases a:q.1=k<;>simp[a]
theorem iR k v j d:atK (putK d k v) j=if j=k then some v else atK d j:=by
 induction d with
 |nil=>
  rw[putK,gp];by_cases b:j=k
  .rw[hz b,hz b.symm]
  .rw[hb b,hb (Ne.symm b)]
 |cons q d e=>
  by_cases b:q.1=k
  .rw[putK,hz b,gp,gp,b]
   by_cases a:j=k
   .rw[hz a,hz a.symm]
   .rw[hb a,hb (Ne.symm a),hb (Ne.symm a)]
  .rw[putK,hb b,gp,gp,e]
   by_cases a:j=k
   .rw[hb λc:q.1=j=>b (c.trans a),hz a,hz a]
   .rw[hb a,hb a]
theorem iS k j d:atK (fc d k) j=if j=k then none else atK d j:=by
 induction d with
 |nil=>by_cases b:j=k<;>simp[fc,atK,b]
 |cons q d e=>
  unfold fc at e ⊢;rw[lf,gp];by_cases b:q.1=k
  .rw[hb (λc:decide (q.1≠k)=true=>gf c b),e]
   by_cases a:j=k
   .rw[hz a,hz a]
   .rw[hb a,hb a,hb λc:q.1=j=>a (c.symm.trans b)]
  .rw[hz (h8 b),gp,e]
   by_cases a:j=k
   .rw[hb λc:q.1=j=>b (c.trans a),hz a,hz a]
   .rw[hb a,hb a]
theorem qc k v d:(putK d k v).length<=d.length+1:=by
 induction d with
 |nil=>exact e6 _
 |cons q d a=>
  unfold putK;split
  .exact jr _
  .exact hm a
inductive WF (τ:H)(pt pr:e5):V->V->Prop
 |str (s:e0 e5):WF τ pt pr (.str s) (.str s)
 |tup {n m:e5} {p q:TU} {v:V}:n≠m->τ[n]?=some (.dict (aE p))->τ[m]?=some (.dict (aE q))->Sm p q->29<=n->29<=m->n≠pt->m≠pt->n≠pr->m≠pr->(v=.none\/∃ i,v=.int i)->WF τ pt pr (.tup [.h n,v]) (.tup [.h m,v])
noncomputable abbrev mU (τ:H)(pt pr:e5):e0 V->e0 V->Prop:=dZ (WF τ pt pr)
theorem mU.snoc (h:mU τ pt pr l l')(a:WF τ pt pr v v'):mU τ pt pr (l++[v]) (l'++[v']):=dZ.snoc h a
theorem mU.eq (h:mU τ pt pr l l'):mu τ l l':=dZ.imp h λv v' a=>by
 cases a with
 |str d=>exact .str d
 |tup c f b e _ _ _ _ _ _ g=>exact e.Qw c f b g
theorem mU.len (h:mU τ pt pr l l'):l.length=l'.length:=dZ.len h
theorem mU.mv (h:mU τ pt pr l l')(hk:∀ (n:e5) (p:TU),29<=n->n≠pt->n≠pr->τ[n]?=some (.dict (aE p))->υ[n]?=some (.dict (aE p))/\n≠pt'/\n≠aQ):mU υ pt' aQ l l':=dZ.imp h λv v' a=>by
 cases a with
 |str m=>exact .str m
 |tup j s e o c d f g q k t=>
  have a:=hk _ _ c f q s;have b:=hk _ _ d g k e;exact .tup j a.1 b.1 o c d a.2.1 b.2.1 a.2.2 b.2.2 t
noncomputable def FR (τ:H)(ft fd:e0 (Key×V))(pt pr:e5)(n:e0 e5):gN TU->Prop
 |none=>atK ft (.str n)=none/\atK fd (.str n)=none
 |some q=>∃ m a,atK ft (.str n)=some (.h m)/\τ[m]?=some (.dict (aE q))/\29<=m/\m≠pt/\m≠pr/\atK fd (.str n)=some (.str (cq a))/\Sm a q/\eK q
theorem FR.mv (h:FR τ ft fd pt pr n o)(hk:∀ (n:e5) (p:TU),29<=n->n≠pt->n≠pr->τ[n]?=some (.dict (aE p))->υ[n]?=some (.dict (aE p))/\n≠pt'/\n≠aQ):FR υ ft fd pt' aQ n o:=by
 cases o with
 |none=>exact h
 |some q=>
  refine iV h λm d f k a j c l=>?_;refine eR (hk _ _ a j c k) λe b g=>?_;exact lD m d f e a b g l
structure Mi (τ:H)(pt st pr t:e5)(Uf:TU)(sh:e0 (e0 e5))(ft:e0 (Key×V))(hT:e0 V)(oc:V)(ut rg:e0 V)(ri uu:e0 (Key×V))(uv:e0 e5->gN TU):Prop where
 TM:Tw τ pt st Uf sh ft hT oc
 f:Uy τ t
 Af:pr≠pt
 he:mU τ pt pr ut rg
 fl:∀ n,U7 n->FR τ ri uu pt pr n (uv n)
 h30:29<=τ.length
section
variable{st n:e5}
theorem Mi.pre (h:Mi τ pt st pr t Uf sh ft hT oc ut rg ri uu uv)(e:τ<+:υ):Mi υ pt st pr t Uf sh ft hT oc ut rg ri uu uv:=
 have hk:∀ (n:e5) (p:TU),29<=n->n≠pt->n≠pr->τ[n]?=some (.dict (aE p))->υ[n]?=some (.dict (aE p))/\n≠pt/\n≠pr:=λn p d c b a=>⟨aR e a,c,b⟩
 ⟨h.TM.pre e,h.f.pre e,h.Af,h.he.mv hk,λn hn=>(h.fl n hn).mv hk,e2 h.h30 e.length_le⟩
theorem Mi.sQ (h:Mi τ pt st pr t Uf sh ft hT oc ut rg ri uu uv)(hs:Uj τ pr pS Ub out fd TM hS)(r:Uq τ pr TM υ aQ p' j1 out' fd' hS'):Mi υ pt st aQ t Uf sh ft hT oc ut rg ri uu uv:=by
 have b:=hs.so.ge;have m:=h.TM.cF;have o:=h.TM.hst;have d:=h.Af;have k:pr≠st:=λa=>by have:=h.TM.sh;rw[<-a,hs.so.p]at this;cases this
 have e:∀ n j,τ[n]?=some j->n<τ.length:=λn j a=>(e4.mp a).1;have hk:∀ (n:e5) (p:TU),29<=n->n≠pt->n≠pr->τ[n]?=some (.dict (aE p))->υ[n]?=some (.dict (aE p))/\n≠pt/\n≠aQ:=λn p q l g c=>by
  refine⟨r.md.get c (pf (CO q g)),l,?_⟩;have:=e n _ c;rcases r.hp with a|a
  .rw[a];exact g
  .exact pK this a
 refine⟨h.TM.md r.md (xM rfl (hc (e2 (eW rfl) b))) (pf (HX m d)) (pf (HY o k)) (xM rfl (hc (e2 (eW rfl) b))) (xM rfl (hc (e2 (eW rfl) b))),h.f.md r.md (xM rfl (hc (e2 (eW rfl) b))) (xM rfl (hc (e2 (eW rfl) b))),?_,h.he.mv hk,λn hn=>(h.fl n hn).mv hk,e2 h.h30 r.md.1⟩;have:=e pt _ h.TM.pr;rcases r.hp with a|a
 .rw[a];exact d
 .exact hj (fC this a)
end
noncomputable abbrev UH (T6:e0 e5->gN TU)(n:e0 e5):e0 Int:=((T6 n).getD []).map (λq=>q.1)
structure U8 (n:e5)(τ:H)(pt st pr t:e5)(Uf pS:TU)(sh:e0 (e0 e5))(ft fd:e0 (Key×V))(hT hS:e0 V)(oc:V)(T6:e0 e5->gN TU):Prop where
 mi:Mi τ pt st pr t Uf sh ft hT oc hS hT ft fd T6
 UG:Uj τ pr pS .none sh fd (et pt st oc) hS
 sm:Sm pS Uf
 ok:eK Uf
 iT:∀ m v,atK ft (.str m)=some v->U7 m
 ux:ft.length<=n
 uy:fd.length<=n
 shl:sh.length<=100*n
 hl:hT.length<=n
 UK:Uo n (Uf.map (λq=>q.1)) (UH T6 [70]) (UH T6 [71])
noncomputable def U3 (n:e5)(τ:H):Prop:=∃ pt st pr t Uf pS sh ft fd hT hS oc T6,t<=10*n+5/\U8 n τ pt st pr t Uf pS sh ft fd hT hS oc T6
section
variable{st n:e5}
theorem U8.twin (I:U8 n σ pt st pr t Uf pS sh ft fd hT hS oc T6)(T:TR σ pt st U t' rh eO jO lq mT):
  ∃ pt' d,Mi U pt' d pr t' rh eO jO lq mT hS hT ft fd T6/\Uj U pr pS .none sh fd (et pt' d mT) hS/\(pt'=pt\/σ.length<=pt')/\pr<σ.length:=by
 refine cg T.x λpt' d l g y=>?_;have v:=I.UG.so.ge;have f:=I.mi.TM.cF;have h:=I.mi.TM.hst;have m:=I.mi.Af;have u:pr≠st:=λb=>by have:=I.mi.TM.sh;rw[<-b,I.UG.so.p]at this;cases this
 have j:∀ n o,σ[n]?=some o->n<σ.length:=λn o b=>(e4.mp b).1;have k:=j _ _ I.UG.so.p;have x:pr≠pt':=by
  rcases g with b|b
  .rw[b];exact m
  .exact pK k b
 have hk:∀ (n:e5) (p:TU),29<=n->n≠pt->n≠pr->σ[n]?=some (.dict (aE p))->U[n]?=some (.dict (aE p))/\n≠pt'/\n≠pr:=λn p q g1 g2 e=>by
  have s:n≠st:=λb=>by have:=I.mi.TM.sh;rw[<-b,e]at this;cases this
  refine⟨T.m.get e (pf (HZ q g1 s)),?_,g2⟩;have:=j n _ e;rcases g with b|b
  .rw[b];exact g1
  .exact pK this b
 have nm:∀ n,9<=n->n<29->n∉[3,pt,st,4,6,8]:=λn a w=>pf (H0 f h a w);have c:=I.UG.cl;refine xI pt' d ⟨l,T.f,x,I.mi.he.mv hk,λn hn=>(I.mi.fl n hn).mv hk,e2 I.mi.h30 T.m.1⟩ ⟨I.UG.so.md T.m (nm _ J J) (nm _ J J) (pf (H1 v m u)),I.UG.Ul.md T.m (nm _ J J) (nm _ J J) (nm _ J J) (nm _ J J) (nm _ J J),?_⟩ g k;refine⟨?_,?_,T.m.get c.ch (Ht rfl (⟨(Up f rfl).symm,(Up h rfl).symm⟩)),T.m.get c.ct (Ht rfl (⟨(Up f rfl).symm,(Up h rfl).symm⟩)),l.TM,T.m.get c.hd (nm _ J J)⟩
 .exact T.m.get c.ra (nm _ J J)
 .exact T.m.get c.rr (nm _ J J)
end
noncomputable def Ag (υ τ:H):Prop:=∀ X l,29<=X->υ[X]?=some (.list l)->τ[X]?=some (.list l)
theorem Uq.oX (h:Uj τ pr p Ub out fd TM hS)(r:Uq τ pr TM υ aQ p' j1 out' fd' hS'):Ag τ υ:=λX l c a=>by
 have:X≠pr:=λb=>by rw[b,h.so.p]at a;cases a
 exact r.md.get a (pf (CO c this))
noncomputable def Rows (P:H->Prop):e0 (e0 e5×e0 e5)->H->Prop
 |[],τ=>P τ
 |r::rs,τ=>∀ υ,τ<+:υ->∀ z,sG z 17->sH z 18->TK z 20 none [] 82 [.h 26] υ (.str r.2) υ/\∃ ae,TK z 20 none [] 81 [.h 26,.str r.1] υ .none ae/\Ag υ ae/\Rows P rs ae
end
variable{k x:hA}{pI:TU}{iH:e0 e5->gN TU}{tx:e0 e5}
section
set_option backward.match.sparseCases false
section
variable{st n:e5}{F:e0 hA}{b:hA}{W:e0 e5}
noncomputable def TX (r:e0 e5):Prop:=r=TJ\/r=VL\/r=Vj
theorem TX.len (h:TX r):r.length<=200:=by rcases h with rfl|rfl|rfl<;>decide
theorem Tk.QD{t k:e0 e5}(h:Tk t k w W):TX W/\t∈[TJ,te,tr,ts,[]]:=by
 rcases h with⟨⟨rfl,rfl|rfl⟩|⟨rfl,rfl⟩,_⟩|⟨rfl,_,_,rfl⟩
 .exact⟨.inl rfl,.head _⟩
 .exact⟨.inl rfl,.tail _ (.head _)⟩
 .exact⟨.inr (.inr rfl),.tail _ (.tail _ (.tail _ (.head _)))⟩
 .exact⟨.inr (.inl rfl),.tail _ (.tail _ (.head _))⟩
theorem eK.of (c:(p.map (λq=>q.1)).Nodup)(d:Uo n (p.map (λq=>q.1)) F G)(hn:n<=11)(b:∀ q∈p,(1<=q.1/\q.1<=1000)/\TX q.2):eK p:=by
 have:=d.len hn c;simp only[g0]at this;exact⟨⟨by exact Wa this rfl,λq a=>⟨(b q a).1.1,(b q a).1.2,(b q a).2.len⟩,c⟩,λq a=>(b q a).2⟩
theorem eK.rows (h:eK p):∀ q∈p,(1<=q.1/\q.1<=1000)/\TX q.2:=λq a=>⟨⟨(h.ok.row q a).1,(h.ok.row q a).2.1⟩,h.tx q a⟩
theorem qd (h:x∈(b3 p k W).map (λq=>q.1)):x∈p.map (λq=>q.1)\/x=k:=by
 have:=fU.mpr h;rw[lh]at this;by_cases a:x=k
 .exact .inr a
 .rw[hb a]at this;exact .inl (fU.mp this)
theorem qe (h:x∈(p.filter f).map (λq=>q.1)):x∈p.map (λq=>q.1):=by
 (refine ah (h4.mp h) λq a b=>?_;subst b)
 exact kK (nn.mp a).1
theorem mJ (b:(q.map (λq=>q.1)).Nodup)(h:x∈(bw p q).map (λq=>q.1)):x∈p.map (λq=>q.1)\/x∈q.map (λq=>q.1):=by
 have:=fU.mpr h;rw[jV _ _ _ b]at this;cases a:q.lookup x with
 |some r=>exact .inr (fU.mp (by rw[a];rfl))
 |none=>rw[a]at this;exact .inl (fU.mp this)
theorem UA.pos (h:UA k):1<=k/\k<=1000:=by rcases h with rfl|rfl|rfl|rfl|rfl<;>decide
theorem ck (M:Mi U pt st pr t rh eO jO lq oc hS hT ft fd T6)(S:Uj U pr pS .none sh fd (et pt st oc) hS)(x:t<=10*(n+1)+5)
  (ty:∀ a,sG a 17->sH a 18->∀ υ,U<+:υ->Mi υ pt st pr t rh eO jO lq oc hS hT ft fd T6->Uj υ pr pS .none sh fd (et pt st oc) hS->
   ∃ ae,TK a 20 none [] 81 [.h 26,.str tx] υ .none ae/\∃ aQ hS',Uq υ pr (et pt st oc) ae aQ pI .none eO fd' hS'/\(Mi ae pt st aQ t rh eO jO lq oc hS hT ft fd T6->mU ae pt aQ hS' lq/\∀ m,U7 m->FR ae jO fd' pt aQ m (iH m)))
  (v:Sm pI rh) (e:eK rh) (o:∀ m j,atK jO (.str m)=some j->U7 m) (u:jO.length<=n+1) (l:fd'.length<=n+1) (p:eO.length<=100*(n+1)) (y:lq.length<=n+1) (s:Uo (n+1) (rh.map (λq=>q.1)) (UH iH [70]) (UH iH [71])):
  Rows (U3 (n+1)) [(tx,kD)] U:=by
 intro υ c a f g;have d:=M.pre c;have b:=S.pre c;refine⟨zp b.so,?_⟩;obtain⟨ae,w,aQ,hS',r,h⟩:=ty a f g υ c d b;have M2:=d.sQ b r;refine az (h M2) λk z=>?_;exact⟨ae,w,r.oX b,pt,st,aQ,t,rh,pI,eO,jO,fd',lq,hS',oc,iH,x,⟨⟨M2.TM,M2.f,M2.Af,k,z,M2.h30⟩,r.UG,v,e,o,u,l,p,y,s⟩⟩
noncomputable def Told (z:Z)(n:e5)(σ:H)(a:e5):Prop:=∃ v U,TK z 20 none [] a [.h 3,.h 4] σ v U/\((∃ tx,v=.str tx/\29<=U.length/\Rows (U3 (n+1)) [(tx,kD)] U)\/
 (∃ X Y rs,v=.tup [.h X,.h Y]/\29<=X/\29<=Y/\U[X]?=some (.list (rs.map λr=>V.str r.1))/\U[Y]?=some (.list (rs.map λr=>V.str r.2))/\rs.length<=2000/\Rows (U3 (n+1)) rs U))
variable{z:Z}
theorem l6 (I:U8 n σ pt st pr t Uf pS sh ft fd hT hS oc T6)(hn:n<11)(d:t<=10*n+6):Told z n σ 86:=by
 have l:=I.ok.ok.len;have v:=I.sm.len;have c:=I.shl;have o:=I.ux;have g:=I.uy;have f:=I.hl;refine Qj (z:=z) (d:=13) I.mi.TM I.mi.f (by exact pL hn d) (by exact tl (gB l) rfl) (by exact gT hn c) λao k tx p' eO U h hk ai w m TM af=>?_;refine f5 (I.twin (T:=⟨⟨pt,st,TM,.inl rfl,.inl rfl⟩,af,m.mono (by simp)⟩)) λpt' ak M S ab ab=>?_;refine eT _ U w (.inl ⟨_,rfl,M.h30,?_⟩);cases ai with
 |@put _ kk am W hT=>
  refine az hT.QD λy aj=>?_;have b:=I.UK.add (N:=[k]) (P':=(b3 Uf k W).map (λq=>q.1)) hn (eW rfl) λx hx=>by simpa using qd hx
  refine ck (iH:=T6) (fd':=fd) M S (by exact l8 d) (λz u p υ e s a=>?_) (I.sm.put k W) (eK.of (lj I.sm.nb) b (by exact hn) (l0 ⟨hk.pos,y⟩ I.ok.rows)) I.iT (by exact cv o) (by exact cv g) (by exact j2 c) (by exact cv f) b;obtain⟨ae,w',aQ,r⟩:=GA (z:=z) (d:=12) a (q9 h hk aj) hT (by exact CP l v);exact⟨ae,w',aQ,_,r,λM2=>⟨M2.he,M2.fl⟩⟩
 |del j=>
  have b:=I.UK.sub (P':=(cQ Uf k).map (λq=>q.1)) hn λx hx=>qe hx;refine ck (iH:=T6) (fd':=fd) M S (by exact l8 d) (λz u p υ e s a=>?_) (I.sm.del k) (eK.of (q7 I.sm.nb) b (by exact hn) λq aa=>I.ok.rows q (nn.mp aa).1) I.iT (by exact cv o) (by exact cv g) (by exact j2 c) (by exact cv f) b;obtain⟨ae,w',aQ,r⟩:=GB (z:=z) (d:=12) a (q9 h hk J) (by exact CP l v) (by rw[I.sm.has];exact j);exact⟨ae,w',aQ,_,r,λM2=>⟨M2.he,M2.fl⟩⟩
 |bad j=>
  refine ck (iH:=T6) (fd':=fd) M S (by exact l8 d) (λz u p υ e s a=>?_) I.sm I.ok I.iT (by exact cv o) (by exact cv g) (by simp;exact rC c) (by exact cv f) (I.UK.sub hn λx hx=>hx);obtain⟨ae,w',aQ,r⟩:=GC (z:=z) (d:=12) a (q9 h hk J) (by exact gT hn c) (by rw[I.sm.has];exact j);exact⟨ae,w',aQ,_,r,λM2=>⟨M2.he,M2.fl⟩⟩
theorem w4 (I:U8 n σ pt st pr t Uf pS sh ft fd hT hS oc T6)(hn:n<11)(f:t<=10*n+6):Told z n σ 87:=by
 have af:=I.ok.ok.len;have am:=I.sm.len;have c:=I.shl;have l:=I.ux;have h:=I.uy;have g:=I.hl;have j:=I.sm.symm.ok I.ok;refine Qn (z:=z) (d:=16) I.mi.TM I.mi.h30 I.mi.f (by exact pL hn f) I.ok.ok (by exact gT hn c) λx a b hi w p' eO U y ai aa aj=>?_;refine f5 (I.twin aj) λpt' ak M S v v=>?_;refine ql y.facts λf1 f2 f3 f4=>?_;refine eT _ U aa (.inl ⟨_,rfl,M.h30,?_⟩);cases ai with
 |list=>
  have ab:=gA Uf a b;refine ck (iH:=T6) (fd':=fd) M S (by exact xQ f) (λz u o υ e p d=>?_) I.sm I.ok I.iT (by exact cv l) (by exact cv h) (by simp;exact kl c (tl (e2 ab (gB af)) rfl)) (by exact cv g) (I.UK.sub hn λx hx=>hx);obtain⟨ae,w',aQ,r⟩:=B0 (z:=z) (d:=12) d f2 f1 j.ok (by exact gT hn c);rw[I.sm.rows]at r;exact⟨ae,w',aQ,_,r,λM2=>⟨M2.he,M2.fl⟩⟩
 |bad k=>
  refine ck (iH:=T6) (fd':=fd) M S (by exact xQ f) (λz u o υ e p d=>?_) I.sm I.ok I.iT (by exact cv l) (by exact cv h) (by simp;exact rC c) (by exact cv g) (I.UK.sub hn λx hx=>hx);obtain⟨ae,w',aQ,r⟩:=B3 (z:=z) (d:=12) d f3 f1 f4 j.ok (by exact gT hn c) (by rw[I.sm.within];exact k);exact⟨ae,w',aQ,_,r,λM2=>⟨M2.he,M2.fl⟩⟩
 |del k=>
  have s:=I.UK.sub (P':=((within Uf a b).foldl cQ Uf).map (λq=>q.1)) hn λx hx=>by rw[ei]at hx;exact qe hx
  refine ck (iH:=T6) (fd':=fd) (pI:=(within Uf a b).foldl cQ pS) M S (by exact xQ f) (λz u o υ e p d=>?_) (I.sm.Lh _) (eK.of (by rw[ei];exact q7 I.sm.nb) s (by exact hn) λq m=>by rw[ei]at m;exact I.ok.rows q (nn.mp m).1) I.iT (by exact cv l) (by exact cv h) (by exact j2 c) (by exact cv g) s;obtain⟨ae,w',aQ,r⟩:=B2 (z:=z) (d:=12) d f3 f1 f4 j.ok (by rw[I.sm.within];exact k);rw[I.sm.within]at r;exact⟨ae,w',aQ,_,r,λM2=>⟨M2.he,M2.fl⟩⟩
theorem oZ p x y:((fk p x y).map (λq=>q.1)).length=p.length:=by rw[g0,fk,lY,bP]
theorem uz (h:eK p){y:hA}(hx:VF x)(d:1<=y)(j:y<=10):∀ q∈fk p x y,(1<=q.1/\q.1<=1000)/\TX q.2:=by
 intro q c;unfold fk iQ at c;obtain⟨i,hi,g⟩:=Dv.mp c;have k:=h.ok.len;have f:=bP p;have e:1<=x/\x<=100:=by rcases hx with rfl|rfl|rfl<;>decide
 subst g;constructor
 .have a:(0:hA)<=(i:hA)*y:=DZ (by exact h3 _) (by exact rA d)
  have b:(i:hA)*y<=63*10:=LM (by exact H2 hi k f) j (by exact rA d) (by exact h3 _);simp only;exact H3 e a b
 .obtain⟨_,_,r,a,b,_⟩:=h.ok.key (j5 hi)
  simp only[a,Jv];exact h.tx _ b
theorem w5 (I:U8 n σ pt st pr t Uf pS sh ft fd hT hS oc T6)(hn:n<11)(d:t<=10*n+6):Told z n σ 89:=by
 have ak:=I.ok.ok.len;have aj:=I.sm.len;have b:=I.shl;have p:=I.ux;have j:=I.uy;have g:=I.hl;have k:=I.sm.symm.ok I.ok;refine Qy (z:=z) (d:=18) I.mi.TM I.mi.h30 I.mi.f (by exact pL hn d) I.ok.ok (by exact gT hn b) λnew aD p' eO U f l y ab af=>?_;refine f5 (I.twin af) λpt' ai M S v v=>?_;refine az (uo f l) λf1 f2=>?_;have s:=f.b;have m:=l.b;refine eT _ U ab (.inl ⟨_,rfl,M.h30,?_⟩);cases y with
 |bad a=>
  subst a;refine ck (iH:=T6) (fd':=fd) M S (by exact CQ d) (λz aa u υ e w c=>?_) I.sm I.ok I.iT (by exact cv p) (by exact cv j) (by simp;exact rC b) (by exact cv g) (I.UK.sub hn λx hx=>hx);obtain⟨ae,w',aQ,r⟩:=B7 (z:=z) (d:=12) c f1 f2 k.ok (by exact gT hn b);exact⟨ae,w',aQ,_,r,λM2=>⟨M2.he,M2.fl⟩⟩
 |wV a=>
  have o:=mE (p:=Uf) (new:=new) a;have h:=I.UK.wV (P':=(fk Uf new aD).map (λq=>q.1)) hn I.sm.nb (by rw[oZ,g0];exact e6 _);refine ck (iH:=T6) (fd':=fd) (pI:=fk pS new aD) M S (by exact CQ d) (λz aa u υ e w c=>?_) (by rw[I.sm.wV];exact .refl o) (eK.of o h (by exact hn) (uz I.ok f a m.2)) I.iT (by exact cv p) (by exact cv j) (by exact j2 b) (by exact cv g) h;obtain⟨ae,w',aQ,r⟩:=GD (z:=z) (d:=12) c f1 f2 k s.1 s.2 a (by exact g7 m.2 J);exact⟨ae,w',aQ,_,r,λM2=>⟨M2.he,M2.fl⟩⟩
end
end
variable{x y:e0 e5}{rs:e0 (e0 e5×e0 e5)}
section
set_option backward.match.sparseCases false
section
variable{st n:e5}{F:e0 hA}{b:hA}{W:e0 e5}{z:Z}
theorem Mi.fresh (M:Mi U pt st pr t Uf sh ft hT oc ut rg ri uu uv)(e:U<+:υ)(r:Uq υ pr TM τ aQ p j1 out' fd' hS')(g:29<=m)(a:U[m]?=some c)(b:pr≠m):τ[m]?=some c/\m≠aQ:=by
 have d:=(e4.mp (aR e a)).1;refine⟨r.md.get (aR e a) (pf (H4 g b)),?_⟩;rcases r.hp with h|h
 .rw[h];exact b.symm
 .exact pK d h
theorem FR.other (h:FR τ ft fd pt pr x o)(h1:atK jO (.str x)=atK ft (.str x))(h2:atK fd' (.str x)=atK fd (.str x)):FR τ jO fd' pt pr x o:=by
 cases o with
 |none=>exact⟨h1.trans h.1,h2.trans h.2⟩
 |some q=>
  refine xy h λm e f b g c a d j=>?_;exact xJ m e (h1.trans f) b g c a (h2.trans d) j
theorem qf (h:x≠y):(Key.str x)≠Key.str y:=λa=>h (by injection a)
noncomputable def up1 (T6:e0 e5->gN TU)(n:e0 e5)(o:gN TU):e0 e5->gN TU:=λx=>if x=n then o else T6 x
theorem nh:UH (up1 T6 x o) x=(o.getD []).map (λq=>q.1):=by simp[UH,up1]
theorem lr (h:y≠x):UH (up1 T6 x o) y=UH T6 y:=by simp[UH,up1,h]
theorem w6 (I:U8 n σ pt st pr t Uf pS sh ft fd hT hS oc T6)(hn:n<11)(ai:t<=10*n+6):Told z n σ 88:=by
 have bd:=I.ok.ok.len;have a9:=I.sm.len;have l:=I.shl;have am:=I.ux;have ab:=I.uy;have ap:=I.hl;have aJ:=I.sm.symm.ok I.ok;have aY:∀ n,U7 n->Xl σ ft n (T6 n):=λn hn=>by
  have:=I.mi.fl n hn;cases a:T6 n with
  |none=>rw[a]at this;exact this.1
  |some q=>rw[a]at this;refine nj this λm aj ak y ao aq aw aa g o=>?_;exact iX m ak y o.ok ao
 refine Qx (z:=z) (d:=18) (T6:=T6) I.mi.TM I.mi.h30 I.mi.f (by exact pL hn ai) I.ok.ok (by exact gT hn l) aY (by exact uL hn am) (λn m a=>by
  have hn:=I.iT _ _ a;have:=I.mi.fl n hn;cases aD:T6 n with
  |none=>rw[aD]at this;rw[this.1]at a;exact TS a
  |some q=>
   rw[aD]at this;refine nj this λbe aj ak y ao aq aw aa g o=>?_;rw[ak]at a;cases a;exact⟨aq,λz=>by rw[z,I.mi.TM.sh]at y;cases y⟩) λw nm tl p' eO jO U c af a0 a6 a5=>?_
 refine f5 (I.twin a5) λpt' a7 M S bb a3=>?_;refine eT _ U a6 (.inl ⟨_,rfl,M.h30,?_⟩);cases a0 with
 |@save m aX ax aP=>
  refine ah (af.facts (w:=ll) (W:=ll) c (.head _)) λr e f=>?_;have aN:=aX _ _ _ M.TM.TM;have aK:=I.mi.h30;have u:=c.at (P:=λnm=>Uo (n+1) (Uf.map (λq=>q.1)) (UH (up1 T6 nm (some Uf)) [70]) (UH (up1 T6 nm (some Uf)) [71])) (by rw[nh,lr J];exact I.UK.z6 hn λk h=>h) (by rw[nh,lr J];exact(I.UK.swap.z6 hn λk h=>h).swap);have a1:=qc (.str nm) (.h m) ft;have a4:=qc (.str nm) (.str (cq pS)) fd;refine ck (iH:=up1 T6 nm (some Uf)) (fd':=putK fd (.str nm) (.str (cq pS))) M S (by exact l8 ai) (λz au ar υ a as j=>?_) I.sm I.ok (λx v p=>?_) (by exact e2 a1 (hm am)) (by exact e2 a4 (hm ab)) (by exact j2 l) (by exact cv ap) u
  .obtain⟨ae,w',aQ,r⟩:=B4 (z:=z) (d:=12) j e f aJ.ok (by exact uL hn ab)
   refine⟨ae,w',aQ,_,r,λM2=>⟨M2.he,λx hx=>?_⟩⟩;refine az (M.fresh a r (by exact e2 aK ax) aP (by exact pK a3 ax)) λg1 a2=>?_;by_cases d:x=nm
   .rw[d,up1,hz rfl]
    exact En m pS (by rw[iR,hz rfl]) g1 (by exact e2 aK ax) (by exact hj (fC aN ax)) a2 (by rw[iR,hz rfl]) I.sm I.ok
   .rw[up1,hb d]
    exact(M2.fl x hx).other (by rw[iR,hb (qf d)]) (by rw[iR,hb (qf d)])
  .rw[iR]at p
   by_cases d:x=nm
   .rw[d];exact c
   .rw[hb (qf d)]at p;exact I.iT _ _ p
 |bad b aO=>
  have ay:atK fd (.str nm)=none:=by
   have:=I.mi.fl nm c;rw[b]at this;exact this.2
  refine ck (iH:=T6) (fd':=fd) M S (by exact l8 ai) (λz au ar υ a as j=>?_) I.sm I.ok I.iT (by exact cv am) (by exact cv ab) (by rw[hg];exact rC l) (by exact cv ap) (I.UK.sub hn λx hx=>hx);rcases aO with rfl|rfl|rfl
  .refine ah (af.facts (w:=oU) (W:=[76,79,65,68]) c (.tail _ (.head _))) λr e f=>?_
   obtain⟨ae,w',aQ,r⟩:=Ac (z:=z) (d:=12) j e f (by exact gT hn l) ay;exact⟨ae,w',aQ,_,r,λM2=>⟨M2.he,M2.fl⟩⟩
  .refine ah (af.facts (w:=jN) (W:=jN) c (.tail _ (.tail _ (.head _)))) λr e f=>?_
   obtain⟨ae,w',aQ,r⟩:=w0 (z:=z) (d:=12) j e f (by exact gT hn l) ay;exact⟨ae,w',aQ,_,r,λM2=>⟨M2.he,M2.fl⟩⟩
  .refine ah (af.facts (w:=jn) (W:=jn) c (.tail _ (.tail _ (.tail _ (.head _))))) λr e f=>?_
   obtain⟨ae,w',aQ,r⟩:=Ae (z:=z) (d:=12) j e f (by exact gT hn l) ay;exact⟨ae,w',aQ,_,r,λM2=>⟨M2.he,M2.fl⟩⟩
 |@kill q b=>
  refine ah (af.facts (w:=jn) (W:=jn) c (.tail _ (.tail _ (.tail _ (.head _))))) λr e f=>?_;have s:=I.mi.fl nm c;rw[b]at s;refine nj s λm aj ak y ao aq aw aa g o=>?_;have u:=c.at (P:=λnm=>Uo (n+1) (Uf.map (λq=>q.1)) (UH (up1 T6 nm none) [70]) (UH (up1 T6 nm none) [71])) (by rw[nh,lr J];exact I.UK.DV hn λk h=>iv h h6) (by rw[nh,lr J];exact(I.UK.swap.DV hn λk h=>iv h h6).swap);have aL:(fc ft (.str nm)).length<=ft.length:=oW ..;have l2:(fc fd (.str nm)).length<=fd.length:=oW ..;refine ck (iH:=up1 T6 nm none) (fd':=fc fd (.str nm)) M S (by exact l8 ai) (λz au ar υ a as j=>?_) I.sm I.ok (λx v p=>?_) (by exact sn (e2 aL am)) (by exact sn (e2 l2 ab)) (by exact j2 l) (by exact cv ap) u
  .obtain⟨ae,w',aQ,r⟩:=B6 (z:=z) (d:=12) j e f aa (by exact uL hn ab)
   refine⟨ae,w',aQ,_,r,λM2=>⟨M2.he,λx hx=>?_⟩⟩;by_cases d:x=nm
   .rw[d,up1,hz rfl]
    exact⟨by rw[iS,hz rfl],by rw[iS,hz rfl]⟩
   .rw[up1,hb d]
    exact(M2.fl x hx).other (by rw[iS,hb (qf d)]) (by rw[iS,hb (qf d)])
  .rw[iS]at p
   by_cases d:x=nm
   .rw[d,hz rfl]at p;exact TS p
   .rw[hb (qf d)]at p;exact I.iT _ _ p
 |load b=>
  refine ah (af.facts (w:=oU) (W:=[76,79,65,68]) c (.tail _ (.head _))) λr e f=>?_;have s:=I.mi.fl nm c;rw[b]at s;refine nj s λm aj ak y ao aq aw aa g o=>?_;have u:=c.at (P:=λnm=>T6 nm=some p'->Uo (n+1) (p'.map (λq=>q.1)) (UH T6 [70]) (UH T6 [71])) (λb=>I.UK.z7 hn λk h=>by rw[UH,b];exact h) (λb=>(I.UK.swap.z7 hn λk h=>by rw[UH,b];exact h).swap) b;refine ck (iH:=T6) (fd':=fd) (pI:=eL aj) M S (by exact l8 ai) (λz au ar υ a as j=>?_) ((sL g.na).trans g) o I.iT (by exact cv am) (by exact cv ab) (by exact j2 l) (by exact cv ap) u;obtain⟨ae,w',aQ,r⟩:=B5 (z:=z) (d:=12) j e f aa (g.symm.ok o);exact⟨ae,w',aQ,_,r,λM2=>⟨M2.he,M2.fl⟩⟩
 |@merge q b=>
  refine ah (af.facts (w:=jN) (W:=jN) c (.tail _ (.tail _ (.head _)))) λr e f=>?_;have s:=I.mi.fl nm c;rw[b]at s;refine nj s λm aj ak y ao aq aw aa g o=>?_;have u:=c.at (P:=λnm=>T6 nm=some q->Uo (n+1) ((bw Uf q).map (λq=>q.1)) (UH T6 [70]) (UH T6 [71])) (λb=>I.UK.DU hn λk h=>by rw[UH,b];exact mJ g.nb h) (λb=>(I.UK.swap.DU hn λk h=>by rw[UH,b];exact mJ g.nb h).swap) b;have aA:=I.sm.merge ((sL g.na).trans g);have aV:∀ x∈bw Uf q,(1<=x.1/\x.1<=1000)/\TX x.2:=by
   intro x hx;have:=(ir aA.nb).mpr (show(x.1,x.2)∈bw Uf q from hx);rw[jV _ _ _ g.nb]at this;cases a:q.lookup x.1 with
   |some a8=>
    rw[a]at this;cases this;exact o.rows _ (dG a)
   |none=>
    rw[a]at this;exact I.ok.rows (x.1,x.2) (dG this)
  refine ck (iH:=T6) (fd':=fd) (pI:=bw pS (eL aj)) M S (by exact l8 ai) (λz au ar υ a as j=>?_) aA (eK.of aA.nb u (by exact hn) aV) I.iT (by exact cv am) (by exact cv ab) (by exact j2 l) (by exact cv ap) u;obtain⟨ae,w',aQ,r⟩:=Ad (z:=z) (d:=12) j e f aJ aa (g.symm.ok o);exact⟨ae,w',aQ,_,r,λM2=>⟨M2.he,M2.fl⟩⟩
theorem mK{code:e0 e5}(h:VG code ln) sh:(tell sh code ln).length<=sh.length+1:=by
 rw[h.tell];rcases h with⟨rfl,_⟩|⟨rfl,_⟩|⟨rfl,_⟩<;>(rw[hg];exact hH J _)
theorem w7 (I:U8 n σ pt st pr t Uf pS sh ft fd hT hS oc T6)(hn:n<11)(j:t<=10*n+6):Told z n σ 90:=by
 have a1:=I.ok.ok.len;have aY:=I.sm.len;have d:=I.shl;have y:=I.ux;have v:=I.uy;have f:=I.hl;have ao:=I.mi.he.len;have ak:=I.mi.h30;have aL:=I.sm.symm.ok I.ok;refine QA (z:=z) (d:=17) I.mi.TM I.mi.h30 I.mi.f (by exact pL hn j) I.ok.ok (by exact gT hn d) (by exact uL hn f) λx p' eO hs' mT U t' u aJ aw aV=>?_;refine f5 (I.twin aV) λpt' am M S a0 as=>?_;refine eT _ U aw (.inl ⟨_,rfl,M.h30,?_⟩);have aa:=I.UK.sub (P':=Uf.map (λq=>q.1)) hn λx hx=>hx;have ap:∀ {m:e5} {h:V} {tx code r:e0 e5} {ln:hA},jM σ U->VG code ln->σ.length<=m->U[m]?=some (.dict (aE Uf))->Uz tx sO r->TN r h->r.length<=1000->(h=.none\/∃ i,h=.int i)->(∀ i,h=.int i->bM Uf i=true)->
   Mi U pt' am pr t' Uf (tell sh code ln) ft (hT++[.tup [.h m,h]]) (.tup [.str code,.int ln]) hS hT ft fd T6->Uj U pr pS .none sh fd (et pt' am (.tup [.str code,.int ln])) hS->Rows (U3 (n+1)) [(tx,kD)] U:=by
  intro m h tx code r ln l c a g ax aO aP aA aX M S;have au:=l _ _ _ M.TM.TM;have ab:=mK c sh;refine ck (iH:=T6) (fd':=fd) M S (by exact uM j u) (λz s o υ b p e=>?_) I.sm I.ok I.iT (by exact cv y) (by exact cv v) (by exact CR d ab) (by rw[hg];exact hm f) aa;obtain⟨ae,w',a2,aq,aN,w⟩:=GG (z:=z) (d:=12) s e ax aL.ok aO aP (λi hi=>by rw[I.sm.has];exact aX i hi) rfl (by exact CS hn f ao) c (by exact gT hn d);have af:=b.length_le;have ai:=(e4.mp g).1;have aK:=(e4.mp p.TM.pr).1;refine az (M.fresh b aq (by exact e2 ak a) g (by exact pK as a)) λay aD=>?_;exact⟨ae,w',pr,_,aq,λM2=>⟨M2.he.snoc (.tup (by exact hj (fC ai (e2 af w))) aN ay I.sm (by exact H5 ak a w af ai) (by exact e2 ak a) (by exact hj (fC aK w)) (by exact hj (fC au a)) (by exact H6 as a w af ai) aD aA),M2.fl⟩⟩
 cases aJ with
 |new=>
  have ar:=I.UK.sub (P':=([]:TU).map (λq=>q.1)) hn λx hx=>by simp at hx
  refine ck (iH:=T6) (fd':=fd) (pI:=[]) M S (by exact uM j u) (λz s o υ b p e=>?_) (.refl (by simp)) (eK.of (by simp) ar (by exact hn) (by simp)) I.iT (by exact cv y) (by exact cv v) (by exact j2 d) (by exact cv f) ar;obtain⟨ae,w',aQ,r⟩:=GF (z:=z) (d:=12) e ur;exact⟨ae,w',aQ,_,r,λM2=>⟨M2.he,M2.fl⟩⟩
 |@ul k hk aj=>
  refine az (oV hk) λf1 f2=>?_;have:=hk.b;have sk:=cK (k:=k) this.1 (by exact g7 this.2 J);refine ck (iH:=T6) (fd':=fd) M S (by exact uM j u) (λz s o υ b p e=>?_) I.sm I.ok I.iT (by exact cv y) (by exact cv v) (by rw[hg];exact rC d) (by exact cv f) aa;obtain⟨ae,w',aQ,r⟩:=B8 (z:=z) (d:=12) e f1 f2 (by exact tl sk rfl) (by rw[I.sm.has];exact aj) (by exact gT hn d);exact⟨ae,w',aQ,_,r,λM2=>⟨M2.he,M2.fl⟩⟩
 |stop c=>
  have ab:=mK c sh;refine ck (iH:=T6) (fd':=fd) M S (by exact uM j u) (λz s o υ b p e=>?_) I.sm I.ok I.iT (by exact cv y) (by exact cv v) (by exact CR d ab) (by rw[hg];exact hm f) aa;obtain⟨ae,w',aQ,r⟩:=B9 (z:=z) (d:=12) o e rfl (by exact CS hn f ao) c (by exact gT hn d);exact⟨ae,w',aQ,_,r,λM2=>⟨M2.he.snoc (.str _),M2.fl⟩⟩
 |run l c a g=>exact ap l c a g mF.1 mF.2 (by simp) (.inl rfl) (λi b=>by cases b) M S
 |@DX code ln k m l c hk aj a g=>
  refine az (oV hk) λf1 f2=>?_;have:=hk.b;have sk:=cK (k:=k) this.1 (by exact g7 this.2 J);exact ap l c a g f1 f2 (by exact tl sk rfl) (.inr ⟨_,rfl⟩) (λi b=>by cases b;exact aj) M S
theorem g9.ok (h:g9 aD m p k rs p')(hk:1<=k)(e:0<=aD)(hn:(p.map (λq=>q.1)).Nodup)(c:∀ q∈p,(1<=q.1/\q.1<=1000)/\TX q.2):(p'.map (λq=>q.1)).Nodup/\(∀ q∈p',(1<=q.1/\q.1<=1000)/\TX q.2)/\∃ N:e0 hA,N.length<=m/\∀ x∈p'.map (λq=>q.1),x∈p.map (λq=>q.1)\/x∈N:=by
 induction h with
 |@put m p p' k rs a b _ d=>
  obtain⟨g,l,N,f,j⟩:=d (by exact g7 hk (oA e)) (lj hn) (l0 ⟨⟨hk,by exact g7 b J⟩,.inl rfl⟩ c);refine⟨g,l,k::N,by simp;exact f,λx hx=>?_⟩;rcases j x hx with h|h
  .rcases qd h with h|h
   .exact .inl h
   .exact .inr (by simp[h])
  .exact .inr (by simp[h])
 |skip a b n _ d=>exact d (by exact g7 hk (oA e)) hn c
 |stop a b n=>exact⟨hn,c,[],by simp,λx hx=>.inl hx⟩
theorem uA{N:e5}(h:g9 aD m p k rs p')(e:aD=10\/aD=25):
  ∀ τ pr pS,p.length+m<=1000->Mi τ pt st pr t Uf sh ft hT oc hS rg ri fd T6->Uj τ pr pS (.tup [.int k,.int aD]) sh fd (et pt st oc) hS->Sm pS p->
   (∀ τ pr pS,Mi τ pt st pr t Uf sh ft hT oc hS rg ri fd T6->Uj τ pr pS .none sh fd (et pt st oc) hS->Sm pS p'->U3 N τ)->Rows (U3 N) rs τ:=by
 induction h with
 |@put m p p' k rs a b _ j=>
  intro τ pr pS g M S hs K υ d z n o;have f:=M.pre d;have c:=S.pre d;have q:=hs.len;refine⟨by have:=F4 (z:=z) (d:=17) c.so a (by exact g7 b J);rwa[hs.has]at this,?_⟩;obtain⟨ae,w',aQ,r⟩:=GH (z:=z) (d:=12) c (by exact H7 g q) (by exact t7 J (vK e)) (by exact g7 (qj b (Ep e)) J) a;have:=jU k TJ p;exact eS ae w' (r.oX c) (j ae aQ _ (by exact H8 g this) (f.sQ c r) r.UG (hs.put k TJ) K)
 |@skip m p p' k rs a b l _ j=>
  intro τ pr pS g M S hs K υ d z n o;have f:=M.pre d;have c:=S.pre d;refine⟨by have:=F4 (z:=z) (d:=17) c.so a b;rwa[hs.has]at this,?_⟩;obtain⟨ae,w',aQ,r⟩:=vt (z:=z) (d:=12) c (by exact t7 J (vK e)) (by exact g7 (qj b (Ep e)) J);rw[hs.has,l,hz rfl]at r;exact eS ae w' (r.oX c) (j ae aQ _ g (f.sQ c r) r.UG hs K)
 |@stop m p k a b l=>
  intro τ pr pS g M S hs K υ d z n o;have f:=M.pre d;have c:=S.pre d;refine⟨by have:=F4 (z:=z) (d:=17) c.so a b;rwa[hs.has]at this,?_⟩;obtain⟨ae,w',aQ,r⟩:=vt (z:=z) (d:=12) c (by exact t7 J (vK e)) (by exact g7 (qj b (Ep e)) J);rw[hs.has,l,hb J]at r;exact eS ae w' (r.oX c) (K ae aQ _ (f.sQ c r) r.UG hs)
theorem g9.len (h:g9 aD m p k rs p')(d:10<=aD):(rs.length:hA)*10+k<=1125+20*m+10:=by
 induction h with
 |put a b _ c=>simp;exact H9 d c
 |skip a b e _ c=>simp;exact Ia d c
 |stop a b e=>simp;exact Ib b
theorem w9 (I:U8 n σ pt st pr t Uf pS sh ft fd hT hS oc T6)(hn:n<11)(e:t<=10*n+6):Told z n σ 91:=by
 have j:=I.ok.ok.len;have as:=I.sm.len;have ab:=I.shl;have ao:=I.ux;have aa:=I.uy;have u:=I.hl;have h:=I.mi.h30;refine Qt (z:=z) (d:=13) I.mi.TM I.mi.h30 I.mi.f (by exact pL hn e) (by exact tl (gB j) rfl) (λq m=>(I.ok.rows q m).1.2) λk aD rs p' X Y U t' y hk a c am l w ax ak aj ap=>?_;refine f5 (I.twin ap) λpt' o M S au aw=>?_;refine az (uq hk a) λf1 f2=>?_;have g:=hk.pos;have x:=c.len (by exact vK a);obtain⟨af,ai,N,s,v⟩:=c.ok g.1 (by exact g7 J (vK a)) I.sm.nb I.ok.rows;have d:=I.UK.add hn s v;refine eT _ U am (.inr ⟨X,Y,(fT k aD,kD)::rs,rfl,by exact e2 h ak,by exact e2 h aj,by rw[l];simp,by rw[w];simp,by simp;exact Ic g x,?_⟩);intro υ f z ar aq;have p:=M.pre f;have b:=S.pre f;refine⟨zp b.so,?_⟩;obtain⟨ae,w',aQ,r⟩:=Ca (z:=z) (d:=12) b f1 f2 (by exact g7 J (vK a));refine eS ae w' (r.oX b) (uA c a ae aQ pS (by exact ta (gB j) rfl) (p.sQ b r) r.UG I.sm λτ pr pI M2 S2 hs=>?_);exact⟨pt',o,pr,t',p',pI,sh,ft,fd,hT,hS,oc,T6,by exact Ie e y,⟨M2,S2,hs,eK.of af d (by exact hn) ai,I.iT,by exact cv ao,by exact cv aa,by exact j2 ab,by exact cv u,d⟩⟩
end
end
variable{k kk:e5}{fv:e0 e5}{D:Fn}
section
set_option backward.match.sparseCases false
structure o4 (nm:e5->jg)(F:Fn)(fv:e0 e5)(fd:qx)(as:e0 hD):Prop where
 body:∃ t,fd.body=.stmts (F.body.ss nm t)
 bind:∀ ws:e0 fB,ws.length=F.ps.length->qR fd ⟨ws,[]⟩=pure ((F.ps.map nm).zip ws)
 sc:fd.scope.names=eN nm F.sc
 glob:fd.globals=jk
 blt:fd.builtins=mN
 ic:∀ (i x:e5) (a:hD),fv[i]?=some x->as[i]?=some a->fd.closure.lookup (nm x)=some a
 co:fd.scope.isCoroutine=false
 gen:fd.scope.isGenerator=false
 kind:fd.scope.kind=.function
theorem xb{cs:e0 e5}(h:cs.mapM (λi=>ι[i]?)=some as){i:e5}(e:cs[i]?=some n):∃ a,as[i]?=some a/\ι[n]?=some a:=by
 induction cs generalizing as i with
 |nil=>exact TS (uI▸e)
 |cons g cs d=>
  obtain⟨a,b,f,c,rfl⟩:=mY.mp h;cases i with
  |zero=>exact⟨a,rfl,fZ e▸b⟩
  |succ i=>exact d c e
section
variable{z:Z}{lk:e0 e5}{args:e0 V}{cs:e0 e5}{f:Uk}{P:V->H->Prop}
theorem VZ.of (aK:∀ fd l,z.p.cl kk fd l->o4 z.nm D fv fd l)(ay:D.wf T0 n0=true)(bh:D.cells=[])(e:σ[k]?=some (.ic kk cs))(bl:fv.Nodup)(aQ:∀ x∈fv,x<n0.N)(aV:args.length=D.ps.length)(ao:aZ) B (sc:UE) cm (h2:(D.ps.zip args).reverse=ao)(a6:D.body=B)(aP:D.sc=sc)(bi:fv.zip cs=cm)(h:DB z ⟨⟨cm,lk,hn⟩,sc,d⟩ ao σ B f am ae):VZ z (d+1) hn lk k args σ f.val ae:=λmd bd A fr ι s a ws X as ai o w a7 r vs aq=>by
 subst h2;subst a6;subst aP;subst bi;refine s9 (r.obj k a _ a7 e) λbm fd l c a8 bo aO aL bb bJ bs ax=>?_;have H:=aK fd l aL;have B:=z.G.B
 (refine az (Fn.vf ay) λaJ af=>?_;rcases aJ with⟨⟨aX,m⟩,bA⟩)
 have aj:∀ x∈D.ps,x<n0.N:=λx hx=>by
  rcases af x hx with q|q
  .exact m _ (dG q)
  .exact m _ (dG q)
 have ak:∀ x∈D.sc,x.2≠.cell:=λx hx q=>by
  have:x.1∈D.cells:=kK (f:=(λq=>q.1)) (nn.mpr ⟨hx,by rw[q];rfl⟩);rw[bh]at this;simp at this
 have aY:=k6 z.G aj;have aA:s.heap.NoLimit:=B.nolimit.keeps r.stays;refine av H.body λbn aN=>?_;refine JB (by show A.depth<1000;exact hO (ry o) (eW rfl)) a8 aO aA ax aN (SO (H.bind ws (vs.length.symm.trans aV))) (λx hx q=>?_) (λx hx=>?_) (λh₁ aa a9=>?_) H.co H.gen H.kind
 .rw[H.sc]at hx
  (refine ah (h4.mp hx) λy j p=>?_;subst p)
  exact ak y j q
 .obtain⟨bE,bt⟩:=x
  (refine ah (h4.mp (wU hx).1) λy j p=>?_;subst p)
  show fd.scope.names.lookup (z.nm y)=_;rw[H.sc,cS z.G (aj y j) m];rcases af y j with q|q
  .exact q
  .exact iv rfl (ak _ (dG q))
 have ab:z.aa.get? s.heap.objs.size=none:=r.stays.fresh;have ap:s.heap.objs.size∉ι:=λq=>hW _ (r.kH q);refine az (r.ext a9) λr₁ st=>?_
 let C:Cfg:=⟨m2 fd s.heap.objs.size a,A.deeper (m2 fd s.heap.objs.size a),m2 fd s.heap.objs.size a::fr,fv.zip cs,md,hn⟩
 have be:cH C:=⟨H.kind,H.glob,H.blt,by show(A.frames.map _)=_;rw[as];rfl,λq=>by have q:hn=none:=q;subst q;exact ai,by show A.depth+1<=600;exact o3 o,by show A.units+3<=6000;exact VX w⟩;have g:Good z.p z.prog z.w z.aa C (D.ps.zip args).reverse ι σ (λx=>(((D.ps.map z.nm).zip ws).reverse).lookup x) h₁:=
  ⟨r₁.enter rfl H.kind ab ap (r.l9 (aW _)) aa,aa,ap,ab,λx id v t h2=>(A2.zip aY ((st md []).lG vs)).reverse.lookup B.nodup t h2,(λx id n t h2=>by
   have a2:=dG h2;refine av (nD a2) λi hi=>?_;rw[oY]at hi;refine az hi λu aD=>?_;refine ah (xb bb aD) λb g1 a4=>?_;refine⟨b,a4,?_⟩;show fd.closure.lookup id=some b;have hx:x∈fv:=fz u;have:id=z.nm x:=by have:=z.G.nms x (aQ x hx);rw[t]at this;exact fZ this
   subst this;exact H.ic i _ _ u g1),ai,r.l9 (aW _)⟩
 have a3:D.body.wf T0 n0 D.sc=true:=aX;have R:z.R ⟨⟨fv.zip cs,lk,hn⟩,D.sc,d⟩ C:=⟨be,λx q hx ar=>.inl (by
  show fd.scope.names.lookup (z.nm x)=_;rw[H.sc,cS z.G hx m];exact ar),rfl,rfl,bd,by show A.depth+1+d<=600;exact o1 o,by show A.units+3+10*d<=6000;exact o2 w⟩
 refine h C ⟨R,⟨fr,rfl,rfl⟩⟩ a3 ι _ _ _ _ g λaw h' a0 bF fl a5 au a1=>?_;refine aq aw h' a0 _ a5.rel.tail (Step.mZ (L:=s.heap.objs.size) rfl (st md []) au (aW _)) ?_;cases a1 with
 |next=>exact .none
 |brk=>exact .none
 |cont=>exact .none
 |ret q=>exact q
end
end
section
noncomputable abbrev Cc:Ss:=cU (bG (.fr 224) 67 (fM (cI 29 (.lits 153 215 (.lo 15))) 18)) (aF (.sub i6 kq))
noncomputable def sS:Fn:=⟨[15,18],[(15,f6),(18,f6),(224,.free),(207,.free),(29,hZ),(153,hZ)],Cc⟩
noncomputable abbrev Cd:Ss:=cU (fO (.fr 224) 67 21) (aF (.sub i6 kq))
noncomputable def xd:Fn:=⟨[21],[(21,f6),(224,.free),(207,.free)],Cd⟩
noncomputable def hfT:e0 Fn:=[sS,xd]
noncomputable abbrev QO:Ss:=fY (.tu (fG 201 (.ce 207))) (bS (.li (cN (.st (.lo 223) (.i 48)) aS)) (.UO (.c j7 (.c oi (bN gV qU kq))) (.c dc (.c dc (bN dO dO (bS bB aS)))))) (cG (.ce 224) dO)
noncomputable abbrev Lz:S:=.de 225 [(15,⟨623,16,623,23⟩),(18,⟨623,25,623,29⟩)] (cU (bG (.fr 224) 67 (fM (cI 29 (.lits 153 215 (.lo 15))) 18)) (aF (.sub i6 kq))) [(15,f6),(18,f6),(224,.free),(207,.free),(29,hZ),(153,hZ)]
noncomputable abbrev LA:S:=.de 226 [(21,⟨627,16,627,20⟩)] (cU (fO (.fr 224) 67 21) (aF (.sub i6 kq))) [(21,f6),(224,.free),(207,.free)]
noncomputable abbrev LB:S:=.asg (.lo 155) (cM 227 (.c (cM 228 .n) (dw 225 226)))
noncomputable abbrev vu:X:=jT
noncomputable abbrev vv:X:=cI 221 (bY (.i 2) (eJ 10))
noncomputable abbrev LC:S:=.asg (.lo 229) (.li (gj 230 (gj 230 (gj 230 (gj 231 (gj 232 (bN (.gl 233) (.gl 234) (.gl 235))))))))
noncomputable abbrev QP:S:=.asg (.lo 2) (.call (cT 229 (.lo 111)) (fG 201 (.ce 207)))
noncomputable abbrev QQ:S:=.asg (d8 219 220) (.fy (.mO 236 237 (.lo 2)) (.lo 2) (bS (.li (fX 2 .n)) (iE ng)))
noncomputable abbrev Ah:X:=d8 21 238
noncomputable abbrev Ai:X:=.bi 239 (dw 219 220)
noncomputable abbrev qg:Ss:=ci .NotEq (bz 240 155) (.lo 238) (aF kt) (bO (gE 241 155 21))
noncomputable abbrev GJ:Ss:=dy (.dL .Or (bN (i5 fN (fP j7)) (i5 (.dr eZ 128) (fP gV)) (i5 (.ce 224) (fP qU)))) (aF kt) (ci .NotEq (bz 240 155) ng (aF kt) .n)
noncomputable abbrev QR:Ss:=aF (.bo true)
noncomputable def rj:UE:=[(223,f6),(201,f6),(225,f6),(226,f6),(155,f6),(204,f6),(111,f6),(229,f6),(2,f6),(219,f6),(220,f6),(21,f6),(238,f6),(224,.cell),(207,.cell),(227,hZ),(228,hZ),(221,hZ),(206,hZ),(230,hZ),(231,hZ),(232,hZ),(233,hZ),(234,hZ),(235,hZ),(236,hZ),(237,hZ),(239,hZ),(240,hZ),(241,hZ)]
end
section
set_option backward.match.sparseCases false
structure kc (z:Z):Prop where
 ra:∀ fd as,z.p.cl 0 fd as->o4 z.nm sS [224,207] fd as
 rr:∀ fd as,z.p.cl 1 fd as->o4 z.nm xd [224,207] fd as
section
variable{z:Z}
theorem kc.LD (K:kc z):sG z (d+1):=λτ pr p c TM hs oc b m e o l=>by
 have h:=e.len;have f:=B1.nY (z:=z) (F:=⟨⟨[(224,0),(207,1)],[],none⟩,sS.sc,d⟩) (σ:=τ++[.list (p.map λq=>.tup [.int q.1,.str q.2])]) rfl bc (fm p) (by rw[dJ];show _<=16777216;exact vM h);rw[oR e.nd]at f;have g:TB z ⟨⟨[(224,0),(207,1)],[],none⟩,sS.sc,d⟩ [(18,c),(15,.h pr)] τ (.lits 153 215 (.lo 15)) (.h τ.length) (τ++[.list ((aE p).map λq=>.tup [q.1.v,q.2])]):=.lits rfl (.lo rfl) m (by rw[dJ];show _<=16777216;exact vM h);rw[show(aE p).map (λq=>V.tup [q.1.v,q.2])=p.map λq=>.tup [.int q.1,.str q.2] by simp[aE,Key.v]]at g;have j:τ<+:τ++[TH.list (p.map λq=>.tup [.int q.1,.str q.2])]++[TH.dict (aE p)]:=(e1 ..).trans (e1 ..);have a:=b.pre j;have n:=(e4.mp b.hd).1;refine Em ((τ++[TH.list (p.map λq=>.tup [.int q.1,.str q.2])]++[TH.dict (aE p)]).set 9 (.list (hs++[.tup [.h (τ++[TH.list (p.map λq=>.tup [.int q.1,.str q.2])]).length,c]]))) ((τ++[TH.list (p.map λq=>.tup [.int q.1,.str q.2])]).length) ?_ ((Md.aK (L:=[9]) j).trans Md.set (by simp)) (dK a.hd) (bv bc (by simp;exact hj (e2 (eW rfl) n))) (by simp);refine VZ.of (f:=.ret oc) (am:=[(18,c),(15,.h pr)]) K.ra (by decide+kernel) rfl b.ra J J rfl _ Cc sS.sc _ rfl rfl rfl rfl ?_;have k:=(ik b.hd).trans (ik a.hd).symm;apply DB.c (TF.ex (.me rfl (.fr rfl b.ch) (.c (.tu (.c (.bi rfl (.c g .n) f) (.c (.lo rfl) .n)) (eW rfl)) .n) k (M2.append a.hd (by show _<=16777216;exact tl l rfl) rfl)));exact DB.r (.re (.sub (.fr rfl (bv a.ct J)) .s (T9.dict (key:=.str g8) rfl (bv a.TM J) o)))
theorem kc.LF (K:kc z):sH z (d+1):=λτ x TM hs oc a b c=>by
 refine eS (τ.set 9 (.list (hs++[.str x]))) ?_ Md.set (dK a.hd);refine VZ.of (f:=.ret oc) (am:=[(21,.str x)]) K.rr (by decide+kernel) rfl a.rr J J rfl _ Cd xd.sc _ rfl rfl rfl rfl ?_;apply DB.c (TF.ex (.cE rfl (.fr rfl a.ch) (.c (.lo rfl) .n) (M2.append a.hd (by show _<=16777216;exact tl c rfl) rfl)));exact DB.r (.re (.sub (.fr rfl (bv a.ct J)) .s (T9.dict (key:=.str g8) rfl (bv a.TM J) b)))
end
end
variable{p:P}{hf:Vs}{w:jo}
section
set_option backward.match.sparseCases false
@[reducible] noncomputable def P.T8 (p:P) (hf:Vs):P:={p with hid:=hf}
section
variable{fr:e0 zs}{gl:e0 (jg×V)}
mutual
theorem TQ.T8 (hT:∀ a∈hf.t,h.get? a=none)(f:∀ a∈p.hid.f,a∈hf.f){v:V}{wv:fB}(r:TQ p ι h v wv):TQ (p.T8 hf) ι h v wv:=
 TQ.rec (p:=p) (motive_1:=λv w b=>TQ (p.T8 hf) ι h v w) (motive_2:=λv w b=>aT (p.T8 hf) ι h v w) .none .bool .int .str (λb a b c=>.tup (p:=p.T8 hf) (λq=>a.elim λe d=>TS ((hT _ q).symm.trans d.1)) a c) .h (.fn (p:=p.T8 hf)) (.ab (p:=p.T8 hf)) .nil (λb b a c=>.cons a c) r
theorem aT.T8 (hT:∀ a∈hf.t,h.get? a=none)(c:∀ a∈p.hid.f,a∈hf.f){v:e0 V}{wv:e0 fB}(r:aT p ι h v wv):aT (p.T8 hf) ι h v wv:=r.ind .nil λa d b=>.cons (TQ.T8 hT c a) b
end
theorem UJ.T8 (hT:∀ a∈hf.t,h.get? a=none)(d:∀ a∈p.hid.f,a∈hf.f){l:e0 (e5×V)}(r:UJ p ι h l es):UJ (p.T8 hf) ι h l es:=by
 induction r with
 |nil=>exact .nil
 |cons a b _ c=>exact .cons (p:=p.T8 hf) a (b.T8 hT d) c
theorem U4.T8 (hT:∀ a∈hf.t,h.get? a=none)(c:∀ a∈p.hid.f,a∈hf.f){a:hD}(x:U4 p prog w ι h co a):U4 (p.T8 hf) prog w ι h co a:=by
 cases co with
 |list l=>obtain⟨ws,a,r⟩:=x;exact⟨ws,a,r.T8 hT c⟩
 |dict d=>obtain⟨k,a,b,r⟩:=x;exact⟨k,a,b,r.T8 hT c⟩
 |inst k nd=>exact x
 |ns aa=>obtain⟨e,n,b,r⟩:=x;exact⟨e,n,b,r.T8 hT c⟩
 |cell z=>
  obtain⟨wv,b,r⟩:=x;refine⟨wv,b,?_⟩;cases r with
  |none=>exact .none
  |some r=>exact .some (r.T8 hT c)
 |ic k ab=>obtain⟨f,fd,u,t,q,y,j,v,g,s,m,o⟩:=x;exact⟨f,fd,u,t,q,y,j,v,g,s,c _ m,o⟩
 |gK nd=>exact x
theorem Rel.T8 (r:Rel p prog w aa fr ι σ h)(hT:∀ a∈hf.t,h.get? a=none)(j:∀ a∈p.hid.f,a∈hf.f)(hk:∀ c b,h.get? c=some b->h'.get? c=some b)(lq:∀ a∈hf.t,∃ b,h'.get? a=some b)
  (e:∀ a∈hf.f,a∉ι/\a∉dp fr/\aa.get? a=none/\∃ b,h'.get? a=some b):Rel (p.T8 hf) prog w aa fr ι σ h':=
 ⟨r.len,r.nodup,λc b d=>hk _ _ (r.stays c b d),r.frames.of_keeps λc b d k=>⟨b,hk _ _ d,rfl⟩,r.dD,r.new,lq,e,λi a co g f=>
  ((r.obj i a co g f).T8 hT j).mono (λb d=>hk _ _ d) fV (Kp.ext hk)⟩
theorem Good.T8{C:Cfg}{m:jg->gN fB}(g:Good p prog w aa C ρ ι σ m h)(hT:∀ a∈hf.t,h.get? a=none)(d:∀ a∈p.hid.f,a∈hf.f)(hk:∀ c b,h.get? c=some b->h'.get? c=some b)(lq:∀ a∈hf.t,∃ b,h'.get? a=some b)(e:∀ a∈hf.f,a∉ι/\a∉dp C.fr/\aa.get? a=none/\∃ b,h'.get? a=some b)(f:C.env.locals∉hf.f):Good (p.T8 hf) prog w aa C ρ ι σ m h':=
 ⟨g.rel.T8 hT d hk lq e,g.ns.keeps hk,g.dE,g.gH,λx id v j k=>(g.vars x id v j k).imp λwv=>rZ λr=>(r.T8 hT d).mono fV (Kp.ext hk),g.cells,g.hand,f⟩
theorem Base.T8 (B:Base p prog w aa gl)(d:p.hid={})(hn:∀ a∈hf.t,aa.get? a=none):Base (p.T8 hf) prog w aa gl where
 qq:=B.qq
 nolimit:=B.nolimit
 nodup:=B.nodup
 fns:=B.fns
 sys:=B.sys
 glob:=B.glob.imp λmg=>rZ λb x v c=>(b x v c).imp λwv=>rZ λr=>r.T8 hn (by rw[d];exact λe q=>nomatch q)
 C9:=hn
 blt:=B.blt
theorem gU.T8{nm:e5->jg}(G:gU p prog w aa nm n T gl)(b:p.hid={})(hn:∀ a∈hf.t,aa.get? a=none):gU (p.T8 hf) prog w aa nm n T gl:=
 ⟨G.B.T8 b hn,G.nms,G.Dl,G.jE,G.E0,G.E1,G.bi,G.me,⟨G.fq.inst,G.fq.gK,G.fq.lt⟩,G.cd,G.td,G.yD,G.yE,G.it,G.xc⟩
theorem All.T8{nm:e5->jg}(L:All p aa nm n T fns):All (p.T8 hf) aa nm n T fns:=
 ⟨λk F b=>(L.ok k F b).imp_right (rk λa0=>rk λc=>rk λfd a=>⟨a.fa,a.ho,a.hd,a.cr,a.body,a.bind,a.sc,a.glob,a.blt,a.ic,a.co,a.gen,a.kind⟩)⟩
end
structure Zc where
 p:P
 prog:ih
 w:jo
 aa:kb
 nm:e5->jg
 gl:e0 (jg×V)
 hp:p.hid={}
 G:gU p prog w aa nm n0 T0 gl
 fI:hD
 fd:qx
 XK:Bq prog p.K p.xc fI fd
 XB:E8 p.K fd
 XM:E9 p.K p.xc fI
 vd:p.bl.lookup (al "super")=some (.type "super")
 hcd:p.names[p.ph]?=some (al "code")
 htd:p.names[p.pj]?=some (al "told")
 hct:p.ph≠p.pj
 L:All p aa nm n0 T0 sa
noncomputable def Zc.z (c:Zc)(hf:Vs)(h:∀ a∈hf.t,c.aa.get? a=none):Z where
 p:=c.p.T8 hf
 prog:=c.prog
 w:=c.w
 aa:=c.aa
 nm:=c.nm
 gl:=c.gl
 G:=c.G.T8 c.hp h
 RR:=wp (p:=c.p.T8 hf) (c.G.T8 c.hp h) c.XK c.XB c.XM c.vd c.hcd c.htd c.hct
 TR:=λd=>Bv (p:=c.p.T8 hf) (c.G.T8 c.hp h) c.XM.obj
 L:=c.L.T8
end
variable{N:e5}{l1:hD}{f0 a:fB}{x y:gN V}{C:Cfg}{t:FD Km}{Φ Ψ:Uk->aZ->H->Prop}
section
set_option backward.match.sparseCases false
noncomputable def hJ (p:P)(prog:ih)(w:jo)(aa:kb)(C:Cfg)(t:FD Km)(ρ:aZ)(σ:H)(Φ:Uk->aZ->H->Prop):Prop:=
 ∀ ι s m (Q:Km->gc->Prop) (E:fB->gc->Prop),Good p prog w aa C ρ ι σ m s.heap->
  (∀ f am ae aw h' a b fl,Φ f am ae->Good p prog w aa C am aw ae b h'->Step p.hid C.md C.fr [C.env.locals] ι s.heap aw h'->RF p aw h' f fl->Q fl {s with heap:=h',toks:=a})->
  ht (hh prog w) C.A t Q E s
section
variable{fr:e0 zs}{gl:e0 (jg×V)}{f:Uk}{md:e5->jW}
theorem hJ.of (h:TZ p prog w aa C t ρ σ f ai U)(b:Φ f ai U):hJ p prog w aa C t ρ σ Φ:=λι s m Q E g c=>
 h ι s m Q E g λaw h' a e fl d st r=>c _ _ _ aw h' a e fl b d st r
theorem hJ.mono (h:hJ p prog w aa C t ρ σ Φ)(c:∀ f ρ σ,Φ f ρ σ->Ψ f ρ σ):hJ p prog w aa C t ρ σ Ψ:=λι s m Q E g d=>
 h ι s m Q E g λf am ae aw h' b j fl a e st r=>d _ _ _ aw h' b j fl (c _ _ _ a) e st r
theorem hJ.cons{st:rf}{rest:e0 rf}(h1:hJ p prog w aa C (s0 st C.env) ρ σ (λf am ae=>f=.next/\hJ p prog w aa C (execs rest C.env) am ae Φ)):hJ p prog w aa C (execs (st::rest) C.env) ρ σ Φ:=λι s m Q E g d=>by
 refine kE (h1 ι s m _ _ g λf ai U aj h₁ o n fl a e h r=>?_);obtain⟨rfl,a⟩:=a;cases r;exact a aj _ n _ _ e λf au af aq h₂ k j fl b l c r=>d f au af aq h₂ k j fl b l (h.trans c) r
theorem QS{I:hD}{P:e5->e0 hD->H->kb->Prop}(t:po p prog w aa C.A C.fr C.md target I Is ak P)(h:C.env.locals∉Is) n (e:e5->aZ->H->Prop)(hn:∀ ρ σ,e n ρ σ->ak n σ=some none)(hs:∀ i ρ σ,i<n->e i ρ σ->∃ y ai U,ak i σ=some (some y)/\Ue p prog w aa C (rl target C.env) y ρ σ ai U/\hJ p prog w aa C (execs body C.env) ai U (λf am ae=>f=.next/\e (i+1) am ae)):
  ∀ k i ρ σ,i+k=n->e i ρ σ->∀ {ι s m} {X:tc->gc->Prop},P i ι σ s.heap->Good p prog w aa C ρ ι σ m s.heap->
  (∀ am ae aw h' h'' aN a7,e n am ae->Good p prog w aa C am aw ae a7 h''->Step p.hid C.md C.fr (C.env.locals::Is) ι s.heap aw h'->cu p.hid Is h' h''->X (.ok .next) {s with heap:=h'',toks:=aN})->
  kC (hh prog w) C.A (.forLoop target (.ref I) body [] C.env) X s:=by
 have ar:∀ c∈Is,c∉[C.env.locals]:=λc b q=>by simp at q;exact h (q▸b)
 have aY:∀ c∈Is,c∈C.env.locals::Is:=λc b=>mD _ b;have ab:∀ c∈[C.env.locals],c∈C.env.locals::Is:=by simp
 intro k;induction k with
 |zero=>
  intro i ρ σ o j ι s m X v g u;obtain rfl:i=n:=o;refine b9 (t.fin v g.rel (hn _ _ j) λh₁ ap r₁ d=>?_);exact pb (u ρ σ ι _ h₁ ap m j (g.cL d r₁ h) (.refl ..) d)
 |succ k a8=>
  intro i ρ σ o j ι s m X v g u;obtain⟨y,ai,U,a6,au,ay⟩:=hs i ρ σ (by exact AU o) j;refine b9 (t.item v g.rel a6 λh₁ ap wv r₁ d ax a0=>?_);refine a0 _ _ λbd af x a5=>?_;refine au ι _ m _ _ _ ((g.gb r₁ d h).gb af x h) (x.rv ax) λaq h₂ be aX l aj=>?_;have aJ:=t.stay a5 af l.rel aj ar (λc b=>by simp at b;subst b;exact g.dE);refine ay aq _ aX _ _ l λf eV ao bb a1 aP a9 fl a as z r=>?_;obtain⟨rfl,aA⟩:=a;have aL:=t.stay aJ l.rel as.rel z ar (λc b=>by simp at b;subst b;exact l.dE);have st:=(((d.trans x).cX aY).trans (aj.cX ab)).trans (z.cX ab);cases r;exact a8 (i+1) eV ao (by exact xO o) aA aL (s:={s with heap:=a1,toks:=aP}) as (X:=X) λa4 bt a2 a3 aQ aK aD j aO aV k=>u a4 bt a2 a3 aQ aK aD j aO (st.trans aV) k
set_option tactic.hygienic true in
theorem hJ.for{e:e5->H->gN (gN V)}{target iter:k8}{body:e0 rf}{pos:JC}(n:e5)(a:e5->aZ->H->Prop)(h1:fD p prog w aa C ρ C.md target iter σ U e)(u:a 0 ρ U)(hn:∀ ρ σ,a n ρ σ->e n σ=some none)
  (hs:∀ i ρ σ,i<n->a i ρ σ->∃ o ai U,e i σ=some (some o)/\Ue p prog w aa C (rl target C.env) o ρ σ ai U/\hJ p prog w aa C (execs body C.env) ai U (λf am ae=>f=.next/\a (i+1) am ae))
  (hf:∀ y,sf iter C.env y=pure y):hJ p prog w aa C (s0 (.For target iter body [] pos) C.env) ρ σ (λf am ae=>f=.next/\a n am ae):=λι s m Q E g z=>by
 refine MX (h1 ι s m _ _ g λaj h₁ af I Is P r₁ h ab d v=>?_) hf;have ar:C.env.locals∉Is:=λq=>by
  obtain⟨au,l⟩:=g.there;rw[(d _ q).1]at l;cases l
 refine QS ab ar n a hn hs n 0 ρ U (by exact ki _) u (s:={s with heap:=h₁,toks:=af}) v (g.step r₁ h) λeV ao aq ax ap ak x j as t k=>z .next eV ao aq ap ak x _ ⟨rfl,j⟩ as ?_ .next
 refine((h.weaken (ex:=[C.env.locals])).mX t (λb c=>?_) λn b hn aw=>.inl hn).cL k λb c=>(d b c).1;rcases hr.mp c with rfl|c
 .exact .inl (by simp)
 .exact .inr (d b c).1
noncomputable def iI (n m:e5):e5->H->gN (gN V):=λi σ=>match σ[n]?,σ[m]? with
 |some (.list l),some (.list l')=>some (match l[i]?,l'[i]? with
  |some a,some b=>some (.tup [a,b])
  |_,_=>none)
 |_,_=>none
noncomputable def gG (p:P)(aa:kb)(fr:e0 zs)(Is ι:e0 hD)(h:kb):Prop:=
 ∀ b∈Is,b∉ι/\b∉dp fr/\aa.get? b=none/\b∉p.hid.f/\∃ o,h.get? b=some o/\(b∈p.hid.t\/b∉p.hid.t/\∀ xs n,o.data≠.seq xs n)
theorem gG.kp (g:gG p aa fr Is ι h)(k:∀ d b,d∉Is->h.get? d=some b->h'.get? d=some b):cu p.hid Is h h':=by
 refine⟨k,λa ws n t=>?_,λa m b c=>k a b (λq=>(g a q).2.2.2.1 m) c⟩;obtain⟨b,c,l,j,f⟩:=t;refine⟨b,k a b (λq=>?_) c,l,j,f⟩;obtain⟨_,_,_,_,o',e,hs|⟨_,hs⟩⟩:=g a q
 .exact n hs
 .rw[c]at e;cases e;exact hs _ _ f
theorem Rel.GL (r:Rel p prog w aa fr ι σ h)(e:gG p aa fr Is ι h)(k:∀ c b,c∉Is->h.get? c=some b->h'.get? c=some b)(l:∀ c∈p.hid.t,∃ b,h'.get? c=some b):Rel p prog w aa fr ι σ h':=by
 have tp:=(e.kp k).tup;exact⟨r.len,r.nodup,λc b d=>k c b (λq=>by rw[(e c q).2.2.1]at d;cases d) (r.stays c b d),dF (λc m b d=>k c b (λq=>(e c q).2.1 m) d) r.frames,r.dD,r.new,
  l,λa g=>nw (r.Uu a g) λb d=>⟨b,k a b (λq=>(e a q).2.2.2.1 g) d⟩,λi a co f j=>(r.obj i a co f j).mono (λb d=>k a b (λq=>(e a q).1 (fz f)) d) fV tp⟩
theorem Good.LG{m:jg->gN fB}(g:Good p prog w aa C ρ ι σ m h)(e:gG p aa C.fr Is ι h)(k:∀ d b,d∉Is->h.get? d=some b->h'.get? d=some b)(o:C.env.locals∉Is):Good (p.T8 ⟨[],p.hid.f⟩) prog w aa C ρ ι σ m h':=by
 have tp:=(e.kp k).tup;have r:=g.rel;have hT:∀ a∈([]:e0 hD),h'.get? a=none:=λf q=>nomatch q;refine⟨⟨r.len,r.nodup,λd b c=>k d b (λq=>by rw[(e d q).2.2.1]at c;cases c) (r.stays d b c),dF (λd y b c=>k d b (λq=>(e d q).2.1 y) c) r.frames,r.dD,r.new,
  λf q=>(nomatch q),λa l=>nw (r.Uu a l) λb c=>⟨b,k a b (λq=>(e a q).2.2.2.1 l) c⟩,λi a co j s=>((r.obj i a co j s).mono (λb c=>k a b (λq=>(e a q).1 (fz j)) c) fV tp).T8 (hf:=⟨[],p.hid.f⟩) hT λf q=>q⟩,?_,g.dE,g.gH,?_,g.cells,g.hand,g.U0⟩
 .exact lH g.ns λb c=>⟨b.slots,k _ _ o c⟩
 .exact λx id v t u=>(g.vars x id v t u).imp λwv=>rZ λn=>(n.mono fV tp).T8 (hf:=⟨[],p.hid.f⟩) hT λf q=>q
theorem gG.stay (e:gG p aa fr Is ι h)(x:Step p.hid md fr ex ι h aw h')(j:∀ a∈Is,a∉ex):gG p aa fr Is aw h'/\∀ a∈Is,∀ b,h.get? a=some b->h'.get? a=some b:=by
 have ex:∀ a∈Is,∀ b,h.get? a=some b->h'.get? a=some b:=λa c b d=>x.exact (j a c) (e a c).1 (e a c).2.1 d;refine⟨λa c=>?_,ex⟩;obtain⟨g,l,f,k,b,d,hs⟩:=e a c;exact⟨λq=>(x.new a q).elim g (λm=>by rw[m]at d;cases d),l,f,k,b,ex a c b d,hs⟩
structure ZC (h:kb)(N:e5)(l1 l2:hD)(i:e5)(f0 a b:fB):Prop where
 z:IsZip h (N+4) (N+2) (N+3) f0
 ti:SI h (N+2) (.ref N) (.ref (N+1))
 to:SI h (N+3) a b
 i1:h.IsListIter N l1 i
 i2:h.IsListIter (N+1) l2 i
theorem vx{R:hD->Prop}(c:R (N+4))(h1:R (N+2))(h2:R (N+3))(b:R N)(d:R (N+1)):∀ a∈[N+4,N+2,N+3,N,N+1],R a:=
 gx.mpr ⟨c,gx.mpr ⟨h1,gx.mpr ⟨h2,gx.mpr ⟨b,λa e=>gP.mp e▸d⟩⟩⟩⟩
theorem ni{R:hD->Prop}(h1:R (N+2))(h2:R (N+3)):∀ a∈[N+2,N+3],R a:=gx.mpr ⟨h1,λa b=>gP.mp b▸h2⟩
theorem GN{o:Gx}{vs:uf fB}(b:o.data=.fields vs):∀ xs a,o.data≠.seq xs a:=λxs a q=>by rw[b]at q;cases q
theorem ZC.at{l2:hD}(z:ZC h' N l1 l2 i f0 a b):∀ c∈[N+4,N+2,N+3,N,N+1],∃ d,h'.get? c=some d/\(c∈[N+2,N+3]\/c∉[N+2,N+3]/\∀ xs f,d.data≠.seq xs f):=by
 have g:∀ {c:hD} {d:Gx},h'.get? c=some d->(c∈[N+2,N+3]\/∀ xs f,d.data≠.seq xs f)->∃ d,h'.get? c=some d/\(c∈[N+2,N+3]\/c∉[N+2,N+3]/\∀ xs f,d.data≠.seq xs f):=λ{c d} e k=>
  ⟨d,e,(SR (c∈[N+2,N+3])).imp id λq=>⟨q,k.resolve_left q⟩⟩
 obtain⟨o1,l,_,m⟩:=z.i1;obtain⟨o2,j,_,h⟩:=z.i2;exact vx (g z.z (.inr (GN rfl))) (g z.ti (.inl (.head _))) (g z.to (.inl (.tail _ (.head _)))) (g l (.inr (GN m))) (g j (.inr (GN h)))
theorem ZC.next{l2:hD}(f:p.hid.t=[N+2,N+3])(d:gG p aa fr [N+4,N+2,N+3,N,N+1] ι h)(r:Rel p prog w aa fr ι σ h)(k:∀ c e,c∉[N+4,N+2,N+3,N,N+1]->h.get? c=some e->h'.get? c=some e)(z:ZC h' N l1 l2 i f0 a b):Rel p prog w aa fr ι σ h'/\Step p.hid md fr [N+4,N+2,N+3,N,N+1] ι h ι h'/\gG p aa fr [N+4,N+2,N+3,N,N+1] ι h':=by
 refine⟨r.GL d k (f▸ni ⟨_,z.ti⟩ ⟨_,z.to⟩),(d.kp k).step λc q=>(z.at c q).imp λn x=>x.1,λc q=>?_⟩;obtain⟨l,g,m,j,_⟩:=d c q;exact⟨l,g,m,j,f▸z.at c q⟩
structure kg (p:P)(aa:kb)(fr:e0 zs)(n m N i:e5)(ι:e0 hD)(h:kb):Prop where
 pv:gG p aa fr [N+4,N+2,N+3,N,N+1] ι h
 st:∃ l1 l2,ι[n]?=some l1/\ι[m]?=some l2/\∃ a b,ZC h N l1 l2 i .none a b
theorem o5 (h:iI n m i σ=some x):∃ l l',σ[n]?=some (.list l)/\σ[m]?=some (.list l')/\(match l[i]?,l'[i]? with|some a,some c=>some (.tup [a,c])|_,_=>none)=x:=by
 have h':(match σ[n]?,σ[m]? with|some (.list l),some (.list l')=>some (match l[i]?,l'[i]? with|some a,some c=>some (.tup [a,c])|_,_=>none)|_,_=>none)=some x:=h;cases b:σ[n]? with
 |none=>rw[b]at h';exact TS h'
 |some e=>cases d:σ[m]? with
  |none=>rw[b,d]at h';cases e<;>exact TS h'
  |some o'=>
   rw[b,d]at h';cases e with
   |list l=>cases o' with
    |list l'=>exact⟨l,l',rfl,rfl,fZ h'⟩
    |_=>exact TS h'
   |_=>exact TS h'
theorem Aj{v:V}(h:(match x,y with|some a,some b=>some (V.tup [a,b])|_,_=>none)=some v):∃ a b,x=some a/\y=some b/\v=.tup [a,b]:=by
 cases x with
 |none=>exact TS h
 |some a=>cases y with
  |none=>exact TS h
  |some b=>exact⟨a,b,rfl,rfl,(fZ h).symm⟩
theorem Ak (h:(match x,y with|some a,some b=>some (V.tup [a,b])|_,_=>none)=none):x=none\/y=none:=by
 cases x with
 |none=>exact .inl rfl
 |some a=>cases y with
  |none=>exact .inr rfl
  |some b=>cases h
theorem kg.apart{n i:e5}{l2:hD}(e:gG p aa fr [N+4,N+2,N+3,N,N+1] ι h)(h1:ι[n]?=some l1)(h2:ι[m]?=some l2):ZipApart (N+4) (N+2) (N+3) N (N+1) l1 l2:=by
 have a:∀ b∈[N+4,N+2,N+3,N,N+1],l1≠b:=λb d q=>(e b d).1 (q▸fz h1);have c:∀ b∈[N+4,N+2,N+3,N,N+1],l2≠b:=λb d q=>(e b d).1 (q▸fz h2);refine⟨UW N 2 4 rfl,UW N 3 4 rfl,UW N 0 4 rfl,UW N 1 4 rfl,UW N 2 3 rfl,UW N 2 0 rfl,UW N 2 1 rfl,UW N 3 0 rfl,UW N 3 1 rfl,UW N 0 1 rfl,a _ (by simp),a _ (by simp),a _ (by simp),a _ (by simp),c _ (by simp),c _ (by simp),c _ (by simp),c _ (by simp)⟩
end
end
section
set_option backward.match.sparseCases false
section
variable{fr:e0 zs}{gl:e0 (jg×V)}{f:Uk}{md:e5->jW}{n i:e5}
noncomputable abbrev kF (N:e5):e0 Addr:=[N+4,N+2,N+3,N,N+1]
theorem kg.next{Q:gN fB->gc->Prop}(ab:p.hid.t=[N+2,N+3])(S:kg p aa fr n m N i ι s.heap)(r:Rel p prog w aa fr ι σ s.heap)(hx:iI n m i σ=some (some v))(as:∀ h' wv,Rel p prog w aa fr ι σ h'->Step p.hid md fr (kF N) ι s.heap ι h'->TQ p ι h' v wv->
   (∀ (Q':GK->gc->Prop) (j:fB->gc->Prop),(∀ h'',Rel p prog w aa fr ι σ h''->Step p.hid md fr (kF N) ι h' ι h''->kg p aa fr n m N (i+1) ι h''->Q' () {s with heap:=h''})->
    ht (hh prog w) A (pc (.Tuple es kk pos) (.ref (N+4)) wv) Q' j {s with heap:=h'})->Q (some wv) {s with heap:=h'}):
  ht (hh prog w) A (w8 (.ref (N+4))) Q E s:=by
 obtain⟨z,l1,l2,g,h,a1,a0,d⟩:=S;obtain⟨l,l',aJ,aj,hx⟩:=o5 hx;obtain⟨a,a2,ay,ar,rfl⟩:=Aj hx;obtain⟨ws,am,aQ⟩:=r.obj n l1 _ g aJ;obtain⟨aY,aw,ak⟩:=r.obj m l2 _ h aj;obtain⟨wa,aO,ax⟩:=aQ.get ay;obtain⟨wb,aD,au⟩:=ak.get ar;have kk:∀ {c:hD},c∉kF N->c≠N+4/\c≠N+3/\c≠N/\c≠N+1:=λb=>⟨λq=>b (q▸.head _),λq=>b (q▸.tail _ (.tail _ (.head _))),λq=>b (q▸.tail _ (.tail _ (.tail _ (.head _)))),λq=>b (q▸.tail _ (.tail _ (.tail _ (.tail _ (.head _)))))⟩;refine wpAny_pyNext_zip_item (kg.apart (i:=i) z g h) d.z d.ti d.to d.i1 d.i2 (ha am) (ha aw) (x:=wa) (y:=wb) (h7.trans aO) (h7.trans aD) λh' ae x t o aK a3 k=>?_;have u:SI h' (N+2) (.ref N) (.ref (N+1)):=k _ _ (UW N 2 4 rfl) (UW N 2 3 rfl) (UW N 2 0 rfl) (UW N 2 1 rfl) d.ti;obtain⟨y,st,aA⟩:=ZC.next (md:=md) ab z r (λc f b e=>k c f (kk b).1 (kk b).2.1 (kk b).2.2.1 (kk b).2.2.2 e) ⟨ae,u,x,t,o⟩;have hT:s.heap.objs.size∉p.hid.t:=λq=>by
  obtain⟨f,e⟩:=r.hid _ q;exact iv (hy e) (hW _)
 refine as h' _ y st (.tup hT ⟨_,aK,rfl,_,rfl⟩ (.cons (ax.mono fV st.tup) (.cons (au.mono fV st.tup) .nil))) λQ' j aL=>wpAny_letOwnedTupleGo_zip ae λh'' aN hs=>?_;obtain⟨o3,ap,aV⟩:=t;obtain⟨VX,ao,aq⟩:=o;have af:ZC h'' N l1 l2 (i+1) .none wa wb:=⟨aN,(hs.2 _ (UW N 2 4 rfl)).trans u,(hs.2 _ (UW N 3 4 rfl)).trans x,⟨o3,(hs.2 _ (UW N 0 4 rfl)).trans ap,aV⟩,⟨VX,(hs.2 _ (UW N 1 4 rfl)).trans ao,aq⟩⟩;obtain⟨aP,ai,aX⟩:=ZC.next (md:=md) ab aA y (λc f b e=>(hs.2 c (kk b).1).trans e) af;exact aL h'' aP ai ⟨aX,l1,l2,g,h,_,_,af⟩
theorem kg.stay (S:kg p aa fr n m N i ι h)(x:Step p.hid md fr ex ι h aw h')(q:∀ e∈kF N,e∉ex):kg p aa fr n m N i aw h':=by
 obtain⟨s,l1,l2,c,j,g,o,a⟩:=S;obtain⟨l,k⟩:=s.stay x q;obtain⟨o1,d,t⟩:=a.i1;obtain⟨o2,f,b⟩:=a.i2;exact⟨l,l1,l2,bC x.pre c,bC x.pre j,g,o,k _ (.head _) _ a.z,k _ (.tail _ (.head _)) _ a.ti,k _ (.tail _ (.tail _ (.head _))) _ a.to,⟨o1,k _ (.tail _ (.tail _ (.tail _ (.head _)))) _ d,t⟩,⟨o2,k _ (.tail _ (.tail _ (.tail _ (.tail _ (.head _))))) _ f,b⟩⟩
theorem Cf (a6:C.A.handled=none)(bb:p.hid.t=[N+2,N+3])(t:C.env.locals∉kF N) K (h:e5->aZ->H->Prop)(hn:∀ ρ σ,h K ρ σ->iI n m K σ=some none)(hs:∀ i ρ σ,i<K->h i ρ σ->∃ af ai U,iI n m i σ=some (some af)/\Ue p prog w aa C (rl (.Tuple es kk pos) C.env) af ρ σ ai U/\hJ p prog w aa C (execs body C.env) ai U (λf am ae=>f=.next/\h (i+1) am ae)):
  ∀ k i ρ σ,i+k=K->h i ρ σ->∀ {ι s c} {X:tc->gc->Prop},kg p aa C.fr n m N i ι s.heap->Good p prog w aa C ρ ι σ c s.heap->
  (∀ am ae aw h' h'' a3 c,h K am ae->Good (p.T8 ⟨[],p.hid.f⟩) prog w aa C am aw ae c h''->Step p.hid C.md C.fr (C.env.locals::kF N) ι s.heap aw h'->cu p.hid (kF N) h' h''->X (.ok .next) {s with heap:=h'',toks:=a3})->
  kC (hh prog w) C.A (.forLoop (.Tuple es kk pos) (.ref (N+4)) body [] C.env) X s:=by
 have au:∀ b∈kF N,b∉[C.env.locals]:=λb ab q=>by simp only[gP]at q;exact t (q▸ab)
 have be:∀ b∈kF N,b∈C.env.locals::kF N:=λb ab=>mD _ ab;have ak:∀ b∈[C.env.locals],b∈C.env.locals::kF N:=by simp
 intro k;induction k with
 |zero=>
  intro i ρ σ d j ι s c X S g x;obtain rfl:i=K:=d;have hx:=hn _ _ j;obtain⟨z,l1,l2,as,ax,bT,bJ,e⟩:=S;obtain⟨l,l',bA,aV,hx⟩:=o5 hx;obtain⟨ws,aP,bE⟩:=g.rel.obj n l1 _ as bA;obtain⟨aJ,a1,aL⟩:=g.rel.obj m l2 _ ax aV;have aX:ws.toArray[i]?=none\/aJ.toArray[i]?=none:=(Ak hx).imp (λq=>h7.trans (bE.get' q)) λq=>h7.trans (aL.get' q);refine b9 (wpAny_pyNext_zip_end a6 (kg.apart (i:=i) z as ax) e.z e.ti e.to e.i1 e.i2 (ha aP) (ha a1) aX λh' kk=>?_);have k':∀ o u,o∉kF N->s.heap.get? o=some u->h'.get? o=some u:=λo u v d=>
   kk o u (λq=>v (q▸.head _)) (λq=>v (q▸.tail _ (.tail _ (.head _)))) (λq=>v (q▸.tail _ (.tail _ (.tail _ (.head _))))) (λq=>v (q▸.tail _ (.tail _ (.tail _ (.tail _ (.head _)))))) d
  exact pb (x ρ σ ι _ h' s.toks c j (g.LG z k' t) (.refl ..) (z.kp k'))
 |succ k bF=>
  intro i ρ σ d j ι s c X S g x;obtain⟨af,ai,U,bs,ay,aD⟩:=hs i ρ σ (by exact AU d) j;refine b9 (S.next (md:=C.md) (es:=es) (kk:=kk) (pos:=pos) bb g.rel bs λh₁ wv r₁ ar aA bh=>?_);refine bh _ _ λbW aQ y bo=>?_;refine ay ι _ c _ _ _ ((g.gb r₁ ar t).gb aQ y t) (y.rv aA) λaq h₂ b0 a8 aN ap=>?_;have aY:=bo.stay ap au;refine aD aq _ a8 _ _ aN λf eV ao bU bi a5 bQ fl a bd aj r=>?_;obtain⟨rfl,aK⟩:=a;have a2:=aY.stay aj au;have st:=(((ar.trans y).cX be).trans (ap.cX ak)).trans (aj.cX ak);cases r;exact bF (i+1) eV ao (by exact xO d) aK a2 (s:={s with heap:=bi,toks:=a5}) bd (X:=X) λbn bt bl bm a7 a0 aO j a4 a9 k=>x bn bt bl bm a7 a0 aO j a4 (st.trans a9) k
theorem cu.QV{L:hD}(hk:∀ b d,h.get? b=some d->h₁.get? b=some d)(g:∀ b∈Is,h.get? b=none)(s:∀ b∈p.hid.t,b∈Is)(x:Step p.hid md fr (L::Is) ι h₁ aw h')(k:cu p.hid Is h' h''):Step ⟨[],p.hid.f⟩ md fr [L] ι h aw h'' where
 pre:=x.pre
 c5:=λn a u=>(x.c5 n a u).imp id λq=>by
  cases e:h.get? a with
  |none=>rfl
  |some d=>rw[hk _ _ e]at q;cases q
 ext:=λb d v o c=>by
  have f:b∉Is:=λe=>by rw[g b e]at c;cases c
  obtain⟨l,j,q⟩:=x.ext b d (by simp only[hr,not_or];exact⟨by simpa using v,f⟩) o (hk _ _ c);exact⟨l,k.keep _ _ f j,q⟩
 live:=λb d c=>by
  have f:b∉Is:=λe=>by rw[g b e]at c;cases c
  obtain⟨o',j⟩:=x.live b d (hk _ _ c);exact⟨o',k.keep _ _ f j⟩
 tup:=by
  have tp:=x.tup.trans k.tup;refine⟨λa ws w t=>?_,λa m d c=>tp.f a m d (hk _ _ c)⟩;obtain⟨d,c,y⟩:=t;exact tp.t a ws (λq=>by rw[g a (s a q)]at c;cases c) ⟨d,hk _ _ c,y⟩
set_option tactic.hygienic true in
theorem hJ.zip{id:jg}{np pos pos' tp:JC}{a b:k8}{es:e0 k8}{kk:e5}{body:e0 rf}{l l':e0 V}(B:Base p prog w aa gl)(aX:p.hid.t=[])(aA:cH C)(bQ:C.hn=none)(hk:C.env.kindOf id=some .globalImplicit)(hf:p.bl.lookup id=some (.type "zip"))(a6:(id==("__debug__":jg))=false)
  (h1:Ev p prog w aa C ρ (hF a C.env) σ (.h n) σ)(h2:Ev p prog w aa C ρ (hF b C.env) σ (.h m) σ)(a0:hu [a,b] C.env=(false,hF a C.env)::hu [b] C.env)(aK:hu [b] C.env=[(false,hF b C.env)])
  (a9:σ[n]?=some (.list l))(bW:σ[m]?=some (.list l'))
  (K:e5)(d:e5->aZ->H->Prop)(bT:d 0 ρ σ)(hn:∀ ρ σ,d K ρ σ->iI n m K σ=some none)
  (hs:∀ z af,aa.get? z=none->aa.get? af=none->∀ i ρ σ,i<K->d i ρ σ->∃ aL ai U,iI n m i σ=some (some aL)/\Ue (p.T8 ⟨[z,af],p.hid.f⟩) prog w aa C (rl (.Tuple es kk tp) C.env) aL ρ σ ai U/\hJ (p.T8 ⟨[z,af],p.hid.f⟩) prog w aa C (execs body C.env) ai U (λf am ae=>f=.next/\d (i+1) am ae)):
  hJ p prog w aa C (s0 (.For (.Tuple es kk tp) (.Call (.Name id np) [a,b] [] pos) body [] pos') C.env) ρ σ (λf am ae=>f=.next/\d K am ae):=λι s aD Q E g bh=>by
 have bi:hF (.Call (.Name id np) [a,b] [] pos) C.env=(do nI pos (<-hF (.Name id np) C.env) [] (la pos (hu [a,b] C.env)) []):=rfl;refine MX ?_ (λy=>rfl);rw[bi];refine e3 (g.builtin B aA rfl hk hf a6 ?_);have aw:(hu [a,b] C.env).any (λq=>q.1)=false:=by rw[a0,aK];rfl
 refine c7 (λa5 q=>by cases q) (aI aw pos) (bq (aI aw pos) (lb (h1 ι s aD _ _ g λaj h₁ cf bn r₁ ao a2=>?_) a0));refine lb (h2 aj _ aD _ _ (g.step r₁ ao) λaq h₂ bA bl r₂ ab b0=>?_) (by rw[aK];rfl);refine pa ?_;show ht (hh prog w) C.A (pT (.type "zip") [bn,bl]) _ _ _;have u:=(g.step r₁ ao).step r₂ ab;have b1:=ab.rv a2;cases b1 with
 |@h _ ap aO=>
 cases b0 with
 |@h _ as aN=>
 obtain⟨ws,be,cC⟩:=r₂.obj n ap _ aO a9;obtain⟨cc,b2,ce⟩:=r₂.obj m as _ aN bW;refine call_zip_2 (ha be) (ha b2) λo a1 aJ aP b7 bo cb ak=>wpAny_pyIter_zip a1 ?_;generalize bs:h₂.objs.size=N at*
 have fresh:∀ k:e5,h₂.get? (N+k)=none:=λk=>by
  cases a7:h₂.get? (N+k)with
  |none=>rfl
  |some e=>have:=hy a7;rw[bs]at this;exact iv this (rx.mpr (hM _ _))
 have aY:ZC o N ap as 0 .none _ _:=⟨a1,aJ,aP,b7,bo⟩;have ar:∀ b∈kF N,h₂.get? b=none:=vx (fresh 4) (fresh 2) (fresh 3) (fresh 0) (fresh 1);have au:∀ b,h₂.get? b=none->aa.get? b=none:=λb x=>by
  exact r₂.n0 x
 have hT:∀ b∈[N+2,N+3],h₂.get? b=none:=ni (fresh 2) (fresh 3);have lq:∀ b∈[N+2,N+3],∃ e,o.get? b=some e:=ni ⟨_,aJ⟩ ⟨_,aP⟩;have bJ:C.env.locals∉kF N:=λq=>by
  obtain⟨e,c⟩:=u.there;rw[ar _ q]at c;cases c
 have bE:=u.T8 (hf:=⟨[N+2,N+3],p.hid.f⟩) (h':=o) hT (λa5 q=>q) ak lq (λa bd=>nw (u.rel.Uu a bd) λe c=>⟨e,ak _ _ c⟩) u.U0;have a3:gG (p.T8 ⟨[N+2,N+3],p.hid.f⟩) aa C.fr (kF N) aq o:=λb x=>by
  have v:=ar b x;refine⟨λq=>?_,λq=>?_,au b v,λq=>?_,aY.at b x⟩
  .exact r₂.VA v q
  .exact r₂.EC v q
  .exact r₂.nz v q
 refine Cf (p:=p.T8 ⟨[N+2,N+3],p.hid.f⟩) (n:=n) (m:=m) (aA.handled bQ) rfl bJ K d hn (hs _ _ (au _ (fresh 2)) (au _ (fresh 3))) K 0 ρ σ (by exact ki _) bT (s:={s with heap:=o,toks:=bA}) ⟨a3,ap,as,aO,aN,_,_,aY⟩ bE λay bt ax cy aV a8 aQ j bm b4 k=>?_;have a4:∀ {q:P},q.hid.t=[]->q.T8 ⟨[],q.hid.f⟩=q:=λ{q} c=>by
  obtain⟨cl,b8,cr,⟨t,f⟩,cD,cs,cp,ch,cx,ct,ca⟩:=q;simp only at c;subst c;rfl
 have st:=cu.QV (p:=p.T8 ⟨[N+2,N+3],p.hid.f⟩) ak ar (ni (.tail _ (.head _)) (.tail _ (.tail _ (.head _)))) b4 k;have bb:(⟨[],p.hid.f⟩:Vs)=p.hid:=by rw[<-aX]
 have bU:Good p prog w aa C ay ax bt aQ aV:=by
  have:=bm;have bF:(p.T8 ⟨[N+2,N+3],p.hid.f⟩).T8 ⟨[],p.hid.f⟩=p:=a4 aX;rw[show(p.T8 ⟨[N+2,N+3],p.hid.f⟩).hid.f=p.hid.f from rfl]at this;rw[bF]at this;exact this
 rw[bb]at st;exact bh .next ay bt ax aV a8 aQ _ ⟨rfl,j⟩ bU (((ao.trans ab).weaken).trans st) .next
end
end
variable{j:e5}{dv:e0 V}{C:hD}{xs:Xs}
section
set_option backward.match.sparseCases false
noncomputable def LH (p:P)(prog:ih)(w:jo)(aa:kb)(md:e5->jW)(hn:gN e5)(d:e5)(a:hD)(args:e0 V)(σ:H)(v:V)(ae:H):Prop:=
 ∀ (A:t2) (fr:e0 zs) ι s ws (X:tc->gc->Prop),A.frames=some fr->Hand hn A ι->A.depth+d<=600->A.units+10*d<=6000->
  Rel p prog w aa fr ι σ s.heap->aT p ι s.heap args ws->
  (∀ aw h' b wv,Rel p prog w aa fr aw ae h'->Step p.hid md fr [] ι s.heap aw h'->TQ p aw h' v wv->X (.ok (.ret wv)) {s with heap:=h',toks:=b})->
  kC (hh prog w) A (.call (.ref a) ⟨ws,[]⟩) X s
noncomputable def uB (z:Z)(d:e5)(hn:gN e5)(lk:e0 e5)(a:hD)(args:e0 V)(σ:H)(v:V)(ae:H):Prop:=∀ md:e5->jW,(∀ m,lk.contains m=false->md m=true)->LH z.p z.prog z.w z.aa md hn d a args σ v ae
structure LI (aa:kb)(nm:e5->jg)(F:Fn)(a0:hD)(o:Gx)(fd:qx):Prop where
 ho:aa.get? a0=some o
 hd:o.data=.func fd
 cr:aa.CodeRec fd.code fd.qualname
 body:∃ t,fd.body=.stmts (F.body.ss nm t)
 sc:fd.scope.names=eN nm F.sc
 glob:fd.globals=jk
 blt:fd.builtins=mN
 co:fd.scope.isCoroutine=false
 gen:fd.scope.isGenerator=false
 kind:fd.scope.kind=.function
structure gC (z:Z)(D:Fn)(a0:hD)(na:e5)(dv:e0 V):Prop where
 wf:D.wf T0 n0=true
 fn:∃ o fd,LI z.aa z.nm D a0 o fd/\∀ (s:gc) (ws:e0 fB),z.aa.StaysIn s.heap->ws.length=na->∃ mW,(∀ ι h,aT z.p ι h dv mW)/\Hl s fd ⟨ws,[]⟩ ((D.ps.map z.nm).zip (ws++mW))
section
variable{z:Z}{F:Fm}{na:e5}{lk:e0 e5}{args:e0 V}{f:Uk}
theorem uB.of (H:gC z D a0 args.length dv)(aQ:D.cells=[])(aY:(args++dv).length=D.ps.length)(u:aZ) B (sc:UE)(h2:(D.ps.zip (args++dv)).reverse=u)(aK:D.body=B)(ar:D.sc=sc)(h:DB z ⟨⟨[],lk,hn⟩,sc,d⟩ u σ B f am ae):uB z (d+1) hn lk a0 args σ f.val ae:=λmd aO A fr ι s ws X ai o e j r vs ab=>by
 subst h2;subst aK;subst ar;obtain⟨aV,fd,a,aJ⟩:=H.fn;have ak:=H.wf;obtain⟨aN,ap,au⟩:=aJ s ws r.stays vs.length.symm;have B:=z.G.B;obtain⟨⟨⟨as,c⟩,a1⟩,m⟩:=Fn.vf ak;have p:∀ x∈D.ps,x<n0.N:=λx hx=>by
  rcases m x hx with q|q
  .exact c _ (dG q)
  .exact c _ (dG q)
 have t:∀ x∈D.sc,x.2≠.cell:=λx hx q=>by
  have:x.1∈D.cells:=kK (f:=(λq=>q.1)) (nn.mpr ⟨hx,by rw[q];rfl⟩);rw[aQ]at this;simp at this
 have ax:=k6 z.G p;have ao:s.heap.NoLimit:=B.nolimit.keeps r.stays;obtain⟨_,aq⟩:=a.body;refine JB (by show A.depth<1000;exact hO (ry e) (eW rfl)) (r.stays _ _ a.ho) a.hd ao (a.cr.keeps r.stays) aq au (λx hx q=>?_) (λx hx=>?_) (λh₁ k aL=>?_) a.co a.gen a.kind
 .rw[a.sc]at hx
  obtain⟨y,b,rfl⟩:=h4.mp hx;exact t y b q
 .obtain⟨a2,aX⟩:=x
  obtain⟨y,b,rfl⟩:=h4.mp (wU hx).1;show fd.scope.names.lookup (z.nm y)=_;rw[a.sc,cS z.G (p y b) c];rcases m y b with q|q
  .exact q
  .exact iv rfl (t _ (dG q))
 have l:z.aa.get? s.heap.objs.size=none:=r.stays.fresh;have aa:s.heap.objs.size∉ι:=λq=>hW _ (r.kH q);obtain⟨r₁,st⟩:=r.ext aL
 let C:Cfg:=⟨m2 fd s.heap.objs.size a0,A.deeper (m2 fd s.heap.objs.size a0),m2 fd s.heap.objs.size a0::fr,[],md,hn⟩
 have aP:cH C:=⟨a.kind,a.glob,a.blt,by show(A.frames.map _)=_;rw[ai];rfl,λq=>by have q:hn=none:=q;subst q;exact o,by show A.depth+1<=600;exact o3 e,by show A.units+3<=6000;exact VX j⟩;have g:Good z.p z.prog z.w z.aa C (D.ps.zip (args++dv)).reverse ι σ (λx=>(((D.ps.map z.nm).zip (ws++aN)).reverse).lookup x) h₁:=
  ⟨r₁.enter rfl a.kind l aa (r.l9 (aW _)) k,k,aa,l,λx id v w h2=>(A2.zip ax (((st md []).lG vs).append (ap _ _))).reverse.lookup B.nodup w h2,(λx id n w h2=>by cases h2),o,r.l9 (aW _)⟩
 have R:z.R ⟨⟨[],lk,hn⟩,D.sc,d⟩ C:=⟨aP,λx q hx af=>.inl (by
  show fd.scope.names.lookup (z.nm x)=_;rw[a.sc,cS z.G hx c];exact af),rfl,rfl,aO,by show A.depth+1+d<=600;exact o1 e,by show A.units+3+10*d<=6000;exact o2 j⟩
 refine h C ⟨R,⟨fr,rfl,rfl⟩⟩ as ι _ _ _ _ g λaw h' ay a3 fl aD aj aA=>?_;refine ab aw h' ay _ aD.rel.tail (Step.mZ (L:=s.heap.objs.size) rfl (st md []) aj (aW _)) ?_;cases aA with
 |next=>exact .none
 |brk=>exact .none
 |cont=>exact .none
 |ret q=>exact q
structure hU (z:Z)(j:e5)(C fI:hD):Prop where
 ab:z.p.ab[j+1]?=some C
 ca:z.p.ca[j]?=some C
 Ch:Sb z.p.K C=true
 ini:u0 z.p.K (.ref C) "__init__"=some (some (.ref fI))
 typ:NQ z.p.K (.ref fI)=some (.type "function")
 keep:SJ z.p.K (.ref C)=true
theorem TB.Al (H:hU z j C fI)(h1:TB z F ρ σ g (.ab (j+1)) U)(h2:bV z F ρ U xs vs af)(u:F.d=d+1)(aD:v=.h af.length)(hi:uB z d F.c.hn F.c.lk fI (.h af.length::vs) (af++[.inst j (af.length+1),.ns []]) .none ao):TB z F ρ σ (.call g xs) v ao:=λb R f {i} ι s m Q E q am=>by
 subst aD;replace f:=w3 f;have hs:=cJ (env:=b.env) (nm:=z.nm) (xs:=xs) (l:=(kids i).tail);have ar:=gy (nm:=z.nm) (env:=b.env) (t:=kid i 0) f.2 (xs.es z.nm (kids i).tail) i.pos;show ht _ _ (hF (.Call (g.e z.nm (kid i 0)) (xs.es z.nm (kids i).tail) [] i.pos) b.env) _ _ _;rw[ar];refine e3 (h1 b R f.1.1 ι s m _ _ q λaj h₁ aL aN r₁ o ap=>?_);cases ap with
 |@ab _ a x=>
 rw[H.ab]at x;cases x;refine callWith_of (P:=z.p.K.In) (by rw[aI hs i.pos];rfl) (keeps_K H.keep) (bq (aI hs i.pos) (h2 b i.pos R f.1.2 aj _ m _ _ (q.step r₁ o) λaq h₂ aO n r₂ w as=>?_));have l:z.p.K.In h₂:=λa e p=>r₂.stays _ _ (z.G.B.qq a e p);refine⟨l,sX ?_⟩;show kC _ _ (.call (.ref C) ⟨[]++n,[]⟩) _ _;rw[Dr];refine make_core (makes_of l H.Ch) (yf l H.ini) (λself=>bind_fn l self H.typ) (.inl rfl) ?_;have aJ:h₂.get? (h₂.objs.size+1)=none:=sK (jr _);have ai:∀ t e,h₂.get? t=some e->((h₂.push Nq).push (instObj C h₂.objs.size)).get? t=some e:=λt e p=>fw _ (fw _ p);obtain⟨ax,st⟩:=r₂.qr (h':=(h₂.push Nq).push (instObj C h₂.objs.size)) ai (as:=[h₂.objs.size+1,h₂.objs.size]) (cs:=[TH.inst j (af.length+1),.ns []]) rfl (by simp) (λa aa=>by
   simp only[hr,h6,Bj]at aa;rcases aa with rfl|rfl
   .exact aJ
   .exact aW _) (λi a c h k=>by
   have hi:i=0\/i=1:=by have:=(e4.mp h).1;simp at this;exact AT this
   rcases hi with rfl|rfl
   .simp only[rd,mS]at h k
    subst h;subst k;refine⟨C,h₂.objs.size,H.ca,?_,?_⟩
    .rw[gO (by rw[r₂.len];exact jr _),r₂.len];simp
    .heap_get
   .simp only[Bn,rd,mS]at h k
    subst h;subst k;refine⟨[],0,?_,.nil⟩;show((h₂.push Nq).push _).get? h₂.objs.size=_;rw[fw _ (gR _ rfl)])
 refine hi b.md (R.md) (b.A.under (.builtin "type.__call__" ⟨.ref C::n,[]⟩)) b.fr (aq++[h₂.objs.size+1,h₂.objs.size]) _ _ _ R.ok.frames ?_ ?_ ?_ ax (.cons (.h ?_) ((st b.md []).lG as)) λay aA ak aK ae y aw=>?_
 .exact R.hn▸(q.hand.pre (o.trans w).pre).pre (e1 ..)
 .have:=R.dep;rw[u]at this;show b.A.depth+1+d<=600;exact o1 this
 .have:=R.qK;rw[u]at this
  have au:(Ps "type.__call__" ⟨.ref C::n,[]⟩).cUnits=1:=rfl;show b.A.units+(Ps "type.__call__" ⟨.ref C::n,[]⟩).cUnits+10*d<=6000;exact Ig this au
 .rw[gO (by rw[r₂.len];exact e6 _),r₂.len];simp
 .cases aw
  refine⟨rfl,?_⟩;exact am ay aA ak _ ae (((o.trans w).trans (st _ _)).trans y) (.h (bC y.pre (by rw[gO (by rw[r₂.len];exact e6 _),r₂.len];simp)))
end
end
variable{x:e5}{a:e0 (e5×V)}{y:X}
section
set_option backward.match.sparseCases false
noncomputable abbrev e9 (τ:H)(j n:e5)(a:e0 (e5×V))(e:H):H:=τ++([.inst j (n+1),.ns a]++e)
section
variable{z:Z}{n:e5}{e:H}{K:UE}{v:V}{lk:e0 e5}
noncomputable abbrev Fin' (K:UE)(d:e5):Fm:=⟨⟨[],[],none⟩,K,d⟩
theorem Am (h:τ.length=n):(e9 τ j n a e)[n]?=some (.inst j (n+1)):=by
 rw[e9,gO (by exact iP h),h];simp
theorem An (h:τ.length=n):(e9 τ j n a e)[n+1]?=some (.ns a):=by
 rw[e9,gO (by exact sn (iP h)),h];simp
theorem ls (h:τ.length=n):(e9 τ j n a e).length=n+2+e.length:=by simp[e9,h];exact Ih
theorem sU (h:τ.length=n):(e9 τ j n a e).set (n+1) (.ns b)=e9 τ j n b e:=by
 rw[e9,r5 _ _ (by exact sn (iP h)),h];simp
theorem Ao:e9 τ j n a e++[o]=e9 τ j n a (e++[o]):=by simp[e9]
set_option tactic.hygienic true in
theorem rm (h:τ.length=n)(hs:ρ.lookup 0=some (.h n))(f:TB z (Fin' K d) ρ (e9 τ j n a e) y v (e9 τ j n a e))(c:a.length<1000)(b:T0.fq (j+1) x=true):
  TF z (Fin' K d) ρ (e9 τ j n a e) (.asg (.dr (.lo 0) x) y) .next ρ (e9 τ j n (aB a x v) e):=by
 have:=TF.ip (x:=x) f (.lo hs) (Am h) (An h) c b rfl;rwa[sU h]at this
set_option tactic.hygienic true in
theorem uC{o:TH}(h:τ.length=n)(hs:ρ.lookup 0=some (.h n))(g:m=n+2+e.length)(b:TB z (Fin' K d) ρ (e9 τ j n a e) y (.h (e9 τ j n a e).length) (e9 τ j n a e++[o]))(f:a.length<1000)(c:T0.fq (j+1) x=true):
  TF z (Fin' K d) ρ (e9 τ j n a e) (.asg (.dr (.lo 0) x) y) .next ρ (e9 τ j n (aB a x (.h m)) (e++[o])):=by
 rw[Ao,ls h,<-g]at b;have:=TF.ip (x:=x) b (.lo hs) (Am h) (An h) f c rfl;rwa[sU h]at this
noncomputable abbrev Ap:e0 (e5×V):=[(119,.int 16),(120,.int 9),(121,.int 2000),(122,.int 20),(123,.int 2000),(124,.h 14),(125,.h 15),(126,.h 16),(127,.h 17),(128,.h 18),(5,.str []),(129,.h 19),(32,.h 20),(37,.h 21),(38,.h 22),(130,.h 23),(131,.int 0),(132,.int 0),(133,.int 1),(134,.int 0),(135,.int 0),(136,.int 0),(137,.bool false),(138,.int 0),(139,.str []),(140,.bool false),(141,.h 24),(142,.h 25)]
noncomputable abbrev GQ:H:=[.dict [],.dict [],.dict [],.dict [],.list [],.list [],.dict [],.dict [],.dict [],.list [],.list [],.list []]
theorem Q0 (h:τ.length=12)(H:gC z oq fI 1 [.int 16,.int 9,.int 2000,.int 20,.int 2000]):uB z (d+1) none [] fI [.h 12] (τ++[.inst 0 13,.ns []]) .none (e9 τ 0 12 Ap GQ):=by
 refine uB.of (f:=.next) (am:=[(123,.int 2000),(122,.int 20),(121,.int 2000),(120,.int 9),(119,.int 16),(0,.h 12)]) (dv:=[.int 16,.int 9,.int 2000,.int 20,.int 2000]) H rfl rfl [(123,.int 2000),(122,.int 20),(121,.int 2000),(120,.int 9),(119,.int 16),(0,.h 12)] oq.body oq.sc rfl rfl rfl ?_;rw[show τ++[TH.inst 0 13,.ns []]=e9 τ 0 12 [] [] by simp[e9]]
 iterate 5 apply DB.c (rm h rfl (.lo rfl) J rfl)
 iterate 4 apply DB.c (uC h rfl rfl .lS J rfl)
 apply DB.c (uC h rfl rfl (.li .n (hq _)) J rfl);apply DB.c (rm h rfl .s J rfl);apply DB.c (uC h rfl rfl (.li .n (hq _)) J rfl)
 iterate 3 apply DB.c (uC h rfl rfl .lS J rfl)
 apply DB.c (uC h rfl rfl (.li .n (hq _)) J rfl)
 iterate 6 apply DB.c (rm h rfl .i J rfl)
 apply DB.c (rm h rfl .bo J rfl);apply DB.c (rm h rfl .i J rfl);apply DB.c (rm h rfl .s J rfl);apply DB.c (rm h rfl .bo J rfl)
 iterate 2 apply DB.c (uC h rfl rfl (.li .n (hq _)) J rfl)
 exact DB.n
theorem Ci:WN Ap:=⟨rfl,rfl,rfl,rfl,rfl⟩
theorem Q1 (h:τ.length=26)(H:gC z ou fI 4 []):uB z (d+1) none [] fI [.h 26,.h 12,.h 10,.h 11] (τ++[.inst 1 27,.ns []]) .none (e9 τ 1 26 (oN 28 .none) [.dict []]):=by
 refine uB.of (f:=.next) (am:=[(144,.h 11),(143,.h 10),(30,.h 12),(0,.h 26)]) (dv:=[]) H rfl rfl [(144,.h 11),(143,.h 10),(30,.h 12),(0,.h 26)] ou.body ou.sc rfl rfl rfl ?_;rw[show τ++[TH.inst 1 27,.ns []]=e9 τ 1 26 [] [] by simp[e9]];apply DB.c (uC h rfl rfl .lS J rfl)
 iterate 3 apply DB.c (rm h rfl (.lo rfl) J rfl)
 apply DB.c (rm h rfl .no J rfl);exact DB.n
end
end
variable{t y:e5}
section
set_option backward.match.sparseCases false
section
variable (z:Z)(F:Fm)
noncomputable def VV (ρ:aZ)(σ:H)(s:S)(Φ:Uk->aZ->H->Prop):Prop:=∀ C,z.T F C->∀ {t},hJ z.p z.prog z.w z.aa C (s0 (s.s z.nm t) C.env) ρ σ Φ
noncomputable def BQ (ρ:aZ)(σ:H)(b:Ss)(Φ:Uk->aZ->H->Prop):Prop:=∀ C,z.T F C->∀ {t},hJ z.p z.prog z.w z.aa C (execs (b.ss z.nm t) C.env) ρ σ Φ
end
section
variable{z:Z}{F:Fm}{s:S}{ss:Ss}{f:Uk}{a b:X}{v:V}
theorem VV.of (b:s.wf T0 n0 F.K=true)(h:TF z F ρ σ s f ai U)(a:Φ f ai U):VV z F ρ σ s Φ:=λC R=>.of (h C R b) a
theorem BQ.cons (h:VV z F ρ σ s (λf am ae=>f=.next/\BQ z F am ae ss Φ)):BQ z F ρ σ (.c s ss) Φ:=λC R=>.cons ((h C R).mono λf ρ σ h=>⟨h.1,h.2 C R⟩)
set_option tactic.hygienic true in
theorem BQ.st (a:s.wf T0 n0 F.K=true)(h:TF z F ρ σ s .next ai U)(h2:BQ z F ai U ss Φ):BQ z F ρ σ (.c s ss) Φ:=.cons (.of a h ⟨rfl,h2⟩)
theorem BQ.re (c:a.wf T0 n0 F.K=true)(h:TB z F ρ σ a v U)(b:Φ (.ret v) ρ U):BQ z F ρ σ (.c (.re a) ss) Φ:=λC R=>.of (TZ.stop (TZ.ret (h C R.1 c)) (by simp)) b
theorem BQ.AW (a:ss.wf T0 n0 F.K=true)(h:ag z F ρ σ ss Φ):BQ z F ρ σ ss Φ:=λC R=>cB h λf r s c b=>.of (c C R a) b
theorem BQ.mono (h:BQ z F ρ σ ss Φ)(a:∀ f ρ σ,Φ f ρ σ->Ψ f ρ σ):BQ z F ρ σ ss Ψ:=λC R=>(h C R).mono a
noncomputable def D2:V->gN jW
 | .tup _=>some true
 | .str _=>some false
 |_=>Option.none
theorem TB.mO (g:TB z F ρ σ a va U)(h:D2 va=some o):TB z F ρ σ (.mO x y a) (.bool o) U:=λC R d {k}=>by
 obtain⟨⟨⟨⟨hx,j⟩,b⟩,c⟩,f⟩:=Vv d;cases eq_of_beq hx;cases eq_of_beq j;replace b:=eq_of_beq b;replace c:=eq_of_beq c;have e:∀ t q,hu [a.e z.nm t,.Name (z.nm n0.yC) q] C.env=[(false,hF (a.e z.nm t) C.env),(false,hF (.Name (z.nm n0.yC) q) C.env)]:=λt q=>by
  rw[d7];rfl
 exact Ev.mO z.G.B R.ok (gZ R z.G.yD.1 b) (gZ R z.G.yE.1 c) z.G.yD.2 z.G.yE.2 (z.G.jE _ z.G.yD.1) (z.G.jE _ z.G.yE.1) (g C R f) (e _ _) (by cases va with|tup l=>exact .inl ⟨l,rfl,(fZ h).symm⟩|str l=>exact .inr ⟨l,rfl,(fZ h).symm⟩|_=>exact iv h nofun)
theorem TD.mO (c:TB z F ρ σ a va U)(h:D2 va=some o):TD z F ρ σ (.mO x y a) o U:=λC R b=>Tv.of (TB.mO c h C R b) V6.bool rfl
theorem VV.GR (f:(X.sub a b).wf T0 n0 F.K=true)(g:xs.wf T0 n0 F.K=true)(e:x<n0.N)(d:F.K.lookup x=some .local)(h1:TB z F ρ σ (.sub a b) (.fn k) σ)(h2:bV z F ρ σ xs vs σ)(h:TK z F.d F.c.hn F.c.lk k vs σ v U)(c:Φ .next (aB ρ x v) U):
  VV z F ρ σ (.asg (.lo x) (.call (.sub a b) xs)) Φ:=λC R=>by
 refine .of (f:=.next) (ai:=aB ρ x v) (U:=U) ?_ c;exact TZ.jv (x:=0) (Ev.call z.G.B R.1.ok R.1.dep R.1.qK (h1 C R.1 f) (h2 C _ R.1 g) (R.1.hn▸h C.md R.1.md) (cJ) rfl) (Ue.lQ (c9 z.G R.1 ⟨e,d⟩) λy u h=>by rw[du]at h;exact h) (iN (x:=.call (.sub a b) xs) rfl _ _)
end
theorem xf (l:e0 (e0 e5)):mu σ (l.map V.str) (l.map V.str):=by
 induction l with
 |nil=>exact .nil
 |cons x l a=>exact .cons (.str x) a
theorem Rows.pre{P:H->Prop}(h:Rows P (r::rs) τ)(e:τ<+:υ):Rows P (r::rs) υ:=λw a=>h w (e.trans a)
section
variable{st n:e5}
theorem U8.draw (I:U8 n σ pt st pr t Uf pS sh ft fd hT hS oc T6)(m:Md [3] σ τ)(f:Uy τ t'):U8 n τ pt st pr t' Uf pS sh ft fd hT hS oc T6:=by
 have j:=I.mi.TM.cF;have l:=I.mi.TM.hst;have d:=I.UG.so.ge;have hk:∀ (k:e5) (p:TU),29<=k->k≠pt->k≠pr->σ[k]?=some (.dict (aE p))->τ[k]?=some (.dict (aE p))/\k≠pt/\k≠pr:=λk p e b g c=>⟨m.get c (n1 (hj (e2 (eW rfl) e))),b,g⟩;have a:=I.UG.cl;have nm:∀ k,k≠3->k∉[3]:=λk h=>by simpa using h
 exact⟨⟨I.mi.TM.draw m,f,I.mi.Af,I.mi.he.mv hk,λx hx=>(I.mi.fl x hx).mv hk,e2 I.mi.h30 m.1⟩,
  ⟨I.UG.so.md m J J (n1 (hj (e2 (eW rfl) d))),I.UG.Ul.md m J J J J J,⟨m.get a.ra J,m.get a.rr J,m.get a.ch J,m.get a.ct J,m.get a.TM J,m.get a.hd J⟩⟩,
  I.sm,I.ok,I.iT,I.ux,I.uy,I.shl,I.hl,I.UK⟩
end
noncomputable abbrev dW:Fm:=⟨⟨[(224,0),(207,1)],[],none⟩,rj,20⟩
structure UV (ρ:aZ):Prop where
 f:ρ.lookup 201=some (.h 3)
 s:ρ.lookup 155=some (.h 26)
theorem UV.set (h:UV ρ)(h1:201≠x)(h2:155≠x):UV (aB ρ x v):=⟨by rw[eh,hb h1];exact h.f,by rw[eh,hb h2];exact h.s⟩
section
variable{z:Z}{n:e5}
theorem Cj (b:UV ρ)(I:U3 n σ):BQ z dW ρ σ GJ (λf am ae=>f=.next/\UV am/\U3 n ae):=by
 have k:=I;obtain⟨pt,st,pr,t,Uf,pS,sh,ft,fd,hT,hS,oc,T6,m,I⟩:=I;have d:=I.UG.cl;have l:=I.mi.TM.cF;have h:=I.mi.TM.hst;obtain⟨a,e,g⟩:=I.UG.Ul.n;have c:TB z dW ρ σ (.ce 207) (.h 4) σ:=.ce rfl d.ct;have j:18≠st:=by exact(Up h rfl).symm
 refine .AW (by decide+kernel) ?_;apply ag.bA (U:=σ)
 .refine TD.FT (U:=σ) (af:=σ) (.cmp (bI I.UG.so b.s rfl) (jj I.mi.TM c) (TC.FN I.UG.so.p I.mi.TM.pr I.sm.len I.sm.Li)) ?_
  refine TD.Bz (U:=σ) (af:=σ) (.cmp (.dr (bI I.UG.so b.s rfl) I.UG.Ul.w e g.out rfl) (oP I.mi.TM c) (TC.BE j I.UG.Ul.out I.mi.TM.sh (xf _))) ?_;exact .cmp (.ce rfl d.ch) (z8 I.mi.TM c) (TC.BE J d.hd I.mi.TM.th I.mi.he.eq)
 apply ag.nil;apply ag.bA
 .exact .cmp (.call (.gl rfl) (.c (.lo b.s) .n) (zp I.UG.so)) .s (TC.cmp rfl)
 apply ag.nil;exact .nil ⟨rfl,b,k⟩
theorem Aq (a:UV ρ)(h1:ρ.lookup 21=some (.str tx))(h2:ρ.lookup 238=some (.str c))(b:TK z 20 none [] 82 [.h 26] σ (.str c) σ)(d:TK z 20 none [] 81 [.h 26,.str tx] σ .none ae):
  BQ z dW ρ σ qg (λf am τ=>f=.next/\am=ρ/\τ=ae):=by
 refine .AW (by decide+kernel) ?_;apply ag.bA
 .exact .cmp (.call (.gl rfl) (.c (.lo a.s) .n) b) (.lo h2) (TC.Xi rfl rfl)
 apply ag.nil;apply ag.cons (TF.ex (.call (.gl rfl) (.c (.lo a.s) (.c (.lo h1) .n)) d));exact .nil ⟨rfl,rfl,rfl⟩
structure ZJ (n X Y:e5)(rs:e0 (e0 e5×e0 e5))(i:e5)(ρ:aZ)(σ:H):Prop where
 r:UV ρ
 x:σ[X]?=some (.list (rs.map λr=>V.str r.1))
 y:σ[Y]?=some (.list (rs.map λr=>V.str r.2))
 rows:Rows (U3 n) (rs.drop i) σ
theorem Ck{X:e5}(h:ZJ n X Y rs rs.length ρ σ):iI X Y rs.length σ=some none:=by
 unfold iI;rw[h.x,h.y];dsimp only;rw[lF (by simp)]
theorem Cm{X:e5}(h:ZJ n X Y rs i ρ σ) hi:iI X Y i σ=some (some (.tup [.str rs[i].1,.str rs[i].2])):=by
 unfold iI;rw[h.x,h.y];dsimp only;rw[jb,jb,hv hi];rfl
theorem Ar{X:e5}(K:kc z)(d:29<=X)(j:29<=Y)(h:ZJ n X Y rs i ρ σ) hi:
  BQ z dW (aB (aB ρ 21 (.str rs[i].1)) 238 (.str rs[i].2)) σ qg (λf am ae=>f=.next/\ZJ n X Y rs (i+1) am ae):=by
 have b:=h.rows;rw[lv hi]at b;obtain⟨k,ae,g,c,e⟩:=b σ fV z K.LD K.LF;have a:UV (aB (aB ρ 21 (.str rs[i].1)) 238 (.str rs[i].2)):=(h.r.set J J).set J J;refine(Aq a (by rw[eh,hb J,eh,hz rfl]) (by rw[eh,hz rfl]) k g).mono λf am τ h'=>?_;obtain⟨rfl,rfl,rfl⟩:=h';exact⟨rfl,a,c _ _ d h.x,c _ _ j h.y,e⟩
end
section
variable{c:Zc}{fs:e0 hD}{n:e5}
theorem t0:∀ a∈(⟨[],fs⟩:Vs).t,aa.get? a=none:=λb q=>(nomatch q)
noncomputable abbrev Zc.Un (c:Zc)(fs:e0 hD):Z:=c.z ⟨[],fs⟩ t0
theorem Cn{X:e5}(m:∀ hf h,kc (c.z hf h))(k:29<=X)(s:29<=Y)(h:ZJ n X Y rs 0 ρ σ)(h1:ρ.lookup 219=some (.h X))(h2:ρ.lookup 220=some (.h Y)):
  VV (c.Un fs) dW ρ σ (.fo Ah Ai qg) (λf am ae=>f=.next/\UV am/\U3 n ae):=λC R {i}=>by
 have q:C.env.kindOf (c.nm 239)=some .globalImplicit:=gZ (z:=c.Un fs) R.1 J rfl;have u:∀ t,Ev _ _ _ _ C ρ (hF ((Mine.Internal.X.lo 219).e c.nm t) C.env) σ (.h X) σ:=λl=>TB.lo (z:=c.Un fs) (F:=dW) h1 C R.1 (by decide+kernel);have o:∀ t,Ev _ _ _ _ C ρ (hF ((Mine.Internal.X.lo 220).e c.nm t) C.env) σ (.h Y) σ:=λl=>TB.lo (z:=c.Un fs) (F:=dW) h2 C R.1 (by decide+kernel);have p:=hJ.zip (gl:=c.gl) (np:=(kid (tree i 1) 0).pos) (pos:=(tree i 1).pos) (pos':=i.pos) (tp:=(tree i 0).pos) (es:=(Xs.c (.lo 21) (.c (.lo 238) .n)).es c.nm (kids (tree i 0))) (kk:=0) (body:=qg.ss c.nm (block i 0)) (c.Un fs).G.B rfl R.1.ok (R.1.no rfl) q ((c.Un fs).G.bi 239 .zip rfl) (c.G.jE 239 J) (u ((kids (tree i 1)).tail.getD 0 default)) (o ((kids (tree i 1)).tail.tail.getD 0 default)) rfl rfl h.x h.y rs.length (ZJ n X Y rs) h (λρ σ j=>Ck j) (λb d g1 g2 i ρ σ hi j=>by
  have e:∀ a∈[b,d],c.aa.get? a=none:=λa g=>by
   simp only[hr,h6,Bj]at g;rcases g with rfl|rfl
   .exact g1
   .exact g2
  refine⟨_,_,σ,Cm j hi,?_,Ar (z:=c.z ⟨[b,d],fs⟩ e) (m _ _) k s j hi C R⟩;exact DA.tu (z:=c.z ⟨[b,d],fs⟩ e) (F:=dW) (xs:=.c (.lo 21) (.c (.lo 238) .n)) rfl (.cons .lo (.cons .lo .nil)) C R.1 (by decide+kernel))
 refine hJ.mono p λf am ae h=>⟨h.1,h.2.r,?_⟩;have:=h.2.rows;rw[A0]at this;exact this
noncomputable abbrev rp:Ss:=.c (.asg (.lo 111) (.call (.gl 206) (.c (.lo 201) (.c (.i (8)) .n)))) (.c LC (.c QP (.c QQ (.c (.fo Ah Ai qg) GJ))))
theorem xg{st:e5}(I:U8 n σ pt st pr t Uf pS sh ft fd hT hS oc T6)(hn:n<11)(a:t<=10*n+6)(b:v<8):
  ∃ k,([.fn 86,.fn 86,.fn 86,.fn 87,.fn 88,.fn 89,.fn 90,.fn 91]:e0 V)[v]?=some (.fn k)/\Told z n σ k:=by
 have:v=0\/v=1\/v=2\/v=3\/v=4\/v=5\/v=6\/v=7:=by exact Ii b
 rcases this with rfl|rfl|rfl|rfl|rfl|rfl|rfl|rfl
 .exact⟨86,rfl,l6 I hn a⟩
 .exact⟨86,rfl,l6 I hn a⟩
 .exact⟨86,rfl,l6 I hn a⟩
 .exact⟨87,rfl,w4 I hn a⟩
 .exact⟨88,rfl,w6 I hn a⟩
 .exact⟨89,rfl,w5 I hn a⟩
 .exact⟨90,rfl,w7 I hn a⟩
 .exact⟨91,rfl,w9 I hn a⟩
theorem As (aq:∀ hf h,kc (c.z hf h))(s:UV ρ)(I:U3 n σ)(hn:n<11):BQ (c.Un fs) dW ρ σ rp (λf am ae=>f=.next/\UV am/\U3 (n+1) ae):=by
 obtain⟨pt,st,pr,t,Uf,pS,sh,ft,fd,hT,hS,oc,T6,q,I⟩:=I;refine jL (z:=c.Un fs) (d:=19) (many:=8) I.mi.f (by exact Ij hn q) J J λg U x ai ap f1=>?_;refine .st (by decide+kernel) (TF.aP rfl (.call (.gl rfl) (.c (.lo s.f) (.c .i .n)) ai)) ?_;refine .st (by decide+kernel) (TF.aP rfl (.li (vs:=[.fn 86,.fn 86,.fn 86,.fn 87,.fn 88,.fn 89,.fn 90,.fn 91]) (.c (.gl rfl) (.c (.gl rfl) (.c (.gl rfl) (.c (.gl rfl) (.c (.gl rfl) (.c (.gl rfl) (.c (.gl rfl) (.c (.gl rfl) .n)))))))) J)) ?_;have p:U<+:U++[TH.list [.fn 86,.fn 86,.fn 86,.fn 87,.fn 88,.fn 89,.fn 90,.fn 91]]:=e1 ..;have v:=I.draw (ap.trans (Md.aK (L:=[]) p) (by simp)) (f1.pre p);obtain⟨k,hk,aa⟩:=xg (z:=c.Un fs) v hn (by exact hm q) x;obtain⟨b,ao,w,aw⟩:=aa;generalize aj:U++[TH.list [.fn 86,.fn 86,.fn 86,.fn 87,.fn 88,.fn 89,.fn 90,.fn 91]]=S2 at*
 have au:S2[U.length]?=some (.list [.fn 86,.fn 86,.fn 86,.fn 87,.fn 88,.fn 89,.fn 90,.fn 91]):=by rw[<-aj];exact bc
 have z:UV (aB (aB ρ 111 (.int (g:e5))) 229 (.h U.length)):=(s.set J J).set J J;generalize y:aB (aB ρ 111 (.int (g:e5))) 229 (.h U.length)=a at*
 have ar:a.lookup 229=some (.h U.length):=by rw[<-y,eh,hz rfl]
 have af:a.lookup 111=some (.int (g:e5)):=by rw[<-y,eh,hb J,eh,hz rfl]
 refine .cons (VV.GR (by decide+kernel) (by decide+kernel) J rfl (.sub (.lo ar) (.lo af) (T9.list (k:=g) au hk (by exact tl x rfl))) (.c (.lo z.f) (.c (.ce rfl v.UG.cl.ct) .n)) w ⟨rfl,?_⟩);have ak:UV (aB a 2 b):=z.set J J;have e:(aB a 2 b).lookup 2=some b:=by rw[eh,hz rfl]
 -- I7 rows Sl are typed
 have rest:∀ {X Y:e5} {rs:e0 (e0 e5×e0 e5)} {bt:H},29<=X->29<=Y->bt[X]?=some (.list (rs.map λr=>V.str r.1))->bt[Y]?=some (.list (rs.map λr=>V.str r.2))->Rows (U3 (n+1)) rs bt->
   BQ (c.Un fs) dW (aB (aB (aB a 2 b) 219 (.h X)) 220 (.h Y)) bt (.c (.fo Ah Ai qg) GJ) (λf am ae=>f=.next/\UV am/\U3 (n+1) ae):=by
  intro X Y rs bt j l m o d;have as:UV (aB (aB (aB a 2 b) 219 (.h X)) 220 (.h Y)):=(ak.set J J).set J J;refine .cons (λC R=>(Cn aq j l ⟨as,m,o,d⟩ (by rw[eh,hb J,eh,hz rfl]) (by rw[eh,hz rfl]) C R).mono λf am ae h=>⟨h.1,Cj h.2.1 h.2.2⟩)
 rcases aw with⟨tx,rfl,u,d⟩|⟨X,Y,rs,rfl,j,l,m,o,ax,d⟩
 .refine .st (by decide+kernel) (TF.dI (.bA (TD.mO (.lo e) rfl) (.tu (.c (.li (.c (.lo e) .n) (eW rfl)) (.c (.li (.c .s .n) (eW rfl)) .n)) (eW rfl))) (.tu rfl (.cons .lo (.cons .lo .nil)))) ?_
  have ab:ao<+:ao++[TH.list [.str tx]]++[TH.list [.str kD]]:=(e1 ..).trans (e1 ..);refine rest (rs:=[(tx,kD)]) u (by simp;exact gB u) ?_ ?_ (d.pre ab)
  .exact bf bc
  .exact bc
 .refine .st (by decide+kernel) (TF.dI (.cf (TD.mO (.lo e) rfl) (.lo e)) (.tu rfl (.cons .lo (.cons .lo .nil)))) ?_
  exact rest j l m o d
end
end
variable{C:Cfg}{m:jg->gN fB}{tt:rf}{cda:hD}{ps:uf fB}{o6:e0 (e5×JC)}{Q:Km->gc->Prop}
section
set_option backward.match.sparseCases false
structure lu (p:P)(aa:kb)(fr:e0 zs)(T:hD)(ps:uf fB)(ι:e0 hD)(h:kb):Prop where
 pv:dH p aa fr [T] ι h
 at_:h.get? T=some (tabObj ps)
section
variable{c:Zc}{fs:e0 hD}{K:UE}{s:gc}{T:hD}{b:Ss}{E:fB->gc->Prop}
theorem vy (R:(c.Un fs).R ⟨⟨[(224,0),(207,1)],[],none⟩,K,20⟩ C)(ce:∀ fd aQ,o4 c.nm D [224,207] fd aQ->c.p.cl kk fd aQ)
  (b4:D=⟨o6.map (λq=>q.1),sc,b⟩)(j:∀ (name bt:jg) (clos:e0 (jg×hD)) (w cl cd z:fB) (ws:e0 fB),ws.length=o6.length->qR (fnX name bt ⟨[],o6.map (λq=>⟨c.nm q.1,none,q.2⟩),none,[],[],none,[]⟩ (b.ss c.nm (block tt 0)) (bp c.nm sc) clos .none .none w cl none cd z) ⟨ws,[]⟩=pure (((o6.map (λq=>q.1)).map c.nm).zip ws))
  (l:annTrees ⟨[],o6.map (λq=>⟨c.nm q.1,none,q.2⟩),none,[],[],none,[]⟩ none C.env=[])
  (a3:∀ q∈sc,q.2=.free->q.1=224\/q.1=207)(h1:(224,.free)∈sc)(h2:(207,.free)∈sc)(hx:x<n0.N)(hk:K.lookup x=some .local)
  (g:Good (c.p.T8 ⟨[],fs⟩) c.prog c.w c.aa C ρ ι σ m s.heap)(t:lu (c.p.T8 ⟨[],fs⟩) c.aa C.fr T ps ι s.heap)
  (be:C.env.code=.ref cda)(hT:SK c.aa cda T)(a9:TriplesOk ps.toList)(bb:codeAmong tt.pos ps.toList=none)(aA:c.aa.Ns jk mg)(b1:c.aa.BuiltinsAt mg T)(cX:(2:e5)<=σ.length)(cF:σ[0]?=some (.cell (some (.h 9))))(cR:σ[1]?=some (.cell (some (.h 4))))
  (bU:∀ e aw h' ao bE,Good (c.p.T8 ⟨[],e::fs⟩) c.prog c.w c.aa C (aB ρ x (.h σ.length)) aw (σ++[.ic kk [0,1]]) bE h'->lu (c.p.T8 ⟨[],e::fs⟩) c.aa C.fr T (ps++#[tA tt.pos.line,tA tt.pos.col,.ref e]) aw h'->Q .next {s with heap:=h',toks:=ao}):
  ht (hh c.prog c.w) C.A (s0 ((S.de x o6 b sc).s c.nm tt) C.env) Q E s:=by
 subst b4;have r:=g.rel;have aO:∀ y∈[224,207],∃ a,C.env.cells.lookup (c.nm y)=some a/\ι[(if y=224 then 0 else 1:e5)]?=some a:=by
  intro y aa;have ap:C.cm=[(224,0),(207,1)]:=R.cm;simp only[hr,h6,Bj]at aa;rcases aa with rfl|rfl
  .obtain⟨a,f,o⟩:=g.cells 224 (c.nm 224) 0 (c.G.nms _ J) (by rw[ap];rfl)
   exact⟨a,o,f⟩
  .obtain⟨a,f,o⟩:=g.cells 207 (c.nm 207) 1 (c.G.nms _ J) (by rw[ap];rfl)
   exact⟨a,o,f⟩
 obtain⟨ab,aN,au⟩:=aO 224 (by simp);obtain⟨ae,aJ,ay⟩:=aO 207 (by simp);rw[hz rfl]at au;rw[hb J]at ay;obtain⟨clos,cc,aP⟩:=mr (env:=C.env) (scope:=bp c.nm sc) (λy aa hf=>by
  obtain⟨bi,cC,rfl⟩:=h4.mp (show y∈eN c.nm sc from aa);rcases a3 bi cC hf with d|d
  .exact⟨ab,by simp only;rw[d];exact aN⟩
  .exact⟨ae,by simp only;rw[d];exact aJ⟩)
 have cD:=(t.pv T (by simp));have bo:jk≠T:=λd=>by
  obtain⟨k,bl,ep,f,_⟩:=aA;rw[d,cD.2.2.1]at f;cases f
 obtain⟨aY,ob,bW,aX,b2,bs,cs,a7⟩:=b1;refine nestDef_K rfl rfl l (makeFunction_K (mg:=mg) (clos:=clos) cc R.ok.glob (aA.keeps r.stays) be (hT.keeps r.stays) t.at_ a9 bb bo ⟨aY,ob,bW,aX,b2,bs,r.stays _ _ cs,a7⟩ λe z w h' ao a8 b8 cE b0 as=>?_);have aV:∀ b,s.heap.objs.size<=b->s.heap.get? b=none:=λb j=>sK j;have p:=aV e b8;obtain⟨aL,bQ⟩:=r.cL t.pv (h':=h') (λb k j d=>a8 b k (by simpa using j) d);have cx:dH (c.p.T8 ⟨[],fs⟩) c.aa C.fr [T] ι h':=λb j=>by
  obtain⟨ak,af,am,aq,_⟩:=t.pv b j;simp only[gP]at j;subst j;exact⟨ak,af,am,aq,_,as,by simp⟩
 have ar:C.env.locals≠T:=λd=>by
  obtain⟨k,bl,ep,f,ai,_⟩:=g.ns;rw[d,t.at_]at f;cases f;cases ai
 have bn:=g.cL bQ aL (by simpa using ar);obtain⟨cL,oc,vs,bA,b7,aK,ai,cy⟩:=b0;cases b7;have aD:=bn.T8 (hf:=⟨[],e::fs⟩) (h':=h') (λv q=>(nomatch q)) (λa l=>mD _ l) (λv v d=>d) (λv q=>(nomatch q)) (λa l=>by
  rcases hr.mp l with rfl|l
  .refine⟨λq=>?_,λq=>?_,?_,oc,aK⟩
   .exact r.VA p q
   .exact r.EC p q
   .exact r.n0 p
  .exact aL.Uu a l) (λq=>by
   rcases hr.mp q with q|q
   .obtain⟨k,d⟩:=g.there;rw[q,p]at d;cases d
   .exact g.U0 q)
 have ct:o4 c.nm ⟨o6.map (λq=>q.1),sc,b⟩ [224,207] (fnX (c.nm x) (Gu C.env (c.nm x) (c.nm x)) ⟨[],o6.map (λq=>⟨c.nm q.1,none,q.2⟩),none,[],[],none,[]⟩ (b.ss c.nm (block tt 0)) (bp c.nm sc) clos .none .none w ((mg "__name__").getD .none) none (.ref e) z) [ab,ae]:=
  ⟨⟨_,rfl⟩,λws bm=>j _ _ _ _ _ _ _ ws (by simpa using bm),rfl,rfl,rfl,λi y a f o=>by
   have hi:i=0\/i=1:=by have:=(e4.mp f).1;simp at this;exact AT this
   rcases hi with rfl|rfl
   .simp only[rd,mS]at f o
    subst f;subst o;exact(aP _ ⟨_,kK (f:=λq=>(c.nm q.1,q.2)) h1,rfl,rfl⟩).trans aN
   .simp only[Bn,rd,mS]at f o
    subst f;subst o;exact(aP _ ⟨_,kK (f:=λq=>(c.nm q.1,q.2)) h2,rfl,rfl⟩).trans aJ,rfl,rfl,rfl⟩
 have a6:=aD.rel.alloc (o:=SM (c.nm x) (Gu C.env (c.nm x) (c.nm x)) ⟨[],o6.map (λq=>⟨c.nm q.1,none,q.2⟩),none,[],[],none,[]⟩ (b.ss c.nm (block tt 0)) (bp c.nm sc) clos w ((mg "__name__").getD .none) e z) (co:=.ic kk [0,1]) ⟨_,_,[ab,ae],e,gR _ rfl,rfl,rfl,ce _ _ ct,by
   have a2:(ι++[h'.objs.size])[0]?=some ab:=bC (e1 ..) au;have l1:(ι++[h'.objs.size])[1]?=some ae:=bC (e1 ..) ay;simp only[y2,List.mapM_nil,a2,l1];rfl,rfl,.head _,e,oc,vs,bA,rfl,fw _ aK,ai,cy⟩
 have aj:∀ u k,h'.get? u=some k->(h'.push (SM (c.nm x) (Gu C.env (c.nm x) (c.nm x)) ⟨[],o6.map (λq=>⟨c.nm q.1,none,q.2⟩),none,[],[],none,[]⟩ (b.ss c.nm (block tt 0)) (bp c.nm sc) clos w ((mg "__name__").getD .none) e z)).get? u=some k:=λu k d=>fw _ d;have ax:Step (c.p.T8 ⟨[],e::fs⟩).hid C.md C.fr [] ι h' (ι++[h'.objs.size]) (h'.push (SM (c.nm x) (Gu C.env (c.nm x) (c.nm x)) ⟨[],o6.map (λq=>⟨c.nm q.1,none,q.2⟩),none,[],[],none,[]⟩ (b.ss c.nm (block tt 0)) (bp c.nm sc) clos w ((mg "__name__").getD .none) e z)):=
  ⟨e1 ..,λn a l=>by
   by_cases hn:n<ι.length
   .rw[hN hn]at l;exact .inl l
   .rw[gO (mq hn)]at l
    have:=fz l;simp only[gP]at this;subst this;exact .inr (aW _),λb k v v d=>⟨k.slots,aj _ _ d,λv=>rfl⟩,λb k d=>⟨k,aj _ _ d⟩,.ext aj⟩
 have a0:=aD.step a6 ax;have ca:UU (c.Un (e::fs)).nm n0 C ⟨[(224,0),(207,1)],[],none⟩ K 20:=R;refine(Ue.lQ (au:=aB ρ x (.h σ.length)) (c9 (c.Un (e::fs)).G ca ⟨hx,hk⟩) λy u h=>by rw[du]at h;exact h) (ι++[h'.objs.size]) {s with heap:=h'.push _,toks:=ao} m _ _ _ a0 (.h (n:=σ.length) (by rw[gO (by rw[r.len];exact e6 _),r.len];simp)) λa4 cr a5 bd a1 cb=>?_;have ch:dH (c.p.T8 ⟨[],e::fs⟩) c.aa C.fr [T] ι h':=λb j=>by
  obtain⟨ak,af,am,⟨aq,cf⟩,bT⟩:=cx b j;simp only[gP]at j;subst j;exact⟨ak,af,am,⟨λq=>(nomatch q),λq=>by
   rcases hr.mp q with q|q
   .rw[<-q,t.at_]at p;cases p
   .exact cf q⟩,bT⟩
 obtain⟨bh,bJ⟩:=ch.stay ax (by simp);obtain⟨bF,cp⟩:=bh.stay cb (by simpa using ar.symm);exact bU e a4 cr a5 bd a1 ⟨bF,cp T (by simp) _ (bJ T (by simp) _ as)⟩
end
end
section
set_option backward.match.sparseCases false
section
variable{md:e5->jW}{gl:e0 (jg×V)}
theorem GV{fr:e0 zs}{X:tc->gc->Prop}{fd:qx}{xs:e0 jg}(B:Base p prog w aa gl)(h:A.frames=some fr)(ar:Hand hx A ι)(j:A.depth+(d+1)<=600)(y:A.units+10*(d+1)<=6000)(t:s.heap.get? a0=some o)(l:o.data=.func fd)(ab:s.heap.CodeRec fd.code fd.qualname)(ap:fd.body=.stmts body)(am:ns.mapM (λx=>p.names[x]?)=some xs)(aj:∀ ws:e0 fB,ws.length=args.length->qR fd ⟨ws,[]⟩=pure (xs.zip ws))(ao:fp.mapM (λx=>p.names[x]?)=some (aC fd.scope.names))(c:(aC fd.scope.names).Nodup)(ae:∀ x∈xs,fd.scope.names.lookup x=some .local\/fd.scope.names.lookup x=some .cell/\x∈aC fd.scope.names)(e:∀ x∈aC fd.scope.names,fd.scope.names.lookup x=some .cell)(ax:fd.globals=jk)(aq:fd.builtins=mN)(aJ:fd.closure=[])(z:fd.scope.isCoroutine=false)(ai:fd.scope.isGenerator=false)(hk:fd.scope.kind=.function)(r:Rel p prog w aa fr ι σ s.heap)(vs:aT p ι s.heap args ws)(run:∀ (C:Cfg) (aw:e0 hD) (h₁:kb) (b:QN) (m:jg->gN fB),cH C->C.env.scope=fd.scope->C.env.code=fd.code->C.A.depth+d<=600->C.A.units+10*d<=6000->(C.fr=C.env::fr/\C.env.frame=some C.env.locals)->C.cm=fp.zip (sF σ.length fp.length)->C.md=md->C.hn=hx->
   Good p prog w aa C ((ns.zip args).reverse.filter λq=>!fp.contains q.1) aw (σ++fp.map λx=>.cell ((ns.zip args).reverse.lookup x)) m h₁->(∀ a o,s.heap.get? a=some o->h₁.get? a=some o)->(∀ a∈aw,a∈ι\/s.heap.get? a=none)->s.heap.get? C.env.locals=none->
   ∀ au,ht (hh prog w) C.A (execs body C.env) (λf aD=>X (.ok (.ret (IW f))) aD) au {s with heap:=h₁,toks:=b}):
  kC (hh prog w) A (.call (.ref a0) ⟨ws,[]⟩) X s:=by
 refine qs (md:=md) B h ar j y t l ab ap am aj ao c ae e ax aq aJ z ai hk r vs λenv as h₁ b m ay af k v u aK aL g aA n aN=>?_;exact run _ (ι++as) h₁ b m aL ay af u aK ⟨rfl,k⟩ rfl rfl rfl g aA (λa ak=>(jd.mp ak).imp id (n a)) v _
end
end
variable{L:e0 V}{a x1:X}{ys:Xs}{ps:e0 (Key×V)}{l:hD}{vs:e0 fB}{ns:e0 hA}{j:hA}
section
set_option backward.match.sparseCases false
section
variable{z:Z}{F:Fm}{b:X}
theorem TB.Bm (w:z.p.ab[k]?=some l)(am:z.aa.IsList l vs.toArray)(v:∀ ι h,aT z.p ι h (ns.map V.int) vs)(ap:ns.length<=sz)(h1:TB z F ρ σ a (.ab k) σ)(h2:TB z F ρ σ b (.int j) σ)(ao:0<=j):
  TB z F ρ σ (.st a b) (.h σ.length) (σ++[.list ((ns.map V.int).take j.toNat)]):=λC R c {ar} ι s m Q E g aa=>by
 replace c:=w3 c;refine BN (h1 C R c.1.1 ι s m _ _ g λaj h₁ au ax r₁ n ae=>EG (m9 (p2 (h2 C R c.1.2 aj _ m _ _ (g.step r₁ n) λaq h₂ p as r₂ y ak=>m9 ?_))));obtain⟨d,rfl⟩:=ak.int_inv;cases ae with
 |@ab _ aw o=>
 rw[w]at o;cases o;have t:=v aq h₂;refine slice_listK (s:={s with heap:=h₂,toks:=p}) (am.at λu ai=>r₂.stays l u ai) .none (.int j d) ?_ (jR _ _) (λr=>Bo c.2 _ r) (by rw[ig,<-t.length,g0];exact nZ ap);have x:(some j)=some ((j.toNat:e5):hA):=by rw[tC ao]
 rw[x,slicePick_upto'];have q0:=r₂.push {cls:=.type "slice",data:=.fields #[.none,.int j d,.none]};have f:=Step.push z.p.hid C.md C.fr [] aq h₂ {cls:=.type "slice",data:=.fields #[.none,.int j d,.none]};have af:(h₂.push {cls:=.type "slice",data:=.fields #[.none,.int j d,.none]}).objs.size=h₂.objs.size+1:=uQ ..;have e:=Step.alloc z.p.hid C.md C.fr [] aq (h₂.push {cls:=.type "slice",data:=.fields #[.none,.int j d,.none]}) {cls:=.type "list",data:=.seq (vs.take j.toNat).toArray};have q:=q0.alloc (o:={cls:=.type "list",data:=.seq (vs.take j.toNat).toArray}) (co:=.list ((ns.map V.int).take j.toNat)) ⟨_,⟨0,gR _ rfl⟩,e.lG (f.lG (t.take _))⟩;rw[af]at q e;refine aa _ _ p _ q (((n.trans y).trans f).trans e) (.h ?_);rw[<-r₂.len];simp
end
noncomputable abbrev lw:V:=.tup [.str [],.int 0]
noncomputable abbrev LO (L:e0 V):H:=[.cell (some (.h 9)),.cell (some (.h 4)),.list L,.list [.h 2,.int 0],.dict (et 5 7 lw),.dict [],.dict [],.list [],.list [],.list []]
section
variable{z:Z}
theorem Au a(b:V):[a,b].length<=sz:=by show(2:e5)<=16777216;decide
theorem GW (e:z.p.ab[3]?=some l)(b:z.aa.IsList l vs.toArray)(c:∀ ι h,aT z.p ι h (ns.map V.int) vs)(f:ns.length<=sz)(d:L=(ns.map V.int).take 48):
  TB z dW [(223,.ab 3)] [.cell none,.cell none] (.li (.c (.st (.lo 223) (.i 48)) (.c (.i 0) .n))) (.h 3) [.cell none,.cell none,.list L,.list [.h 2,.int 0]]:=by
 have a:=TB.Bm (F:=dW) (ρ:=[(223,.ab 3)]) (σ:=[.cell none,.cell none]) (j:=48) e b c f (TB.lo (x:=223) rfl) TB.i J;rw[show(48:hA).toNat=48 from rfl,<-d]at a;have g:=TB.li (bV.c a (bV.c (TB.i (i:=0)) .n)) (Au _ _);exact g
theorem TB.Q8{ρ:aZ}{σ U ae:H}{a:X}{xs ys:Xs}{ps:e0 (Key×V)}{v:V}{τ:H}(d:σ++[.dict []]=τ)(h:U2 z F ρ τ (.c a xs) ys ps U)(b:U[σ.length]?=some (.dict []))(c:v=.h σ.length)(hs:U.set σ.length (.dict (putAll [] ps))=ae):TB z F ρ σ (.UO (.c a xs) ys) v ae:=by subst c hs d;exact .UO h b
theorem U2.cs{l:e0 e5}(h1:TB z F ρ σ a (.str l) U)(h2:TB z F ρ U b v af)(c:U2 z F ρ af xs ys ps ao):U2 z F ρ σ (.c a xs) (.c b ys) ((.str l,v)::ps) ao:=U2.cons (key:=.str l) h1 h2 c
theorem o7{l:e0 e5}:TB z dW ρ σ (.s l) (.str l) σ:=TB.s
theorem Co:TB z dW ρ [.cell none,.cell none,.list L,.list [.h 2,.int 0],.dict []] (.UO .n .n) (.h 5) [.cell none,.cell none,.list L,.list [.h 2,.int 0],.dict [],.dict []]:=TB.lS (σ:=[.cell none,.cell none,.list L,.list [.h 2,.int 0],.dict []])
theorem Cp:TB z dW ρ [.cell none,.cell none,.list L,.list [.h 2,.int 0],.dict [],.dict []] (.UO .n .n) (.h 6) [.cell none,.cell none,.list L,.list [.h 2,.int 0],.dict [],.dict [],.dict []]:=TB.lS (σ:=[.cell none,.cell none,.list L,.list [.h 2,.int 0],.dict [],.dict []])
theorem Cq:TB z dW ρ [.cell none,.cell none,.list L,.list [.h 2,.int 0],.dict [],.dict [],.dict []] (.li .n) (.h 7) [.cell none,.cell none,.list L,.list [.h 2,.int 0],.dict [],.dict [],.dict [],.list []]:=TB.li (σ:=[.cell none,.cell none,.list L,.list [.h 2,.int 0],.dict [],.dict [],.dict []]) .n (hq _)
theorem Cr:TB z dW ρ [.cell none,.cell none,.list L,.list [.h 2,.int 0],.dict [],.dict [],.dict [],.list []] (.li .n) (.h 8) [.cell none,.cell none,.list L,.list [.h 2,.int 0],.dict [],.dict [],.dict [],.list [],.list []]:=TB.li (σ:=[.cell none,.cell none,.list L,.list [.h 2,.int 0],.dict [],.dict [],.dict [],.list []]) .n (hq _)
theorem Cs:TB z dW ρ [.cell none,.cell none,.list L,.list [.h 2,.int 0],.dict [],.dict [],.dict [],.list [],.list []] (.tu (.c (.s []) (.c (.i 0) .n))) lw [.cell none,.cell none,.list L,.list [.h 2,.int 0],.dict [],.dict [],.dict [],.list [],.list []]:=TB.tu (.c .s (.c .i .n)) (Au _ _)
theorem GX:U2 z dW ρ [.cell none,.cell none,.list L,.list [.h 2,.int 0],.dict []] (.c (.s [112,114,111,103,114,97,109]) (.c (.s [102,105,108,101,115]) (.c (.s [115,104,111,119,110]) (.c (.s [104,101,97,114,100]) (.c (.s [111,117,116,99,111,109,101]) .n))))) (.c (.UO .n .n) (.c (.UO .n .n) (.c (.li .n) (.c (.li .n) (.c (.tu (.c (.s []) (.c (.i 0) .n))) .n))))) [(.str oO,.h 5),(.str zD,.h 6),(.str q4,.h 7),(.str zE,.h 8),(.str g8,lw)] [.cell none,.cell none,.list L,.list [.h 2,.int 0],.dict [],.dict [],.dict [],.list [],.list []]:=by
 with_reducible refine U2.cs o7 Co ?_
 with_reducible refine U2.cs o7 Cp ?_
 with_reducible refine U2.cs o7 Cq ?_
 with_reducible refine U2.cs o7 Cr ?_
 with_reducible exact U2.cs o7 Cs .nil
theorem Ct:([.cell none,.cell none,.list L,.list [.h 2,.int 0],.dict [],.dict [],.dict [],.list [],.list []]:H).set ([.cell none,.cell none,.list L,.list [.h 2,.int 0]]:H).length (.dict (putAll [] [(.str oO,.h 5),(.str zD,.h 6),(.str q4,.h 7),(.str zE,.h 8),(.str g8,lw)]))=[.cell none,.cell none,.list L,.list [.h 2,.int 0],.dict (et 5 7 lw),.dict [],.dict [],.list [],.list []]:=rfl
theorem Cu:([.cell none,.cell none,.list L,.list [.h 2,.int 0]]:H)++[.dict []]=[.cell none,.cell none,.list L,.list [.h 2,.int 0],.dict []]:=rfl
theorem Cv:V.h 4=.h ([.cell none,.cell none,.list L,.list [.h 2,.int 0]]:H).length:=rfl
theorem Cw:([.cell none,.cell none,.list L,.list [.h 2,.int 0],.dict [],.dict [],.dict [],.list [],.list []]:H)[([.cell none,.cell none,.list L,.list [.h 2,.int 0]]:H).length]?=some (.dict []):=rfl
theorem GY:TB z dW ρ [.cell none,.cell none,.list L,.list [.h 2,.int 0]] (.UO (.c (.s [112,114,111,103,114,97,109]) (.c (.s [102,105,108,101,115]) (.c (.s [115,104,111,119,110]) (.c (.s [104,101,97,114,100]) (.c (.s [111,117,116,99,111,109,101]) .n))))) (.c (.UO .n .n) (.c (.UO .n .n) (.c (.li .n) (.c (.li .n) (.c (.tu (.c (.s []) (.c (.i 0) .n))) .n)))))) (.h 4) [.cell none,.cell none,.list L,.list [.h 2,.int 0],.dict (et 5 7 lw),.dict [],.dict [],.list [],.list []]:=by
 with_reducible exact TB.Q8 (σ:=[.cell none,.cell none,.list L,.list [.h 2,.int 0]]) Cu GX Cw Cv Ct
theorem GZ:DA z dW [(223,.ab 3)] [.cell none,.cell none,.list L,.list [.h 2,.int 0],.dict (et 5 7 lw),.dict [],.dict [],.list [],.list []] (.tu (.c (.lo 201) (.c (.ce 207) .n))) (.tup [.h 3,.h 4]) [(223,.ab 3),(201,.h 3)] [.cell none,.cell (some (.h 4)),.list L,.list [.h 2,.int 0],.dict (et 5 7 lw),.dict [],.dict [],.list [],.list []]:=DA.tu rfl (.cons .lo (.cons (.ce rfl rfl rfl) .nil))
theorem Cx (h1:TB z dW [(223,.ab 3)] [.cell none,.cell none] x1 (.h 3) [.cell none,.cell none,.list L,.list [.h 2,.int 0]])(h2:TB z dW [(223,.ab 3)] [.cell none,.cell none,.list L,.list [.h 2,.int 0]] b (.h 4) [.cell none,.cell none,.list L,.list [.h 2,.int 0],.dict (et 5 7 lw),.dict [],.dict [],.list [],.list []]):
  TB z dW [(223,.ab 3)] [.cell none,.cell none] (.tu (.c x1 (.c b .n))) (.tup [.h 3,.h 4]) [.cell none,.cell none,.list L,.list [.h 2,.int 0],.dict (et 5 7 lw),.dict [],.dict [],.list [],.list []]:=TB.tu (.c h1 (.c h2 .n)) (Au _ _)
theorem Cy:TF z dW [(223,.ab 3),(201,.h 3)] [.cell none,.cell (some (.h 4)),.list L,.list [.h 2,.int 0],.dict (et 5 7 lw),.dict [],.dict [],.list [],.list []] (.asg (.ce 224) (.li .n)) .next [(223,.ab 3),(201,.h 3)] (LO L):=
 TF.J4 (x:=224) (k:=0) (ov:=none) (TB.li (σ:=[.cell none,.cell (some (.h 4)),.list L,.list [.h 2,.int 0],.dict (et 5 7 lw),.dict [],.dict [],.list [],.list []]) .n (hq _)) rfl rfl rfl
theorem G0{nm:e5->jg} l:∃ t∈(Xs.c (.lo 201) (.c (.ce 207) .n)).es nm l,(∀ id p,t≠Nm id p)\/∃ x p,t=.Name (nm x) p/\x<n0.N/\dW.K.lookup x=some .cell:=⟨_,.tail _ (.head _),.inr ⟨207,_,rfl,by decide,rfl⟩⟩
theorem G1 (d:z.p.ab[3]?=some l)(a:z.aa.IsList l vs.toArray)(b:∀ ι h,aT z.p ι h (ns.map V.int) vs)(e:ns.length<=sz)(c:L=(ns.map V.int).take 48)(hx:x1=.tu (.c (.li (.c (.st (.lo 223) (.i (48))) (.c (.i (0)) .n))) (.c (.UO (.c (.s [112,114,111,103,114,97,109]) (.c (.s [102,105,108,101,115]) (.c (.s [115,104,111,119,110]) (.c (.s [104,101,97,114,100]) (.c (.s [111,117,116,99,111,109,101]) .n))))) (.c (.UO .n .n) (.c (.UO .n .n) (.c (.li .n) (.c (.li .n) (.c (.tu (.c (.s []) (.c (.i (0)) .n))) .n)))))) .n))):
  TF z dW [(223,.ab 3)] [.cell none,.cell none] (.asg (.tu (.c (.lo 201) (.c (.ce 207) .n))) x1) .next [(223,.ab 3),(201,.h 3)] [.cell none,.cell (some (.h 4)),.list L,.list [.h 2,.int 0],.dict (et 5 7 lw),.dict [],.dict [],.list [],.list []]:=by
 subst hx
 with_reducible exact TF.lT (Cx (GW d a b e c) GY) GZ G0
end
end
variable{fW VW V3:hD}
section
set_option backward.match.sparseCases false
noncomputable abbrev xj (L:e0 V):H:=LO L++[.ic 0 [0,1]]++[.ic 1 [0,1]]
noncomputable abbrev Av (L:e0 V):H:=e9 (e9 (xj L) 0 12 Ap GQ) 1 26 (oN 28 .none) [.dict []]
noncomputable abbrev xk:aZ:=aB (aB [(223,.ab 3),(201,.h 3)] 225 (.h 10)) 226 (.h 11)
section
variable{z:Z}{Us:hD}
theorem G3 (b:hU z 0 VW fW)(a:gC z oq fW 1 [.int 16,.int 9,.int 2000,.int 20,.int 2000]):TB z dW xk (xj L) (.call (.gl 228) .n) (.h 12) (e9 (xj L) 0 12 Ap GQ):=by
 refine TB.Al b (.gl rfl) .n (d:=19) rfl rfl ?_;exact Q0 (d:=18) rfl a
theorem G4 (d:hU z 0 VW fW)(c:gC z oq fW 1 [.int 16,.int 9,.int 2000,.int 20,.int 2000])(a:hU z 1 V3 Us)(b:gC z ou Us 4 []):
  TB z dW xk (xj L) (.call (.gl 227) (.c (.call (.gl 228) .n) (.c (.lo 225) (.c (.lo 226) .n)))) (.h 26) (Av L):=by
 refine TB.Al a (.gl rfl) (.c (G3 d c) (.c (.lo rfl) (.c (.lo rfl) .n))) (d:=19) rfl ?_ ?_
 .rw[ls (n:=12) rfl];rfl
 .rw[ls (n:=12) rfl]
  exact Q1 (d:=18) (by rw[ls (n:=12) rfl];rfl) b
theorem Cz (d:hU z 0 VW fW)(c:gC z oq fW 1 [.int 16,.int 9,.int 2000,.int 20,.int 2000])(a:hU z 1 V3 Us)(b:gC z ou Us 4 []):
  TF z dW xk (xj L) LB .next (aB xk 155 (.h 26)) (Av L):=TF.aP rfl (G4 d c a b)
theorem Q9:UV (aB xk 155 (.h 26)):=⟨rfl,rfl⟩
noncomputable def LP (σ:H):Prop:=∃ pt st pr Uf pS sh ft fd hT hS oc T6,U8 0 σ pt st pr 0 Uf pS sh ft fd hT hS oc T6
theorem Ra (a:L=(ns.map V.int).take 48):LP (Av L):=by
 have b:L=(ns.take 48).map V.int:=by rw[a,List.map_take]
 refine⟨5,7,28,[],[],[],[],[],[],[],lw,λc=>none,?_⟩;refine⟨⟨⟨rfl,rfl,rfl,rfl,rfl,.inl rfl,.inl rfl,by decide⟩,⟨⟨ns.take 48,?_,by simp;lia⟩,rfl⟩,by decide,.nil,λn c=>⟨rfl,rfl⟩,?_⟩,⟨⟨rfl,rfl,rfl,e6 _⟩,⟨rfl,⟨Ap,rfl,Ci⟩,rfl,rfl,rfl⟩,⟨rfl,rfl,rfl,rfl,rfl,rfl⟩⟩,.refl (by simp),⟨⟨by decide,by simp,by simp⟩,by simp⟩,by simp[atK],by simp,by simp,by simp,by simp,.nil⟩
 .show some (TH.list L)=_
  rw[b]
 .show 29<=(Av L).length
  simp[Av,e9]
end
end
variable{ps:uf fB}
section
set_option backward.match.sparseCases false
section
variable{c:Zc}{fs:e0 hD}{n:e5}
theorem Aw{st:e5}(d:UV ρ)(I:U8 0 σ pt st pr 0 Uf pS sh ft fd hT hS oc T6):
  ∃ a U,a<10/\Ug z dW ρ σ vu vv (.range ((2+a:e5):hA)) U/\U3 0 U:=by
 refine jL (z:=z) (d:=19) (many:=10) I.mi.f (by exact hq _) J J λa U b e c f1=>?_;refine⟨a,U,b,?_,pt,st,pr,1,Uf,pS,sh,ft,fd,hT,hS,oc,T6,by decide,I.draw c f1⟩;exact Ug.range rfl rfl (.bin .i (.call (.gl rfl) (.c (.lo d.f) (.c .i .n)) e) (by rw[show((2+a:e5):hA)=2+(a:hA) by exact rfl];exact TC.fg)) (by exact h3 _) (by exact kf.mpr (tl (hH (gB b) 2) rfl))
theorem xl (g:∀ hf h,kc (c.z hf h))(a:UV ρ)(I:LP σ):VV (c.Un fs) dW ρ σ (.fo vu vv rp) (λf am ae=>f=.next/\UV am):=λC R {e}=>by
 obtain⟨pt,st,pr,Uf,pS,sh,ft,fd,hT,hS,oc,T6,I⟩:=I;obtain⟨d,U,o,hi,n⟩:=Aw (z:=c.Un fs) a I;have k:vv.wf T0 n0 rj=true:=by decide+kernel
 have j:vu.wf T0 n0 rj=true:=by decide+kernel
 refine hJ.mono (hJ.for (2+d) (λi ρ σ=>UV ρ/\U3 i σ) (hi C C.md R.1 k (λm l=>by cases l)) ⟨a,n⟩ (λρ σ e=>?_) (λi ρ σ hi b=>?_) (km)) λf am ae h=>⟨h.1,h.2.1⟩
 .show iM _ _ σ=_
  unfold iM;rw[hb (by exact Fs _)]
 .refine⟨.int i,aB ρ 204 (.int i),σ,?_,DA.lo (z:=c.Un fs) (F:=dW) C R.1 j,As g (b.1.set J J) b.2 (by exact fC hi (hH (lx o) 2)) C R⟩
  show iM _ _ σ=_;unfold iM;rw[hz (by exact kf.mpr hi)]
theorem lu.stay{fr:e0 zs}{L:hD}(t:lu p aa fr T ps ι h)(st:Step p.hid md fr [L] ι h aw h')(a:L≠T):lu p aa fr T ps aw h':=by
 obtain⟨b,k⟩:=t.pv.stay st (by simpa using a.symm);exact⟨b,k T (by simp) _ t.at_⟩
theorem lu.ne{fr:e0 zs}(t:lu p aa fr T ps ι h)(g:Good p prog w aa C ρ ι σ m h):C.env.locals≠T:=λc=>by
 obtain⟨e,d,ep,a,b,_⟩:=g.ns;rw[c,t.at_]at a;cases a;cases b
noncomputable abbrev vA:Ss:=.c LB (.c (.fo vu vv rp) QR)
theorem uD (d:∀ hf h,kc (c.z hf h))(e:hU (c.Un fs) 0 VW fW)(j:gC (c.Un fs) oq fW 1 [.int 16,.int 9,.int 2000,.int 20,.int 2000])(g:hU (c.Un fs) 1 V3 Us)(b:gC (c.Un fs) ou Us 4 [])(a:L=(ns.map V.int).take 48):
  BQ (c.Un fs) dW xk (xj L) vA (λf am ae=>f=.ret (.bool true)):=by
 refine .st (by decide+kernel) (Cz e j g b) ?_;refine .cons λC R=>(xl d Q9 (Ra a) C R).mono λf am ae h=>⟨h.1,?_⟩;exact BQ.re (by decide+kernel) .bo rfl
end
end
section
set_option backward.match.sparseCases false
noncomputable def Rb (c:Zc):Prop:=
 ∀ k fd as,c.p.cl k fd as↔∃ D,hfT[k]?=some D/\o4 c.nm D [224,207] fd as
noncomputable def Rc (c:Zc):Prop:=
 ∀ (name e:jg) (clos:e0 (jg×hD)) (d f cd g a b:fB) (t:e0 rf),qR (fnX name e ⟨[],[⟨c.nm 15,none,⟨623,16,623,23⟩⟩,⟨c.nm 18,none,⟨623,25,623,29⟩⟩],none,[],[],none,[]⟩ (Cc.ss c.nm t) (bp c.nm sS.sc) clos .none .none d f none cd g) ⟨[a,b],[]⟩=pure (([15,18].map c.nm).zip [a,b])
noncomputable def Rd (c:Zc):Prop:=
 ∀ (name d:jg) (clos:e0 (jg×hD)) (b e cd f a:fB) (t:e0 rf),qR (fnX name d ⟨[],[⟨c.nm 21,none,⟨627,16,627,20⟩⟩],none,[],[],none,[]⟩ (Cd.ss c.nm t) (bp c.nm xd.sc) clos .none .none b e none cd f) ⟨[a],[]⟩=pure (([21].map c.nm).zip [a])
structure vB (c:Zc)(T cda fW Us VW V3 l:hD)(vs:e0 fB)(ns:e0 hA):Prop where
 cl:Rb c
 b2:Rc c
 b1:Rd c
 hT:SK c.aa cda T
 hmg:∃ mg,c.aa.Ns jk mg/\c.aa.BuiltinsAt mg T
 k1:hU (c.Un []) 0 VW fW
 d1:gC (c.Un []) oq fW 1 [.int 16,.int 9,.int 2000,.int 20,.int 2000]
 k2:hU (c.Un []) 1 V3 Us
 d2:gC (c.Un []) ou Us 4 []
 ab:c.p.ab[3]?=some l
 li:c.aa.IsList l vs.toArray
 is:ES vs ns
 ln:ns.length<=sz
theorem xm (x:ES vs ns):aT p ι h (ns.map V.int) vs:=by
 induction x with
 |nil=>exact .nil
 |cons a t _ b=>exact .cons (.int a t) b
section
variable{c:Zc}{T Us:hD}
theorem vB.LQ (W:vB c T cda fW Us VW V3 l vs ns) hf h:kc (c.z hf h):=
 ⟨λfd as a=>by obtain⟨D,d,b⟩:=(W.cl 0 fd as).mp a;cases d;exact b,λfd as a=>by obtain⟨D,d,b⟩:=(W.cl 1 fd as).mp a;cases d;exact b⟩
theorem hU.T8{j:e5}{C:hD}(k:hU (c.Un []) j C f):hU (c.Un fs) j C f:=⟨k.ab,k.ca,k.Ch,k.ini,k.typ,k.keep⟩
theorem Ax{p':P}(hi:∀ c∈dv,∃ i,c=.int i)(r:∀ ι h,aT p ι h dv b):∀ ι h,aT p' ι h dv b:=λι h=>by
 refine(r ι h).ind (M:=λdv b=>(∀ c∈dv,∃ i,c=.int i)->aT p' ι h dv b) (λe=>.nil) (λa e d hi=>?_) hi;have h':=gx.mp hi;refine .cons ?_ (d h'.2);obtain⟨i,rfl⟩:=h'.1;exact a.bW λt=>.int _ _
theorem gC.T8{na:e5}(hi:∀ b∈dv,∃ i,b=.int i)(d:gC (c.Un []) D a0 na dv):gC (c.Un fs) D a0 na dv:=
 ⟨d.wf,d.fn.imp λj=>rk λfd=>And.imp (λa=>⟨a.ho,a.hd,a.cr,a.body,a.sc,a.glob,a.blt,a.co,a.gen,a.kind⟩) λg s ws e f=>(g s ws e f).imp λh=>oa (Ax hi)⟩
noncomputable abbrev uE:Ss:=match QO with
 | .c a (.c c _)=>.c a (.c c (.c Lz (.c LA vA)))
 |b=>b
theorem xn (W:vB c T cda fW Us VW V3 l vs ns)(z:∀ a:hD,codeAmong (i.tail.tail.tail.getD 0 (.Pass default)).pos (#[]++#[tA (i.tail.tail.getD 0 (.Pass default)).pos.line,tA (i.tail.tail.getD 0 (.Pass default)).pos.col,.ref a]).toList=none)(R:(c.Un []).T dW C)(g:Good (c.p.T8 ⟨[],[]⟩) c.prog c.w c.aa C [(223,.ab 3)] ι [.cell none,.cell none] m s.heap)(t:lu (c.p.T8 ⟨[],[]⟩) c.aa C.fr T #[] ι s.heap)(o:C.env.code=.ref cda)(ab:∀ h' aj,c.aa.StaysIn h'->GrownAt T h'->Q (.ret (.bool true)) {s with heap:=h',toks:=aj}):ht (hh c.prog c.w) C.A (execs (uE.ss c.nm i) C.env) Q E s:=by
 obtain⟨mg,v,w⟩:=W.hmg;have ak:=G1 (z:=c.Un []) W.ab W.li (λι h=>xm W.is) W.ln rfl rfl;have ap:=Cy (z:=c.Un []) (L:=(ns.map V.int).take 48);refine kE (ak C R (by decide+kernel) ι s m _ _ g λaA a2 aX aq fl g1 au r=>?_);cases r;have q:=t.stay au (t.ne g);refine kE (ap C R (by decide+kernel) aA _ aq _ _ g1 λaK aN aY a1 fl g2 ax r=>?_);cases r;have y:=q.stay ax (q.ne g1);refine kE (vy (c:=c) (D:=sS) (kk:=0) (ps:=#[]) R.1 (λfd as e=>(W.cl 0 fd as).mpr ⟨_,rfl,e⟩) rfl (λname k n j pm cd d ws b=>?_) rfl J J J J rfl g2 y o W.hT trivial rfl v w (by show(2:e5)<=10;decide) rfl rfl λc1 aJ aV a4 a3 g3 ao=>?_)
 .obtain⟨a,ws,rfl⟩:=List.exists_cons_of_length_eq_add_one b
  obtain⟨ar,rfl⟩:=Df.mp (s3 b);exact W.b2 name k n j pm cd d a ar _
 refine kE (vy (c:=c) (fs:=[c1]) (D:=xd) (kk:=1) (ps:=#[]++#[tA _,tA _,.ref c1]) R.1 (λfd as e=>(W.cl 1 fd as).mpr ⟨_,rfl,e⟩) rfl (λname k n j pm cd d ws b=>?_) rfl J J J J rfl g3 ao o W.hT trivial (z _) v w (by show(2:e5)<=11;decide) rfl rfl λc2 am a0 aQ ay p u=>?_)
 .obtain⟨a,rfl⟩:=Df.mp b
  exact W.b1 name k n j pm cd d a _
 have aw:=uD (c:=c) (fs:=[c2,c1]) (L:=(ns.map V.int).take 48) W.LQ W.k1.T8 (W.d1.T8 (by simp)) W.k2.T8 (W.d2.T8 (by simp)) rfl C R (t:=i.tail.tail.tail.tail);refine aw am _ ay _ _ p λf aD aP aO aa ai aL fl hf ae af r=>?_;subst hf;have T5:=u.stay af (u.ne p);cases r with
 |ret x=>
  cases x;exact ab aa ai ae.rel.stays ⟨_,T5.at_⟩
end
end
variable{Q:e0 fB->Prop}{L:e0 (Fn×hD)}{p:Fn×hD->Prop}
section
set_option backward.match.sparseCases false
noncomputable def uF:e0 Addr:=[44,44,49,56,63,70,75,82,89,94,99,107,114,121,128,135,140,147,152,159,166,173,180,187,194,199,206,213,220,227,234,241,248,257,264,271,278,283,290,297,304,311,318,325,332,339,346,353,360,367,374,381,388,395,44,424,431,445,457,464,469,476,483,490,497,504,511,518,525,532,539,546,553,560,567,574,581,588,595,602,609,616,623,630,637,642,649,654,661,666,673,680]
noncomputable def o8:e0 (jg×fB):=yX.map (λq=>(nm q.1,q.2.val))++[(al "isinstance",.builtin "isinstance"),(al "tuple",.type "tuple"),(al "super",.type "super")]
noncomputable def rq:e0 (jg×V):=wz.map λq=>(nm q.1,q.2)
noncomputable def Ve (P:jq)(l:hD):Mine.Internal.P where
 names:=tZ
 fa:=uF
 ca:=[413,448]
 hid:={}
 K:=Hd.KF P
 bl:=o8
 ab:=[34,413,448,l]
 xc:=34
 ph:=1
 pj:=2
 cl:=λk fd as=>∃ D,hfT[k]?=some D/\o4 nm D [224,207] fd as
noncomputable def eu (x:Gx):FuncData:=match x.data with
 | .func fd=>fd
 |_=>default
noncomputable def LU (x:Gx):e0 Stmt:=match(eu x).body with
 | .stmts l=>l
 |_=>[]
noncomputable abbrev Rf (P:jq)(F:Fn)(a:hD)(x:Gx):=((Hd.KF P).lookup a,x.data,codeIn (Hd.KF P) (eu x).code (eu x).qualname,(eu x).body,(eu x).scope.names,(eu x).globals,(eu x).builtins,(eu x).closure,(eu x).scope.isCoroutine,(eu x).scope.isGenerator,(eu x).scope.kind)
noncomputable abbrev Rg (F:Fn)(x:Gx):=(some x,Data.func (eu x),true,LN (F.body.ss nm (LU x)),eN nm F.sc,jk,mN,([]:e0 (jg×hD)),false,false,RT)
noncomputable def iU (P:jq)(F:Fn)(a:hD)(x:Gx):Prop:=((Hd.KF P).lookup a,x.data,codeIn (Hd.KF P) (eu x).code (eu x).qualname,(eu x).body,(eu x).scope.names,(eu x).globals,(eu x).builtins,(eu x).closure,(eu x).scope.isCoroutine,(eu x).scope.isGenerator,(eu x).scope.kind)=(some x,.func (eu x),true,.stmts (F.body.ss nm (LU x)),eN nm F.sc,jk,mN,[],false,false,.function)
noncomputable def W7 (F:Fn)(x:Gx):Prop:=∀ ws:e0 fB,ws.length=F.ps.length->qR (eu x) ⟨ws,[]⟩=pure ((F.ps.map nm).zip ws)
theorem LV (h:Q []):∀ ws,ws.length=0->Q ws:=λws a=>(kx a).symm▸h
theorem CA (h:∀ a ws,ws.length=n->Q (a::ws)):∀ ws,ws.length=n+1->Q ws:=λws b=>by
 cases ws with
 |nil=>cases b
 |cons a ws=>exact h a ws (s3 b)
theorem CB (h:∀ a,Q [a]):∀ ws,ws.length=1->Q ws:=CA λa=>LV (Q:=λws=>Q (a::ws)) (h a)
theorem LW (h:∀ a b,Q [a,b]):∀ ws,ws.length=2->Q ws:=CA λa=>CB (Q:=λws=>Q (a::ws)) (h a)
theorem LX (h:∀ a b c,Q [a,b,c]):∀ ws,ws.length=3->Q ws:=CA λa=>LW (Q:=λws=>Q (a::ws)) (h a)
theorem LY (h:∀ a b c d,Q [a,b,c,d]):∀ ws,ws.length=4->Q ws:=CA λa=>LX (Q:=λws=>Q (a::ws)) (h a)
theorem iU.ok{P:jq}{a:hD}{x:Gx}(X:(Hd.KF P).In aa)(c:iU P F a x)(b:W7 F x)(hf:uF[k]?=some a):∃ a0 e fd,vg (Ve P l) aa nm k F a0 e fd:=by
 simp only[iU,F7]at c;obtain⟨c1,c2,c3,c4,Wg,g,d,V9,Wh,f,wE⟩:=c;exact⟨a,x,eu x,hf,X _ _ c1,c2,RU X c3,⟨_,c4⟩,b,Wg,g,d,V9,Wh,f,wE⟩
theorem Rk:(sa.all λF=>F.wf T0 n0)=true:=by decide+kernel
noncomputable def Vk:e0 (Fn×hD):=sa.zip uF
theorem iu{P:jq}(h:L.map (λq=>Rf P q.1 q.2 (Hd.ob P q.2))=L.map λq=>Rg q.1 (Hd.ob P q.2)):∀ q∈L,iU P q.1 q.2 (Hd.ob P q.2):=m4.mp h
theorem Rl n (a:∀ q∈L.take n,p q)(b:∀ q∈L.drop n,p q):∀ q∈L,p q:=λq h=>(jd.mp (by rw[List.take_append_drop];exact h)).elim (a q) (b q)
theorem Rm P:∀ q∈(Vk.drop 0).take 12,iU P q.1 q.2 (Hd.ob P q.2):=iu (by kernel_rfl)
theorem Rn P:∀ q∈(Vk.drop 12).take 12,iU P q.1 q.2 (Hd.ob P q.2):=iu (by kernel_rfl)
theorem Ro P:∀ q∈(Vk.drop 24).take 12,iU P q.1 q.2 (Hd.ob P q.2):=iu (by kernel_rfl)
theorem Rp P:∀ q∈(Vk.drop 36).take 12,iU P q.1 q.2 (Hd.ob P q.2):=iu (by kernel_rfl)
theorem Rq P:∀ q∈(Vk.drop 48).take 12,iU P q.1 q.2 (Hd.ob P q.2):=iu (by kernel_rfl)
theorem Rr P:∀ q∈(Vk.drop 60).take 12,iU P q.1 q.2 (Hd.ob P q.2):=iu (by kernel_rfl)
theorem Rs P:∀ q∈(Vk.drop 72).take 12,iU P q.1 q.2 (Hd.ob P q.2):=iu (by kernel_rfl)
theorem Rt P:∀ q∈Vk.drop 84,iU P q.1 q.2 (Hd.ob P q.2):=iu (by kernel_rfl)
theorem uG n m (a:∀ q∈(L.drop n).take m,p q)(b:∀ q∈L.drop (n+m),p q):∀ q∈L.drop n,p q:=Rl m a (Ls▸b)
theorem Ru P:∀ q∈Vk.drop 0,iU P q.1 q.2 (Hd.ob P q.2):=uG 0 12 (Rm P) (uG 12 12 (Rn P) (uG 24 12 (Ro P) (uG 36 12 (Rp P) (uG 48 12 (Rq P) (uG 60 12 (Rr P) (uG 72 12 (Rs P) (Rt P)))))))
noncomputable def Wn (P:jq)(ws:e0 fB)(q:Fn×hD):=qR (eu (Hd.ob P q.2)) ⟨ws,[]⟩
noncomputable def Wp (ws:e0 fB)(q:Fn×hD):FD (e0 (jg×fB)):=pure ((q.1.ps.map nm).zip ws)
noncomputable def Vz (k:e5):=Vk.filter λq=>q.1.ps.length==k
theorem Rv P:∀ ws,ws.length=0->(Vz 0).map (Wn P ws)=(Vz 0).map (Wp ws):=LV (by kernel_rfl)
theorem Rw P:∀ ws,ws.length=1->(Vz 1).map (Wn P ws)=(Vz 1).map (Wp ws):=CB (by intro _;kernel_rfl)
theorem Rx P:∀ ws,ws.length=2->(Vz 2).map (Wn P ws)=(Vz 2).map (Wp ws):=LW (by intro _ _;kernel_rfl)
theorem Ry P:∀ ws,ws.length=3->(Vz 3).map (Wn P ws)=(Vz 3).map (Wp ws):=LX (by intro _ _ _;kernel_rfl)
theorem Rz P:∀ ws,ws.length=4->(Vz 4).map (Wn P ws)=(Vz 4).map (Wp ws):=LY (by intro _ _ _ _;kernel_rfl)
theorem RA:(Vk.all λq=>decide (q.1.ps.length<5))=true:=by decide+kernel
theorem RB P q (c:q∈Vk):W7 q.1 (Hd.ob P q.2):=λws b=>by
 have hk:=gf (hw.mp RA q c);have a:q∈Vz q.1.ps.length:=nn.mpr ⟨c,ij _⟩;revert b hk a;generalize q.1.ps.length=k;intro b hk a
 match k,hk with
 |0,_=>exact m4.mp (Rv P ws b) q a
 |1,_=>exact m4.mp (Rw P ws b) q a
 |2,_=>exact m4.mp (Rx P ws b) q a
 |3,_=>exact m4.mp (Ry P ws b) q a
 |4,_=>exact m4.mp (Rz P ws b) q a
theorem allI{P:jq}(X:(Hd.KF P).In aa):All (Ve P l) aa nm n0 T0 sa:=⟨λk F a=>⟨hw.mp Rk F (fz a),by
 have c:uF[k]?=some (uF[k]'((e4.mp a).1)):=hv _;have b:(F,_)∈Vk:=fz (i:=k) (oY.mpr ⟨a,c⟩);exact(Ru P _ b).ok X (RB P _ b) c⟩⟩
end
section
set_option backward.match.sparseCases false
theorem L1:tZ.Nodup:=by decide+kernel
theorem sV (h:x<242):tZ[x]?=some (nm x):=by
 have:x<tZ.length:=h;rw[nm,List.getD_eq_getElem?_getD,hv this];rfl
theorem L2 (h:x<242):nm x∈tZ:=fz (sV h)
theorem L3:(tZ.all λa=>!(a==("__debug__":jg))&&!(a==("__classdict__":jg)))=true:=by decide+kernel
theorem RC (hx:x<242)(c:y<242)(e:nm x=nm y):x=y:=by
 have a:=e4.mp (sV hx);have b:=e4.mp (sV c);exact(nu L1).mp (a.2.trans (e.trans b.2.symm))
noncomputable def vI:fB->gN hA
 | .int i _=>some i
 |_=>none
noncomputable def VP:fB->gN jg
 | .str x _=>some x
 |_=>none
noncomputable def WI:fB->gN hD
 | .ref a=>some a
 |_=>none
noncomputable def L4:Data->gN (e0 fB)
 | .seq ws _=>some ws.toList
 |_=>none
noncomputable def Az:V->gN jg
 | .str l=>some ⟨l.toArray⟩
 |_=>none
noncomputable def D5 (v:fB):Bool:=match v with
 | .type n=>decide (n="tuple")
 |_=>false
noncomputable def L5 (K:AO)(v:V)(wv:fB):Bool:=match v with
 | .int i=>decide (vI wv=some i)
 | .str l=>decide (VP wv=some ⟨l.toArray⟩)
 | .fn k=>(WI wv).any λa=>decide (uF[k]?=some a)
 | .ab n=>(WI wv).any λa=>decide (([34,413,448]:e0 e5)[n]?=some a)
 | .tup l=>(WI wv).any λa=>(K.lookup a).any λob=>D5 ob.cls&&(L4 ob.data).any λws=>decide (ws.map VP=l.map Az)&&l.all λv=>(Az v).isSome
 |_=>false
theorem CC (h:vI v=some i):∃ t,v=.int i t:=by
 cases v with
 |int j t=>exact⟨t,by rw[fZ h]⟩
 |_=>exact TS h
theorem vD{x:jg}(h:VP v=some x):∃ t,v=.str x t:=by
 cases v with
 |str j t=>exact⟨t,by rw[fZ h]⟩
 |_=>exact TS h
theorem rt{a:hD}(h:WI v=some a):v=.ref a:=by
 cases v with
 |ref b=>exact hC h0 (fZ h)
 |_=>exact TS h
theorem CD{d:Data}(h:L4 d=some ws):∃ a,d=.seq ws.toArray a:=by
 cases d with
 |seq xs a=>exact⟨a,by rw[<-fZ h]⟩
 |_=>exact TS h
theorem AA{x:jg}(h:Az v=some x):∃ l,v=.str l/\x=⟨l.toArray⟩:=by
 cases v with
 |str l=>exact⟨l,rfl,(fZ h).symm⟩
 |_=>exact TS h
theorem xp (h:D5 v=true):v=.type "tuple":=by
 cases v with
 |type a=>exact hC F8 (gf h)
 |_=>exact UC h
theorem UT (h:(!b)=true):b=false:=by
 cases b with
 |false=>rfl
 |true=>exact UC h
theorem hV{α:Type}{o:gN α}{f:α->jW}(h:o.any f=true):∃ a,o=some a/\f a=true:=by
 cases o with
 |none=>exact UC h
 |some a=>exact⟨a,rfl,h⟩
noncomputable def RD (K:AO)(q:e5×V):Bool:=(nsIn K jk (nm q.1)).any λov=>ov.any λwv=>L5 K q.2 wv
theorem AB P:wz.all (RD (Hd.KF P))=true:=by kernel_rfl
theorem vE:(wz.all λq=>decide (q.1<242))=true:=by decide+kernel
theorem vF:(yX.all λq=>decide (q.1<242))=true:=by decide+kernel
theorem CE:(Ft.all λq=>decide (nm q.1=q.2.nm))=true:=by decide+kernel
theorem RE P:(o8.map λq=>nsIn (Hd.KF P) jk q.1)=o8.map λa=>some none:=by kernel_rfl
theorem RG:(o8.map λq=>Pt q.1)=o8.map λq=>some q.2:=by kernel_rfl
theorem RH:(o8.all λq=>!(q.1==("__name__":jg)))=true:=by decide+kernel
section
variable{P:jq}
theorem CF{vs:e0 V}:∀ {ws:e0 fB},ws.map VP=vs.map Az->(vs.all λb=>(Az b).isSome)=true->aT (Ve P l) ι aa vs ws:=by
 induction vs with
 |nil=>intro ws a _;rw[Ff.mp a];exact .nil
 |cons b vs g=>
  intro ws a h;cases ws with
  |nil=>cases a
  |cons w ws=>
   obtain⟨f,c⟩:=tV a;obtain⟨d,e⟩:=j4.mp h;obtain⟨x,hx⟩:=l7.mp d;obtain⟨y,rfl,rfl⟩:=AA hx;obtain⟨t,rfl⟩:=vD f;exact .cons (.str _ t) (g c e)
theorem CG (X:(Hd.KF P).In aa)(e:L5 (Hd.KF P) v wv=true):TQ (Ve P l) [] aa v wv:=by
 cases v with
 |int i=>obtain⟨t,rfl⟩:=CC (gf e);exact .int _ _
 |str x=>obtain⟨t,rfl⟩:=vD (gf e);exact .str _ _
 |fn k=>
  obtain⟨a,h,e⟩:=hV e;obtain rfl:=rt h;exact .fn (gf e)
 |ab b=>
  obtain⟨a,h,e⟩:=hV e;obtain rfl:=rt h;have e:=gf e;refine .ab ?_;show([34,413,448]++[l]:e0 hD)[b]?=some a;rw[hN (e4.mp e).1];exact e
 |tup x=>
  obtain⟨a,h,e⟩:=hV e;obtain rfl:=rt h;obtain⟨ob,g,e⟩:=hV e;obtain⟨f,e⟩:=j4.mp e;obtain⟨ws,c,e⟩:=hV e;obtain⟨j,d⟩:=j4.mp e;obtain⟨b,c⟩:=CD c;exact .tup (p:=Ve P l) (λq=>nomatch q) ⟨ob,X _ _ g,xp f,b,c⟩ (CF (gf j) d)
 |_=>exact UC e
theorem AC{c d:Type}{f:c->d}{l:e0 (e5×c)}(hx:x<242)(b:(l.all λq=>decide (q.1<242))=true):(l.map λq=>(nm q.1,f q.2)).lookup (nm x)=(l.lookup x).map f:=by
 induction l with
 |nil=>rfl
 |cons q r g=>
  obtain⟨k,u⟩:=q;rw[List.all_cons,hE]at b;rw[iO];by_cases a:x=k
  .rw[a,dY,dY];rfl
  .rw[cZ a,cZ λe:nm x=nm k=>a (RC hx (gf b.1) e)]
   exact g b.2
theorem G6 (X:(Hd.KF P).In aa)(p:aa.NoLimit)(G:aa.Ns jk mg)(o:aa.Ns mN mb)(u:∀ x:jg,x≠"__name__"->mb x=Pt x):Base (Ve P l) prog w aa rq where
 qq:=X
 nolimit:=p
 nodup:=L1
 fns:=λk a b=>by
  have hk:k<uF.length:=(e4.mp b).1;have j:k<sa.length:=hk;obtain⟨a0,g,fd,e⟩:=((allI (l:=l) X).ok _ _ (hv j)).2;have c:=e.fa;rw[b]at c;cases c;exact⟨g,fd,e.ho,e.hd⟩
 sys:=⟨boot_o_1 P,X 1 _ (by kernel_rfl)⟩
 glob:=⟨mg,G,λx v b=>by
  obtain⟨q,f,n⟩:=h4.mp (dG b);cases n;obtain⟨ov,hn,h⟩:=hV (hw.mp (AB P) q f);obtain⟨wv,rfl,t⟩:=hV h;exact⟨wv,mg_of X G hn,CG X t⟩⟩
 C9:=λy q=>nomatch q
 blt:=⟨mg,mb,G,o,λx v b=>by
  have d:=dG b;have c:=m4.mp (RE P) _ d;have s:=m4.mp RG _ d;have m:=hw.mp RH _ d;exact⟨mg_none_of X G c,(u x (by simpa using m)).trans s⟩⟩
noncomputable def vG (K:AO)(c:hD)(name:jg):Bool:=plainGet K c name&&M7 K c&&(match u0 K (.ref c) name with
 |some a=>noGet K a
 |none=>false)&&EQ K c&&(match G2 K c name with
 |some none=>true
 |_=>false)&&(match u0 K (.ref c) "__setattr__" with
 |some (some (.builtin n))=>decide (n="object.__setattr__")
 |_=>false)
set_option tactic.hygienic true in
theorem sW{K:AO}{c:hD}{name:jg}(e:vG K c name=true):qy K c name:=by
 simp only[vG,hE]at e;obtain⟨⟨⟨⟨⟨k,f⟩,b⟩,g⟩,d⟩,a⟩:=e;refine⟨k,f,?_,g,?_,?_⟩
 .split at b
  .rename_i j h;exact⟨j,h,b⟩
  .cases b
 .split at d
  .rename_i h;exact h
  .cases d
 .split at a
  .rename_i l h;rw[j8]at a;subst a;exact h
  .cases a
noncomputable abbrev G7:e0 Nat:=[119,120,121,122,123,124,125,126,127,128,5,129,32,37,38,130,131,132,133,134,135,136,137,138,139,140,141,142]
noncomputable abbrev G8:e0 Nat:=[15,30,143,144,145]
theorem L6 P:(G7.all λx=>vG (Hd.KF P) 413 (nm x))=true:=by kernel_rfl
theorem L7 P:(G8.all λx=>vG (Hd.KF P) 448 (nm x))=true:=by kernel_rfl
noncomputable def G9 (x:Gx):ClassData:=match x.data with
 | .cls cd=>cd
 |_=>default
theorem AD P:nK (Hd.KF P) 34 (al "code"):=⟨by kernel_rfl,by kernel_rfl,by kernel_rfl,by kernel_rfl,⟨none,by kernel_rfl,by kernel_rfl⟩,⟨G9 ((Hd.ob P 34)),by kernel_rfl,by kernel_rfl⟩,by kernel_rfl,by kernel_rfl⟩
theorem AE P:nK (Hd.KF P) 34 (al "told"):=⟨by kernel_rfl,by kernel_rfl,by kernel_rfl,by kernel_rfl,⟨none,by kernel_rfl,by kernel_rfl⟩,⟨G9 ((Hd.ob P 34)),by kernel_rfl,by kernel_rfl⟩,by kernel_rfl,by kernel_rfl⟩
theorem L8 P (h:x∈([1,2]:e0 e5)):nK (Hd.KF P) 34 (nm x):=by
 simp only[hr,h6,Bj]at h;rcases h with rfl|rfl
 .rw[show nm 1=al "code" from rfl];exact AD P
 .rw[show nm 2=al "told" from rfl];exact AE P
theorem kG (h:T0.fq k x=true):(k=0/\x∈([1,2]:e0 e5))\/(k=1/\x∈G7)\/(k=2/\x∈G8):=by
 match k,h with
 |0,h=>
  have h:(x==1||x==2)=true:=h;exact .inl ⟨rfl,(xi.mp h).elim (λa=>eq_of_beq a▸.head _) (λa=>eq_of_beq a▸.tail _ (.head _))⟩
 |1,h=>exact .inr (.inl ⟨rfl,r6.mp h⟩)
 |2,h=>exact .inr (.inr ⟨rfl,r6.mp h⟩)
 |k+3,h=>exact UC h
theorem L9:Jr (Ve P l) nm T0.fq where
 inst:=λk x h=>by
  rcases kG h with⟨b,_⟩|⟨b,a⟩|⟨b,a⟩
  .lia
  .obtain rfl:k=0:=by exact s3 b
   exact⟨413,rfl,sW (hw.mp (L6 P) x a)⟩
  .obtain rfl:k=1:=by exact s3 b
   exact⟨448,rfl,sW (hw.mp (L7 P) x a)⟩
 gK:=λx h=>by
  rcases kG h with⟨_,a⟩|⟨b,_⟩|⟨b,_⟩
  .exact L8 P a
  .lia
  .lia
 lt:=λk x h=>by
  refine sV ?_;rcases kG h with⟨_,a⟩|⟨_,a⟩|⟨_,a⟩
  .have:∀ y∈([1,2]:e0 e5),y<242:=by decide
   exact this x a
  .have:∀ y∈G7,y<242:=by decide
   exact this x a
  .have:∀ y∈G8,y<242:=by decide
   exact this x a
theorem D6 (B:Base (Ve P l) prog w aa rq):gU (Ve P l) prog w aa nm n0 T0 rq where
 B:=B
 nms:=λx h=>sV h
 Dl:=rfl
 jE:=λx h=>UT (j4.mp (hw.mp L3 _ (L2 h))).1
 E0:=λx h=>UT (j4.mp (hw.mp L3 _ (L2 h))).2
 E1:=λx c a=>by
  have hx:x<242:=by simpa using List.all_eq_true.mp vE _ (dG (show wz.lookup x=some c from a))
  have:=AC (f:=λc:V=>c) hx vE;rw[show wz.lookup x=some c from a]at this;exact this
 bi:=λx b a=>by
  have hx:x<242:=by simpa using List.all_eq_true.mp vF _ (dG (show yX.lookup x=some b from a))
  have:=AC (f:=λb:Vu=>b.val) hx vF;rw[show yX.lookup x=some b from a]at this;show o8.lookup (nm x)=some b.val;rw[o8,y3,this];rfl
 me:=λx m a=>by simpa using List.all_eq_true.mp CE _ (dG (show Ft.lookup x=some m from a))
 fq:=L9
 cd:=rfl
 td:=rfl
 yD:=⟨by decide,by show o8.lookup (nm 236)=_;decide+kernel⟩
 yE:=⟨by decide,by show o8.lookup (nm 237)=_;decide+kernel⟩
 it:=by decide+kernel
 xc:=⟨by decide,by show rq.lookup (nm 11)=_;rfl,rfl⟩
end
end
section
set_option backward.match.sparseCases false
noncomputable def Ha (x:Gx):uf Value:=match x.data with
 | .fields vs=>vs
 |_=>#[]
noncomputable def Ma (x:Gx):jg×Tok:=match((Ha x)[2]?:gN fB)with
 |some (Value.str f t)=>(f,t)
 |_=>(Ja,0)
noncomputable def RI (x:Gx):Tok:=match((Ha x)[1]?:gN fB)with
 |some (Value.str f t)=>t
 |_=>0
section
variable (P:jq)
theorem Hb{l:e0 Arg}(h:l.head?.map (λq=>q.arg)=some s):∃ b,l.head?=some b/\b.arg=s:=by
 cases l with
 |nil=>cases h
 |cons a r=>exact⟨a,rfl,fZ h⟩
noncomputable def AF (C:hD)(o:Gx):Bool:=match o.cls with
 | .ref a=>a !=C
 |_=>true
theorem CH:((Hd.KF P).all λq=>AF 34 q.2)=true:=by kernel_rfl
theorem RJ:Bq Hd.R0.prog (Hd.KF P) 34 31 (eu ((Hd.ob P 31))) where
 cls:=⟨G9 ((Hd.ob P 34)),none,((Hd.ob P 34)).slots,by kernel_rfl,by kernel_rfl⟩
 isExc:=by kernel_rfl
 own:=by kernel_rfl
 fn:=⟨none,#[],by kernel_rfl⟩
 Dq:=by kernel_rfl
 along:=by kernel_rfl
 body:=⟨⟨5,8,5,13⟩,⟨5,8,5,15⟩,⟨5,8,5,24⟩,⟨5,25,5,29⟩,⟨5,8,5,30⟩,⟨5,8,5,30⟩,⟨6,8,6,12⟩,⟨6,8,6,17⟩,⟨6,20,6,24⟩,⟨6,8,6,24⟩,⟨7,8,7,12⟩,⟨7,8,7,17⟩,⟨7,20,7,24⟩,⟨7,8,7,24⟩,by decide,by kernel_rfl⟩
 ic:=⟨18,.type "cell",none,#[],by kernel_rfl,by kernel_rfl⟩
 code:=⟨30,.type "code",none,Ha ((Hd.ob P 30)),#[],(Ma ((Hd.ob P 30))).1,(Ma ((Hd.ob P 30))).2,RI ((Hd.ob P 30)),by kernel_rfl,by kernel_rfl,by kernel_rfl,by kernel_rfl,by kernel_rfl⟩
 par:=Hb (by kernel_rfl)
 glob:=by kernel_rfl
 blt:=by kernel_rfl
 ks:=by kernel_rfl
 WT:=by kernel_rfl
 k1:=by kernel_rfl
 k2:=by kernel_rfl
 k3:=by kernel_rfl
 kind:=by kernel_rfl
 vc:=by
  have:((eu ((Hd.ob P 31))).scope.names.all λx=>!(x.2==.cell))=true:=by kernel_rfl
  intro x hx a;have:=hw.mp this x hx;rw[a]at this;exact iv this J
 co:=by kernel_rfl
 gen:=by kernel_rfl
 top:=by kernel_rfl
 E5:=λb c a q=>by
  have:=hw.mp (CH P) (b,c) (dG a);simp[AF,q]at this
 a1:=AD P
 a2:=AE P
theorem RK:E8 (Hd.KF P) (eu ((Hd.ob P 31))) where
 b2:=λs e c u X=>QC X λS=>by kernel_rfl
 b1:=⟨201,λs e c X=>QC X λS=>by kernel_rfl⟩
theorem RL:E9 (Hd.KF P) 34 31 where
 obj:=⟨(Hd.ob P 34),by kernel_rfl,_,_,_,_,_,_,_,_,_,_,_,_,_,_,_,rfl⟩
 ini:=by kernel_rfl
 typ:=by kernel_rfl
 call:=by kernel_rfl
 ty:=by kernel_rfl
end
noncomputable def o9 (w:jo)(l:hD)(aa:kb)(X:(Hd.KF w.params).In aa)(B:Base (Ve w.params l) Hd.R0.prog w aa rq):Zc where
 p:=Ve w.params l
 prog:=Hd.R0.prog
 w:=w
 aa:=aa
 nm:=nm
 gl:=rq
 hp:=rfl
 G:=D6 B
 fI:=31
 fd:=eu ((Hd.ob w.params 31))
 XK:=RJ w.params
 XB:=RK w.params
 XM:=RL w.params
 vd:=by show o8.lookup _=_;decide+kernel
 hcd:=rfl
 htd:=rfl
 hct:=by show(1:e5)≠2;decide
 L:=allI X
section
variable (X:(Hd.KF w.params).In aa)(B:Base (Ve w.params l) Hd.R0.prog w aa rq)
theorem XS:hU ((o9 w l aa X B).Un []) 0 413 410 where
 ab:=rfl
 ca:=rfl
 Ch:=by show Sb (Hd.KF w.params) 413=true;kernel_rfl
 ini:=by show u0 (Hd.KF w.params) (.ref 413) "__init__"=_;kernel_rfl
 typ:=by show NQ (Hd.KF w.params) (.ref 410)=_;kernel_rfl
 keep:=by show SJ (Hd.KF w.params) (.ref 413)=true;kernel_rfl
theorem kS:hU ((o9 w l aa X B).Un []) 1 448 445 where
 ab:=rfl
 ca:=rfl
 Ch:=by show Sb (Hd.KF w.params) 448=true;kernel_rfl
 ini:=by show u0 (Hd.KF w.params) (.ref 448) "__init__"=_;kernel_rfl
 typ:=by show NQ (Hd.KF w.params) (.ref 445)=_;kernel_rfl
 keep:=by show SJ (Hd.KF w.params) (.ref 448)=true;kernel_rfl
theorem Mb P:iU P oq 410 ((Hd.ob P 410)):=by unfold iU;kernel_rfl
theorem iU.Mc{P:jq}{a:hD}{x:Gx}(X:(Hd.KF P).In aa)(c:iU P F a x):LI aa nm F a x (eu x):=by
 simp only[iU,F7]at c;obtain⟨c1,c2,c3,c4,Wg,e,b,V9,Wh,d,wE⟩:=c;exact⟨X _ _ c1,c2,RU X c3,⟨_,c4⟩,Wg,e,b,Wh,d,wE⟩
theorem XT:gC ((o9 w l aa X B).Un []) oq 410 1 [.int 16,.int 9,.int 2000,.int 20,.int 2000] where
 wf:=by decide+kernel
 fn:=⟨(Hd.ob w.params 410),eu ((Hd.ob w.params 410)),(Mb w.params).Mc X,λs ws hs=>CB (Q:=λws=>∃ b,(∀ ι h,aT ((o9 w l aa X B).Un []).p ι h [.int 16,.int 9,.int 2000,.int 20,.int 2000] b)/\Hl s (eu ((Hd.ob w.params 410))) ⟨ws,[]⟩ ((oq.ps.map nm).zip (ws++b))) (λa=>
  ⟨[.int 16 771,.int 9 772,.int 2000 773,.int 20 774,.int 2000 775],λι h=>.cons (.int 16 771) (.cons (.int 9 772) (.cons (.int 2000 773) (.cons (.int 20 774) (.cons (.int 2000 775) .nil)))),QC (K:=Hd.KF w.params) (λa c d=>hs _ _ (X a c d)) λS=>by kernel_rfl⟩) ws⟩
theorem Me P:iU P ou 445 (Hd.ob P 445):=by unfold iU;kernel_rfl
theorem Mf P:W7 ou (Hd.ob P 445):=LY (by intro _ _ _ _;kernel_rfl)
theorem XU:gC ((o9 w l aa X B).Un []) ou 445 4 [] where
 wf:=by decide+kernel
 fn:=⟨(Hd.ob w.params 445),eu ((Hd.ob w.params 445)),(Me w.params).Mc X,λs ws b a=>⟨[],λι h=>.nil,.of_eq (by rw[j6];exact Mf w.params ws a)⟩⟩
end
end
section
set_option backward.match.sparseCases false
theorem Mg:Hd.ey.body=uE.ss nm Hd.ey.body:=by kernel_rfl
theorem qk:Hd.ey.scope.names=eN nm rj:=by kernel_rfl
theorem AG:aC (eN nm rj)=[nm 224,nm 207]:=by kernel_rfl
theorem Hc:(eN nm rj).lookup (nm 223)=some .local:=by kernel_rfl
theorem He:(eN nm rj).lookup (nm 224)=some .cell:=by kernel_rfl
theorem Hf:(eN nm rj).lookup (nm 207)=some .cell:=by kernel_rfl
theorem Hg:∀ q∈rj,q.1<n0.N:=by decide
noncomputable abbrev uH (a b:fB):FuncData:={Calls.docDef Hd.ey.name Hd.ey.params Hd.ey.body Hd.ey.scope a (.ref 686) b with defaults:=.none,kwdefaults:=.none}
theorem Hh pm doc:∀ ws:e0 fB,ws.length=1->qR (uH pm doc) ⟨ws,[]⟩=pure ([nm 223].zip ws):=CB (by intro a;kernel_rfl)
section
variable (X:(Hd.KF w.params).In aa)(B:Base (Ve w.params l) Hd.R0.prog w aa rq)
theorem RM (hT:SK aa 686 682)(G:aa.Ns jk mg)(m:aa.BuiltinsAt mg 682)(h:aa.IsList l vs.toArray)(j:ES vs ns)(hn:ns.length<=63):
  vB (o9 w l aa X B) 682 686 410 445 413 448 l vs ns where
 cl:=λk fd n=>Iff.rfl
 b2:=by
  intro name f b e d cd c a g t;show qR (fnX name f ⟨[],[⟨nm 15,none,⟨623,16,623,23⟩⟩,⟨nm 18,none,⟨623,25,623,29⟩⟩],none,[],[],none,[]⟩ (Cc.ss nm t) (bp nm sS.sc) b .none .none e d none cd c) ⟨[a,g],[]⟩=pure (([15,18].map nm).zip [a,g]);kernel_rfl
 b1:=by
  intro name f b e d cd c a t;show qR (fnX name f ⟨[],[⟨nm 21,none,⟨627,16,627,20⟩⟩],none,[],[],none,[]⟩ (Cd.ss nm t) (bp nm xd.sc) b .none .none e d none cd c) ⟨[a],[]⟩=pure (([21].map nm).zip [a]);kernel_rfl
 hT:=hT
 hmg:=⟨mg,G,m⟩
 k1:=XS X B
 d1:=XT X B
 k2:=kS X B
 d2:=XU X B
 ab:=rfl
 li:=h
 is:=j
 ln:=by show _<=16777216;lia
end
theorem AH{p:ih}(aD:(Hd.KF w.params).In s₁.heap)(e:TabsAt [(686,682)] s₁.heap)(T:Top p a4 a5 mg mb s₁.heap)(ay:s₁.heap.get? aN=some o)(as:o.data=.func (uH ab ak))(aL:s₁.heap.CodeRec (.ref 686) Hd.ey.name)(aX:s₁.heap.IsList l vs.toArray)(aj:ES vs ns)(hn:ns.length<=63){X:tc->gc->Prop}(af:∀ h' v,(E6 s₁.heap [(686,682)]).StaysIn h'->GrownAt 682 h'->X (.ok (.ret (.bool true))) {s₁ with heap:=h',toks:=v}):kC (hh Hd.R0.prog w) callerA (.call (.ref aN) ⟨[.ref l],[]⟩) X s₁:=by
 have b:(Hd.KF w.params).In (E6 s₁.heap [(686,682)]):=ghost_K e aD (by kernel_rfl);have c:=ghost_top e T;have B:Base (Ve w.params l) Hd.R0.prog w (E6 s₁.heap [(686,682)]) rq:=G6 b c.nolimit c.g c.b c.builtins;have aa:(E6 s₁.heap [(686,682)]).get? 682=none:=NR _ (.head _);have s:(E6 s₁.heap [(686,682)]).BuiltinsAt mg 682:=by
  obtain⟨au,ob,aJ,am,f,aP,aO,y⟩:=c.bmain;refine⟨au,ob,aJ,am,λq=>?_,λq=>?_,f,aP,aO,y⟩
  .obtain⟨o',a2,ep,u,a0,_⟩:=c.g
   rw[q,u]at f;cases f;rw[a0]at y;cases y
  .rw[q,aa]at f;cases f
 have W:=RM b B (ghost_code e).1 c.g s (ghost_list e aX) aj hn;have n:=(e (686,682) (.head _)).2;have r:Rel ((o9 w l _ b B).p.T8 ⟨[],[]⟩) Hd.R0.prog w (E6 s₁.heap [(686,682)]) [] [] [] s₁.heap:=
  ⟨rfl,.nil,λz o u=>RQ _ u,trivial,λd q=>(nomatch q),λd q=>(nomatch q),λd q=>(nomatch q),λd q=>(nomatch q),λi a co aQ a1=>by simp at aQ⟩
 refine GV (hx:=none) (d:=20) (fr:=[]) (ι:=[]) (σ:=[]) (ns:=[223]) (fp:=[224,207]) (xs:=[nm 223]) (args:=[.ab 3]) (md:=λd=>true) (body:=uE.ss nm Hd.ey.body) (p:=(o9 w l _ b B).p.T8 ⟨[],[]⟩) ((o9 w l _ b B).Un []).G.B rfl rfl J J ay as aL ?_ rfl (λws h=>Hh ab ak ws h) ?_ ?_ ?_ ?_ rfl rfl rfl ?_ ?_ ?_ r (.cons (.ab rfl) .nil) λC aw h₁ v m aY hs ax ao aA j ap aV aK g hk aq ae a3=>?_
 .show LN Hd.ey.body=_
  exact hC _ Mg
 .show _=some (aC Hd.ey.scope.names)
  rw[qk,AG];rfl
 .show(aC Hd.ey.scope.names).Nodup
  rw[qk,AG];decide+kernel
 .intro x hx
  left;show Hd.ey.scope.names.lookup x=_;rw[qk];simp only[gP]at hx;subst hx;exact Hc
 .intro x hx
  show Hd.ey.scope.names.lookup x=_;rw[show aC (uH ab ak).scope.names=[nm 224,nm 207] by show aC Hd.ey.scope.names=_;rw[qk,AG]]at hx;rw[qk];simp only[hr,h6,Bj]at hx;rcases hx with rfl|rfl
  .exact He
  .exact Hf
 .show Hd.ey.scope.isCoroutine=false
  kernel_rfl
 .show Hd.ey.scope.isGenerator=false
  kernel_rfl
 .show Hd.ey.scope.kind=.function
  kernel_rfl
 .have R:((o9 w l _ b B).Un []).T dW C:=⟨⟨aY,λx k hx ai=>.inl (by
   show C.env.scope.names.lookup (nm x)=_;rw[hs];show Hd.ey.scope.names.lookup (nm x)=_;rw[qk,cS (D6 B) hx Hg];exact ai),ap,aK,λm d=>by rw[aV],ao,aA⟩,⟨[],j.1,j.2⟩⟩
  have t:lu ((o9 w l _ b B).p.T8 ⟨[],[]⟩) (E6 s₁.heap [(686,682)]) C.fr 682 #[] aw h₁:=by
   refine⟨λz s=>?_,hk _ _ n⟩;simp only[gP]at s;subst s;refine⟨λq=>?_,λq=>?_,aa,⟨λq=>(nomatch q),λq=>(nomatch q)⟩,_,hk _ _ n,by simp⟩
   .rcases aq _ q with q|q
    .cases q
    .rw[n]at q;cases q
   .rw[j.1]at q
    simp only[dp,m8,j.2,zh,gP]at q;rw[<-q,n]at ae;cases ae
  exact xn (s:={s₁ with heap:=h₁,toks:=v}) (m:=m) (i:=Hd.ey.body) W (λa=>by kernel_rfl) R g t ax λh' ar a z=>af h' ar a z
end
section
end
end Mine.Internal
set_option backward.match.sparseCases false in
theorem PySem.Challenge.cw_pq0186_01_holds : PySem.Challenge.rw_pq0186_01.Holds := by
  refine Mine.Internal.Hd.head ?_
  intro w s₀ s₁ mg mb G Y fa o pm cd doc dV kV ho hd hcd hD hmg hg args vals as hpre hlay hrd hwl hlo
  have KX : (Mine.Internal.Hd.KF w.params).In s₁.heap := km_in_of Y
  have hT8 : ∀ P ∈ [682], s₁.heap.get? P = some (tabObj #[]) := km_tabs_of Y
  have X := (Ground.X G).1
  have V := (Ground.X G).2
  refine Ground.open G ?_
  intro T B D TE TW
  have hT9 : TabsAt ([(686, 682)] : List (Addr × Addr)) s₁.heap := List.forall_mem_cons.mpr ⟨⟨codeHd_of_K (c := 686) (P := 682) KX (by kernel_rfl), hT8 682 (by simp)⟩, fun zz h => nomatch h⟩
  have he9 : cd = PySem.Value.ref 686 := law_code (x := PySem.Str.ofString "law") (c := 686) (P := 682) KX (Top.g T) (by kernel_rfl) hmg ho hd
  subst he9
  have hdV : dV = .none := hD.none rfl
  have hkV : kV = .none := hD.noKw
  subst hdV hkV
  wrow_args hpre hlay hrd hwl hlo
  all_goals (
    first | refine callC_kw (enter_call ?_) | refine enter_call ?_
    w_top on
    kn_posts)
  refine Mine.Internal.AH (mg := mg) (mb := mb) KX hT9 T ho hd hcd (by assumption) (by assumption) (by lia) fun h' tk a b => ?_
  refine ⟨⟨.inl ⟨.bool true, .bool true, [], rfl, fun zz => rfl, .bool true, ?_, fun zz => ⟨.nil, fun zz q => nomatch q⟩⟩, a, rfl, hg⟩, ?_⟩
  · kernel_rfl
  · exact ⟨b, trivial⟩
