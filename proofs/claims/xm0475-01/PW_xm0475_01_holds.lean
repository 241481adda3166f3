import PyProof.Rows.All
import Wide.All
import OpenK.AllK
import Wide.FinOn
import Lean
import PySem.Challenge.RW_xm0475_01
set_option Elab.async false
set_option linter.all false
set_option genSizeOf false
set_option genInjectivity false
set_option bootstrap.genMatcherCode false
set_option backward.match.sparseCases false
section
open Array renaming length_toList->op,getElem?_eq_getElem->qy,getElem?_toList->r4,getElem?_eq_some_iff->yh,mem_toList_iff->BD,isEmpty_iff_size_eq_zero->HO,mem_iff_getElem->HP,size_append->HQ,toList_inj->HR,toList_push->HS,forIn_toList->X',getElem?_eq_none->Ya,size_eraseIdx->Yb,size_modify->Yc,size_push->Yd,toList_append->Ye
open Bool renaming and_eq_true_iff->dR,false_ne_true->fR,eq_iff_iff->hN,and_eq_true->ps,not_eq_true'->qx,or_eq_false_iff->BE,or_eq_true->BF,or_eq_true_iff->BG,or_false->BH,false_eq_true->HT,true_and->HU,and_false->Yf,eq_false_iff->Yg
open Classical renaming byContradiction->HV
open Decidable renaming byContradiction->vM,not_not->HW,not_and_not_right->abY
open Eq renaming trans->HX
open Exists renaming elim->aU
open False renaming elim->ed
open Fin renaming val->HY
open ForIn renaming forIn->vN
open ForInStep renaming yield->tD
open Function renaming comp_def->H0
open Iff renaming trans->Yh
open Int renaming ofNat_lt->gV,ofNat_inj->iW,toNat->kw,ofNat_le->nx,natCast_nonneg->pt,toNat_natCast->qz,le_trans->r5,lt_trans->tE,negSucc->tF,ofNat_sub->tG,eq_ofNat_of_zero_le->vO,le_of_lt->vP,natCast_pos->vQ,add_comm->yi,not_lt->yj,ofNat->yk,sub_nonneg->BI,zero_add->BJ,lt_of_le_of_lt->H1,lt_of_lt_of_le->H2,lt_toNat->H3,not_le->H4,sub_le_self->H5,sub_zero->H6,toNat_of_nonneg->H7,toNat_sub->H8,le_natAbs->Yi,le_of_eq->Yj,mem_toNat?->Yk,negSucc_eq->Yl,ofNat_eq_zero->Yn,ofNat_ne_zero->Yo,self_le_toNat->Yp,sub_add_cancel->Yq,sub_eq_iff_eq_add->Yr,sub_nonpos_of_le->Ys,sub_pos_of_lt->Yt
open Int.ofNat renaming inj->Ym
open LawfulBEq renaming eq_of_beq->vR
open List renaming length_map->au,mem_of_getElem?->bF,getElem?_eq_some_iff->co,getElem?_eq_getElem->cY,getElem?_map->dp,length_append->dw,mem_append->d2,map_append->eq,append_nil->eP,range->eQ,mem_cons->eZ,mem_map->e5,mem_singleton->e6,all_eq_true->f2,append_assoc->gx,length_cons->hm,pairwise_singleton->il,getElem?_append_left->iz,nodup_append->iA,take_succ->iB,mem_append_left->jm,take_length->jn,mem_cons_of_mem->jA,mem_iff_getElem?->j9,map_set->kx,mem_cons_self->ky,nodup_nil->kz,length_range->k7,length_take->lD,nodup_cons->lE,length_singleton->l9,map_map->l',length_reverse->mQ,length_set->mR,lookup_cons->mS,mem_append_right->mT,mem_range->mU,getElem?_append_right->oq,length_filter_le->pu,cons_ne_nil->qA,getElem?_set_ne->qB,length->qC,getElem?_eq_none->r6,getElem?_inj->r7,map_cons->r8,mem_filter->r9,mem_map_of_mem->r',toList_toArray->sa,drop_eq_getElem_cons->tH,getD_eq_getElem?_getD->tI,getElem?_set->tJ,getElem_mem->tK,isEmpty_iff->tL,any_eq_true->vS,filter->vT,getElem?_set_self->vU,idxOf_lt_length_of_mem->vV,pairwise_cons->vW,reverse_cons->vX,range'->yg,drop_length->yl,map_eq_nil_iff->ym,mem_of_mem_take->yn,append_ne_nil_of_right_ne_nil->BK,eq_nil_of_length_eq_zero->BL,eraseIdx_eq_take_drop_succ->BM,filter_append->BN,getElem?_range->BO,getElem_map->BP,length_eq_zero_iff->BQ,length_nil->BR,map_congr_left->BS,map_nil->BU,map_reverse->BV,nodup_iff_pairwise_ne->BW,nodup_range->BX,range_succ->BY,any_eq_false->H9,ext_getElem->H',ext_getElem?->Ia,filter_eq_nil_iff->Ib,findIdx?_cons->Ic,findIdx?_eq_some_iff_getElem->Ie,length_drop->Ig,map_take->Ih,mem_take_iff_getElem->Ii,mergeSort_perm->Ij,pairwise_map->Ik,take_of_length_le->Il,zipIdx_cons->Im,range_eq_range'->X8,any_map->Yu,concat_eq_append->Yv,cons->Yw,cons_append->Yx,eq_nil_or_concat->Yy,filterMap->Yz,findIdx?_eq_none_iff->YA,flatMap_append->YB,flatMap_cons->YC,forIn_cons->YD,forIn_nil->YE,getElem?_cons_succ->YF,getElem?_eq_none_iff->YG,getElem?_reverse->YH,getElem_inj->YI,getElem_set->YJ,isEmpty_iff_length_eq_zero->YK,length_concat->YL,lookup->YM,lookup_append->YN,map_drop->YO,map_id->YP,mem_of_mem_drop->YQ,mem_of_mem_erase->YR,pairwise_iff_getElem->YS,pairwise_mergeSort->YT,take_append_drop->YU,take_append_of_le_length->YV,take_sublist->YW,take_zero->YX,zip->YY,drop->ab4
open List.Mem renaming head->fC,tail->hl
open List.Nodup renaming length_le_of_subset->abZ,sublist->ab0
open List.Pairwise renaming imp->ab1,of_map->ab2
open List.Perm renaming eq_of_pairwise->ab3
open Nat renaming le_refl->bv,le_add_right->bX,add_le_add_left->cZ,zero_le->c8,le_trans->ej,succ_pos->eH,lt_succ_self->fp,le_add_left->fS,mul_le_mul_left->fT,le_succ->ge,lt_of_lt_of_le->gy,add_right_comm->hO,le_of_lt->iC,ne_of_lt->iX,add_comm->jo,add_le_add->jB,le_of_lt_succ->j',beq->kA,lt_of_le_of_lt->kB,cast->k8,ble->mV,sub_le->mW,add_assoc->ny,lt_trans->nz,add_sub_cancel_left->pv,le_mul_of_pos_left->pw,le_of_eq->px,lt_of_succ_lt->py,lt_or_ge->pz,sub_self->pA,add_lt_add_left->qD,casesOn->qE,le_of_ble_eq_true->qF,min_le_left->qG,min_le_right->qH,add_le_add_right->sb,pos_of_ne_zero->tM,sub_add_cancel->tN,succ_le_succ->tO,zero_add->tP,eq_zero_or_pos->vY,min_eq_left->vZ,mod_lt->v0,zero_lt_of_lt->v1,add_zero->yo,blt->yp,eq_of_beq_eq_true->yq,eq_of_testBit_eq->yr,lt_irrefl->ys,not_lt->yt,not_lt_zero->yu,succ->yv,add_left_cancel->BZ,add_sub_of_le->B0,le_antisymm->B1,lt_succ_of_le->B2,ne_of_gt->B3,one_ne_zero->B4,pow_lt_pow_right->B5,rec->B6,sub_eq_zero_of_le->B7,succ_ne_self->B8,testBit_or->B9,testBit_two_pow->B',add_lt_add_right->Ip,add_sub_cancel->Iq,lt_add_of_pos_right->Ir,lt_succ_of_lt->Is,mul_le_mul_right->It,mul_lt_mul_of_pos_left->Iu,one_pos->Iv,or_lt_two_pow->Iw,pow_le_pow_right->Ix,sub_le_sub_left->Iy,sub_lt->Iz,sub_pos_of_lt->IA,two_mul->IC,two_pow_pos->ID,add_lt_of_lt_sub'->X9,add_lt_add->YZ,beq_refl->Y0,blt_eq->Y1,eq_zero_of_not_pos->Y2,le_add_of_sub_le->Y3,le_of_not_lt->Y4,le_succ_of_le->Y5,le_total->Y6,lt_min->Y7,lt_of_le_of_ne->Y8,min_eq_right->Y9,mul_add_mod_of_lt->Y',mul_pos->Za,not_le->Zb,not_succ_le_zero->Zc,sub_le_sub_right->Zd,sub_right_comm->Ze,succ_add->Zf,succ_lt_succ->Zg,succ_mul->Zh,testBit_eq_decide_div_mod_eq->Zi
open Nat.ToInt renaming of_eq->Io
open Nat.succ renaming inj->IB
open Option renaming some->g,none->R,map_eq_some_iff->e7,bind_eq_some_iff->hz,ne_none_iff_exists'->nw,isNone_iff_eq_none->yw,isSome_iff_exists->yx,map_some->yy,toList->Ca,any_eq_true->Zj,getD_some->Zk,map_map->Zl
open Option.some renaming inj->bm,injEq->ab5
open Or renaming inl->ap,inr->ar,elim->bi,imp_right->ot
open PUnit renaming unit->IE
open Prod renaming mk->Cb,fst->Zm
open Prod.mk renaming inj->yz
open PyProof.Rows renaming seqObj->tQ,IntsAre->yA,envOf->yB,sortedHeap->yC,get?_update_seq->Cc,getItem_tuple->Zn,slicePart_none->Zo,add_int->ab6,add_str->ab7,callWith_type->ab8,eq_int->ab9,eq_str->aca,gt_int->acb,iadd_int->acc,in_str->acd,isub_int->ace,lshift_int_small->acf,lt_int->acg,mod_int->ach,mul_int->aci,ne_int->acj,ne_str->ack,notIn_str->acl,or_int->acm,rshift_int->acn,seen->aco,sub_int->acp
open PySem renaming wpAny_bind->av,wpAny->aG,Value->aX,Str->a4,wpAny_pure->bz,model->bG,eval->bY,World->bZ,Shared->cc,Expr->cG,wpAny_mono->dt,Addr->dM,Obj->d5,cLine->ek,DictEntry->fY,wpAny_holding->f4,Heap->gf,Scope->gW,call->gX,Sem->hn,Env->hY,Stmt->h0,Tok->h1,exec->h2,isTrue->h3,Around->jC,wpAny_call_entry->jD,starEach->kb,wpAny_rule->kc,wpAny_standAt->kd,backTo->k9,callEnvC->lF,wpAny_newObj_type->lG,treeTable->md,OsState->mX,nsFind->mY,pyNext->mZ,Flow->nA,rawInt->nB,sizeLine->nC,Params->ow,compEnvC->oy,eqBool->oz,newExc->oA,wpAny_callSpecial?_slot->oB,wpAny_field->oC,wpAny_of_eq->oD,wpAny_truthy_bool->oE,excClassObj->pF,execs->pG,NameKind->qM,Pos->qN,spliced->qP,typeIs_str->qQ,wpAny_dictEpoch->qR,assignEach->sh,loadName->si,standAt->sj,sysModules->sk,typeLookup->sl,wpAny_Name->sm,wpAny_dictEntries->sn,wpAny_specialOf->so,callWith->tX,field->tY,isSubtype->tZ,wpAny_isInstance->t0,call_meets->v5,compareOp->v6,getItem->v7,isSubtype_type->v8,newTuple->v9,sizeLine_eq->v',wpAny_attempt->wa,Comprehension->yE,FuncData->yG,assign->yI,builtinLookup_eq_fast->yJ,dictGet->yK,firstArgMember->yL,intKind->yM,isInstance->yN,isSubtype_stop->yO,pyIter->yP,raiseNew->yQ,setItem->yR,swapsWith->yS,typeIs_int->yT,typeLookup_type->yU,wpAny_handled->yV,wpAny_throw->yW,wpAny_typeOf->yX,Arguments->Cd,cellOf->CA,codeAny->CB,contains->CC,dictSet->CD,eqIsQuiet->CE,eqIsQuiet_byValue->CF,getMethod->CG,hashInt->CH,isSame->CI,mainGlobals->CJ,pyHash->CK,richCompare->CL,seqIndex?->CM,truthy->CN,wpAny_sequenceKey->CO,wpAny_setField->CP,wpAny_typeNameOfWhole_keyiter->CQ,FuncBody->IX,Operator->I0,UnaryOp->I2,allTrue->I4,assignInOrder->I5,behindInMarks->I6,boolOp->I7,callerA->I8,cmpInfo->I9,codeAny_mono->I',importedModules->Ja,mem_of_lookup->Jb,methodCall->Jc,newList->Jd,placesWithHash->Je,recursionLimit->Jf,reduceHash->Jg,subscripted->Jh,wpAny_assign_Name->Ji,wpAny_call->Jj,wpAny_forIn_list->Jk,wpAny_loadPart_at->Jl,wpAny_notOrdered_dict->Jm,wpAny_seqItems->Jn,wpAny_tupleItemsOf->Jo,IsRangeIter->ZY,ObjNewFacts->Z2,arm_assign_Tuple->Z6,arm_eval_Subscript->Z7,attributeBase->Z8,beq_builtin_none->Z9,builtinsNs->Z',getMethod_builtin->aaa,isSubtype_tuple_tuple->aab,letTemporaryGo->aac,list_getitem_lookup->aad,methodCallForm->aae,methodCallPos->aaf,rangeSize_one->aag,slot_listiter_next->aah,truthOfDropped->aai,wpAny_Assign_Name->aaj,wpAny_Constant_int->aak,wpAny_UnaryOp->aal,wpAny_execs_nil->aam,wpAny_fieldsOf->aan,wpAny_getItem_list_slice->aao,wpAny_isOneOf_keyiter->aap,wpAny_letTemporaryGo->aaq,wpAny_loadName_cell->aar,wpAny_missedRemoval_other->aas,wpAny_newList->aat,wpAny_pyIter_revIter->aau,wpAny_ret_mkInt->aav,wpAny_tryCompare_declines->aaw,wpAny_updateDictKeys->aax
open PySem.Around renaming in1_units->Ce
open PySem.Builtin renaming bitNot->tR,bitOr->Zw
open PySem.Builtin.Dict renaming showsAll->Zp,takeOut->Zq,dictSlotNone->acq,keyAndDefault->acr,notOrdered->acs,pendingCount->act
open PySem.Builtin.Dict_items renaming ownsTuple->Zr
open PySem.Builtin.List renaming listSubscript?->acu,listTooLong->acv
open PySem.Builtin.Range renaming rangeSize->acw,small->acx
open PySem.Builtin.Slice renaming slicePlaces->Cf,sliceAdjust->IF,sliceApplied->Zs,sliceFields->acy
open PySem.Builtin.Str renaming glued->Cg,occurrences->IG,subAt->Zt,strOf->acz
open PySem.Builtin.Tuple renaming tupleHashOf->yD,tupleIsExact->Zu,tupleItemsOf->Zv,tupleExact->acA
open PySem.Calls renaming spliced_cons->IH,spliced_nil->II,call_function_entry->Zx
open PySem.Challenge renaming rw_xm0475_01->v2
open PySem.CmpOp renaming Eq->ou,NotIn->Ch
open PySem.Code renaming builtin->v3,compLoop->Zy,quiet_builtin->Zz
open PySem.Data renaming dict->g',fields->ma,plain->sc,func->v4
open PySem.Expr renaming Name->er,Call->jp,Attribute->pB,Tuple->pC,ListComp->qI,UnaryOp->qJ,Subscript->tS,Constant->Ci,Compare->IJ,IfExp->IK,Slice->IL
open PySem.F renaming slot_tuple_eq->sd,slot_dict_keyiterator_next->yF,slot_tuple_getitem->Cj,slot_tuple_hash->Ck,args_tuple_eq_2->IM,entry_tuple_eq->IN,plainAttrs_list->IP,slot_dict_contains->IQ,slot_dict_getitem->IR,slot_dict_len->IS,slot_list_append->IT,slot_list_pop->IU,args_dict_keyiterator_next_1->ZA,args_list_append_2->ZB,entry_dict_keyiterator_next->ZC,entry_list_append->ZD,entry_list_pop->ZE,plainAttrs_dict->ZF,plainAttrs_str->ZG,slot_dict_get->ZH,slot_dict_iter->ZI,slot_dict_pop->ZJ,slot_dict_setitem->ZK,slot_int_eq->ZL,slot_int_repr->ZM,slot_list_extend->ZN,slot_list_setitem->ZO,slot_lri_next->ZP,slot_range_iterator_next->ZQ,slot_str_eq->ZR,slot_str_join->ZS,slot_str_startswith->ZT,slot_tuple_iterator_next->ZU
open PySem.Flow renaming ret->se,brk->IV,cont->IW
open PySem.FuncBody renaming stmts->Cm
open PySem.Heap renaming get?_push_size->gJ,get?_push_of_some->mb,SameBut->ov,ExtBut->qK,get?_update_self->tT,get?_none_of_le->Cn,get?_update_other->ZW,lt_size->ZX
open PySem.Heap.ExtBut renaming refl->ZV
open PySem.Heap.SameBut renaming update->qL,refl->acB
open PySem.IsPart renaming none->Co
open PySem.Made renaming int->IY
open PySem.NameKind renaming free->hA,cell->hZ,globalImplicit->iY
open PySem.Obj renaming data_mapFields->yH,data_mapDictKeys->Cp,isFreed_of_fields->Cq,mapSeq->Cr,isFreed_of_dict->IZ,data_mapDict->ZZ,mapDictKeys->Z0,mapFields->Z1
open PySem.ScopeKind renaming function->pD
open PySem.Stmt renaming Assign->sf,AugAssign->Cs,Pass->Ct,Return->I1,Continue->Z3
open PySem.Str renaming ofString->ck,join->ox
open PySem.StrLaws renaming glued_eq_join->Cu
open PySem.Value renaming ref->O,type->ak,int->aN,none->bf,builtin->bH,str->bS,bool->gz,notImplemented->tU
open PySem.Value.ref renaming inj->Z4
open PySem.W renaming piecesOf->mc,looks_pair->pE,boot_heap->qO,segRun->sg,piece_app->tV,segRun_of->tW,behindTheImports->Cw,boot_drawn->Cx,boot_toks->Cy,looseW->Cz,topStub->I3
open PySem.W.Fast renaming te14364793385576792824->Cv,te10110043849684766642->acC,te11892475500146522536->acD,te14082659384304107361->acE,te14374325043358763698->acF,te15667345088766844465->acG,te9446332074065402090->acH,tw10110043849684766642->acI,tw11892475500146522536->acJ,tw12908688711261696721->acK,tw14082659384304107361->acL,tw14364793385576792824->acM,tw14374325043358763698->acN,tw15667345088766844465->acO,tw17960256430627541270->acP,tw2436336058641802641->acQ,tw9446332074065402090->acR
open PySem.W.Looks renaming of_pure->Z5
open PySem.W.SharedT renaming abs->ka
open _root_ renaming Nat->e,List->r,Int->B,if_neg->ay,if_pos->aZ,Option->a6,False->bK,Bool->ci,congrArg->cS,of_decide_eq_true->dq,of_decide_eq_false->gg,decide_eq_true_iff->hB,Array->hX,congrFun->jq,decide_eq_false->jE,decide_eq_true->oF,beq_eq_false_iff_ne->pH,String->qS,True->sp,beq_iff_eq->t1,decide_eq_false_iff_not->t2,if_false->t3,Decidable->vL,beq_self_eq_true->wb,if_true->wc,Unit->yY,bne_iff_ne->yZ,ForInStep->HZ,decide_eq_true_eq->Jp,dif_pos->Jq,not_or->Jr,and_congr_left->aay
variable {bP cu eB gd jl ku qv:Sort _} {vx vy vz vA:bP->cu->eB->gd->jl->ku->qv->Prop} {vB vC vD vE:bP->cu->eB->gd->jl->ku->Prop} {vF:bP->cu->Prop} {vG:bP->Prop} {om:Type _} {yd:om} {po:r (e×e)} {vJ:e->Prop} {vK:a6 cG} {BC:a6 aX} {r1:qN} {yf:Type _} {tC:aX} {rX:bP->cu->eB->gd->Prop} {rY:bP->cu->eB->Prop} {rZ:bP->cu->Prop} {tB:Type} {r0:tB->Prop} {mP:BoolOp} {k0:Data} {k1:cG} {nu:r e} {pq:e->e} {iy:e} {ye:a6 aX} {r2:Prop} {k5:r (a4×dM)} {eG:Type} {mO:eG->tB} {oj:eG->cc->Prop} {g9:yG} {r3 qu:hn eG} {tA:hn ci} {pr:a4->a6 aX} {hk:r B} {lC:r e} {np:bP->cu->eB->Prop} {ns:bP->cu->Prop} {l5:eG} {jz:CmpOp} {iV:e->e} {hy:e} {lB:I0} {l8:cc} {j8:r (ci×hn aX)} {k6:r h0} {l4:bP->cu->eB->Prop} {l7:a6 aX->cc->Prop} {kv:yY->cc->Prop} {kY:bP->cu->eB->Prop} {iT:ci} {k3:r a4} {j4:bP->Prop} {lw:r om} {j7:Prop} {ji:bP->cu->Prop} {gS:B} {hi:e} {dP:gW} {fd:eG->Prop} {gT:Model} {hW:hn aX} {hj:a6 eG} {fu:a4} {hw:bP->Prop} {gw:qS} {ix:om} {fP:gf} {gH:bP->cu->Prop} {fe:ci->cc->Prop} {fL:h1} {cE:dM} {dA:r eG} {dQ:r aX} {dH:eG} {db:e} {ff:Prop} {ds:r (e×e)} {eN:bP->Prop} {dv:cG} {cF:r aX} {cB:hX aX} {cl:dM->Prop} {b6:hX fY} {dF:qN} {d1:bP->Prop} {dn:e->e} {c7:e->Prop} {cQ:cc} {cR:aX} {cf:d5} {dT:r e} {de:Prop} {bT:r cG} {cC:aX->cc->Prop} {c0:r e} {bA:e} {b':gW} {bt:ci} {bx:B} {aY:cG} {aB:r e} {cd:Program} {aI:aX} {bB:qN} {W:dM} {bd:Prop} {bs:aX->cc->Prop} {ac:a4} {Z:e} {am:B} {ae:gf} {Y:r a4} {y:hY} {Q:r e} {k:cc} {N:jC} {w:e} {v:bZ} {d a:e}
section
open PySem PySem.W PyProof.Rows
set_option maxRecDepth 100000
set_option maxHeartbeats 0
namespace MineH
noncomputable abbrev b8:Program:=v2.row.toRowW.1
noncomputable def nR (U:ow) (W:a4) (N:h1) (J:aX):fY:=⟨PyData.keyHash U W,bS W N,J⟩
noncomputable def Rx (a h:a4) (y:Cd) (P:IX) (i:gW) (A:dM) (m q c b:aX) (d:a6 dM) (k o:aX) (w:dM):yG:={name:=a,qualname:=h,params:=y,body:=P,scope:=i,globals:=A,closure:=[],defaults:=m,kwdefaults:=q,doc:=c,pyModule:=b,annotations:=d,code:=k,closureTuple:=o,builtins:=w}
noncomputable def dl (v:e):h0:=match b8.main.body[v]? with|some C=>C|none=>Ct ⟨0,0,0,0⟩
noncomputable def oe:h0->a4×Cd×r h0×gW
 |.FunctionDef C y P _ _ _ a _ _ _=>(C,y,P,a)
 |.ClassDef _ _ _ P _ _ _ _ _ _ _=>("",⟨[],[],R,[],[],R,[]⟩,P,default)
 |_=>("",⟨[],[],R,[],[],R,[]⟩,[],default)
noncomputable def hR (v w:e):h0:=match(oe (dl v)).2.2.1[w]? with|some C=>C|none=>Ct ⟨0,0,0,0⟩
noncomputable def jO:hY:={scope:=b8.main.scope,locals:=mainNs,globals:=mainNs,cells:=[],code:=O 13,frame:=g 14}
noncomputable def fj:Code:=.body (Cw b8) jO
noncomputable def iG:r Frame:=[topFrame ⟨0,0,0,0⟩]
noncomputable def h8:a6 aX:=g (O 6)
noncomputable def iv (y P:e):r h0:=(b8.main.body.take P).drop y
noncomputable abbrev qj:=@acI
noncomputable abbrev mH:=acM
theorem rO (m:bZ) (T:e) (d:a6 aX) (P C:e) (a:SharedT) (N:Thread):segRunT md b8 m T d P C a N=qj mH b8 m T d P C a N:=by rw[acC,Cv]
noncomputable def eu (U:aX) (X:r aX):d5:=⟨U,R,ma ⟨X⟩,⟨[]⟩⟩
noncomputable def d0 (X:r aX):d5:=⟨ak "tuple",R,.seq ⟨X⟩ 0,⟨[]⟩⟩
noncomputable def Go (N:e):r a4->r aX|[]=>[]|y::X=>bS y N::Go (N+1) X
noncomputable def fs (N:e) (X:r a4):d5:=d0 (Go N X)
noncomputable def g2 (X:r fY) (C:e):d5:=⟨ak "dict",R,g' ⟨X⟩ C,⟨[]⟩⟩
noncomputable def h9 (X:r fY) (C:e):d5:=⟨bf,R,g' ⟨X⟩ C,⟨[]⟩⟩
noncomputable def HA:r (e×e×e)->r aX|[]=>[]|y::X=>aN y.1 0::aN y.2.1 0::O y.2.2::HA X
noncomputable def gr (X:r (e×e×e)):d5:=eu bf (HA X)
noncomputable def Ez (N:e):aX:=bS "/claim/cut.py" N
noncomputable def uu (C Z:a4) (N X U b h:e) (P:ci) (Y:e) (I:r aX) (a:e):d5:=eu (ak "code") ([bS C N,bS Z (N+1),Ez (N+2),aN X 0,aN U 0,aN 0 0,aN 0 0,aN b 0,O h,gz P,aN Y 0,O (h+1)]++I++[aN a 0,aN X 0,Ez (a+1)])
noncomputable def nO (C:a4) (N X h Y:e):d5:=uu C C N X 0 0 h false Y [bf,bf,bf,bf] (N+3)
noncomputable def jP (y P:e) (C:aX):d5:=⟨ak "frame",R,sc,⟨[g (O y),g (O 3),g (O P),R,g C,R,g (O 0)]⟩⟩
noncomputable def e0 (C:a4) (P M:r aX) (H:e) (a:r aX) (W:a6 aX) (N X:e) (m:aX):d5:=⟨ak "type",R,.cls {name:=C,bases:=P,mro:=M,ns:=H,qualname:=C,hasDict:=true,slotNames:=[],subclasses:=a,abstract:=false,collection:=R,hasDel:=false},⟨[W,R,g (bS C N),g (bS C X),g m,g (gz true)]⟩⟩
noncomputable def xb (C:h0) (Z:a4) (U:aX) (b:e) (Q M h:aX):d5:=⟨U,R,v4 (Rx (oe C).1 Z (oe C).2.1 (Cm (oe C).2.2.1) (oe C).2.2.2 b Q bf bf M R h bf 0),⟨[]⟩⟩
noncomputable def cX (C:h0) (Z:a4) (N X U y:e) (M Q:aX) (d:r a4):r d5:=[d0 [],eu bf [],fs (N+3) d,d0 [],xb C Z bf 0 bf bf bf,uu (oe C).1 Z N X U 3 y true 181 [bf,O (y+2),O (y+3),O (y+4)] (N+3+d.length),xb C Z (ak "function") 3 Q M (O (y+5))]
noncomputable def ms (C:h0) (Z:a4) (N X U y:e) (M Q:aX):r d5:=[d0 [],eu bf [],xb C Z bf 0 bf bf bf,uu (oe C).1 Z N X U 3 y true 181 [bf,bf,bf,O (y+2)] (N+3),xb C Z (ak "function") 3 Q M (O (y+3))]
noncomputable def rj:r d5->r d5|y::_::X=>y::rj X|X=>X
noncomputable def nM:e->r d5->BT|0,_=>.nil|_,[]=>.nil|C+1,y::X=>.node y (nM C (rj X)) (nM C (rj X.tail))
noncomputable def n3:aX:=bS "kindkeep.nodes" 187
noncomputable def p9:aX:=bS "kindkeep.diags" 349
noncomputable def kl:aX:=bS "kindkeep.types" 411
noncomputable def fk:aX:=bS "kindkeep.flow" 587
noncomputable def ie:aX:=bS "law_xm0475_01" 1102
noncomputable def jQ (F:a4->h1->aX->fY):r fY:=[F "__doc__" 166 bf,F "__package__" 167 bf,F "__loader__" 168 (bH "__main__.__loader__#opaque"),F "__spec__" 169 bf,F "__annotations__" 170 (O 6),F "__builtins__" 171 (O 4),F "__file__" 173 (bS "/claim/cut.py" 172),F "__cached__" 174 bf,F "K_NUM" 190 (aN 1 189),F "K_STR" 192 (aN 2 191),F "K_TPL" 194 (aN 3 193),F "K_NAME" 196 (aN 8 195),F "K_THIS" 198 (aN 9 197),F "K_SHORT" 200 (aN 14 199),F "K_MEMBER" 202 (aN 16 201),F "K_INDEX" 204 (aN 17 203),F "K_CALL" 206 (aN 18 205),F "K_CHAIN" 208 (aN 20 207),F "K_ASSIGN" 210 (aN 25 209),F "K_AS" 212 (aN 29 211),F "K_SATISFIES" 214 (aN 31 213),F "K_NONNULL" 216 (aN 32 215),F "K_PAREN" 218 (aN 33 217),F "K_OBJPAT" 220 (aN 34 219),F "K_ARRPAT" 222 (aN 35 221),F "K_BIND" 224 (aN 36 223),F "K_VAR" 226 (aN 41 225),F "K_SWITCH" 228 (aN 50 227),F "Node" 266 (O 31),F "leaf" 275 (O 42),F "twig" 285 (O 49),F "bare" 292 (O 56),F "walk_nodes" 304 (O 63),F "number_nodes" 314 (O 70),F "literal_key" 321 (O 77),F "member_name" 328 (O 84),F "root_key" 337 (O 91),F "ref_key" 348 (O 98),F "KeepError" 381 (O 116),F "TooDeep" 410 (O 137),F "Y_KEY" 414 (aN 1 413),F "Y_BOOL" 416 (aN 2 415),F "Y_STR" 418 (aN 3 417),F "Y_NUM" 420 (aN 4 419),F "Y_ENUM" 422 (aN 5 421),F "Y_UNION" 424 (aN 6 423),F "Y_OBJ" 426 (aN 8 425),F "Y_TPL" 428 (aN 18 427),F "ANY" 430 (aN 0 429),F "UNKNOWN" 432 (aN 1 431),F "NEVER" 434 (aN 2 433),F "UNDEF" 436 (aN 4 435),F "STRING" 438 (aN 6 437),F "NUMBER" 440 (aN 7 439),F "FALSE_T" 442 (aN 8 441),F "TRUE_T" 444 (aN 9 443),F "ERR" 446 (aN 13 445),F "FRESH_F" 448 (aN 14 447),F "FRESH_T" 450 (aN 15 449),F "MAX_UNION" 452 (aN 400 451),F "FIRST_ROWS" 474 (O 162),F "MARKED_ROWS" 475 (O 163),F "TypeTable" 530 (O 194),F "parts_of" 539 (O 205),F "whole_of_row" 547 (O 212),F "regular_twin" 556 (O 219),F "join_bools" 563 (O 226),F "stays_beside" 572 (O 233),F "top_of" 580 (O 240),F "union" 586 (O 245),F "L_DEAD" 590 (aN 0 589),F "L_START" 592 (aN 1 591),F "L_JOIN" 594 (aN 2 593),F "L_LOOP" 596 (aN 3 595),F "L_SET" 598 (aN 4 597),F "L_TRUE" 600 (aN 5 599),F "L_FALSE" 602 (aN 6 601),F "L_CALL" 604 (aN 7 603),F "L_CASE" 606 (aN 8 605),F "GO_OUT" 609 (aN (-2) 608),F "AT_START" 612 (aN (-3) 611),F "MOST_ROUNDS" 614 (aN 40 613),F "R_FIXED" 616 (aN 0 615),F "R_OWN" 618 (aN 1 617),F "R_THROUGH" 620 (aN 2 619),F "Graph" 672 (O 269),F "pattern_leaves" 683 (O 280),F "target_nodes" 690 (O 287),F "target_keys" 696 (O 292),F "Asker" 814 (O 372),F "Walk" 864 (O 400),F "role_of" 874 (O 411),F "role_of_set" 884 (O 418),F "role_of_start" 894 (O 425),F "push_prevs" 905 (O 432),F "flow_gather" 918 (O 439),F "value_at" 926 (O 446),F "flow_joined" 932 (O 451),F "is_narrower" 941 (O 458),F "value_of" 953 (O 465),F "one_round" 963 (O 472),F "go_round" 972 (O 479),F "settle_walk" 983 (O 486),F "let_go" 992 (O 493),F "walked_at" 1002 (O 500),F "recalled" 1012 (O 507),F "type_at" 1027 (O 514),F "Stops" 1076 (O 545),F "blocked" 1088 (O 556),F "reaches" 1101 (O 563),F "_law_base" 1128 (O 564),F "_law_paths" 1138 (O 570),F "_law_ranges" 1145 (O 574),F "_law_take" 1153 (O 581),F "_law_kind" 1159 (O 586),F "_law_mask" 1169 (O 593),F "_law_join" 1176 (O 600),F "_law_row" 1190 (O 607),F "_law_write" 1196 (O 612),F "_law_graph" 1202 (O 617),F "_law_deed" 1218 (O 624),F "_law_shut" 1226 (O 631),F "_law_spread" 1240 (O 638),F "_law_left" 1246 (O 643),F "_law_alive" 1252 (O 648),F "_law_first" 1264 (O 655),F "_law_behind" 1270 (O 660),F "_law_unroll" 1276 (O 665),F "_law_cut_write" 1287 (O 672),F "_law_change" 1293 (O 677),F "_law_order" 1304 (O 684),F "_law_world" 1316 (O 691),F "_law_asked" 1330 (O 698),F "_law_more" 1346 (O 705),F "law" 1352 (O 710)]
noncomputable def kN:r (e×e×e):=[(22,0,20),(31,0,41),(33,0,48),(35,0,55),(39,0,62),(52,0,69),(58,0,76),(67,0,83),(71,0,90),(80,0,97),(98,0,104),(103,0,125),(131,0,169),(157,0,204),(164,0,211),(173,0,218),(178,0,225),(182,0,232),(186,0,239),(191,0,244),(224,0,251),(248,0,279),(262,0,286),(266,0,291),(268,0,298),(308,0,382),(324,0,410),(337,0,417),(345,0,424),(357,0,431),(368,0,438),(384,0,445),(388,0,450),(393,0,457),(398,0,464),(413,0,471),(424,0,478),(435,0,485),(446,0,492),(453,0,499),(465,0,506),(473,0,513),(490,0,520),(501,0,555),(509,0,562),(527,0,580),(531,0,585),(533,0,592),(540,0,599),(542,0,606),(562,0,611),(580,0,616),(614,0,623),(628,0,630),(632,0,637),(645,0,642),(652,0,647),(657,0,654),(663,0,659),(672,0,664),(686,0,671),(695,0,676),(726,0,683),(734,0,690),(749,0,697),(755,0,704),(762,0,709)]
noncomputable def qm (F:a4->h1->aX->fY) (W A a:d5):r (r d5):=[[g2 [F "__name__" 1 (bS "builtins" 160),F "__doc__" 2 (bH "builtins.__doc__:str#opaque"),F "__package__" 3 (bH "builtins.__package__:str#opaque"),F "__loader__" 4 (bH "builtins.__loader__:shared#opaque"),F "__spec__" 5 (bH "builtins.__spec__#opaque"),F "__build_class__" 6 (bH "__build_class__"),F "__import__" 7 (bH "__import__"),F "abs" 8 (bH "abs"),F "all" 9 (bH "all"),F "any" 10 (bH "any"),F "ascii" 11 (bH "ascii"),F "bin" 12 (bH "bin"),F "breakpoint" 13 (bH "breakpoint"),F "callable" 14 (bH "callable"),F "chr" 15 (bH "chr"),F "compile" 16 (bH "compile"),F "delattr" 17 (bH "delattr"),F "dir" 18 (bH "dir"),F "divmod" 19 (bH "divmod"),F "eval" 20 (bH "eval"),F "exec" 21 (bH "exec"),F "format" 22 (bH "format"),F "getattr" 23 (bH "getattr"),F "globals" 24 (bH "globals"),F "hasattr" 25 (bH "hasattr"),F "hash" 26 (bH "hash"),F "hex" 27 (bH "hex"),F "id" 28 (bH "id"),F "input" 29 (bH "input"),F "isinstance" 30 (bH "isinstance"),F "issubclass" 31 (bH "issubclass"),F "iter" 32 (bH "iter"),F "aiter" 33 (bH "aiter"),F "len" 34 (bH "len"),F "locals" 35 (bH "locals"),F "max" 36 (bH "max"),F "min" 37 (bH "min"),F "next" 38 (bH "next"),F "anext" 39 (bH "anext"),F "oct" 40 (bH "oct"),F "ord" 41 (bH "ord"),F "pow" 42 (bH "pow"),F "print" 43 (bH "print"),F "repr" 44 (bH "repr"),F "round" 45 (bH "round"),F "setattr" 46 (bH "setattr"),F "sorted" 47 (bH "sorted"),F "sum" 48 (bH "sum"),F "vars" 49 (bH "vars"),F "None" 50 bf,F "Ellipsis" 51 .ellipsis,F "NotImplemented" 52 tU,F "False" 53 (gz false),F "True" 54 (gz true),F "bool" 55 (ak "bool"),F "memoryview" 56 (ak "memoryview"),F "bytearray" 57 (ak "bytearray"),F "bytes" 58 (ak "bytes"),F "classmethod" 59 (ak "classmethod"),F "complex" 60 (ak "complex"),F "dict" 61 (ak "dict"),F "enumerate" 62 (ak "enumerate"),F "filter" 63 (ak "filter"),F "float" 64 (ak "float"),F "frozenset" 65 (ak "frozenset"),F "property" 66 (ak "property"),F "int" 67 (ak "int"),F "list" 68 (ak "list"),F "map" 69 (ak "map"),F "object" 70 (ak "object"),F "range" 71 (ak "range"),F "reversed" 72 (ak "reversed"),F "set" 73 (ak "set"),F "slice" 74 (ak "slice"),F "staticmethod" 75 (ak "staticmethod"),F "str" 76 (ak "str"),F "super" 77 (ak "super"),F "tuple" 78 (ak "tuple"),F "type" 79 (ak "type"),F "zip" 80 (ak "zip"),F "__debug__" 81 (gz true),F "BaseException" 82 (ak "BaseException"),F "BaseExceptionGroup" 83 (ak "BaseExceptionGroup"),F "Exception" 84 (ak "Exception"),F "GeneratorExit" 85 (ak "GeneratorExit"),F "KeyboardInterrupt" 86 (ak "KeyboardInterrupt"),F "SystemExit" 87 (ak "SystemExit"),F "ArithmeticError" 88 (ak "ArithmeticError"),F "AssertionError" 89 (ak "AssertionError"),F "AttributeError" 90 (ak "AttributeError"),F "BufferError" 91 (ak "BufferError"),F "EOFError" 92 (ak "EOFError"),F "ImportError" 93 (ak "ImportError"),F "LookupError" 94 (ak "LookupError"),F "MemoryError" 95 (ak "MemoryError"),F "NameError" 96 (ak "NameError"),F "OSError" 97 (ak "OSError"),F "ReferenceError" 98 (ak "ReferenceError"),F "RuntimeError" 99 (ak "RuntimeError"),F "StopAsyncIteration" 100 (ak "StopAsyncIteration"),F "StopIteration" 101 (ak "StopIteration"),F "SyntaxError" 102 (ak "SyntaxError"),F "SystemError" 103 (ak "SystemError"),F "TypeError" 104 (ak "TypeError"),F "ValueError" 105 (ak "ValueError"),F "Warning" 106 (ak "Warning"),F "FloatingPointError" 107 (ak "FloatingPointError"),F "OverflowError" 108 (ak "OverflowError"),F "ZeroDivisionError" 109 (ak "ZeroDivisionError"),F "BytesWarning" 110 (ak "BytesWarning"),F "DeprecationWarning" 111 (ak "DeprecationWarning"),F "EncodingWarning" 112 (ak "EncodingWarning"),F "FutureWarning" 113 (ak "FutureWarning"),F "ImportWarning" 114 (ak "ImportWarning"),F "PendingDeprecationWarning" 115 (ak "PendingDeprecationWarning"),F "ResourceWarning" 116 (ak "ResourceWarning"),F "RuntimeWarning" 117 (ak "RuntimeWarning"),F "SyntaxWarning" 118 (ak "SyntaxWarning"),F "UnicodeWarning" 119 (ak "UnicodeWarning"),F "UserWarning" 120 (ak "UserWarning"),F "BlockingIOError" 121 (ak "BlockingIOError"),F "ChildProcessError" 122 (ak "ChildProcessError"),F "ConnectionError" 123 (ak "ConnectionError"),F "FileExistsError" 124 (ak "FileExistsError"),F "FileNotFoundError" 125 (ak "FileNotFoundError"),F "InterruptedError" 126 (ak "InterruptedError"),F "IsADirectoryError" 127 (ak "IsADirectoryError"),F "NotADirectoryError" 128 (ak "NotADirectoryError"),F "PermissionError" 129 (ak "PermissionError"),F "ProcessLookupError" 130 (ak "ProcessLookupError"),F "TimeoutError" 131 (ak "TimeoutError"),F "IndentationError" 132 (ak "IndentationError"),F "_IncompleteInputError" 133 (ak "_IncompleteInputError"),F "IndexError" 134 (ak "IndexError"),F "KeyError" 135 (ak "KeyError"),F "ModuleNotFoundError" 136 (ak "ModuleNotFoundError"),F "NotImplementedError" 137 (ak "NotImplementedError"),F "PythonFinalizationError" 138 (ak "PythonFinalizationError"),F "RecursionError" 139 (ak "RecursionError"),F "UnboundLocalError" 140 (ak "UnboundLocalError"),F "UnicodeError" 141 (ak "UnicodeError"),F "BrokenPipeError" 142 (ak "BrokenPipeError"),F "ConnectionAbortedError" 143 (ak "ConnectionAbortedError"),F "ConnectionRefusedError" 144 (ak "ConnectionRefusedError"),F "ConnectionResetError" 145 (ak "ConnectionResetError"),F "TabError" 146 (ak "TabError"),F "UnicodeDecodeError" 147 (ak "UnicodeDecodeError"),F "UnicodeEncodeError" 148 (ak "UnicodeEncodeError"),F "UnicodeTranslateError" 149 (ak "UnicodeTranslateError"),F "ExceptionGroup" 150 (ak "ExceptionGroup"),F "EnvironmentError" 151 (ak "OSError"),F "IOError" 152 (ak "OSError"),F "open" 153 (bH "open"),F "quit" 154 (bH "builtins.quit#opaque"),F "exit" 155 (bH "builtins.exit#opaque"),F "copyright" 156 (bH "builtins.copyright#opaque"),F "credits" 157 (bH "builtins.credits#opaque"),F "license" 158 (bH "builtins.license#opaque"),F "help" 159 (bH "builtins.help#opaque")] 159,g2 [F "builtins" 162 (O 4),F "__main__" 163 (O 5)] 2,W,A,⟨(ak "module"),(g 0),sc,⟨[]⟩⟩,⟨(ak "module"),(g 3),sc,⟨[]⟩⟩,g2 [] 0,d0 [],gr [],nO "<module>" 176 1 7 175,jP 9 3 (bS "__main__" 164),d0 [],a,nO "<module>" 182 1 11 181,jP 13 3 (bS "__main__" 164)]]
noncomputable def rN (F:a4->h1->aX->fY):r (r d5):=[[d0 [],eu (ak "builtin_function_or_method") [bH "type.__prepare__",ak "type"],g2 [F "__module__" 236 (bS "kindkeep.nodes" 187),F "__qualname__" 238 (bS "Node" 237),F "__firstlineno__" 240 (aN 22 239),F "__init__" 252 (O 28),F "__static_attributes__" 259 (O 29)] 5,d0 [],gr [(24,4,27)],nO "Node" 231 22 18 181,jP 20 17 (bS "kindkeep.nodes" 187)],cX (hR 21 0) "Node.__init__" 241 24 6 22 n3 bf ["self","kind","a","kids","flags","at"],[fs 253 ["a","at","flags","kids","kind","nid"],g2 [F "__module__" 236 (bS "kindkeep.nodes" 187),F "__firstlineno__" 240 (aN 22 239),F "__init__" 252 (O 28),F "__static_attributes__" 259 (O 29),F "__dict__" 261 (O 32),F "__weakref__" 263 (O 33),F "__doc__" 264 bf] 4,e0 "Node" [ak "object"] [O 31,ak "object"] 30 [] R 229 237 (bH "object.__new__"),eu (ak "getset_descriptor") [bS "__dict__" 260,O 31,bH "function.__dict__",bH "function.__dict__#set"],eu (ak "getset_descriptor") [bS "__weakref__" 262,O 31,bH "ExceptionGroup.__weakref__",bf],eu (ak "super") [O 31,O 31,O 31],eu (ak "builtin_function_or_method") [bH "object.__init_subclass__",O 31]],cX (dl 22) "leaf" 267 31 3 36 n3 bf ["kind","a","at"],cX (dl 23) "twig" 276 33 4 43 n3 bf ["kind","a","kids","at"],cX (dl 24) "bare" 286 35 1 50 n3 bf ["node"],cX (dl 25) "walk_nodes" 293 39 1 57 n3 bf ["root","out","stack","node","at","kid"],cX (dl 26) "number_nodes" 305 52 2 64 n3 bf ["root","start","number","node"],cX (dl 27) "literal_key" 315 58 1 71 n3 bf ["node"],cX (dl 28) "member_name" 322 67 1 78 n3 bf ["node"],cX (dl 29) "root_key" 329 71 2 85 n3 bf ["node","use","sid"],cX (dl 30) "ref_key" 338 80 2 92 n3 bf ["node","use","tail","name","head"]]
noncomputable def to (F:a4->h1->aX->fY):r (r d5):=[[d0 [ak "Exception"],eu (ak "builtin_function_or_method") [bH "type.__prepare__",ak "type"],g2 [F "__module__" 358 (bS "kindkeep.diags" 349),F "__qualname__" 360 (bS "KeepError" 359),F "__firstlineno__" 362 (aN 98 361),F "__init__" 371 (O 113),F "__static_attributes__" 374 (O 114)] 5,d0 [],gr [(100,4,112)],nO "KeepError" 353 98 102 181,jP 104 101 (bS "kindkeep.diags" 349),fs 363 [""]],cX (hR 32 0) "KeepError.__init__" 364 100 2 107 p9 (O 106) ["self","text"],[fs 372 ["number","text"],g2 [F "__module__" 358 (bS "kindkeep.diags" 349),F "__firstlineno__" 362 (aN 98 361),F "__init__" 371 (O 113),F "__static_attributes__" 374 (O 114),F "__weakref__" 376 (O 117),F "__doc__" 377 bf] 3,e0 "KeepError" [ak "Exception"] [O 116,ak "Exception",ak "BaseException",ak "object"] 115 [O 137] (g (O 99)) 351 359 (bH "Exception.__new__"),eu (ak "getset_descriptor") [bS "__weakref__" 375,O 116,bH "ExceptionGroup.__weakref__",bf],eu (ak "super") [O 116,O 116,O 116],eu (ak "builtin_function_or_method") [bH "object.__init_subclass__",O 116],d0 [O 116],eu (ak "builtin_function_or_method") [bH "type.__prepare__",ak "type"],g2 [F "__module__" 389 (bS "kindkeep.diags" 349),F "__qualname__" 391 (bS "TooDeep" 390),F "__firstlineno__" 393 (aN 103 392),F "__init__" 404 (O 134),F "__static_attributes__" 407 (O 135)] 5,d0 [],gr [(105,4,133)],nO "TooDeep" 384 103 123 181,jP 125 122 (bS "kindkeep.diags" 349),d0 [aN 2589 394,bS "" 395]],cX (hR 33 0) "TooDeep.__init__" 396 105 3 128 p9 (O 127) ["self","number","text"],[fs 405 ["number","text"],g2 [F "__module__" 389 (bS "kindkeep.diags" 349),F "__firstlineno__" 393 (aN 103 392),F "__init__" 404 (O 134),F "__static_attributes__" 407 (O 135),F "__doc__" 408 bf] 2,e0 "TooDeep" [O 116] [O 137,O 116,ak "Exception",ak "BaseException",ak "object"] 136 [] (g (O 120)) 382 390 (bH "Exception.__new__"),eu (ak "super") [O 137,O 137,O 137],eu (ak "builtin_function_or_method") [bH "object.__init_subclass__",O 137],d0 [aN 1 413,bS "any" 453],d0 [aN 1 413,bS "unknown" 454],d0 [aN 1 413,bS "never" 455],d0 [aN 1 413,bS "void" 456],d0 [aN 1 413,bS "undefined" 457],d0 [aN 1 413,bS "null" 458],d0 [aN 1 413,bS "string" 459],d0 [aN 1 413,bS "number" 460],d0 [aN 2 415,aN 0 461,aN 0 462],d0 [aN 2 415,aN 1 463,aN 0 464],d0 [aN 1 413,bS "object" 465],d0 [],d0 [],d0 [],d0 [],d0 [],d0 [aN 8 425,O 151,O 152,O 153,O 154,O 155,aN 0 466],d0 [aN 8 467,aN 9 468],d0 [aN 6 423,O 157],d0 [aN 1 413,bS "error" 469],d0 [aN 2 415,aN 0 470,aN 1 471],d0 [aN 2 415,aN 1 472,aN 1 473],d0 [O 140,O 141,O 142,O 143,O 144,O 145,O 146,O 147,O 148,O 149,O 150,O 156,O 158,O 159,O 160,O 161],d0 [aN 2 415,aN 3 417,aN 4 419,aN 5 421,aN 8 425]]]
noncomputable def vc (F:a4->h1->aX->fY):r (r d5):=[[d0 [],eu (ak "builtin_function_or_method") [bH "type.__prepare__",ak "type"],g2 [F "__module__" 483 (bS "kindkeep.types" 411),F "__qualname__" 485 (bS "TypeTable" 484),F "__firstlineno__" 487 (aN 131 486),F "__init__" 495 (O 177),F "row" 503 (O 184),F "put" 512 (O 191),F "__static_attributes__" 523 (O 192)] 7,d0 [],gr [(133,4,176),(147,4,183),(150,4,190)],nO "TypeTable" 478 131 167 181,jP 169 166 (bS "kindkeep.types" 411)],cX (hR 57 0) "TypeTable.__init__" 488 133 1 171 kl bf ["self","row"],cX (hR 57 1) "TypeTable.row" 496 147 2 178 kl bf ["self","t"],cX (hR 57 2) "TypeTable.put" 504 150 2 185 kl bf ["self","row","t"],[fs 513 ["bounds","decls","defaults","index","names","origins","putting","renamed","rows","shaping"],g2 [F "__module__" 483 (bS "kindkeep.types" 411),F "__firstlineno__" 487 (aN 131 486),F "__init__" 495 (O 177),F "row" 503 (O 184),F "put" 512 (O 191),F "__static_attributes__" 523 (O 192),F "__dict__" 525 (O 195),F "__weakref__" 527 (O 196),F "__doc__" 528 bf] 4,e0 "TypeTable" [ak "object"] [O 194,ak "object"] 193 [] R 476 484 (bH "object.__new__"),eu (ak "getset_descriptor") [bS "__dict__" 524,O 194,bH "function.__dict__",bH "function.__dict__#set"],eu (ak "getset_descriptor") [bS "__weakref__" 526,O 194,bH "ExceptionGroup.__weakref__",bf],eu (ak "super") [O 194,O 194,O 194],eu (ak "builtin_function_or_method") [bH "object.__init_subclass__",O 194]],cX (dl 58) "parts_of" 531 157 2 199 kl bf ["tab","t","row"],cX (dl 59) "whole_of_row" 540 164 1 206 kl bf ["row","kind"],cX (dl 60) "regular_twin" 548 173 2 213 kl bf ["tab","t","row"],cX (dl 61) "join_bools" 557 178 1 220 kl bf ["got"],cX (dl 62) "stays_beside" 564 182 3 227 kl bf ["tab","got","t"],cX (dl 63) "top_of" 573 186 1 234 kl bf ["got","t"],ms (dl 64) "union" 581 191 2 241 kl bf]
noncomputable def x3 (F:a4->h1->aX->fY):r (r d5):=[[d0 [],eu (ak "builtin_function_or_method") [bH "type.__prepare__",ak "type"],g2 [F "__module__" 628 (bS "kindkeep.flow" 587),F "__qualname__" 630 (bS "Graph" 629),F "__firstlineno__" 632 (aN 224 631),F "__init__" 639 (O 259),F "make" 650 (O 266),F "__static_attributes__" 665 (O 267)] 6,d0 [],gr [(226,4,258),(242,4,265)],nO "Graph" 623 224 249 181,jP 251 248 (bS "kindkeep.flow" 587)],cX (hR 81 0) "Graph.__init__" 633 226 1 253 fk bf ["self"],cX (hR 81 1) "Graph.make" 640 242 5 260 fk bf ["self","kind","prevs","node","extra"],[fs 651 ["at","busy","ends","epoch","extras","hidden","hits","kinds","memo","nodes","open","prevs","sets","starts"],g2 [F "__module__" 628 (bS "kindkeep.flow" 587),F "__firstlineno__" 632 (aN 224 631),F "__init__" 639 (O 259),F "make" 650 (O 266),F "__static_attributes__" 665 (O 267),F "__dict__" 667 (O 270),F "__weakref__" 669 (O 271),F "__doc__" 670 bf] 4,e0 "Graph" [ak "object"] [O 269,ak "object"] 268 [] R 621 629 (bH "object.__new__"),eu (ak "getset_descriptor") [bS "__dict__" 666,O 269,bH "function.__dict__",bH "function.__dict__#set"],eu (ak "getset_descriptor") [bS "__weakref__" 668,O 269,bH "ExceptionGroup.__weakref__",bf],eu (ak "super") [O 269,O 269,O 269],eu (ak "builtin_function_or_method") [bH "object.__init_subclass__",O 269]],cX (dl 82) "pattern_leaves" 673 248 1 274 fk bf ["pattern","out","stack","node","kid"],cX (dl 83) "target_nodes" 684 262 1 281 fk bf ["node"],ms (dl 84) "target_keys" 691 266 2 288 fk bf,[d0 [],eu (ak "builtin_function_or_method") [bH "type.__prepare__",ak "type"],g2 [F "__module__" 704 (bS "kindkeep.flow" 587),F "__qualname__" 706 (bS "Asker" 705),F "__firstlineno__" 708 (aN 268 707),F "__init__" 717 (O 306),F "turn" 729 (O 313),F "owns" 738 (O 320),F "sets" 748 (O 327),F "kills" 758 (O 334),F "join" 766 (O 341),F "start_of" 776 (O 348),F "dead" 783 (O 355),F "kept_past" 792 (O 362),F "alive" 801 (O 369),F "__static_attributes__" 807 (O 370)] 14,d0 [],gr [(270,4,305),(277,4,312),(280,4,319),(283,4,326),(288,4,333),(294,4,340),(297,4,347),(300,4,354),(303,4,361),(306,4,368)],nO "Asker" 699 268 296 181,jP 298 295 (bS "kindkeep.flow" 587)],cX (hR 85 0) "Asker.__init__" 709 270 3 300 fk bf ["self","tab","use"],cX (hR 85 1) "Asker.turn" 718 277 6 307 fk bf ["self","kind","node","extra","key","t"],cX (hR 85 2) "Asker.owns" 730 280 3 314 fk bf ["self","node","key"],cX (hR 85 3) "Asker.sets" 739 283 4 321 fk bf ["self","node","key","declared"],cX (hR 85 4) "Asker.kills" 749 288 3 328 fk bf ["self","node","key","target"],cX (hR 85 5) "Asker.join" 759 294 2 335 fk bf ["self","ts"],cX (hR 85 6) "Asker.start_of" 767 297 4 342 fk bf ["self","node","key","declared"],cX (hR 85 7) "Asker.dead" 777 300 1 349 fk bf ["self"],cX (hR 85 8) "Asker.kept_past" 784 303 3 356 fk bf ["self","node","key"],cX (hR 85 9) "Asker.alive" 793 306 3 363 fk bf ["self","graph","number"],[fs 802 ["given","lost","sure","tab","use"],g2 [F "__module__" 704 (bS "kindkeep.flow" 587),F "__firstlineno__" 708 (aN 268 707),F "__init__" 717 (O 306),F "turn" 729 (O 313),F "owns" 738 (O 320),F "sets" 748 (O 327),F "kills" 758 (O 334),F "join" 766 (O 341),F "start_of" 776 (O 348),F "dead" 783 (O 355),F "kept_past" 792 (O 362),F "alive" 801 (O 369),F "__static_attributes__" 807 (O 370),F "__dict__" 809 (O 373),F "__weakref__" 811 (O 374),F "__doc__" 812 bf] 4,e0 "Asker" [ak "object"] [O 372,ak "object"] 371 [] R 697 705 (bH "object.__new__"),eu (ak "getset_descriptor") [bS "__dict__" 808,O 372,bH "function.__dict__",bH "function.__dict__#set"],eu (ak "getset_descriptor") [bS "__weakref__" 810,O 372,bH "ExceptionGroup.__weakref__",bf],eu (ak "super") [O 372,O 372,O 372],eu (ak "builtin_function_or_method") [bH "object.__init_subclass__",O 372]]]
noncomputable def Bi (F:a4->h1->aX->fY):r (r d5):=[[d0 [],eu (ak "builtin_function_or_method") [bH "type.__prepare__",ak "type"],g2 [F "__module__" 822 (bS "kindkeep.flow" 587),F "__qualname__" 824 (bS "Walk" 823),F "__firstlineno__" 826 (aN 308 825),F "__init__" 838 (O 390),F "fix" 847 (O 397),F "__static_attributes__" 857 (O 398)] 6,d0 [],gr [(310,4,389),(321,4,396)],nO "Walk" 817 308 380 181,jP 382 379 (bS "kindkeep.flow" 587)],cX (hR 86 0) "Walk.__init__" 827 310 6 384 fk bf ["self","graph","key","declared","start","asker"],cX (hR 86 1) "Walk.fix" 839 321 3 391 fk bf ["self","number","t"],[fs 848 ["asker","declared","graph","key","loops","order","roles","start","values"],g2 [F "__module__" 822 (bS "kindkeep.flow" 587),F "__firstlineno__" 826 (aN 308 825),F "__init__" 838 (O 390),F "fix" 847 (O 397),F "__static_attributes__" 857 (O 398),F "__dict__" 859 (O 401),F "__weakref__" 861 (O 402),F "__doc__" 862 bf] 4,e0 "Walk" [ak "object"] [O 400,ak "object"] 399 [] R 815 823 (bH "object.__new__"),eu (ak "getset_descriptor") [bS "__dict__" 858,O 400,bH "function.__dict__",bH "function.__dict__#set"],eu (ak "getset_descriptor") [bS "__weakref__" 860,O 400,bH "ExceptionGroup.__weakref__",bf],eu (ak "super") [O 400,O 400,O 400],eu (ak "builtin_function_or_method") [bH "object.__init_subclass__",O 400]],cX (dl 87) "role_of" 865 324 2 405 fk bf ["walk","number","graph","kind"],cX (dl 88) "role_of_set" 875 337 2 412 fk bf ["walk","number","node","owns"],cX (dl 89) "role_of_start" 885 345 2 419 fk bf ["walk","number","node","t"],cX (dl 90) "push_prevs" 895 357 3 426 fk bf ["walk","stack","number","prevs","prev"],cX (dl 91) "flow_gather" 906 368 2 433 fk bf ["walk","flow","stack","number","turn","prev","role"],cX (dl 92) "value_at" 919 384 2 440 fk bf ["walk","number"],ms (dl 93) "flow_joined" 927 388 2 447 fk bf,cX (dl 94) "is_narrower" 933 393 2 452 fk bf ["walk","t","tab"],cX (dl 95) "value_of" 942 398 2 459 fk bf ["walk","number","graph","kind","node","t"],cX (dl 96) "one_round" 954 413 1 466 fk bf ["walk","moved","number","t"],cX (dl 97) "go_round" 964 424 1 473 fk bf ["walk","base","rounds"],cX (dl 98) "settle_walk" 973 435 2 480 fk bf ["walk","outer","number","base","stands"],cX (dl 99) "let_go" 984 446 2 487 fk bf ["walk","outer","number"],cX (dl 100) "walked_at" 993 453 2 494 fk bf ["walk","flow","outer","stands"],cX (dl 101) "recalled" 1003 465 2 501 fk bf ["graph","spot","t","epoch"],cX (dl 102) "type_at" 1013 473 6 508 fk bf ["graph","flow","key","declared","start","asker","spot","t","hits"]]
noncomputable def G7 (F:a4->h1->aX->fY):r (r d5):=[[d0 [],eu (ak "builtin_function_or_method") [bH "type.__prepare__",ak "type"],g2 [F "__module__" 1035 (bS "kindkeep.flow" 587),F "__qualname__" 1037 (bS "Stops" 1036),F "__firstlineno__" 1039 (aN 490 1038),F "__init__" 1048 (O 528),F "ends" 1056 (O 535),F "empty" 1066 (O 542),F "__static_attributes__" 1069 (O 543)] 7,d0 [],gr [(492,4,527),(496,4,534),(499,4,541)],nO "Stops" 1030 490 518 181,jP 520 517 (bS "kindkeep.flow" 587)],cX (hR 103 0) "Stops.__init__" 1040 492 3 522 fk bf ["self","never","full"],cX (hR 103 1) "Stops.ends" 1049 496 2 529 fk bf ["self","node"],cX (hR 103 2) "Stops.empty" 1057 499 4 536 fk bf ["self","node","low","high"],[fs 1067 ["full","never"],g2 [F "__module__" 1035 (bS "kindkeep.flow" 587),F "__firstlineno__" 1039 (aN 490 1038),F "__init__" 1048 (O 528),F "ends" 1056 (O 535),F "empty" 1066 (O 542),F "__static_attributes__" 1069 (O 543),F "__dict__" 1071 (O 546),F "__weakref__" 1073 (O 547),F "__doc__" 1074 bf] 4,e0 "Stops" [ak "object"] [O 545,ak "object"] 544 [] R 1028 1036 (bH "object.__new__"),eu (ak "getset_descriptor") [bS "__dict__" 1070,O 545,bH "function.__dict__",bH "function.__dict__#set"],eu (ak "getset_descriptor") [bS "__weakref__" 1072,O 545,bH "ExceptionGroup.__weakref__",bf],eu (ak "super") [O 545,O 545,O 545],eu (ak "builtin_function_or_method") [bH "object.__init_subclass__",O 545]],cX (dl 104) "blocked" 1077 501 3 550 fk bf ["graph","number","stops","kind","low","high"],cX (dl 105) "reaches" 1089 509 3 557 fk bf ["graph","flow","stops","seen","stack","number","prev"],[d0 [aN 0 1104,aN 5 1105,aN 3 1106,aN 16 1107,aN 1 1108,aN 0 1109,aN 6 1110,aN 0 1111,aN 1 1112,aN 3 1113,aN 0 1114,aN 0 1115,aN 5 1116,aN 32 1117,aN 0 1118,aN 1 1119,aN 0 1120,aN 0 1121,aN 0 1122,aN 1 1123,aN 0 1124,aN 0 1125,aN 0 1126,aN 1 1127],fs 1129 ["1"],fs 1130 ["1","p"],fs 1132 ["1","p","q"],fs 1135 ["2"],fs 1136 ["2","p"],d0 [O 565,O 566,O 567,O 568,O 569],d0 [aN 0 1139,aN 1 1140],d0 [aN 1 1141,aN 2 1142],d0 [aN 2 1143,aN 2 1144],d0 [O 571,O 572,O 573]],cX (dl 110) "_law_take" 1146 527 2 575 ie bf ["pile","most"],ms (dl 111) "_law_kind" 1154 531 2 582 ie bf,cX (dl 112) "_law_mask" 1160 533 2 587 ie bf ["tab","t","mask","part"],cX (dl 113) "_law_join" 1170 540 1 594 ie bf ["ways"],cX (dl 114) "_law_row" 1177 542 2 601 ie bf ["pile","i","k","near","spot","other","paths","kind"],ms (dl 115) "_law_write" 1191 562 3 608 ie bf,ms (dl 116) "_law_graph" 1197 580 3 613 ie bf,cX (dl 117) "_law_deed" 1203 614 2 618 ie bf ["row","world","kind","ways","paths","given","sign","path","other","short"],cX (dl 118) "_law_shut" 1219 628 2 625 ie bf ["row","world"],cX (dl 119) "_law_spread" 1227 632 3 632 ie bf ["rows","seeds","gates","came","ends","later","end","i"],ms (dl 120) "_law_left" 1241 645 2 639 ie bf,ms (dl 121) "_law_alive" 1247 652 2 644 ie bf,cX (dl 122) "_law_first" 1253 657 4 649 ie bf ["rows","begin","kinds","least","lap","i"],ms (dl 123) "_law_behind" 1265 663 2 656 ie bf,ms (dl 124) "_law_unroll" 1271 672 2 661 ie bf]
noncomputable def qn (F:a4->h1->aX->fY):r (r d5):=[cX (dl 125) "_law_cut_write" 1277 686 2 666 ie bf ["rows","i","way","ways","one"],ms (dl 126) "_law_change" 1288 695 2 673 ie bf,cX (dl 127) "_law_order" 1294 726 2 678 ie bf ["pile","size","step","spare","place"],cX (dl 128) "_law_world" 1305 734 1 685 ie bf ["pile","rows","count","world","i","lap"],cX (dl 129) "_law_asked" 1317 749 4 692 ie bf ["world","graph","asker","flow","tab","key","declared","start"],cX (dl 130) "_law_more" 1331 755 8 699 ie bf ["world","graph","asker","stops","loop","flow","told","came","size","mask"],ms (dl 131) "law" 1347 762 1 706 ie bf]
noncomputable def ia (F:a4->h1->aX->fY):r d5:=(qm F (h9 [] 0) (g2 (F "__name__" 165 (bS "__main__" 164)::(jQ F).take 8) 9) (gr (kN.take 0))++([])).flatten
noncomputable def wt (U:ow):BT:=nM 12 (ia (nR U))
noncomputable def Sf (F:a4->h1->aX->fY):r d5:=(qm F (h9 [] 0) (g2 (F "__name__" 165 (bS "kindkeep.diags" 349)::(jQ F).take 38) 39) (gr (kN.take 10))++(rN F)).flatten
noncomputable def lb (U:ow):BT:=nM 12 (Sf (nR U))
noncomputable def Sg (F:a4->h1->aX->fY):r d5:=(qm F (h9 [F "type.__subclasses__.Exception.0" 378 (aN 116 0),F "type.__subclasses__.Exception.n" 379 (aN 1 0)] 2) (g2 (F "__name__" 165 (bS "kindkeep.types" 411)::(jQ F).take 62) 63) (gr (kN.take 12))++(rN F++(to F))).flatten
noncomputable def wu (U:ow):BT:=nM 12 (Sg (nR U))
noncomputable def Sh (F:a4->h1->aX->fY):r d5:=(qm F (h9 [F "type.__subclasses__.Exception.0" 378 (aN 116 0),F "type.__subclasses__.Exception.n" 379 (aN 1 0)] 2) (g2 (F "__name__" 165 (bS "kindkeep.flow" 587)::(jQ F).take 85) 86) (gr (kN.take 20))++(rN F++(to F++(vc F)))).flatten
noncomputable def wv (U:ow):BT:=nM 12 (Sh (nR U))
noncomputable def Si (F:a4->h1->aX->fY):r d5:=(qm F (h9 [F "type.__subclasses__.Exception.0" 378 (aN 116 0),F "type.__subclasses__.Exception.n" 379 (aN 1 0)] 2) (g2 (F "__name__" 165 (bS "kindkeep.flow" 587)::(jQ F).take 90) 91) (gr (kN.take 25))++(rN F++(to F++(vc F++(x3 F))))).flatten
noncomputable def ww (U:ow):BT:=nM 12 (Si (nR U))
noncomputable def Sj (F:a4->h1->aX->fY):r d5:=(qm F (h9 [F "type.__subclasses__.Exception.0" 378 (aN 116 0),F "type.__subclasses__.Exception.n" 379 (aN 1 0)] 2) (g2 (F "__name__" 165 (bS "kindkeep.flow" 587)::(jQ F).take 107) 108) (gr (kN.take 42))++(rN F++(to F++(vc F++(x3 F++(Bi F)))))).flatten
noncomputable def wx (U:ow):BT:=nM 12 (Sj (nR U))
noncomputable def Sk (F:a4->h1->aX->fY):r d5:=(qm F (h9 [F "type.__subclasses__.Exception.0" 378 (aN 116 0),F "type.__subclasses__.Exception.n" 379 (aN 1 0)] 2) (g2 (F "__name__" 165 (bS "law_xm0475_01" 1102)::(jQ F).take 128) 129) (gr (kN.take 60))++(rN F++(to F++(vc F++(x3 F++(Bi F++(G7 F))))))).flatten
noncomputable def wy (U:ow):BT:=nM 12 (Sk (nR U))
noncomputable def Fw (F:a4->h1->aX->fY):r d5:=(qm F (h9 [F "type.__subclasses__.Exception.0" 378 (aN 116 0),F "type.__subclasses__.Exception.n" 379 (aN 1 0)] 2) (g2 (F "__name__" 165 (bS "law_xm0475_01" 1102)::(jQ F).take 135) 136) (gr (kN.take 67))++(rN F++(to F++(vc F++(x3 F++(Bi F++(G7 F++(qn F)))))))).flatten
noncomputable def wz (U:ow):BT:=nM 12 (Fw (nR U))
theorem UD (m:bZ):(λy=>qj mH b8 m 11 h8 1 710 ⟨(wt m.params),15,{},#[],{},187,y⟩ (mc (iv 0 32) jO fj ⟨0,0,0,0⟩ iG))=λy=>g (.next,⟨(lb m.params),99,{},#[],{},351,y⟩,fj,⟨97,0,97,8⟩):=by kernel_rfl
theorem UN (m:bZ) (y:mX):sg md b8 m 11 h8 1 710 (ka ⟨(wt m.params),15,{},#[],{},187,y⟩) (mc (iv 0 32) jO fj ⟨0,0,0,0⟩ iG)=g (.next,ka ⟨(lb m.params),99,{},#[],{},351,y⟩,fj,⟨97,0,97,8⟩):=tW ((rO _ _ _ _ _ _ _).trans (jq (UD m) y))
theorem UE (m:bZ):(λy=>qj mH b8 m 11 h8 1 798 ⟨(lb m.params),99,{},#[],{},351,y⟩ (mc (iv 32 57) jO fj ⟨97,0,97,8⟩ iG))=λy=>g (.next,⟨(wu m.params),164,{},#[],{},476,y⟩,fj,⟨130,0,130,11⟩):=by kernel_rfl
theorem UO (m:bZ) (y:mX):sg md b8 m 11 h8 1 798 (ka ⟨(lb m.params),99,{},#[],{},351,y⟩) (mc (iv 32 57) jO fj ⟨97,0,97,8⟩ iG)=g (.next,ka ⟨(wu m.params),164,{},#[],{},476,y⟩,fj,⟨130,0,130,11⟩):=tW ((rO _ _ _ _ _ _ _).trans (jq (UE m) y))
theorem UF (m:bZ):(λy=>qj mH b8 m 11 h8 1 659 ⟨(wu m.params),164,{},#[],{},476,y⟩ (mc (iv 57 81) jO fj ⟨130,0,130,11⟩ iG))=λy=>g (.next,⟨(wv m.params),246,{},#[],{},621,y⟩,fj,⟨223,0,223,9⟩):=by kernel_rfl
theorem UP (m:bZ) (y:mX):sg md b8 m 11 h8 1 659 (ka ⟨(wu m.params),164,{},#[],{},476,y⟩) (mc (iv 57 81) jO fj ⟨130,0,130,11⟩ iG)=g (.next,ka ⟨(wv m.params),246,{},#[],{},621,y⟩,fj,⟨223,0,223,9⟩):=tW ((rO _ _ _ _ _ _ _).trans (jq (UF m) y))
theorem UG (m:bZ):(λy=>qj mH b8 m 11 h8 1 885 ⟨(wv m.params),246,{},#[],{},621,y⟩ (mc (iv 81 86) jO fj ⟨223,0,223,9⟩ iG))=λy=>g (.next,⟨(ww m.params),377,{},#[],{},815,y⟩,fj,⟨268,0,307,19⟩):=by kernel_rfl
theorem UQ (m:bZ) (y:mX):sg md b8 m 11 h8 1 885 (ka ⟨(wv m.params),246,{},#[],{},621,y⟩) (mc (iv 81 86) jO fj ⟨223,0,223,9⟩ iG)=g (.next,ka ⟨(ww m.params),377,{},#[],{},815,y⟩,fj,⟨268,0,307,19⟩):=tW ((rO _ _ _ _ _ _ _).trans (jq (UG m) y))
theorem UH (m:bZ):(λy=>qj mH b8 m 11 h8 1 781 ⟨(ww m.params),377,{},#[],{},815,y⟩ (mc (iv 86 103) jO fj ⟨268,0,307,19⟩ iG))=λy=>g (.next,⟨(wx m.params),515,{},#[],{},1028,y⟩,fj,⟨473,0,489,12⟩):=by kernel_rfl
theorem UR (m:bZ) (y:mX):sg md b8 m 11 h8 1 781 (ka ⟨(ww m.params),377,{},#[],{},815,y⟩) (mc (iv 86 103) jO fj ⟨268,0,307,19⟩ iG)=g (.next,ka ⟨(wx m.params),515,{},#[],{},1028,y⟩,fj,⟨473,0,489,12⟩):=tW ((rO _ _ _ _ _ _ _).trans (jq (UH m) y))
theorem UI (m:bZ):(λy=>qj mH b8 m 11 h8 1 901 ⟨(wx m.params),515,{},#[],{},1028,y⟩ (mc (iv 103 125) jO fj ⟨473,0,489,12⟩ iG))=λy=>g (.next,⟨(wy m.params),666,{},#[],{},1277,y⟩,fj,⟨672,0,685,33⟩):=by kernel_rfl
theorem US (m:bZ) (y:mX):sg md b8 m 11 h8 1 901 (ka ⟨(wx m.params),515,{},#[],{},1028,y⟩) (mc (iv 103 125) jO fj ⟨473,0,489,12⟩ iG)=g (.next,ka ⟨(wy m.params),666,{},#[],{},1277,y⟩,fj,⟨672,0,685,33⟩):=tW ((rO _ _ _ _ _ _ _).trans (jq (UI m) y))
theorem UJ (m:bZ):(λy=>qj mH b8 m 11 h8 1 227 ⟨(wy m.params),666,{},#[],{},1277,y⟩ (mc (iv 125 132) jO fj ⟨672,0,685,33⟩ iG))=λy=>g (.next,⟨(wz m.params),711,{},#[],{},1353,y⟩,fj,⟨762,0,792,100⟩):=by kernel_rfl
theorem UT (m:bZ) (y:mX):sg md b8 m 11 h8 1 227 (ka ⟨(wy m.params),666,{},#[],{},1277,y⟩) (mc (iv 125 132) jO fj ⟨672,0,685,33⟩ iG)=g (.next,ka ⟨(wz m.params),711,{},#[],{},1353,y⟩,fj,⟨762,0,792,100⟩):=tW ((rO _ _ _ _ _ _ _).trans (jq (UJ m) y))
noncomputable def xl (U:ow):gf:=⟨⟨ia (nR U)⟩,{}⟩
noncomputable def e1 (U:ow):gf:=⟨⟨Fw (nR U)⟩,{}⟩
end MineH
end
section
open PySem PySem.W PyProof.Rows
set_option maxRecDepth 100000
set_option maxHeartbeats 0
namespace MineH
noncomputable abbrev U6:=@acO
noncomputable abbrev U5:=@acJ
noncomputable abbrev U7:=@acN
noncomputable abbrev U8:=@acL
theorem UM (m:bZ):(λy=>U6 mH b8 m 11 h8 12 ⟨qO m.params,#[],Cx,Cy,y⟩ (I3 b8))=λy=>g (⟨xl m.params,#[],{},187,y⟩,⟨U5 mH fj,fj,⟨0,0,0,0⟩,iG⟩):=by kernel_rfl
theorem UW (m:bZ) (y:mX):topGo md b8 m 11 h8 12 ⟨qO m.params,#[],Cx,Cy,y⟩ (I3 b8)=g (⟨xl m.params,#[],{},187,y⟩,⟨denote md fj,fj,⟨0,0,0,0⟩,iG⟩):=by have T:=jq (UM m) y;rw[acG,acD,Cv];exact T
theorem UK (m:bZ):(λy=>U7 mH b8 m 11 h8 1 1 ⟨xl m.params,#[],{},187,y⟩ (blockOf (Cw b8) jO fj ⟨0,0,0,0⟩ iG))=λy=>g (.next,ka ⟨wt m.params,15,{},#[],{},187,y⟩,fj,⟨0,0,0,0⟩):=by kernel_rfl
theorem UU (m:bZ) (y:mX):sg md b8 m 11 h8 1 1 ⟨xl m.params,#[],{},187,y⟩ (blockOf (Cw b8) jO fj ⟨0,0,0,0⟩ iG)=g (.next,ka ⟨wt m.params,15,{},#[],{},187,y⟩,fj,⟨0,0,0,0⟩):=by have T:=jq (UK m) y;rw[acF,Cv];exact T
theorem UL (m:bZ):(λy=>U8 mH b8 m 11 h8 2 (ka ⟨wz m.params,711,{},#[],{},1353,y⟩) ⟨doneF .next,fj,⟨762,0,792,100⟩,iG⟩)=λy=>g ⟨e1 m.params,#[],{},1353,y⟩:=by kernel_rfl
theorem UV (m:bZ) (y:mX):topRun md b8 m 11 h8 2 (ka ⟨wz m.params,711,{},#[],{},1353,y⟩) ⟨doneF .next,fj,⟨762,0,792,100⟩,iG⟩=g ⟨e1 m.params,#[],{},1353,y⟩:=by have T:=jq (UL m) y;rw[acE,Cv];exact T
theorem Pp:Cw b8=iv 0 32++(iv 32 57++(iv 57 81++(iv 81 86++(iv 86 103++(iv 103 125++(iv 125 132++[])))))):=by kernel_rfl
theorem Xo (m:bZ) (y:mX):topRun md b8 m 11 h8 (12+(1+(710+(798+(659+(885+(781+(901+(227+2))))))))) ⟨qO m.params,#[],Cx,Cy,y⟩ (I3 b8)=g ⟨e1 m.params,#[],{},1353,y⟩:=by refine go_top (UW m y) (piece_block (UU m y) ?_);rw[Pp];refine tV (UN m y) (tV (UO m y) (tV (UP m y) (tV (UQ m y) (tV (UR m y) (tV (US m y) (tV (UT m y) ?_))))));exact UV m y
theorem Ug:∀m:bZ,(fencedOpening md b8 m 10034).map (λC=>(C.heap,C.gens,C.drawn,C.toks))=g (qO m.params,Array.mk [],Cx,Cy):=boot_open (by kernel_rfl) (by decide) (λC=>by kernel_rfl)
theorem WJ:∀m:bZ,((qO m.params).isNs CJ&&(#[]:hX GenState).size==0,(qO m.params).objs.size,(qO m.params).nsMap CJ "__annotations__")=(true,11,h8):=λm=>by kernel_rfl
end MineH
end
section
open PySem PySem.W PyProof.Rows
set_option maxRecDepth 100000
set_option maxHeartbeats 0
namespace MineH
abbrev pi:OpenRow:=v2.row
noncomputable def fN:Program:=view b8 [131]
noncomputable def ln:r a4:=b8.boundNames.filter λC=>!(C==("law":a4))
noncomputable def wA:cc->ci:=λC=>xlAt fN [] C&&recOk (RowW.records pi.toRowW) C
theorem Te (m:bZ):(λy=>(staticsOk (Ja b8.main.body) (qO m.params) (e1 m.params)&&namesBound b8 (e1 m.params)&&gensDone ⟨e1 m.params,#[],{},1353,y⟩&&laidKept (qO m.params) (e1 m.params)))=λy=>true:=by kernel_rfl
theorem Tf (m:bZ):(λy=>aco ((recsOf fN).map (·.name)) (ownsOf fN) [] (⟨e1 m.params,#[],{},1353,y⟩:cc))=λ_=>expectedOf fN:=by kernel_rfl
theorem Tg (m:bZ):(e1 m.params).bltView=bltViewBooted:=by kernel_rfl
theorem Th (m:bZ):(λy=>(e1 m.params).keysOk (Cz fN ln) ((recsOf fN).map (·.name)) ((litsOf fN).map (·.1)) ((clssOf fN (Cz fN ln)).map (·.name))&&(e1 m.params).accountedOkI (Ja b8.main.body)&&(e1 m.params).isNs CJ&&(e1 m.params).isNs Z'&&tablesOk fN (e1 m.params)&&wA ⟨e1 m.params,#[],{},1353,y⟩&&true)=λ_=>true:=by kernel_rfl
theorem Ti (m:bZ):(λy=>tabsOk fN ⟨e1 m.params,#[],{},1353,y⟩)=λ_=>true:=by kernel_rfl
theorem Tj (m:bZ):(λy=>pinSeenD fN (drecsOf fN) ⟨e1 m.params,#[],{},1353,y⟩)=λ_=>pinGoodD (drecsOf fN):=by kernel_rfl
theorem Tk (m:bZ):(λy=>plainSeenE fN (Cz fN ln) ⟨e1 m.params,#[],{},1353,y⟩)=λ_=>plainGoodE fN (Cz fN ln):=by kernel_rfl
theorem Tl (m:bZ):(λy=>plainSeenD fN ln ⟨e1 m.params,#[],{},1353,y⟩)=λ_=>plainGoodD fN ln:=by kernel_rfl
theorem Tm (m:bZ):(λy=>wideSeen fN ⟨e1 m.params,#[],{},1353,y⟩)=λ_=>wideGood fN:=by kernel_rfl
theorem Tn (m:bZ):(λy=>clsSeenW fN ln ⟨e1 m.params,#[],{},1353,y⟩)=λ_=>clsGoodW fN ln:=by kernel_rfl
theorem To (m:bZ) (y:mX):openSeen fN ln (Ja b8.main.body) wA true ⟨e1 m.params,#[],{},1353,y⟩=openGood fN ln:=by unfold openSeen openGood;have M:=jq (Tf m) y;have q:=jq (Th m) y;have a:=jq (Ti m) y;have J:=jq (Tj m) y;have c:=jq (Tk m) y;have d:=jq (Tl m) y;have b:=jq (Tm m) y;have h:=jq (Tn m) y;have D:=Tg m;exact pE M (pE D (pE q (pE a (pE J (pE c (pE d (pE b h)))))))
theorem S8:LeftO b8 fN ln wA (λC=>C.heap.objs.toList) (λm=>(e1 m.params).objs.toList) 10034:=by refine LeftO.of_pieces (M:=12+(1+(710+(798+(659+(885+(781+(901+(227+2))))))))) Ug WJ Xo (by decide) ?_;intro m;funext y;have d:=jq (Te m) y;exact pE d (pE (To m y) rfl)
end MineH
end
section
open PySem PySem.W PyProof.Rows
set_option maxRecDepth 100000
set_option maxHeartbeats 0
namespace MineH
theorem G':OpenLaw.wellSaid v2=true:=by
 rw[acH]
 delta acR
 try dsimp only
 delta acP
 try dsimp only
 delta acQ
 try dsimp only
 delta acK
 try dsimp only
 repeat' (with_reducible refine look_both ?_ ?_)
 all_goals first|(with_reducible refine(?_:PySem.W.Fast.tw8326940854005059898 _ _=true);decide +kernel)|(with_reducible refine(?_:PySem.W.Fast.tw8377067652309620493 _=true);decide +kernel)|kernel_rfl
end MineH
end
section
open PySem PySem.W PyProof.Rows
set_option maxRecDepth 100000
set_option maxHeartbeats 0
namespace MineH
noncomputable def hH:DefRec:=⟨"law",(oe (dl 131)).2.1,(oe (dl 131)).2.2.1,(oe (dl 131)).2.2.2,⟨762,0,792,100⟩⟩
def zn:bZ->gf->Prop:=λm T=>∀y I,(e1 m.params).get? y=g I->T.get? y=g I
theorem R3 (F:ae.objs.toList=fP.objs.toList) (y:dM):ae.get? y=fP.get? y:=by have:ae.objs=fP.objs:=HR.mp F;unfold Heap.get?;rw[this]
theorem Ue:(chainsOk fN&&opensWell pi.toRowW.prog&&(frees pi.toRowW&&pi.toRowW.within.isEmpty))=true:=by kernel_rfl
theorem Uf:pi.toRowW.prog.tablesWhole=true:=by kernel_rfl
theorem VA (a:WalkO fN ln (XL fN []) zn pi.toRowW hH [] λo b=>gX o b):pi.Holds:=by
 refine holds_open (r:=pi) (q:=fN) (loose:=ln) (Xt:=wA) (XP:=XL fN []) (YP:=zn) (d:=hH) (kwd:=[]) S8 (λm C F=>?_) (λm T H W Y y I F=>Y _ _ (W y I F)) (λC F=>xl_of C (dR.mp F).1) XL.keeps (by kernel_rfl) (by kernel_rfl) (by kernel_rfl) (λC F=>recFacts_of (dR.mp F).2) (by first|rfl|fail "open_line: no head takes a call that writes beside a table") ?_ Ue ⟨rfl,rfl,rfl,rfl,rfl,Uf⟩ ?_ a
 ·intro y I T;rw[R3 F];exact T
 ·exact row_said G'
 ·w_witness2
theorem QW (a:WalkO fN ln (XL fN []) zn pi.toRowW hH [] λo d=>gX o d):v2.Holds:=holds_law G' λ_=>VA a
end MineH
end
section
open PySem PySem.W PyProof.Rows PySem.SeqAt
set_option maxRecDepth 100000
namespace Mine.Tactic
@[elab_as_elim] theorem c {a:Sort _} {y P:a} {U:a->Prop} (T:y=P) (Q:U P):U y:=T.symm▸Q
@[elab_as_elim] theorem bp {a:Sort _} {y P:a} {U:a->Prop} (T:P=y) (Q:U P):U y:=T▸Q
@[elab_as_elim] theorem gR {a:Type _} {y P:a} {U:a->Prop} (T:y∈[P]) (Q:U P):U y:=c (e6.mp T) Q
theorem rU {o:om->yf} {P:yf} (T:(lw.map o)[a]? =g P) (Y:∀W,lw[a]? =g W->o W=P->bd):bd:=by rw[dp,e7] at T;exact T.elim λW A=>Y W A.1 A.2
@[elab_as_elim] theorem hK {a b:Type _} {X:r a} {o:a->b} {v:e} {P:b} {U:b->Prop} (T:(X.map o)[v]? =g P) (Y:∀W,X[v]? =g W->U (o W)):U P:=rU T λW A F=>bp F (Y W A)
theorem aQ [Q:vL bd] (T:decide bd=true):bd:=dq T
theorem t (T:a<=d) (b:d<=w):a<=w:=ej T b
theorem E (C:e) (T:a<=d) (b:d+C<=w):a+C<=w:=ej (sb T C) b
theorem d9 (C:e) (T:a<=d+C) (b:d<=w):a<=w+C:=ej T (sb b C)
theorem al (C:e) (T:a<=d):a+C<=d+C:=sb T C
theorem ep (C:e) (T:a+C<=d+C):a<=d:=Nat.le_of_add_le_add_right T
theorem H (C:e) (T:a+C<=d):a<=d:=ej (bX a C) T
theorem bJ (C:e) (T:a<=d):a<=d+C:=ej T (bX d C)
theorem ty (T:mV d w=true):a+d<=a+w:=cZ (qF T) a
theorem eF (T:mV a d=true):a<=d:=qF T
theorem ah (T:a<=d) (b:mV d w=true):a<=w:=ej T (qF b)
theorem dr (T:d<=w) (b:mV a d=true):a<=w:=ej (qF b) T
theorem dz (T:yp d w=true):a+d<a+w:=qD (qF T) a
theorem fm (T:yp 0 d=true):a<a+d:=Ir (qF T)
theorem vv:a<=a- d+d:=Y3 (bv _)
theorem pm (T:d<=a):a- d+d<=a:=px (tN T)
theorem dm (T:¬bd) (b:¬de):¬(bd\/de):=λW=>W.elim T b
theorem abW (T:¬(bd\/de)):¬bd:=λW=>T (ap W)
theorem abX (T:¬(bd\/de)):¬de:=λW=>T (ar W)
theorem qq (T:¬a<d):d<=a:=Y4 T
theorem BA (T:¬a<=d):d<a:=Nat.lt_of_not_le T
theorem aS (T:a+1<=a):bK:=ys a T
theorem fn (T:a<=d) (b:mV a d=false):bK:=Bool.noConfusion (b.symm.trans (Nat.ble_eq_true_of_le T))
theorem ab (T:a=d):a<=d:=px T
theorem D (T:a=d):d<=a:=px T.symm
theorem d4 (T:a<=d) (b:d<=a):a=d:=B1 T b
theorem aD (T:a<d):a≠d:=iX T
theorem a3 (T:d<a):a≠d:=B3 T
theorem fo (T:a<=d):¬d<a:=yt.mpr T
theorem l3 (T:a<d):¬d<=a:=Zb.mpr T
theorem qr (T:a<=d) (b:a≠d):a<d:=Y8 T b
theorem BB (T:a<=d) (b:d≠a):a<d:=Y8 T b.symm
theorem ce (T:R=g ix):bd:=by cases T
theorem fK (T:g ix=R):bd:=by cases T
theorem vu (T:[]=ix::lw):bd:=by cases T
theorem rW (T:ix::lw=[]):bd:=by cases T
theorem em (T:ix∈[]):bd:=by cases T
theorem eY (T:false=true):bd:=by cases T
theorem kW (T:true=false):bd:=by cases T
theorem nK {o:om->ci} {I:a6 om} (T:I.any o=true) (Y:∀W,I=g W->o W=true->bd):bd:=by cases I with|none=>exact eY T|some W=>exact Y W rfl T
theorem D7 {o:om->a6 yf} {A:yf} {I:a6 om} (T:I.bind o=g A) (Y:∀W,I=g W->o W=g A->bd):bd:=by cases I with|none=>exact ce T|some W=>exact Y W rfl T
theorem ei (T:a=d) (F:kA a d=false):bd:=by subst T;rw[Y0] at F;cases F
theorem sH {U:om->Prop} (T:U ix):∀W,W∈[ix]->U W:=λW q=>by rw[e6.mp q];exact T
theorem DW {U:om->Prop} (T:U ix) (b:U yd):∀W,W∈[ix,yd]->U W:=λW q=>by rcases eZ.mp q with F|F;{rw[F];exact T};{rw[e6.mp F];exact b}
theorem xx:ix∈lw++[ix]:=mT _ (fC _)
theorem abz:ix∈lw.concat ix:=by rw[Yv];exact xx
theorem Tw (T:ix∈lw):ix∈lw.concat yd:=by rw[Yv];exact jm _ T
theorem F4 {o:om->yf}:lw.map o++[o ix]=(lw++[ix]).map o:=by rw[eq];rfl
theorem uB (T:a<lw.length):lw[a]? =g (lw[a]?.getD ix):=by rw[cY T];rfl
theorem xd {U:e->om->Prop}:∀(w:e) J,([]:r om)[w]? =g J->U w J:=λ_ _ T=>ce T
theorem nX {U:e->om->Prop} (T:U 0 ix) (Z:∀(w:e) J,lw[w]? =g J->U (w+1) J):∀(w:e) J,(ix::lw)[w]? =g J->U w J:=λw=>qE w (λ_ F=>bm F▸T) Z
theorem uU (T:c7 0):∀C,C<1->c7 C:=λC b=>by rw[Nat.lt_one_iff.mp b];exact T
theorem kk (T:c7 0) (Z:∀C,C<a->c7 (C+1)):∀C,C<a+1->c7 C:=λC=>qE C (λ_=>T) λM b=>Z M (Nat.lt_of_succ_lt_succ b)
theorem My:1+(1+(101+a))+d<1+a+(d+204):=c (jo 101 a)<|c (jo 1 (a+101))<|c (jo 1 (a+101+1))<|c (jo 1 a)<|show a+103+d<a+1+(d+204) from c (hO a 103 d)<|c (hO a 1 (d+204))<|bp (ny a d 204)<|B2 (cZ (aQ rfl) _)
theorem Mw (T:a<Z):a+d+w<d+(w+Z):=c (jo a d)<|c (ny d a w)<|c (jo a w)<|qD (qD T w) d
theorem Mx (T:d<Z+1):a+d+w<a+1+(w+Z):=c (ny a d w)<|c (jo d w)<|c (hO a 1 (w+Z))<|B2 (cZ (cZ (j' T) w) a)
theorem m2 (K:2*a+2<=d) (k:d<=50):a<=24:=Nat.le_of_mul_le_mul_left (ep 2 (t K k):2*a<=2*24) (eF rfl)
theorem qX (K:a<d):d- a=d- (a+1)+1:=by exact c (Nat.sub_add_eq ..)<|(tN (IA K)).symm
theorem JI (K:a<=d):d=a+(d- a):=Eq.symm (B0 K)
theorem pN (K:a<=d):a<=2*d+2:=bJ 2 (t K (pw d (eF rfl)))
theorem qW:a<=2*a+2:=pN (bv a)
theorem ub (K:a<d):2*a<2*d:=Iu K (eF rfl)
theorem Df (K:a<d):2*a+1<2*d:=t (ab (Nat.mul_succ 2 a).symm) (fT 2 K)
theorem LY (K:a<=d):min w a<=2*d+1:=t (qH w a) (bJ 1 (t K (pw d (eF rfl))))
theorem L4 (K:a<=d):a- w<=2*d+2:=t (mW a w) (bJ 2 (t K (pw d (eF rfl))))
theorem L' (K:a<d):2*d- 1<2*d:=Iz (Za (eF rfl) (v1 K)) (eF rfl)
theorem Mf (K:a<=d):2*a<2*d+1:=B2 (fT 2 K)
theorem Mp (K:a<d):2*a<2*d- 1:=gy (fp (2*a):2*a<2*(a+1)- 1) (Zd (fT 2 K) 1)
theorem JJ (K:a<=d):a+a<=2*d+2:=c (IC d) (bJ 2 (jB K K))
theorem JQ (K:a<=d):a<=2*d:=t K (pw d (eF rfl))
theorem aaC (K:a<d):a+1<d+1:=al 1 K
theorem aaE:0<a+1:=fS _ _
theorem Kf:¬(a<a/\a≠0):=λW=>aS W.1
theorem Ko:¬(0<a/\0≠0):=abY.mpr (jq rfl)
theorem Kt (K:a+1<=d):a<=2*d+2:=bJ 2 (t (H 1 K) (pw d (eF rfl)))
theorem y6 (K:a<d):4*a<4*d:=Iu K (eF rfl)
theorem KJ (K:a<d):4*a<4*d- 1:=gy (bX (4*a+1) 2:4*a<4*(a+1)- 1) (Zd (fT 4 K) 1)
theorem KS (K:a<d):4*d- 1<4*d:=Iz (Za (eF rfl) (v1 K)) (eF rfl)
theorem K1 (K:a=d+1\/a=d+2):¬(a- d=0):=K.elim (λT=>by exact c T<|c (pv ..)<|B4) λT=>by exact c T<|c (pv ..)<|Nat.succ_ne_zero 1
theorem aaT:a<a+(d+2):=fm rfl
theorem K9 (K:a<d):w+1+a<w+(d+2):=c (hO w 1 a)<|al 2 (cZ (H 1 K) w)
theorem aa2 (K:a+1<=d):a+1<=2*d+2:=pN K
theorem Lm:a+1+d<a+(d+2):=c (hO a 1 d) (fp _)
theorem C':¬(a+(d+1)=a):=by lia-abstractProof
theorem Lt (K:a<d):w+(a+1)<w+1+d:=c (hO w 1 d) (al 1 (cZ K w))
theorem LD:a+(d+1)- (a+1)=d:=(Nat.succ_sub_succ (a+d) a).trans (pv ..)
theorem LK:¬(a+(d+1)<a+1+d):=by lia-abstractProof
theorem abf (K:a<=d):a<2*d+3:=bJ 2 (al 1 (t K (pw d (eF rfl))))
theorem LL (K:a<=d) (k:2*d+2<=w):d+(a+2)<=w:=t (d:=d+d+2) (al 2 (cZ K d)) (bp (IC d) k)
theorem LM:a+1+d- a=d+1:=by exact c (ny ..) (c (pv ..) (c (jo ..) rfl))
theorem LN (K:2<=a):((a:e):B)- (1:B)=((a- 1:e):B):=(tG (Nat.le_of_succ_le K)).symm
theorem LO (K:(a+d)%(w- 1)<w- 1):1+(a+d)%(w- 1)<w:=X9 K
theorem LP (K:a<d- 1):(0:B)<((d- 1:e):B):=vQ.mpr (v1 K)
theorem LQ:0<1+(a+d)%(w- 1):=bX _ _
theorem LR (K:((a:e):B)<=((d:e):B)):a<=d:=nx.mp K
theorem LS (K:a<=60) (k:d<=100+100*w) (p:w<=a):d<100000:=ah (al 1 (t k (cZ (fT 100 (t p K)) 100))) rfl
theorem LT (K:a<=60) (k:d<=a) (p:w+1<=100+100*d):w+1<100000:=ah (al 1 (t p (cZ (fT 100 (t k K)) 100))) rfl
theorem De (K:a=d+1+101*(w- Z)):d+101*(w- Z)<a:=by exact c K<|Ip (fp d) _
theorem LU (K:a<=60) (k:d+1<=100+100*w) (p:Z<=99) (l:w+1<=a):d+Z<1048576:=ah (al 1 (jB (H 1 (t k (cZ (fT 100 (t (H 1 l) K)) 100))) p)) rfl
theorem Dg (K:a=d+1+101*(w- Z)) (k:bA<=99) (p:Z+1<=w):d+bA+101*(w- (Z+1))<a:=by exact c K<|c (qX p)<|Mx (ah (al 1 k) rfl)
theorem LV (K:a+1<=100+100*d) (k:w<=99):a+w<=100+100*(d+1):=t (jB (H 1 K) k) (bX (100+100*d+99) 1)
theorem abg (K:a<2) (k:d=min a 2):d=a:=k.trans (vZ (H 1 K))
theorem abh (K:a<=2):((d+2:e):B)- ((a:e):B)=((d+2- a:e):B):=(tG (ej K (fS 2 d))).symm
theorem Dh (K:((a:e):B)=(2:B)):a=2:=Eq.symm ((λ{M C}=>iW.mp) (id (Eq.symm K)))
theorem uc:((a+1:e):B)- (1:B)=((a:e):B):=Yr.mpr rfl
theorem y9 (K:2*a+2<=d) (k:d<=50):a<1000:=ah (al 1 (t (t (pw a (eF rfl)) (H 2 K)) k)) rfl
theorem LW (K:2*a+2<=d) (k:d<=50) (p:w<=a):w<64:=ah (al 1 (t p (t (t (pw a (eF rfl)) (H 2 K)) k))) rfl
theorem LX (K:2*a+2<=d) (k:d<=50) (p:w<=a) (l:Z=w):Z<1000:=ah (al 1 (t (t (ab l) p) (t (t (pw a (eF rfl)) (H 2 K)) k))) rfl
theorem LZ (K:2*a+2<=d) (k:d<=50) (p:w<=a):w<200:=ah (al 1 (t p (t (t (pw a (eF rfl)) (H 2 K)) k))) rfl
theorem Di (K:2*a+2<=d) (k:d<=50) (p:w<=a) (l:Z=a+1) (v:bA=db) (P:db<w):Z+bA<1000:=ah (al 1 (jB (t (ab l) (al 1 (m2 K k))) (t (ab v) (t (H 1 P) (t p (m2 K k)))))) rfl
theorem L0 (K:2*a+2<=d) (k:d<=50) (p:w<=a):min Z w+1<1048576:=ah (al 2 (t (qH _ _) (t p (m2 K k)))) rfl
theorem L1 (K:2*a+2<=d) (k:d<=50) (p:w<=a) (l:Z=a+1) (v:bA=db) (P:db<w):Z+bA<200:=ah (al 1 (jB (t (ab l) (al 1 (m2 K k))) (t (ab v) (t (H 1 P) (t p (m2 K k)))))) rfl
theorem Dj (K:a<d) (k:w=min a d):w=a:=k.trans (vZ (H 1 K))
theorem L2 (K:2*a+2<=d) (k:d<=50) (p:w<=a) (l:Z=w) (v:bA<w):a+1+bA+(Z- (bA+1)+1)<1000:=by exact c l<|bp (qX v)<|c (ny ..)<|c (B0 (iC v))<|ah (al 1 (jB (al 1 (m2 K k)) (t p (m2 K k)))) rfl
theorem Dk (K:2*a+2<=d) (k:d<=50) (p:w<=a) (l:Z=a+1+w):Z<1000:=l▸ah (al 1 (jB (al 1 (m2 K k)) (t p (m2 K k)))) rfl
theorem abi (K:a<100):1+a<200:=ah (al 1 (cZ (H 1 K) 1)) rfl
theorem Dl (K:2*a+2<=d) (k:d<=50) (p:w<=a) (l:Z=a+1+w+1):Z<1000:=l▸ah (al 2 (jB (al 1 (m2 K k)) (t p (m2 K k)))) rfl
theorem L3:((a+1+d+1:e):B)- (1:B)=((a+1+d:e):B):=Yr.mpr rfl
theorem y' (K:a<d):d- 1- a<d:=Nat.sub_one_sub_lt_of_lt K
theorem Dm:a- (d+1)=a- 1- d:=c (jo d 1) (Nat.sub_sub a 1 d).symm
theorem L5 (K:1<=a):((a:e):B)- (1:B)=((a- 1:e):B):=(tG K).symm
theorem wn (K:((a:e):B)=((d:e):B)):a=d:=iW.mp K
theorem L6 (K:((a:e):B)=(5:B)):a=5:=Eq.symm ((λ{M C}=>iW.mp) (id (Eq.symm K)))
theorem Dn (K:0<a):(0:B)<((a:e):B):=vQ.mpr K
theorem L7 (K:22<=a) (k:((d:e):B)<(11:B)):2*d+2<=a:=t (al 2 (fT 2 (j' (gV.mp k)))) K
theorem L8 (K:a%d<d):(0:B)<((d:e):B):=vQ.mpr (v1 K)
theorem L9 (K:a%(d- 1)<d- 1):(0:B)<((d- 1:e):B):=vQ.mpr (v1 K)
theorem Ma (K:a%(d- 1)<d- 1) (k:w=1+a%(d- 1)):w<d:=k▸X9 K
theorem Mb (K:a<1000):((a:e):B)<((1048576:e):B):=gV.mpr (nz K (eF rfl))
theorem Mc:kw (((a:e):B)- (1:B))=a- 1:=H8 a 1
theorem Do (K:a<d):(0:B)<((d:e):B):=vQ.mpr (v1 K)
theorem pO:(0:B)<=((a:e):B):=pt a
theorem za:(1:B)+((a:e):B)=((1+a:e):B):=Yk.mp rfl
theorem Dp (K:a<d+1):((d:e):B)- ((a:e):B)=((d- a:e):B):=(tG (j' K)).symm
theorem Md (K:0<a):¬(((a:e):B)=(0:B)):=Int.natCast_ne_zero_iff_pos.mpr K
theorem Dq (K:a≠d) (k:a≠w):¬(a=d\/a=w):=not_or_intro K k
theorem Me (K:a≠d) (k:a≠w) (p:Z≠d) (l:Z≠w):¬(a=d\/a=w)/\¬(Z=d\/Z=w):=⟨dm K k,dm p l⟩
theorem Mg (K:a<3) (k:d<1+a):d<=2:=j' (t k (cZ (j' K) 1))
theorem Mh (K:a<3) (k:d<1+a):22+3*d<=45:=ah (cZ (fT 3 (t (H 1 k) (cZ (H 1 K) 1))) 22) rfl
theorem Mi (K:0<a):2*(6*a- 2)+2=6*(a*2)- 2:=bp (Nat.mul_assoc 6 a 2)<|c (Nat.mul_comm (6*a) 2)<|(Nat.exists_eq_add_of_le' (t (eF rfl) (fT 6 K):2<=6*a)).elim λb F=>c F rfl
theorem Mj (K:a<3):1+a<=3:=Nat.one_add_le_iff.mpr K
theorem Mk (K:a<3) (k:d<=22+3*(1+a)):d<1000:=ah (al 1 (t k (cZ (fT 3 (cZ (H 1 K) 1)) 22))) rfl
theorem Ml (K:a<3) (k:d<=22+3*(1+a)):d<=60:=ah (t k (cZ (fT 3 (cZ (H 1 K) 1)) 22)) rfl
theorem Mm (K:a<3):22+3*(1+a)<=40:=ah (cZ (fT 3 (cZ (H 1 K) 1)) 22) rfl
theorem Mn (K:a=d\/a=d+9\/a=d+14\/a=w\/a=Z) (k:w<d) (p:Z<d) (l:d+15<=bA) (v:bA<=a):bK:=K.elim (λJ=>aS (H 14 (t (t l v) (ab J)))) λJ=>J.elim (λq=>aS (H 5 (ep 9 (t (t l v) (ab q))))) λq=>q.elim (λc=>aS (ep 14 (t (t l v) (ab c)))) λc=>c.elim (λh=>aS (H 15 (t (t (E 15 k l) v) (ab h)))) λh=>aS (H 15 (E 1 (t (t l v) (ab h)) p))
theorem Mo (K:a=d\/a=d+9\/a=d+14\/a=w\/a=Z) (k:a<d) (p:a≠w) (l:a≠Z):bK:=K.elim (λJ=>aS (t k (D J))) λJ=>J.elim (λq=>aS (H 9 (E 9 k (D q)))) λq=>q.elim (λc=>aS (H 14 (E 14 k (D c)))) λc=>c.elim (λh=>p (d4 (ab h) (D h))) λh=>l (d4 (ab h) (D h))
theorem Dr (K:((a:e):B)=(0:B)):a=0:=Yn.mp K
theorem Ds (K:¬(((a:e):B)=(0:B))):a≠0:=Yo.mp K
theorem wo (K:¬(((a:e):B)=(1:B))):a≠1:=Ne.symm (Ne.intro λb=>K (cS k8 (id (Eq.symm b))))
theorem Dt (K:¬(((a:e):B)=(4:B))):a≠4:=Ne.intro λb=>K (cS k8 b)
theorem Mq (K:a<40000) (k:d<1000):min w d+a<100000:=kB (jB (qH w d) (bv a)) (gy (YZ k K) (eF rfl))
theorem wp (K:((a:e):B)=(3:B)):a=3:=wn K
theorem Mr (K:¬(((a:e):B)=(3:B))):a≠3:=Ne.intro λb=>K (cS k8 b)
theorem Ms:1+(a+d)=a+1+d:=by lia-abstractProof
theorem Mt (K:a<=d):a+1<=101+d:=c (jo 101 d)<|jB K (eF rfl)
theorem abj (K:a<=d):a+1<=1+d:=Nat.sub_le_iff_le_add'.mp K
theorem Mu (K:a<100) (k:d<=a) (p:w<=1+204*d) (l:Z<=w):Z<1048576:=ah (al 1 (t l (t p (cZ (fT 204 (t k (H 1 K))) 1)))) rfl
theorem CW (K:a=d+w+204*(Z- bA)) (k:bA+1<=Z) (p:db=bA+1):w+204*(Z- db)<a:=by exact c K<|c p<|c (qX k)<|kB (sb (fS w d) _) (qD (Ir (eF rfl)) _)
theorem sw (K:((a:e):B)=(1:B)):a=1:=wn K
theorem CX (K:a+d<=1+204*w) (k:Z=w+1):d<=1+204*Z:=k▸t (t (fS d a) K) (cZ (fT 204 (ge w)) 1)
theorem JK (K:a+1<=d) (k:w<100) (p:Z=1+bA+204*(d- a)):w+(1+bA)+204*(d- (a+1))<Z:=by exact c p<|c (qX K)<|Mw (nz k (eF rfl))
theorem JL (K:a<100) (k:d<=204*w):a+(1+d)<=1+204*(w+1):=c (Nat.add_left_comm a 1 d)<|cZ (t (ab (jo a d)) (jB k (ah (H 1 K) rfl))) 1
theorem JM (K:a+1<=d) (k:w=1+Z+204*(d- a)):1+(1+(101+Z))+204*(d- (a+1))<w:=c k<|c (qX K) My
theorem JN (K:a<=204*d):1+(101+a)<=204*(d+1):=bp (ny 1 101 a)<|c (jo (1+101) a)<|jB (b:=204*d) (d:=204) K (eF rfl)
theorem JO (K:a<100) (k:d<=a) (p:w=101+Z+204*(bA- db)):d+Z+204*(bA- db)<w:=p▸Ip (Ip (t (al 1 k) (bJ 1 K)) Z) _
theorem aaB (K:am=(2:B)):(2:B)<=am:=Yj (id (Eq.symm K))
theorem JP (K:am=((4+a:e):B)):(2:B)<=am:=c K (nx.mpr (dr (bX 4 a) rfl))
theorem JR (K:am=((a:e):B)) (k:12<=a):(2:B)<=am:=c K (nx.mpr (dr k rfl))
theorem CY (K:a=3) (k:¬(((a:e):B)=(3:B))):bK:=(iff_false_intro k).mp (cS k8 K)
theorem JS (K:((a:e):B)=(2:B)\/((a:e):B)=(3:B)) (k:a=4):bK:=K.elim (λW=>ei (k.symm.trans (iW.mp W)) rfl) λW=>ei (k.symm.trans (iW.mp W)) rfl
theorem JT (K:(2:B)<=am):¬(am=(-(1:B))):=λF=>absurd (bp F K:(2:B)<= -1) (aQ rfl)
theorem JU (K:¬(((a:e):B)=(2:B))) (k:¬(((a:e):B)=(3:B))) (p:a≠0) (l:a≠1):4<=a:=BB (BB (BB (tM p) l) λF=>K (cS k8 F)) λF=>k (cS k8 F)
theorem JV (K:a<=39) (k:d<a):¬((40:B)<=((d+1:e):B)):=λT=>fn (t (nx.mp T) (t k K)) rfl
theorem JW (K:a+d=40) (k:a≠0):a- 1+(d+1)=40:=by exact bp (K ..) (c (jo d ..) (bp (ny ..) (c (tN (tM k) ..) rfl)))
theorem JX (K:a<d) (k:w<d) (p:Z=d+12\/bA<=Z) (l:d<db) (v:db<bA) (P:db≠d+9) (b:db≠d+14) (i:db≠d+12) (c:(db=d\/db=d+9\/db=d+14\/db=a\/db=w)\/db=Z):bK:=c.elim (λW=>W.elim (λW=>aS (t l (ab W))) λW=>W.elim P λW=>W.elim b λW=>W.elim (λW=>aS (t (t K (H 1 l)) (ab W))) λW=>aS (t (t k (H 1 l)) (ab W))) λW=>p.elim (λA=>i (W.trans A)) λA=>aS (t v (t A (D W)))
theorem JY (K:a<d) (k:w<d) (p:d+17<Z) (l:Z<bA) (v:db=d+12\/bA<=db) (P:db=d\/db=d+9\/db=d+14\/db=a\/db=w):bK:=v.elim (λbA=>P.elim (λW=>aS (H 11 (t (D bA) (ab W)))) λW=>W.elim (λW=>aS (H 2 (ep 9 (t (D bA) (ab W))))) λW=>W.elim (λW=>aS (H 1 (ep 12 (t (D W) (ab bA))))) λW=>W.elim (λW=>aS (H 12 (E 1 (t (D bA) (ab W)) K))) λW=>aS (H 12 (E 1 (t (D bA) (ab W)) k))) λb=>by have Y:d+18<=db:=t (t p (H 1 l)) b;exact P.elim (λW=>aS (H 17 (t Y (ab W)))) λW=>W.elim (λW=>aS (H 8 (ep 9 (t Y (ab W))))) λW=>W.elim (λW=>aS (H 3 (ep 14 (t Y (ab W))))) λW=>W.elim (λW=>aS (H 18 (E 1 (t Y (ab W)) K))) λW=>aS (H 18 (E 1 (t Y (ab W)) k))
theorem JZ (K:¬(((63:e):B)<((a:e):B))):a<=63:=Y4 λT=>K (gV.mpr T)
theorem sx:¬(((a:e):B)<(0:B)):=Int.not_ofNat_neg a
theorem J0 (K:((a:e):B)<am):¬(am<=((a:e):B)):=H4.mpr K
theorem J1 (K:a≠0):((a:e):B)≠(0:B):=Yo.mpr K
theorem J2:(-(((a:e):B)+(1:B)))<(0:B):=Int.sign_eq_neg_one_iff_neg.mp rfl
theorem J3 (K:a<d):(0:B)<=(-(((a:e):B)+(1:B)))+((d:e):B)/\(-(((a:e):B)+(1:B)))+((d:e):B)<((d:e):B):=⟨c (yi ..) (BI.mpr (nx.mpr K)),c (yi ..) (Int.sub_lt_self _ (gV.mpr (eH a)))⟩
theorem J4:kw ((-(((a:e):B)+(1:B)))+((d:e):B))=d- (a+1):=by exact c (yi ..)<|bp (Int.sub_eq_add_neg ..)<|H8 d (a+1)
theorem J5:¬((1:B)<(0:B)):=Std.Rxo.size_eq_zero_iff_not_le.mp rfl
theorem J6:min ((a:e):B) ((d:e):B)=((min a d:e):B):=(Y6 a d).elim (λT=>(Int.min_eq_left (nx.mpr T)).trans (cS k8 (vZ T).symm)) λT=>(Int.min_eq_right (nx.mpr T)).trans (cS k8 (Y9 T).symm)
theorem J7:(0:B)<(1:B):=Int.one_pos
theorem aaD:kw (((a:e):B)- (0:B)- (1:B)+(1:B))=a:=by refine c (Yq ..) ?_;rfl
theorem J8:kw ((0:B)+((a:e):B)*(1:B))=a:=by refine c (BJ ..) (c (Int.mul_one ..) ?_);rfl
theorem CZ (K:a<1024) (k:d<1024) (p:w<=Z*2048):d+a+w<=(Z+1)*2048:=c (Zh Z 2048)<|c (jo (Z*2048) 2048)<|jB (b:=1024+1024) (jB (H 1 k) (H 1 K)) p
theorem J9 (K:a<1024) (k:d<1024):w+d+a+Z*2048<=w+(Z+1)*2048:=c (ny w d a)<|c (ny w (d+a) (Z*2048))<|cZ (CZ K k (bv _)) w
theorem C0 (K:((a:e):B)<((d:e):B)):a<d:=gV.mp K
theorem J' (K:am=bx- gS\/bx<=gS/\am<=(0:B)) (k:gS<bx):(0:B)<am:=K.elim (λF=>c F (Yt k)) λW=>absurd W.1 (H4.mpr k)
theorem Ka (K:am=bx- gS\/bx<=gS/\am<=(0:B)):am- (1:B)=bx- (gS+(1:B))\/bx<=gS+(1:B)/\am- (1:B)<=(0:B):=K.elim (λF=>ap (c F (Int.sub_sub ..))) λW=>ar ⟨r5 W.1 (Int.le_add_of_nonneg_right (aQ rfl)),r5 (H5 am (aQ rfl)) W.2⟩
theorem Kb (K:am=bx- gS\/bx<=gS/\am<=(0:B)) (k:¬(gS<bx)):am<=(0:B):=K.elim (λF=>c F (Ys (yj.mp k))) And.right
theorem Kc (K:am<=bx) (k:bx<=gS):am<=gS:=r5 K k
theorem Kd:am<=bx\/bx<=am:=Int.le_total am bx
theorem Ke (K:a+(d+1)<w) (k:Z<=a+1):Z+d<w:=t (al 1 (sb k d)) (c (hO a 1 d) K)
theorem Kg (K:a+3*d+3<=w) (k:Z<=1):a+Z+3*d+1<=w:=c (hO a Z (3*d))<|t (al 1 (cZ k _)) (H 1 K)
theorem Kh (K:a+5*d+14<w):a+1+5*d+12<w:=c (hO a 1 (5*d)) (H 1 K)
theorem Ki (K:a+3*(d+1)+1<=w):a+1+3*d+3<=w:=c (hO a 1 (3*d)) K
theorem Kj (K:a+5*(d+1)+12<w):a+3+5*d+14<w:=c (hO a 3 (5*d)) K
theorem Kk (K:a<=d):a+(w- a)- (d+1)=w- (d+1):=(Y6 a w).elim (λT=>by exact c (B0 T) rfl) λT=>by exact c (B7 T) (c (yo ..) (c (B7 (bJ 1 K)) (c (B7 (t T (bJ 1 K))) rfl)))
theorem Kl (K:a<d):a<w+(d- w):=gy K (by exact c (jo ..)<|Nat.sub_le_iff_le_add.mp (bv _))
theorem C1:¬((0:B)<=(-((a:e):B))- (1:B)):=by lia-abstractProof
theorem Km:(-((-am)- (1:B)))- (1:B)=am:=by lia-abstractProof
theorem Kn (K:am<(64:B)):am<=(1000000:B):=r5 (vP K) (aQ rfl)
theorem wk (K:a+(d+1)=w):a<w:=K▸cZ (fS 1 d) a
theorem wl (K:a+(d+1)=w):a+1+d=w:=(hO a 1 d).trans K
theorem C2:0+a=a:=tP a
theorem C3 (K:a<kw (am- bx)):bx+((a:e):B)<am:=Int.add_lt_of_lt_sub_left (H3.mp K)
theorem Kp:am+((a:e):B)+(1:B)=am+((a+1:e):B):=Int.add_assoc am a 1
theorem Kq:¬(am+((kw (bx- am):e):B)<bx):=yj.mpr (Int.le_add_of_sub_left_le (Yp _))
theorem aaF (K:a<d):d- a=d- 1- a+1:=by exact c (Ze ..)<|(tN (IA K)).symm
theorem aaG (K:a<=d) (k:a=w- 1):w<=d+1:=d9 1 (d9 1 vv (D k)) K
theorem aaH (K:a<=d) (k:a=w):w<=d+1:=bJ 1 (t (D k) K)
theorem Kr (K:a<kw am):((a:e):B)<am:=H3.mp K
theorem Ks:¬(((kw am:e):B)<am):=yj.mpr (Yp am)
theorem Ku (K:(0:B)<am):am≠(0:B):=Ne.symm (Int.ne_of_lt K)
theorem Kv (K:(0:B)<=am%bx) (k:am%bx<bx):((kw (am%bx):e):B)<bx:=c (H7 K) k
theorem Kw:((a+1+d:e):B)=((a+(d+1):e):B):=cS k8 (hO a 1 d)
theorem Kx (K:a<=64):16+a<=80:=cZ K 16
theorem C4 (K:((4+a:e):B)=((4+d:e):B)):a=d:=BZ (Ym K)
theorem Ky (K:am=(2:B)) (k:bx=(2:B)):am=bx:=Io (id (Eq.symm K)) (id (Eq.symm k)) rfl
theorem Kz (K:am=((4+a:e):B)) (k:bx=((4+d:e):B)) (p:a=d):am=bx:=Io (id (Eq.symm K)) (id (Eq.symm k)) (cS (HAdd.hAdd 4) p)
theorem KA (K:am=((a:e):B)) (k:bx=((d:e):B)) (p:a=d):am=bx:=Io (id (Eq.symm K)) (id (Eq.symm k)) p
theorem aaI (K:a=0) (k:d=0):a=d:=d4 (t (ab K) (D k)) (t (ab k) (D K))
theorem KB (K:am=(2:B)) (k:am=((4+a:e):B)):d=w:=(fn (t (bX 4 a) (D (iW.mp (K.symm.trans k)))) rfl).elim
theorem KC (K:am=(2:B)) (k:am=((a:e):B)) (p:12<=a):d=w:=(fn (t p (D (iW.mp (K.symm.trans k)))) rfl).elim
theorem aaJ (K:am=((4+a:e):B)) (k:am=(2:B)):d=w:=KB k K
theorem KD (K:a<6) (k:am=((4+a:e):B)) (p:am=((d:e):B)) (l:12<=d):w=Z:=(fn (t l (t (D (iW.mp (k.symm.trans p))) (cZ (j' K) 4))) rfl).elim
theorem aaK (K:am=((a:e):B)) (k:12<=a) (p:am=(2:B)):d=w:=KC p K k
theorem aaL (K:am=((a:e):B)) (k:12<=a) (p:d<6) (l:am=((4+d:e):B)):w=Z:=KD p l K k
theorem KE (K:am=((4+a:e):B)) (k:am=((4+d:e):B)):a=d:=BZ (Ym (K.symm.trans k))
theorem KF (K:am=((a:e):B)) (k:am=((d:e):B)):a=d:=iW.mp (K.symm.trans k)
theorem KG:¬(((4+a:e):B)=(2:B)):=λT=>fn (t (bX 4 a) (ab (iW.mp T))) rfl
theorem KH (K:12<=a):¬(((a:e):B)=(2:B)):=λT=>fn (t K (ab (iW.mp T))) rfl
theorem KI (K:am<(4:B)\/(9:B)<am) (k:a<6) (p:((4+a:e):B)=am):bK:=K.elim (λW=>fo (bX 4 a) (gV.mp (c p W))) λW=>fo (cZ (j' k) 4) (gV.mp (c p W))
theorem KK:¬(((a:e):B)+(1:B)+(1:B)=(1:B)):=not_eq_of_beq_eq_false rfl
theorem KL (K:a+2<=6):((a:e):B)+(1:B)+(1:B)<=(400:B):=nx.mpr (ah K rfl)
theorem KM (K:a<6):((a:e):B)<(64:B):=gV.mpr (nz K (eF rfl))
theorem KN (K:a<6):¬(((4+a:e):B)<(4:B))/\¬((9:B)<((4+a:e):B)):=⟨λW=>fo (bX 4 a) (gV.mp W),λW=>fo (cZ (j' K) 4) (gV.mp W)⟩
theorem KO:kw (((4+a:e):B)- (4:B))=a:=H8 (4+a) 4|>.trans (pv ..)
theorem KP:(0:B)<=((4+a:e):B)- (4:B):=BI.mpr (nx.mpr (bX 4 a))
theorem KQ (K:a<6):((4+a:e):B)- (4:B)<(64:B):=H1 (H5 _ (aQ rfl)) (gV.mpr (ah (qD K 4) rfl))
theorem aaM (K:a<=d):a<=d+1:=bJ 1 K
theorem aaN (K:a<=d):a+1<=d+1:=al 1 K
theorem KR (K:(0:B)<=((a:e):B)- (1:B)):a=a- 1+1:=(tN (nx.mp (Int.le_of_sub_nonneg K))).symm
theorem KT (K:¬((0:B)<=((a:e):B)- (1:B))):a=0:=Y2 λT=>K (BI.mpr (nx.mpr T))
theorem aaO (K:a<d):d+1<=a->w=Z+a:=λT=>(aS (t K (H 1 T))).elim
theorem aaP (K:¬(a=d)) (k:¬(a<d)):a<d+1->w+a=Z:=λT=>(K (d4 (j' T) (qq k))).elim
theorem KU (K:a<100) (k:d=0):d+2*a<=1000:=ah (jB (ab k) (fT 2 (H 1 K))) rfl
theorem KV (K:a=1) (k:d=1) (p:w=a+d) (l:Z=w+bA) (v:bA+2*(db+(0+1))<=1000):Z+2*db<=1000:=c l<|c p<|c K<|c k<|c (jo (1+1) bA)<|c (hO bA (1+1) (2*db)) v
theorem KW (K:a<990):1+100*a<=99900:=ah (cZ (fT 100 (H 1 K)) 1) rfl
theorem KX (K:a+1+100*(d+1)<=99900):a+100*d<=99900:=t (jB (ge a) (fT 100 (ge d))) K
theorem KY (K:a+1+100*(d+1)<=99900):a+1+100*d<=99900:=t (cZ (fT 100 (ge d)) _) K
theorem KZ (K:a<100) (k:d+1+100*(w+1)<=99900) (p:Z<=a):Z+d+100*w<=99900:=c (ny Z d (100*w))<|c (jo Z (d+100*w))<|t (cZ (t p (H 1 K)) _) (t (al 100 (sb (ge d) (100*w))) k)
theorem K0 (K:a=d+1) (k:d<=2) (p:w=Z+1) (l:Z<=2):a+(w+1)+1+1<=15:=c K<|c p<|ah (al 1 (al 1 (jB (al 1 k) (al 1 (al 1 l))))) rfl
theorem K2 (K:a≠d):¬(w+a=w+d):=λF=>K (BZ F)
theorem K3 (K:1<=a):a- 1- d<a:=kB (mW _ _) (Iz K (eF rfl))
theorem K4 (K:((a:e):B)<(5:B)):a<5:=gV.mp K
theorem C5 (K:(0:B)+((a:e):B)<((d:e):B)):a<d:=gV.mp (bp (BJ (a:B)) K)
theorem K5:(1:B)+((a:e):B)=((a+1:e):B):=yi 1 a
theorem K6 (K:(1:B)+((a:e):B)<((d:e):B)+(1:B)):a<d:=gV.mp (Int.lt_of_add_lt_add_right (bp (yi 1 (a:B)) K))
theorem K7:kw (((a:e):B)+(1:B)- (1:B))=a:=by refine c (Int.add_sub_cancel ..) ?_;rfl
theorem aaQ:4<=4:=eF rfl
theorem aaR:2<=4:=eF rfl
theorem aaS:2<=2:=eF rfl
theorem aaU (K:a<2):2+(1+a)<=4:=cZ (cZ (j' K) 1) 2
theorem aaV:a<=4->a<1048576:=λT=>ah (al 1 T) rfl
theorem aaW (K:a<2) (k:d<1+a):w<=2+d->w<1048576:=λT=>ah (al 1 (t T (cZ (t (H 1 k) (cZ (H 1 K) 1)) 2))) rfl
theorem aaX:a<=2->a<1048576:=λT=>ah (al 1 T) rfl
theorem aaY (K:a<2) (k:d<1+a):2+d+1<=4:=cZ (t k (cZ (j' K) 1)) 2
theorem aaZ:2+a+1<=2+(a+1):=cZ (bv _) _
theorem aa0:2+1<=4:=eF rfl
theorem aa1:2+1<=2+(a+1):=ty rfl
theorem K8:(4:B)+((a:e):B)=((4+a:e):B):=Yk.mp rfl
theorem y7 (K:a<4):4+a<=7:=cZ (j' K) 4
theorem C6 (K:a=d+3) (k:w=a) (p:Z=w+1) (l:bA=db) (v:Z<=db) (P:hi<d) (A:hi=bA):hi=hy:=(aS (t P (H 3 (t (t (D K) (t (D k) (t (H 1 (D p)) v))) (t (D l) (D A)))))).elim
theorem K' (K:a<d) (k:w<65):a*65+w<d*65:=gy (qD k (a*65)) (t (ab (Zh a 65).symm) (It 65 K))
theorem La (K:a<=8) (k:d<=a*65):d<=520:=t k (It 65 K)
theorem Lb (K:a+0<=8*(d- w)) (k:w<=d):a+(8- 0)<=8*(d+1- w):=by exact c (Nat.sub_add_comm k)<|al 8 K
theorem Lc (K:a+(8- d)<=8*(w- Z)):a+(8- (d+1))<=8*(w- Z):=t (cZ (Iy (ge d) 8) a) K
theorem Ld (K:a+(8- d)<=8*(w- Z)) (k:w<=520):a<1048576:=ah (al 1 (t (t (bX _ _) K) (fT 8 (t (mW _ _) k)))) rfl
theorem Le (K:a<=8) (k:d<a) (p:w+(8- d)<=8*(Z- bA)):w+1+(8- (d+1))<=8*(Z- bA):=by refine c (hO ..) ?_;rw[qX (t k K)] at p;exact p
theorem Lf (K:a<=520) (k:d+0<=8*(a- w)):d<=5000:=ah (t k (fT 8 (t (mW _ _) K))) rfl
theorem Lg (K:a<=d):2*(520- d)+0<2*(520- a)+1:=B2 (fT 2 (Iy K 520))
theorem Lh (K:a<=520) (k:d+0<=8*(a- w)) (p:d≠0):2*(520- a)+1<2*(520- w)+1:=by have T:w<a:=Nat.lt_of_sub_ne_zero λF=>p (Nat.le_zero.mp (by rw[F] at k;exact k));exact al 1 (Iu (Nat.sub_lt_sub_left (t T K) T) (eF rfl))
theorem C7 (K:((a:e):B)<(64:B)):a<64:=gV.mp K
theorem Li (K:¬(((a:e):B)<(64:B))):¬(a<64):=λT=>K (gV.mpr T)
theorem Lj (K:a<64):((a:e):B)<(64:B):=H3.mp K
theorem y8 (K:((a:e):B)=(7:B)):a=7:=Eq.symm ((λ{M C}=>iW.mp) (id (Eq.symm K)))
theorem Lk:((a:e):B)=(2:B)↔a=2:=iW (n:=2)
theorem C8 (K:¬(((a:e):B)=(7:B))):a≠7:=Ne.intro λb=>K (cS k8 b)
theorem wm (K:((a:e):B)=(8:B)):a=8:=Eq.symm ((λ{M C}=>iW.mp) (id (Eq.symm K)))
theorem Ll:((a:e):B)=(8:B)↔a=8:=iW (n:=8)
theorem aa3 (K:0=a):a<64:=ah (al 1 (D K)) rfl
theorem aa4 (K:a<64) (k:a=d):d<64:=E 1 (D k) K
theorem Ln:¬(a=1)↔¬(((a:e):B)=(1:B)):=not_congr (iW (n:=1)).symm
theorem aa5 (K:a<d) (k:d<=w) (p:w=a):bK:=aS (t (t K k) (ab p))
theorem aa6 (K:a<d) (k:d<=w) (p:w≠d+13) (l:w≠d+15) (v:w≠Z) (P:w=a\/w=d+13\/w=d+15\/w=Z):bK:=P.elim (λJ=>aS (t (t K k) (ab J))) λJ=>J.elim (λq=>p (d4 (ab q) (D q))) λq=>q.elim (λc=>l (d4 (ab c) (D c))) λc=>v (d4 (ab c) (D c))
theorem aa7 (K:a≠d+13) (k:a=d+13):bK:=K (d4 (ab k) (D k))
theorem aa8 (K:a≠d+13) (k:a≠d+15) (p:a≠w) (l:a=d+13\/a=d+15\/a=w):bK:=l.elim (λJ=>K (d4 (ab J) (D J))) λJ=>J.elim (λq=>k (d4 (ab q) (D q))) λq=>p (d4 (ab q) (D q))
theorem C9 (K:a≠d):d≠a:=Ne.intro (id (Ne.symm K))
theorem aa9 (K:a<d) (k:d+16<=w) (p:w=a):bK:=aS (H 16 (t (E 16 K k) (ab p)))
theorem aba (K:a+16<=d) (k:d=a+13):bK:=aS (H 2 (ep 13 (t K (ab k))))
theorem abb (K:a+16<=d) (k:d=a+15):bK:=aS (ep 15 (t K (ab k)))
theorem abc (K:a<=d) (k:w<a) (p:w=d+13):w=Z\/w=bA:=(aS (H 13 (E 1 (E 13 K (D p)) k)):bK).elim
theorem abd (K:a<=d) (k:w<a) (p:w=d+15):w=Z\/w=bA:=(aS (H 15 (E 1 (E 15 K (D p)) k)):bK).elim
theorem abe (K:a+17<d) (k:w<=a) (p:Z<w) (l:Z=a+13\/Z=a+15\/Z=d):Z=bA\/Z=db:=(l.elim (λJ=>aS (H 13 (t (E 1 (D J) p) k))) λJ=>J.elim (λq=>aS (H 15 (t (E 1 (D q) p) k))) λq=>aS (H 18 (t (E 1 (t K (D q)) p) k)):bK).elim
theorem Lo (K:((a:e):B)=(4:B)):a=4:=Eq.symm ((λ{M C}=>iW.mp) (id (Eq.symm K)))
theorem Lp (K:a<40) (k:d<=2+20*a):d<1000:=ah (al 1 (t k (cZ (fT 20 (H 1 K)) 2))) rfl
theorem Da (K:a<40) (k:d<=2+20*a) (p:w<=d):w<1048576:=ah (al 1 (t p (t k (cZ (fT 20 (H 1 K)) 2)))) rfl
theorem Db (K:a<=2+20*d) (k:w<=a+20):w<=2+20*(d+1):=t k (t (al 20 K) (bv _))
theorem Dc (K:a=4):¬(a=7/\d%3=0):=λW=>ei (K.symm.trans W.1) rfl
theorem Lq (K:¬(((a:e):B)<(64:B))):64<=a:=qq λT=>K (gV.mpr T)
theorem Lr (K:a<=2+20*d):a<=2+20*(d+1):=t K (cZ (fT 20 (ge d)) 2)
theorem Ls (K:a=7) (k:((a:e):B)=(8:B)):bK:=ei (K.symm.trans (iW.mp k)) rfl
theorem Lu (K:a<=2+20*d):a+1<=2+20*(d+1):=t (al 1 K) (bX (2+20*d+1) 19)
theorem Lv (K:((a:e):B)%(3:B)=(0:B)):a%3=0:=Yn.mp K
theorem Lw (K:a%3=0) (k:¬(((a:e):B)%(3:B)=(0:B))):bK:=k (cS k8 K)
theorem Lx (K:(1:B)<((a:e):B)):1<a:=gV.mp K
theorem Ly (K:¬((1:B)<((a:e):B))):¬(1<a):=λT=>K (gV.mpr T)
theorem Lz (K:¬(((a:e):B)=(8:B))):¬(a=8):=C9 λb=>K (cS k8 (id (Eq.symm b)))
theorem Dd (K:a=7) (k:¬(((a:e):B)=(7:B))):bK:=CY rfl λb=>k (cS k8 K)
theorem LA (K:1<=a):((a:e):B)=((a- 1:e):B)+(1:B):=cS yk (tN K).symm
theorem LB (K:¬(((a:e):B)=(7:B))):¬(a=7):=C8 K
theorem LC (K:¬(((a:e):B)=(8:B))):a≠8:=Ne.intro λb=>K (cS k8 b)
theorem LE (K:a<100) (k:d<=a) (p:w<=1+100*d):w<1048576:=ah (al 1 (t p (cZ (fT 100 (t k (H 1 K))) 1))) rfl
theorem LF (K:a<100) (k:d+1<=1+100*w) (p:w+1<=a) (l:Z<100) (v:bA<=Z):d+bA<1048576:=ah (al 1 (jB (H 1 (t k (cZ (fT 100 (t (H 1 p) (H 1 K))) 1))) (t v (H 1 l)))) rfl
theorem LG (K:a=d+1+101*(w- Z)) (k:Z+1<=w) (p:bA<100):d+bA+101*(w- (Z+1))<a:=Dg K (j' p) k
theorem LH (K:a+1<=1+100*d) (k:w<100):a+w<=1+100*(d+1):=t (jB (H 1 K) (H 1 k)) (bv _)
theorem LI (K:a=d+1+101*(w- Z)):d+0+101*(w- (Z+1))<a:=by subst K;exact Nat.add_lt_add_of_lt_of_le (fp d) (fT 101 (Iy (ge Z) w))
theorem LJ (K:a+1<=1+100*d):a+0<=1+100*(d+1):=t (H 1 K) (cZ (fT 100 (ge d)) 1)
theorem At (T: -2^40<am): -2^62<=am:=vP (tE (aQ rfl) T)
theorem Au (T:am<2^40):am<2^62:=tE T (aQ rfl)
theorem xn: -2^40<(a:B):=H2 (aQ rfl) (pt a)
theorem xm (T:a<2^40):(a:B)<2^40:=H2 (gV.mpr T) (aQ rfl)
theorem Aq (T:a<1024):(a:B)<2^64:=tE (gV.mpr T) (aQ rfl)
theorem Sq (T:0<=am) (b:am<2^64):am.natAbs<2^64:=gV.mp (c (Int.natAbs_of_nonneg T) (H2 b (aQ rfl)))
theorem St (T:d<a):a- d=a- 1- d+1:=c (Ze a 1 d) (tN (IA T)).symm
theorem Sr (F:¬a=d):(if a<d+1 then ix else yd)=if a<d then ix else yd:=if T:a<d then c (aZ T) (aZ (bJ 1 T)) else c (ay T) (ay λY=>T (qr (j' Y) F))
theorem Ss (k:1<=a):(if(0:B)<(a:B)- 1- (d:B) then(a:B)- 1- (d:B) else 0)=((a- 1- d:e):B):=by have F:(a:B)- 1=((a- 1:e):B):=(tG k).symm;refine c F ?_;generalize a- 1=C;exact if T:d<C then c (aZ (Yt (gV.mpr T))) (tG (H 1 T)).symm else c (ay λY=>T (gV.mp (Int.lt_of_sub_pos Y))) (cS k8 (B7 (qq T))).symm
theorem FD (T:d<65) (b:Z<65) (c:a*65+d=w*65+Z):a=w/\d=Z:=by have F:d=Z:=(Y' T).symm.trans ((cS (·%65) c).trans (Y' b));exact⟨Nat.eq_of_mul_eq_mul_right (eF rfl:0<65) (Nat.add_right_cancel (c.trans (cS (w*65+·) F.symm))),F⟩
theorem Vi:(if a<=d then 4 else 2)<=if a<=d+1 then 4 else 2:=if T:a<=d then c (aZ T) (c (aZ (bJ 1 T)) (bv 4)) else c (ay T) (by split<;>exact eF rfl)
theorem Vj (T:a<=w+2+d) (b:d<=w):a<2*w+3:=al 1 (t T (t (cZ b _) (c (IC w) (ab (hO w 2 w)))))
theorem Vk:a+1+d- a=d+1:=c (hO a 1 d) (pv (n:=a) (m:=d+1))
theorem GI (T:w=1+a+d):a+d<w:=c T (c (ny 1 a d) (c (jo 1 _) (fp _)))
theorem GJ (k:a<=d) (p:bA+d<=1+204*w) (l:w<=Z) (v:Z<100):a<30000:=ah (al 1 (t (t k (t (fS d bA) p)) (cZ (fT 204 (t l (H 1 v))) 1))) rfl
theorem Vl (k:a<bA) (p:bA<=db) (l:bA<=hi) (J:a≠d) (W:a≠w) (P:a≠Z) (F:a=d\/(a=bA\/a=bA+9\/a=bA+14\/a=w\/a=Z)\/(a=db\/a=db+9\/a=db+14\/a=w\/a=Z)\/a=bA+12\/a=db+12\/hi<=a):bK:=by have Y:∀C,a=bA+C->bK:=λC F=>aS (t k (t (bX _ C) (D F)));have X:∀C,a=db+C->bK:=λC F=>aS (t k (t p (t (bX _ C) (D F))));exact F.elim J λF=>F.elim (λF=>F.elim (Y 0) λF=>F.elim (Y 9) λF=>F.elim (Y 14) λF=>F.elim W P) λF=>F.elim (λF=>F.elim (X 0) λF=>F.elim (X 9) λF=>F.elim (X 14) λF=>F.elim W P) λF=>F.elim (Y 12) λF=>F.elim (X 12) λF=>aS (t k (t l F))
theorem Vm (k:d<hy) (c:w<hy) (h:Z<hy) (b:bA+17<hy) (l:hy<=a) (i:a<iy) (m:iy<=db) (o:iy<=hi) (F:a=d\/(a=bA\/a=bA+9\/a=bA+14\/a=w\/a=Z)\/(a=db\/a=db+9\/a=db+14\/a=w\/a=Z)\/a=bA+12\/a=db+12\/hi<=a):bK:=by have M:∀W,W<hy->a=W->bK:=λW T F=>aS (t (t T l) (ab F));have Y:∀C,mV C 17=true->a=bA+C->bK:=λC T=>M _ (kB (ty T) b);have X:∀C,a=db+C->bK:=λC F=>aS (t i (t m (t (bX _ C) (D F))));exact F.elim (M _ k) λF=>F.elim (λF=>F.elim (Y 0 rfl) λF=>F.elim (Y 9 rfl) λF=>F.elim (Y 14 rfl) λF=>F.elim (M _ c) (M _ h)) λF=>F.elim (λF=>F.elim (X 0) λF=>F.elim (X 9) λF=>F.elim (X 14) λF=>F.elim (M _ c) (M _ h)) λF=>F.elim (Y 12 rfl) λF=>F.elim (X 12) λF=>aS (t i (t o F))
theorem ch (K:bd) (k:de) (p:ff):bd/\de/\ff:=⟨K,k,p⟩
theorem a8 (a:bP) (K:d1 a) (k:eN a):∃a,d1 a/\eN a:=⟨a,K,k⟩
theorem js (a:bP) (W:cu) (K:gH a W):∃a,∃W,gH a W:=⟨a,W,K⟩
theorem iq (K:bd) (k:de) (p:ff) (l:j7):bd/\de/\ff/\j7:=⟨K,k,p,l⟩
theorem s2 (K:bd) (k:de) (a:bP) (p:d1 a):bd/\de/\∃a,d1 a:=⟨K,k,a,p⟩
theorem rs (K:bd) (a:bP) (k:d1 a) (p:eN a):bd/\∃a,d1 a/\eN a:=⟨K,a,k,p⟩
theorem d7 (a:bP) (K:d1 a) (k:eN a) (p:hw a):∃a,d1 a/\eN a/\hw a:=⟨a,K,k,p⟩
theorem mx (a:bP) (W:cu) (K:gH a W) (k:ji a W):∃a,∃W,gH a W/\ji a W:=⟨a,W,K,k⟩
theorem i9 (K:bd) (k:de) (p:ff) (l:j7) (v:r2):bd/\de/\ff/\j7/\r2:=⟨K,k,p,l,v⟩
theorem Ar (a:bP) (K:d1 a) (k:eN a) (p:hw a) (l:j4 a):∃a,d1 a/\eN a/\hw a/\j4 a:=⟨a,K,k,p,l⟩
theorem li (a:bP) (K:d1 a) (k:eN a) (W:cu) (p:gH a W):∃a,d1 a/\eN a/\∃W,gH a W:=⟨a,K,k,W,p⟩
theorem hf (a:bP) (W:cu) (K:gH a W) (k:ji a W) (p:ns a W):∃a,∃W,gH a W/\ji a W/\ns a W:=⟨a,W,K,k,p⟩
theorem rt (a:bP) (W:cu) (q:eB) (t:gd) (K:rX a W q t):∃a,∃W,∃q,∃t,rX a W q t:=⟨a,W,q,t,K⟩
theorem s1 (K:bd) (k:de) (p:ff) (a:bP) (l:d1 a) (v:eN a) (P:hw a) (A:j4 a):bd/\de/\ff/\∃a,d1 a/\eN a/\hw a/\j4 a:=⟨K,k,p,a,l,v,P,A⟩
theorem uH (K:bd) (a:bP) (W:cu) (q:eB) (k:kY a W q) (p:l4 a W q) (l:np a W q) (v:rY a W q):bd/\∃a,∃W,∃q,kY a W q/\l4 a W q/\np a W q/\rY a W q:=⟨K,a,W,q,k,p,l,v⟩
theorem s3 (a:bP) (W:cu) (q:eB) (t:gd) (b:jl) (C:ku) (K:vB a W q t b C) (k:vC a W q t b C) (p:vD a W q t b C) (l:vE a W q t b C):∃a,∃W,∃q,∃t,∃b,∃C,vB a W q t b C/\vC a W q t b C/\vD a W q t b C/\vE a W q t b C:=⟨a,W,q,t,b,C,K,k,p,l⟩
theorem As (a:bP) (W:cu) (q:eB) (t:gd) (b:jl) (C:ku) (I:qv) (K:vx a W q t b C I) (k:vy a W q t b C I) (p:vz a W q t b C I) (l:vA a W q t b C I):∃a,∃W,∃q,∃t,∃b,∃C,∃I,vx a W q t b C I/\vy a W q t b C I/\vz a W q t b C I/\vA a W q t b C I:=⟨a,W,q,t,b,C,I,K,k,p,l⟩
theorem bl (T:bd/\de) (Y:bd->de->ff):ff:=by obtain⟨K,k⟩:=T;exact Y K k
theorem gq (T:bd/\de/\ff) (Y:bd->de->ff->j7):j7:=by obtain⟨K,k,p⟩:=T;exact Y K k p
theorem wW (T:bd/\∃a:bP,d1 a) (Y:bd->∀a:bP,d1 a->de):de:=by obtain⟨K,a,p⟩:=T;exact Y K a p
theorem ax (T:∃a:bP,d1 a/\eN a) (Y:∀a:bP,d1 a->eN a->bd):bd:=by obtain⟨a,k,p⟩:=T;exact Y a k p
theorem g3 (T:∃a:bP,∃W:cu,gH a W) (Y:∀a:bP,∀W:cu,gH a W->bd):bd:=by obtain⟨a,W,p⟩:=T;exact Y a W p
theorem oX (T:bd/\de/\ff/\j7) (Y:bd->de->ff->j7->r2):r2:=by obtain⟨K,k,p,l⟩:=T;exact Y K k p l
theorem oY (T:bd/\de/\∃a:bP,d1 a) (Y:bd->de->∀a:bP,d1 a->ff):ff:=by obtain⟨K,k,a,l⟩:=T;exact Y K k a l
theorem nS (T:bd/\∃a:bP,d1 a/\eN a) (Y:bd->∀a:bP,d1 a->eN a->de):de:=by obtain⟨K,a,p,l⟩:=T;exact Y K a p l
theorem eT (T:∃a:bP,d1 a/\eN a/\hw a) (Y:∀a:bP,d1 a->eN a->hw a->bd):bd:=by obtain⟨a,k,p,l⟩:=T;exact Y a k p l
theorem iI (T:∃a:bP,∃W:cu,gH a W/\ji a W) (Y:∀a:bP,∀W:cu,gH a W->ji a W->bd):bd:=by obtain⟨a,W,p,l⟩:=T;exact Y a W p l
theorem uw (T:∃a:bP,∃W:cu,∃q:eB,kY a W q) (Y:∀a:bP,∀W:cu,∀q:eB,kY a W q->bd):bd:=by obtain⟨a,W,q,l⟩:=T;exact Y a W q l
theorem rd {U:Prop} (T:bd/\de/\ff/\j7/\r2) (Y:bd->de->ff->j7->r2->U):U:=by obtain⟨K,k,p,l,v⟩:=T;exact Y K k p l v
theorem wV (T:bd/\de/\∃a:bP,d1 a/\eN a) (Y:bd->de->∀a:bP,d1 a->eN a->ff):ff:=by obtain⟨K,k,a,l,v⟩:=T;exact Y K k a l v
theorem zW (T:bd/\de/\∃a:bP,∃W:cu,gH a W) (Y:bd->de->∀a:bP,∀W:cu,gH a W->ff):ff:=by obtain⟨K,k,a,W,v⟩:=T;exact Y K k a W v
theorem Qv (T:bd/\∃a:bP,d1 a/\eN a/\hw a) (Y:bd->∀a:bP,d1 a->eN a->hw a->de):de:=by obtain⟨K,a,p,l,v⟩:=T;exact Y K a p l v
theorem sT (T:∃a:bP,d1 a/\eN a/\hw a/\j4 a) (Y:∀a:bP,d1 a->eN a->hw a->j4 a->bd):bd:=by obtain⟨a,k,p,l,v⟩:=T;exact Y a k p l v
theorem EM (T:∃a:bP,d1 a/\eN a/\∃W:cu,gH a W) (Y:∀a:bP,d1 a->eN a->∀W:cu,gH a W->bd):bd:=by obtain⟨a,k,p,W,v⟩:=T;exact Y a k p W v
theorem EN (T:∃a:bP,d1 a/\∃W:cu,gH a W/\ji a W) (Y:∀a:bP,d1 a->∀W:cu,gH a W->ji a W->bd):bd:=by obtain⟨a,k,W,l,v⟩:=T;exact Y a k W l v
theorem fF (T:∃a:bP,∃W:cu,gH a W/\ji a W/\ns a W) (Y:∀a:bP,∀W:cu,gH a W->ji a W->ns a W->bd):bd:=by obtain⟨a,W,p,l,v⟩:=T;exact Y a W p l v
theorem wX (T:∃a:bP,∃W:cu,∃q:eB,kY a W q/\l4 a W q) (Y:∀a:bP,∀W:cu,∀q:eB,kY a W q->l4 a W q->bd):bd:=by obtain⟨a,W,q,l,v⟩:=T;exact Y a W q l v
theorem rf (T:∃a:bP,∃W:cu,∃q:eB,∃t:gd,rX a W q t) (Y:∀a:bP,∀W:cu,∀q:eB,∀t:gd,rX a W q t->bd):bd:=by obtain⟨a,W,q,t,v⟩:=T;exact Y a W q t v
theorem abr (T:bd/\de/\ff/\∃a:bP,d1 a/\eN a) (Y:bd->de->ff->∀a:bP,d1 a->eN a->j7):j7:=by obtain⟨K,k,p,a,v,P⟩:=T;exact Y K k p a v P
theorem zX (T:bd/\∃a:bP,d1 a/\eN a/\hw a/\j4 a) (Y:bd->∀a:bP,d1 a->eN a->hw a->j4 a->de):de:=by obtain⟨K,a,p,l,v,P⟩:=T;exact Y K a p l v P
theorem re (T:∃a:bP,d1 a/\eN a/\hw a/\j4 a/\vG a) (Y:∀a:bP,d1 a->eN a->hw a->j4 a->vG a->bd):bd:=by obtain⟨a,k,p,l,v,P⟩:=T;exact Y a k p l v P
theorem zY (T:∃a:bP,∃W:cu,gH a W/\ji a W/\ns a W/\rZ a W) (Y:∀a:bP,∀W:cu,gH a W->ji a W->ns a W->rZ a W->bd):bd:=by obtain⟨a,W,p,l,v,P⟩:=T;exact Y a W p l v P
theorem zZ {i:bP->cu->eB->gd->jl->Prop} (T:∃a:bP,∃W:cu,∃q:eB,∃t:gd,∃b:jl,i a W q t b) (Y:∀a:bP,∀W:cu,∀q:eB,∀t:gd,∀b:jl,i a W q t b->bd):bd:=by obtain⟨a,W,q,t,b,P⟩:=T;exact Y a W q t b P
theorem Qt (T:bd/\de/\ff/\∃a:bP,d1 a/\eN a/\hw a) (Y:bd->de->ff->∀a:bP,d1 a->eN a->hw a->j7):j7:=by obtain⟨K,k,p,a,v,P,A⟩:=T;exact Y K k p a v P A
theorem EI (T:bd/\de/\∃a:bP,d1 a/\eN a/\hw a/\j4 a) (Y:bd->de->∀a:bP,d1 a->eN a->hw a->j4 a->ff):ff:=by obtain⟨K,k,a,l,v,P,A⟩:=T;exact Y K k a l v P A
theorem Qu (T:bd/\de/\∃a:bP,d1 a/\∃W:cu,gH a W/\ji a W) (Y:bd->de->∀a:bP,d1 a->∀W:cu,gH a W->ji a W->ff):ff:=by obtain⟨K,k,a,l,W,P,A⟩:=T;exact Y K k a l W P A
theorem EK (T:bd/\∃a:bP,d1 a/\eN a/\hw a/\j4 a/\vG a) (Y:bd->∀a:bP,d1 a->eN a->hw a->j4 a->vG a->de):de:=by obtain⟨K,a,p,l,v,P,A⟩:=T;exact Y K a p l v P A
theorem Qw (T:bd/\∃a:bP,∃W:cu,∃q:eB,kY a W q/\l4 a W q/\np a W q) (Y:bd->∀a:bP,∀W:cu,∀q:eB,kY a W q->l4 a W q->np a W q->de):de:=by obtain⟨K,a,W,q,v,P,A⟩:=T;exact Y K a W q v P A
theorem Qx {h:bP->Prop} (T:∃a:bP,d1 a/\eN a/\hw a/\j4 a/\vG a/\h a) (Y:∀a:bP,d1 a->eN a->hw a->j4 a->vG a->h a->bd):bd:=by obtain⟨a,k,p,l,v,P,A⟩:=T;exact Y a k p l v P A
theorem Qy (T:∃a:bP,∃W:cu,gH a W/\ji a W/\ns a W/\rZ a W/\vF a W) (Y:∀a:bP,∀W:cu,gH a W->ji a W->ns a W->rZ a W->vF a W->bd):bd:=by obtain⟨a,W,p,l,v,P,A⟩:=T;exact Y a W p l v P A
theorem abs (T:∃a:bP,∃W:cu,∃q:eB,kY a W q/\l4 a W q/\np a W q/\rY a W q) (Y:∀a:bP,∀W:cu,∀q:eB,kY a W q->l4 a W q->np a W q->rY a W q->bd):bd:=by obtain⟨a,W,q,l,v,P,A⟩:=T;exact Y a W q l v P A
theorem QB {H:bP->cu->eB->gd->Prop} {I:bP->cu->eB->gd->Prop} (T:∃a:bP,∃W:cu,∃q:eB,∃t:gd,rX a W q t/\H a W q t/\I a W q t) (Y:∀a:bP,∀W:cu,∀q:eB,∀t:gd,rX a W q t->H a W q t->I a W q t->bd):bd:=by obtain⟨a,W,q,t,v,P,A⟩:=T;exact Y a W q t v P A
theorem Qs {U:Prop} (T:bd/\de/\ff/\j7/\r2/\∃a:bP,d1 a/\eN a) (Y:bd->de->ff->j7->r2->∀a:bP,d1 a->eN a->U):U:=by obtain⟨K,k,p,l,v,a,A,i⟩:=T;exact Y K k p l v a A i
theorem sS (T:bd/\de/\ff/\∃a:bP,d1 a/\eN a/\hw a/\j4 a) (Y:bd->de->ff->∀a:bP,d1 a->eN a->hw a->j4 a->j7):j7:=by obtain⟨K,k,p,a,v,P,A,i⟩:=T;exact Y K k p a v P A i
theorem EJ (T:bd/\de/\∃a:bP,∃W:cu,∃q:eB,kY a W q/\l4 a W q/\np a W q) (Y:bd->de->∀a:bP,∀W:cu,∀q:eB,kY a W q->l4 a W q->np a W q->ff):ff:=by obtain⟨K,k,a,W,q,P,A,i⟩:=T;exact Y K k a W q P A i
theorem EL (T:bd/\∃a:bP,∃W:cu,∃q:eB,kY a W q/\l4 a W q/\np a W q/\rY a W q) (Y:bd->∀a:bP,∀W:cu,∀q:eB,kY a W q->l4 a W q->np a W q->rY a W q->de):de:=by obtain⟨K,a,W,q,v,P,A,i⟩:=T;exact Y K a W q v P A i
theorem Qz {h:bP->cu->Prop} (T:∃a:bP,∃W:cu,gH a W/\ji a W/\ns a W/\rZ a W/\vF a W/\h a W) (Y:∀a:bP,∀W:cu,gH a W->ji a W->ns a W->rZ a W->vF a W->h a W->bd):bd:=by obtain⟨a,W,p,l,v,P,A,i⟩:=T;exact Y a W p l v P A i
theorem EO {H:bP->cu->eB->gd->Prop} {I:bP->cu->eB->gd->Prop} {M:bP->cu->eB->gd->Prop} (T:∃a:bP,∃W:cu,∃q:eB,∃t:gd,rX a W q t/\H a W q t/\I a W q t/\M a W q t) (Y:∀a:bP,∀W:cu,∀q:eB,∀t:gd,rX a W q t->H a W q t->I a W q t->M a W q t->bd):bd:=by obtain⟨a,W,q,t,v,P,A,i⟩:=T;exact Y a W q t v P A i
theorem oZ (T:bd/\de/\∃a:bP,∃W:cu,∃q:eB,kY a W q/\l4 a W q/\np a W q/\rY a W q) (Y:bd->de->∀a:bP,∀W:cu,∀q:eB,kY a W q->l4 a W q->np a W q->rY a W q->ff):ff:=by obtain⟨K,k,a,W,q,P,A,i,w⟩:=T;exact Y K k a W q P A i w
theorem rg (T:∃a:bP,∃W:cu,∃q:eB,∃t:gd,∃b:jl,∃C:ku,vB a W q t b C/\vC a W q t b C/\vD a W q t b C/\vE a W q t b C) (Y:∀a:bP,∀W:cu,∀q:eB,∀t:gd,∀b:jl,∀C:ku,vB a W q t b C->vC a W q t b C->vD a W q t b C->vE a W q t b C->bd):bd:=by obtain⟨a,W,q,t,b,C,A,i,w,F⟩:=T;exact Y a W q t b C A i w F
theorem wY (T:∃a:bP,∃W:cu,∃q:eB,∃t:gd,∃b:jl,∃C:ku,∃I:qv,vx a W q t b C I/\vy a W q t b C I/\vz a W q t b C I/\vA a W q t b C I) (Y:∀a:bP,∀W:cu,∀q:eB,∀t:gd,∀b:jl,∀C:ku,∀I:qv,vx a W q t b C I->vy a W q t b C I->vz a W q t b C I->vA a W q t b C I->bd):bd:=by obtain⟨a,W,q,t,b,C,I,i,w,F,m⟩:=T;exact Y a W q t b C I i w F m
theorem QA {h:bP->cu->Prop} {d:bP->cu->Prop} {y:bP->cu->Prop} {b:bP->cu->Prop} {c:bP->cu->Prop} {k:bP->cu->Prop} (T:∃a:bP,∃W:cu,gH a W/\ji a W/\ns a W/\rZ a W/\vF a W/\h a W/\d a W/\y a W/\b a W/\c a W/\k a W) (Y:∀a:bP,∀W:cu,gH a W->ji a W->ns a W->rZ a W->vF a W->h a W->d a W->y a W->b a W->c a W->k a W->bd):bd:=by obtain⟨a,W,p,l,v,P,A,i,w,F,m,J,o⟩:=T;exact Y a W p l v P A i w F m J o
theorem QC {c:bP->cu->eB->gd->jl->ku->Prop} {h:bP->cu->eB->gd->jl->ku->Prop} {d:bP->cu->eB->gd->jl->ku->Prop} (T:∃a:bP,∃W:cu,∃q:eB,∃t:gd,∃b:jl,∃C:ku,vB a W q t b C/\vC a W q t b C/\vD a W q t b C/\vE a W q t b C/\c a W q t b C/\h a W q t b C/\d a W q t b C) (Y:∀a:bP,∀W:cu,∀q:eB,∀t:gd,∀b:jl,∀C:ku,vB a W q t b C->vC a W q t b C->vD a W q t b C->vE a W q t b C->c a W q t b C->h a W q t b C->d a W q t b C->bd):bd:=by obtain⟨a,W,q,t,b,C,A,i,w,F,m,J,o⟩:=T;exact Y a W q t b C A i w F m J o
theorem EP {c:bP->cu->eB->gd->jl->ku->qv->Prop} {h:bP->cu->eB->gd->jl->ku->qv->Prop} {d:bP->cu->eB->gd->jl->ku->qv->Prop} {y:bP->cu->eB->gd->jl->ku->qv->Prop} (T:∃a:bP,∃W:cu,∃q:eB,∃t:gd,∃b:jl,∃C:ku,∃I:qv,vx a W q t b C I/\vy a W q t b C I/\vz a W q t b C I/\vA a W q t b C I/\c a W q t b C I/\h a W q t b C I/\d a W q t b C I/\y a W q t b C I) (Y:∀a:bP,∀W:cu,∀q:eB,∀t:gd,∀b:jl,∀C:ku,∀I:qv,vx a W q t b C I->vy a W q t b C I->vz a W q t b C I->vA a W q t b C I->c a W q t b C I->h a W q t b C I->d a W q t b C I->y a W q t b C I->bd):bd:=by obtain⟨a,W,q,t,b,C,I,i,w,F,m,J,o,l,k⟩:=T;exact Y a W q t b C I i w F m J o l k
set_option genCtorIdx false in
set_option genInjectivity true in
inductive q where
 |bI
 |aK (P:ci)
 |j (v:B)
 |bW (C:a4)
 |S (X:r q)
 |x (y:e)
open q (aK j bI x bW S)
variable {qt:r (q×q)} {tz:q} {vI:e->q} {qw:r (q×q)} {hV:eG->q} {iU:q×q} {k2:r (q×q)} {eA:eG->q} {d':r q} {eO:r q} {fB:r (e×q)} {hx:e->q} {fQ:r (q×q)} {b2:q} {a1:r (q×q)} {ai:r q} {C:q}
inductive pQ where|c9|eE|rF|ht|vj|nn|pY
open pQ (c9 pY ht rF vj nn eE)
variable {gU:pQ}
inductive wr where|bL|d8|bj|i8|mv|lj|ry|e2|n5
open wr (bL mv i8 e2 lj ry bj d8 n5)
variable {lA:wr}
inductive t8 where|bo|bW|oc|rS|o8|j|V
open t8 (bo o8 oc rS)
variable {kZ:t8}
inductive lK where|dC|fr|dk
open lK (dC fr dk)
variable {hM:lK}
set_option genCtorIdx false in
inductive b0 where
 |oQ
 |u (J:q)
 |f (Y:e)
 |bR (Z:pQ) (y P:b0)
 |aJ (Z:wr) (y P:b0)
 |it (y:b0)
 |fD (y P:b0)
 |hh (y P:b0)
 |bc (U y P:b0)
 |S (w:b0)
 |V (w:b0)
 |aT (w:b0)
 |aH (F:b0) (W:e)
 |as (F v:b0)
 |j0 (F c o:b0)
 |bh (d:e) (w:b0)
 |cK (U:e) (w:b0)
 |cT (P:t8) (w:b0)
 |b1 (W:e) (F w:b0)
 |rD (w:b0)
 |fx (E:lK) (k:b0) (Y:e) (a b:b0)
 |z
 |n (F w:b0)
open b0 (fD aH oQ bR cT bh b1 aJ fx n as rD u z it hh j0 f)
variable {vH:b0} {k4:gW->r a4->cG->a6 b0} {ft:cG->a6 b0} {dI aw A:b0}
set_option genCtorIdx false in
inductive bO where
 |oQ
 |L
 |go
 |gp
 |du (F:b0)
 |ba (Y:e) (F:b0)
 |jM (A:r e) (F:b0)
 |dy (I:b0) (W:e) (F:b0)
 |es (I v F:b0)
 |q5 (Y:e) (Z:pQ) (F:b0)
 |kG (I:b0) (W:e) (Z:pQ) (F:b0)
 |bc (U:b0) (C N:bO)
 |kr (U:b0) (C:bO)
 |el (E:lK) (Y:e) (a:b0) (C:bO)
 |sY (E:lK) (A:r e) (a:b0) (C:bO)
 |aR (F:b0)
 |tw (C N:bO)
 |s (C N:bO)
open bO (ba dy es jM q5 kG du el sY bc L aR s tw kr)
variable {nv dd aC:bO}
noncomputable abbrev nI (X:r B):q:=S (X.map j)
noncomputable def aV (C:qS):q:=bW (ck C)
set_option genCtorIdx false in
inductive oK where
 |ct (Y:e)
 |m5 (U:e)
 |lO (J:q)
 |lc (P:t8)
open oK (lc m5 lO ct)
noncomputable def gD:r a4:=(["kind","a","kids","flags","at","nid","rows","index","decls","bounds","defaults","names","origins","renamed","shaping","putting","kinds","prevs","nodes","extras","ends","starts","busy","sets","hidden","memo","open","hits","epoch","tab","use","given","sure","lost","graph","key","declared","start","asker","roles","values","order","loops","never","full","put","make","turn","owns","kills","join","start_of","dead","kept_past","alive","fix","empty","append","pop","get","extend","startswith"]:r qS).map ck
noncomputable def uR:r e->r e->ci
 |[],[]=>true
 |y::W,P::A=>(match kA y P with|true=>uR W A|false=>false)
 |_,_=>false
noncomputable def dV (y P:a4):ci:=uR y.cps.toList P.cps.toList
noncomputable def mD (W:a4):r a4->e->a6 e
 |[],_=>R
 |A::h,C=>match dV A W with|true=>g C|false=>mD W h (C+1)
noncomputable def fb {a:Type} (W:a4):r (a4×a)->a6 a
 |[]=>R
 |(A,J)::h=>bif dV A W then g J else fb W h
noncomputable def fE (W:a4):r a4->a6 e
 |[]=>R
 |A::h=>bif dV A W then g h.length else fE W h
noncomputable def dS (C:B):oK:=lO (j C)
noncomputable def jR:r (a4×oK):=([("len",lc bo),("_law_take",ct 110),("L_START",dS 1),("L_LOOP",dS 3),("L_JOIN",dS 2),("L_SET",dS 4),("L_CALL",dS 7),("L_CASE",dS 8),("L_DEAD",dS 0),("L_TRUE",dS 5),("L_FALSE",dS 6),("_law_join",ct 113),("_law_first",ct 122),("value_at",ct 92),("parts_of",ct 58),("R_FIXED",dS 0),("R_OWN",dS 1),("R_THROUGH",dS 2),("_law_asked",ct 129),("reaches",ct 105),("_law_kind",ct 111),("_law_graph",ct 116),("twig",ct 23),("leaf",ct 22),("reversed",lc .V),("number_nodes",ct 26),("sorted",lc oc),("max",lc o8),("str",lc .bW),("int",lc .j),("tuple",lc rS),("list",lc .V),("K_NUM",dS 1),("K_STR",dS 2),("K_TPL",dS 3),("K_NAME",dS 8),("K_THIS",dS 9),("K_SHORT",dS 14),("K_MEMBER",dS 16),("K_INDEX",dS 17),("K_CALL",dS 18),("K_CHAIN",dS 20),("K_ASSIGN",dS 25),("K_AS",dS 29),("K_SATISFIES",dS 31),("K_NONNULL",dS 32),("K_PAREN",dS 33),("K_OBJPAT",dS 34),("K_ARRPAT",dS 35),("K_BIND",dS 36),("K_VAR",dS 41),("K_SWITCH",dS 50),("Y_KEY",dS 1),("Y_BOOL",dS 2),("Y_STR",dS 3),("Y_NUM",dS 4),("Y_ENUM",dS 5),("Y_UNION",dS 6),("Y_OBJ",dS 8),("Y_TPL",dS 18),("ANY",dS 0),("UNKNOWN",dS 1),("NEVER",dS 2),("UNDEF",dS 4),("STRING",dS 6),("NUMBER",dS 7),("FALSE_T",dS 8),("TRUE_T",dS 9),("ERR",dS 13),("FRESH_F",dS 14),("FRESH_T",dS 15),("MAX_UNION",dS 400),("GO_OUT",dS (-2)),("AT_START",dS (-3)),("MOST_ROUNDS",dS 40),("FIRST_ROWS",lO (S [S [j 1,aV "any"],S [j 1,aV "unknown"],S [j 1,aV "never"],S [j 1,aV "void"],S [j 1,aV "undefined"],S [j 1,aV "null"],S [j 1,aV "string"],S [j 1,aV "number"],nI [2,0,0],nI [2,1,0],S [j 1,aV "object"],S [j 8,S [],S [],S [],S [],S [],j 0],S [j 6,nI [8,9]],S [j 1,aV "error"],nI [2,0,1],nI [2,1,1]])),("MARKED_ROWS",lO (nI [2,3,4,5,8])),("_law_base",lO (nI [0,5,3,16,1,0,6,0,1,3,0,0,5,32,0,1,0,0,0,1,0,0,0,1])),("_law_paths",lO (S [S [aV "1"],S [aV "1",aV "p"],S [aV "1",aV "p",aV "q"],S [aV "2"],S [aV "2",aV "p"]])),("_law_ranges",lO (S [nI [0,1],nI [1,2],nI [2,2]])),("bare",ct 24),("walk_nodes",ct 25),("literal_key",ct 27),("member_name",ct 28),("root_key",ct 29),("ref_key",ct 30),("whole_of_row",ct 59),("regular_twin",ct 60),("join_bools",ct 61),("stays_beside",ct 62),("top_of",ct 63),("union",ct 64),("pattern_leaves",ct 82),("target_nodes",ct 83),("target_keys",ct 84),("role_of",ct 87),("role_of_set",ct 88),("role_of_start",ct 89),("push_prevs",ct 90),("flow_gather",ct 91),("flow_joined",ct 93),("is_narrower",ct 94),("value_of",ct 95),("one_round",ct 96),("go_round",ct 97),("settle_walk",ct 98),("let_go",ct 99),("walked_at",ct 100),("recalled",ct 101),("type_at",ct 102),("blocked",ct 104),("_law_mask",ct 112),("_law_row",ct 114),("_law_write",ct 115),("_law_deed",ct 117),("_law_shut",ct 118),("_law_spread",ct 119),("_law_left",ct 120),("_law_alive",ct 121),("_law_behind",ct 123),("_law_unroll",ct 124),("_law_cut_write",ct 125),("_law_change",ct 126),("_law_order",ct 127),("_law_world",ct 128),("_law_more",ct 130),("Node",m5 21),("TypeTable",m5 57),("Graph",m5 81),("Asker",m5 85),("Walk",m5 86),("Stops",m5 103)]:r (qS×oK)).map λQ=>(ck Q.1,Q.2)
noncomputable def AU:I0->a6 pQ
 |.Add=>g c9|.Sub=>g eE|.Mult=>g rF|.Mod=>g ht|.LShift=>g vj|.RShift=>g nn|.BitOr=>g pY|_=>R
noncomputable def un:I0->a6 pQ
 |.Add=>g c9|.Sub=>g eE|_=>R
noncomputable def xG:CmpOp->a6 wr
 |ou=>g bL|.NotEq=>g d8|.Lt=>g bj|.Gt=>g i8|.GtE=>g mv|.Is=>g lj|.IsNot=>g ry|.In=>g e2|Ch=>g n5|_=>R
noncomputable def Ev:Const->a6 q
 |.none=>g bI|.bool P=>g (aK P)|.int v=>g (j v)|.str C=>g (bW C)|_=>R
def ee (U:eG->Prop) (I:a6 eG):Prop:=∀y,I=g y->U y
noncomputable def f' (P:ci) (I:a6 eG):a6 eG:=match P with|true=>I|false=>R
theorem ee.en:ee fd R:=λ_ T=>ce T
theorem ee.FE {H:eG->Prop} (T:ee H hj) (Y:∀P,H P->fd P):ee fd hj:=λP F=>Y P (T P F)
theorem ee.kX (T:fd dH):ee fd (g dH):=λ_ F=>bm F▸T
theorem ee.hq {o:eG->a6 tB} (T:ee fd hj) (Y:∀y,fd y->ee r0 (o y)):ee r0 (hj.bind o):=λP F=>aU (hz.mp F) λy U=>Y y (T y U.1) P U.2
theorem ee.gA {o:eG->a6 tB} (Y:∀y,hj=g y->ee r0 (o y)):ee r0 (hj.bind o):=.hq (fd:=λy=>hj=g y) (λ_ T=>T) Y
theorem ee.o7 (T:ee fd hj) (Y:∀y,fd y->r0 (mO y)):ee r0 (hj.map mO):=λP F=>aU (e7.mp F) λy U=>U.2▸Y y (T y U.1)
theorem ee.h4 (Y:∀y,hj=g y->r0 (mO y)):ee r0 (hj.map mO):=.o7 (fd:=λy=>hj=g y) (λ_ T=>T) Y
theorem ee.f' (Y:bt=true->ee fd hj):ee fd (f' bt hj):=match bt,Y with
 |true,Y=>Y rfl
 |false,_=>.en
theorem ee.fD (Y:bt=true->iT=true->ee fd hj):ee fd (Mine.Tactic.f' (bt&&iT) hj):=.f' λT=>Y (dR.mp T).1 (dR.mp T).2
open ee (hq)
noncomputable def eL:r eG->a6 eG
 |[]=>R
 |y::h=>match h with|[]=>g y|_::_=>R
theorem rJ:∀{X:r eG},ee (λy=>X=[y]) (eL X)
 |[]=>.en
 |[_]=>.kX rfl
 |_::_::_=>.en
noncomputable def xA:cG->a6 a4
 |er A _=>g A
 |_=>R
theorem xB:ee (λA=>∃Q,aY=er A Q) (xA aY):=by cases aY<;>first|exact .kX ⟨_,rfl⟩|exact .en
noncomputable def zH:cG->a6 (a4×r cG)
 |jp a Y t _=>match t with|[]=>(xA a).map λA=>(A,Y)|_::_=>R
 |_=>R
theorem PA:ee (λQ=>∃Z h,aY=jp (er Q.1 Z) Q.2 [] h) (zH aY):=by
 cases aY with
 |Call a Y t h=>cases t with
  |nil=>exact .o7 xB λ_ T=>T.elim λ_ T=>T▸(js _ _ rfl)
  |cons _ _=>exact .en
 |_=>exact .en
noncomputable def FP (i:gW) (W:a4):ci:=decide (fb W i.names=g iY)
noncomputable def q9 (A:a4) (i:gW) (F:cG):a6 (r cG):=(zH F).bind λQ=>f' (dV Q.1 A&&FP i A) (g Q.2)
noncomputable def jN (o:cG->a6 b0):r cG->a6 b0
 |[]=>g z
 |F::h=>(o F).bind λy=>(jN o h).map (n y)
noncomputable def wO (o:cG->a6 b0):r (a6 cG)->r cG->a6 b0
 |[],d=>f' d.isEmpty (g z)
 |Y::A,d=>match d with
  |[]=>R
  |J::d=>Y.bind λY=>(o Y).bind λy=>(o J).bind λP=>(wO o A d).map λU=>n y (n P U)
noncomputable def wN (o:cG->a6 b0) (Z:b0->b0->b0):r cG->a6 b0
 |[]=>R
 |F::h=>(o F).bind λy=>match h with|[]=>g y|_::_=>(wN o Z h).map (Z y)
noncomputable def sK (o:cG->a6 b0) (i:gW) (F:cG):a6 (lK×b0):=match q9 "range" i F with
 |some Y=>(jN o Y).map (Cb dk)
 |none=>match q9 "reversed" i F with
  |some Y=>(eL Y).bind λy=>(o y).map (Cb fr)
  |none=>(o F).map (Cb dC)
noncomputable def us (o:cG->a6 b0):a6 cG->a6 b0
 |none=>g (u bI)
 |some F=>o F
noncomputable def Ep (i m:gW) (H:r a4) (A W:a4):qM->ci
 |.local=>decide (fb W m.names=g .local)&&(dV W A||(fE W H).isNone)
 |hA=>decide (fb W i.names=g hZ)||decide (fb W i.names=g hA)
 |iY=>true
 |_=>false
noncomputable def Es (i m:gW) (H:r a4) (A:a4):ci:=decide (m.kind=pD)&&m.names.all λQ=>Ep i m H A Q.1 Q.2
noncomputable def uK:cG->ci
 |qI .. =>true
 |.SetComp .. =>true
 |.DictComp .. =>true
 |_=>false
noncomputable def Px:Const->a6 b0
 |.int v=>g (u (j (-v)))
 |_=>R
noncomputable def Pw:cG->a6 b0
 |Ci U _ _=>Px U
 |_=>R
noncomputable def Ej (o:cG->a6 b0) (y:cG):I2->a6 b0
 |.Not=>(o y).map it
 |.USub=>Pw y
 |_=>R
noncomputable def R4:oK->a6 b0
 |lO J=>g (u J)
 |_=>R
noncomputable def Pv (H:r a4) (W:a4):qM->a6 b0
 |iY=>(fb W jR).bind R4
 |.globalExplicit=>R
 |.local=>(fE W H).map f
 |hZ=>(fE W H).map f
 |hA=>(fE W H).map f
noncomputable def Eg (i:gW) (H:r a4) (W:a4):a6 b0:=f' (!dV W "__debug__"&&!dV W "__classdict__") ((fb W i.names).bind (Pv H W))
noncomputable def Bn:cG->a6 (a6 cG×a6 cG)
 |IL c o h _=>match h with|none=>g (c,o)|some _=>R
 |_=>R
theorem WM:ee (λQ=>∃Z,aY=IL Q.1 Q.2 R Z) (Bn aY):=by
 cases aY with
 |Slice c o h Z=>cases h with
  |none=>exact .kX ⟨_,rfl⟩
  |some _=>exact .en
 |_=>exact .en
noncomputable def zG (o:cG->a6 b0) (I v:cG):a6 b0:=match Bn v with
 |some Q=>(o I).bind λy=>(us o Q.1).bind λP=>(us o Q.2).map (j0 y P)
 |none=>(o I).bind λy=>(o v).map (as y)
noncomputable def Pt:oK->b0->a6 b0
 |ct Y=>λP=>g (bh Y P)
 |m5 Y=>λP=>g (.cK Y P)
 |lc Y=>λP=>g (cT Y P)
 |lO _=>λ_=>R
noncomputable def zD (o:cG->a6 b0) (W:a4) (C:r cG):a6 b0:=match dV W "isinstance" with
 |true=>g oQ
 |false=>f' (!dV W "reversed"&&!dV W "range") ((fb W jR).bind λY=>(jN o C).bind (Pt Y))
noncomputable def Eb (o:cG->a6 b0) (i:gW) (W:a4) (C:r cG):a6 b0:=f' (yp C.length 20&&FP i W) (match f' (dV W "list") ((eL C).bind (q9 "range" i)) with
  |some Y=>(jN o Y).map rD
  |none=>zD o W C)
noncomputable def Ea (o:cG->a6 b0) (i:gW) (C:r cG) (Q:qN):cG->a6 b0
 |pB I W b=>f' (yp C.length 20&&kA b.endLine Q.line) ((o I).bind λy=>(mD W gD 0).bind λY=>(jN o C).map (b1 Y y))
 |er W _=>Eb o i W C
 |_=>R
noncomputable def Ef (o:cG->a6 b0):r cG->a6 b0
 |[]=>g (u (aK true))
 |U::h=>match h with|[]=>o U|_::_=>R
noncomputable def Ec (o:gW->r a4->cG->a6 b0) (i:gW) (H:r a4) (k:cG) (b:yE) (m:gW) (A:a4):a6 b0:=f' (decide (b.is_async=0)&&Es i m H A) (f' (decide (fb A m.names=g .local)) ((sK (o i H) i b.iter).bind λv=>(o m (A::H) k).bind λF=>(Ef (o m (A::H)) b.ifs).map λU=>fx v.1 F H.length v.2 U))
noncomputable def uV:BoolOp->b0->b0->b0
 |.And=>fD
 |.Or=>hh
noncomputable def Ed (o:gW->r a4->cG->a6 b0) (i:gW) (H:r a4):cG->a6 b0
 |Ci U _ _=>(Ev U).map u
 |qJ Z y _=>Ej (o i H) y Z
 |er W _=>Eg i H W
 |.BoolOp Z d _=>wN (o i H) (uV Z) d
 |.BinOp X Z h _=>(AU Z).bind λI=>(o i H X).bind λy=>(o i H h).map (bR I y)
 |IJ X l c _=>(eL l).bind λZ=>(eL c).bind λh=>(xG Z).bind λI=>(o i H X).bind λy=>(o i H h).map (aJ I y)
 |IK U y P _=>(o i H U).bind λU=>(o i H y).bind λy=>(o i H P).map (.bc U y)
 |pC w _ _=>(jN (o i H) w).map .S
 |.List w _=>(jN (o i H) w).map .V
 |.Dict A d _=>f' (yp A.length 15) ((wO (o i H) A d).map .aT)
 |pB I W _=>(o i H I).bind λy=>(mD W gD 0).map (aH y)
 |tS I v _=>zG (o i H) I v
 |jp a C t Q=>match t with|[]=>Ea (o i H) i C Q a|_::_=>R
 |qI k F m _=>(eL F).bind λb=>(xA b.target).bind λp=>Ec o i H k b m p
 |_=>R
noncomputable def up (C:e):gW->r a4->cG->a6 b0:=B6 (λ_ _ _=>R) (λ_ o=>Ed o) C
noncomputable def ur (i:gW) (H:r a4) (W:a4):a6 e:=f' (decide (fb W i.names=g .local)||decide (fb W i.names=g hZ)) (fE W H)
noncomputable def wP (i:gW) (H:r a4):r cG->a6 (r e)
 |[]=>g []
 |F::h=>(xA F).bind λW=>(ur i H W).bind λY=>(wP i H h).map (Yw Y)
noncomputable def Ay:cG->ci
 |pC .. =>true
 |.List .. =>true
 |_=>false
noncomputable def nN (o:h0->a6 bO):r h0->a6 bO
 |[]=>g L
 |C::h=>(o C).bind λy=>(nN o h).map (s y)
noncomputable def Py (o:cG->a6 b0):a6 cG->a6 bO
 |none=>g (aR (u bI))
 |some F=>(o F).map aR
noncomputable def D9 (o:cG->a6 b0) (i:gW) (H:r a4) (F:cG):cG->a6 bO
 |er W _=>(ur i H W).bind λY=>(o F).map (ba Y)
 |pC b _ _=>f' (!Ay F) ((wP i H b).bind λA=>(o F).map (jM A))
 |pB I W _=>(o I).bind λy=>(mD W gD 0).bind λY=>(o F).map (dy y Y)
 |tS I v _=>(o I).bind λy=>(o v).bind λY=>(o F).map (es y Y)
 |_=>R
noncomputable def D' (o:cG->a6 b0) (i:gW) (H:r a4) (F:cG) (Z:pQ):cG->a6 bO
 |er W _=>(ur i H W).bind λY=>(o F).map (q5 Y Z)
 |pB I W _=>(o I).bind λy=>(mD W gD 0).bind λY=>(o F).map (kG y Y Z)
 |_=>R
noncomputable def Ee (o:cG->a6 b0) (i:gW) (H:r a4) (t:cG) (y:a6 bO):cG->a6 bO
 |er W _=>(ur i H W).bind λY=>(sK o i t).bind λv=>y.map (el v.1 Y v.2)
 |pC b _ _=>(wP i H b).bind λA=>(sK o i t).bind λv=>y.map (sY v.1 A v.2)
 |_=>R
noncomputable def Ps (b:r h0->a6 bO) (y:r h0):r h0->a6 bO
 |[]=>R
 |C::h=>(b y).bind λy=>(b (C::h)).map (tw y)
noncomputable def Ei (o:cG->a6 b0) (i:gW) (H:r a4) (b:h0->a6 bO):h0->a6 bO
 |Ct _=>g L
 |.Break _=>g .go
 |Z3 _=>g .gp
 |.Raise _ _ _=>g .oQ
 |.Expr F _=>f' (!uK F) ((o F).map du)
 |I1 I _=>Py o I
 |sf a F _=>(eL a).bind (D9 o i H F)
 |Cs N Z F _=>(un Z).bind λI=>D' o i H F I N
 |.If U y P _=>(o U).bind λU=>(nN b y).bind λy=>(nN b P).map (bc U y)
 |.While U y P _=>match P with|[]=>(o U).bind λU=>(nN b y).map (kr U)|_::_=>R
 |.For N t y P _=>match P with|[]=>Ee o i H t (nN b y) N|_::_=>R
 |.Try y h c d _=>match h,c with|[],[]=>Ps (nN b) y d|_,_=>R
 |_=>R
noncomputable def sM (C:e):gW->r a4->h0->a6 bO:=B6 (λ_ _ _=>R) (λC b i H=>Ei (up C i H) i H (b i H)) C
noncomputable def SK:qM->ci
 |.local=>true
 |hZ=>true
 |_=>false
noncomputable def o6 (i:gW):r a4:=((i.names.filter λQ=>SK Q.2).map (·.1)).reverse
noncomputable def A6 (Q:Cd):a6 (r a4):=f' (Q.posonlyargs.isEmpty&&Q.vararg.isNone&&Q.kwonlyargs.isEmpty&&Q.kw_defaults.isEmpty&&Q.kwarg.isNone&&Q.defaults.isEmpty) (g (Q.args.map (·.arg)))
set_option genCtorIdx false in
set_option genInjectivity true in
inductive dY where
 |V (X:r q)
 |aT (w:r (q×q))
 |cw (U:e) (a:r (e×q))
  |ki (I:d5)
open dY (aT ki cw V)
variable {lz bN:dY}
noncomputable def Gq (y:dY):e:=y.casesOn (motive:=λ_=>e) (λ_=>0) (λ_=>1) (λ_ _=>2) λ_=>3
noncomputable def HE (y:q):e:=y.casesOn (motive_1:=λ_=>e) 0 (λ_=>1) (λ_=>2) (λ_=>3) (λ_=>4) λ_=>5
theorem dW (T:bN=lz) (F:kA (Gq bN) (Gq lz)=false):bd:=ei (cS _ T) F
theorem l1 (T:C=b2) (F:kA (HE C) (HE b2)=false):bd:=ei (cS _ T) F
structure K where
 i:e
 c6:e->dY
variable {oo:r q->K->Prop} {kt:ci->K->Prop} {lx:r q->K->Prop} {pp:K->Prop} {cs aj:K} {an:q->K->Prop} {b:K}
namespace K
noncomputable def eM (T:K) (y:e) (I:dY):K:=⟨T.i,λP=>if P=y then I else T.c6 P⟩
noncomputable def cK (T:K) (I:dY):K:=⟨T.i+1,λP=>if P=T.i then I else T.c6 P⟩
end K
noncomputable abbrev bu:=e->a6 q
variable {ly j5:bu->K->(q->K->Prop)->Prop} {jk:q->bu->K->(bu->Prop)->Prop} {jj h:bu}
noncomputable def bu.aP (h:bu) (Y:e) (J:q):bu:=λw=>if w=Y then g J else h w
inductive sv where
 |cr|go|gp
 |aR (J:q)
open sv (go gp cr)
noncomputable def ru:q->a6 B
 |j v=>g v
 |_=>R
noncomputable def vn:q->a6 a4
 |bW v=>g v
 |_=>R
noncomputable def wM:q->a6 ci
 |aK v=>g v
 |_=>R
noncomputable def x8:q->a6 (r q)
 |S v=>g v
 |_=>R
noncomputable def GN:q->a6 e
 |x v=>g v
 |_=>R
noncomputable def mz:q->ci
 |bI=>true
 |_=>false
mutual
noncomputable def q.d6:q->q->ci
 |bI,P=>mz P
 |aK y,P=>decide (wM P=g y)
 |j y,P=>decide (ru P=g y)
 |bW y,P=>match vn P with|some P=>dV y P|none=>false
 |S y,P=>match x8 P with|some P=>kh y P|none=>false
 |x y,P=>decide (GN P=g y)
noncomputable def kh:r q->r q->ci
 |[],A=>A.isEmpty
 |y::W,A=>match A with|[]=>false|P::A=>q.d6 y P&&kh W A
end
noncomputable def dJ (C:e):q->ci:=B6 (λJ=>(ru J).isSome||(vn J).isSome) (λ_ o J=>match J with
 |j _=>true
 |bW _=>true
 |S X=>X.all o
 |_=>false) C
noncomputable abbrev q.eK (J:q):ci:=dJ 3 J
noncomputable abbrev w8 (X:r q):ci:=X.all (dJ 3)
noncomputable def E2 (y P:q):a6 ci:=match y with
 |aK W=>(wM P).map λA=>W==A
 |j W=>(ru P).map λA=>decide (W=A)
 |bW W=>(vn P).map λA=>dV W A
 |S W=>(x8 P).bind λA=>f' (dJ 3 (S W)&&dJ 3 (S A)) (g (kh W A))
 |_=>R
noncomputable def TN (y P:q):a6 ci:=match y with
 |aK W=>(wM P).map λA=>!(W==A)
 |j W=>(ru P).map λA=>decide (W≠A)
 |bW W=>(vn P).map λA=>!dV W A
 |_=>R
noncomputable def b9 (Y:q):r (q×q)->a6 q
 |[]=>R
 |(y,J)::h=>if q.d6 y Y then g J else b9 Y h
noncomputable def et (Y m:q):r (q×q)->r (q×q)
 |[]=>[(Y,m)]
 |(y,J)::h=>if q.d6 y Y then(y,m)::h else(y,J)::et Y m h
noncomputable def lP (Y:q):r (q×q)->r (q×q)
 |[]=>[]
 |(y,J)::h=>if q.d6 y Y then h else(y,J)::lP Y h
noncomputable def im (W:e):r (e×q)->a6 q
 |[]=>R
 |(y,J)::h=>if y=W then g J else im W h
noncomputable def kg (W:e) (m:q):r (e×q)->r (e×q)
 |[]=>[(W,m)]
 |(y,J)::h=>if y=W then(y,m)::h else(y,J)::kg W m h
noncomputable def aa:e:=1048576
noncomputable def fc (J:q) (T:K):a6 ci:=match J with
 |bI=>g false
 |aK P=>g P
 |j v=>g (decide (v≠0))
 |bW C=>if C.cps.size<aa then g (decide (C.cps.size≠0)) else R
 |S X=>if X.length<aa then g (!X.isEmpty) else R
 |x y=>if y<T.i then(match T.c6 y with|V X=>if X.length<aa then g (!X.isEmpty) else R|aT w=>if w.length<aa then g (!w.isEmpty) else R|_=>R) else R
def dj (I:a6 eG) (G:eG->Prop):Prop:=match I with|some J=>G J|none=>bK
structure dh (T:K) (y:e) (G:dY->Prop):Prop where
 bj:y<T.i
 fl:G (T.c6 y)
structure gG (T:K) (I:dY) (G:q->K->Prop):Prop where
 fl:G (x T.i) (T.cK I)
structure pk (T:K) (y:e) (I:dY) (G:K->Prop):Prop where
 fl:G (T.eM y I)
noncomputable def TI:B->a6 e
 |yk C=>g C
 |tF _=>R
def hr (J:q) (G:B->Prop):Prop:=match J with|j v=>G v|_=>bK
def o4 (J:q) (G:a4->Prop):Prop:=match J with|bW v=>G v|_=>bK
def ja (J:q) (G:r q->Prop):Prop:=match J with|S v=>G v|_=>bK
def lm (J:q) (G:e->Prop):Prop:=match J with|x v=>G v|_=>bK
def s6 (J:q) (G:Prop):Prop:=match J with|bI=>G|_=>bK
def nh (I:dY) (G:r q->Prop):Prop:=match I with|V X=>G X|_=>bK
def AV (I:dY) (G:r (q×q)->Prop):Prop:=match I with|aT X=>G X|_=>bK
def u1 (I:dY) (G:e->r (e×q)->Prop):Prop:=match I with|cw U X=>G U X|_=>bK
def AW (I:dY) (G:d5->Prop):Prop:=match I with|ki U=>G U|_=>bK
def lT (y P:q) (G:B->B->Prop):Prop:=hr y λW=>hr P λA=>G W A
def NS (y P:q) (T:K) (G:q->K->Prop):Prop:=match y with
 |j W=>hr P λA=>G (j (W+A)) T
 |bW W=>o4 P λA=>W.cps.size<aa/\A.cps.size<aa/\G (bW (W++A)) T
 |x W=>lm P λA=>dh T W λI=>dh T A λQ=>nh I λX=>nh Q λk=>X.length+k.length<aa/\gG T (V (X++k)) G
 |_=>bK
def mo (Z:pQ) (y P:q) (T:K) (G:q->K->Prop):Prop:=match Z with
 |c9=>NS y P T G
 |eE=>lT y P λW A=>G (j (W- A)) T
 |rF=>lT y P λW A=>W.natAbs<2^64/\A.natAbs<2^64/\G (j (W*A)) T
 |ht=>lT y P λW A=>0<A/\G (j (W%A)) T
 |vj=>lT y P λW A=>0<=W/\W<2^64/\0<=A/\A<64/\G (j (W*2^A.toNat)) T
 |nn=>lT y P λW A=>0<=W/\W<2^64/\0<=A/\A<64/\G (j (W/2^A.toNat)) T
 |pY=>lT y P λW A=>0<=W/\W<2^64/\0<=A/\A<2^64/\G (j ((W.toNat|||A.toNat:e):B)) T
noncomputable def na (Y:q) (X:r q):a6 ci:=if q.eK Y&&w8 X then g (X.any λJ=>q.d6 J Y) else R
def Sy (y:q) (G:ci->Prop):dY->Prop
 |V X=>dj (na y X) G
 |aT w=>q.eK y=true/\G (b9 y w).isSome
 |_=>bK
def Aw (y P:q) (T:K) (G:ci->Prop):Prop:=match P with
 |S X=>dj (na y X) G
 |bW C=>o4 y λW=>W=ck "."/\(C=ck "p"\/C=ck "q")/\G false
 |x Q=>dh T Q (Sy y G)
 |_=>bK
def rc (Z:wr) (y P:q) (T:K) (G:q->K->Prop):Prop:=match Z with
 |bL=>dj (E2 y P) λh=>G (aK h) T
 |d8=>dj (TN y P) λh=>G (aK h) T
 |bj=>lT y P λW A=>G (aK (decide (W<A))) T
 |i8=>lT y P λW A=>G (aK (decide (A<W))) T
 |mv=>lT y P λW A=>G (aK (decide (A<=W))) T
 |lj=>s6 P (G (aK (mz y)) T)
 |ry=>s6 P (G (aK (!mz y)) T)
 |e2=>Aw y P T λh=>G (aK h) T
 |n5=>Aw y P T λh=>G (aK (!h)) T
noncomputable def vo:r q->a6 (r a4)
 |[]=>g []
 |bW C::h=>(vo h).map (C::·)
 |_=>R
noncomputable def o3:r q->a6 (r B)
 |[]=>g []
 |j C::h=>(o3 h).map (C::·)
 |_=>R
noncomputable def ob (X:r B):r B:=X.mergeSort λy P=>decide (y<=P)
noncomputable def sQ (C:a4):a6 B:=if C=ck "1" then g 1 else if C=ck "2" then g 2 else R
def oh (d:r q) (G:Prop):Prop:=match d with|[]=>G|_::_=>bK
def jh (d:r q) (G:q->Prop):Prop:=match d with|[]=>bK|y::h=>oh h (G y)
def rT (d:r q) (G:q->q->Prop):Prop:=match d with|[]=>bK|y::h=>jh h (G y)
def S' (T:K) (G:q->K->Prop):dY->Prop
 |V X=>X.length<aa/\G (j X.length) T
 |aT X=>X.length<aa/\G (j X.length) T
 |_=>bK
def S9 (J:q) (T:K) (G:q->K->Prop):Prop:=match J with
 |S X=>X.length<aa/\G (j X.length) T
 |x y=>dh T y (S' T G)
 |_=>bK
def zv (P:t8) (d:r q) (T:K) (G:q->K->Prop):Prop:=match P with
 |bo=>jh d λJ=>S9 J T G
 |.bW=>jh d λJ=>hr J λv=>(v=1/\G (bW (ck "1")) T)\/(v=2/\G (bW (ck "2")) T)
 |.j=>jh d λJ=>o4 J λC=>dj (sQ C) λv=>G (j v) T
 |o8=>rT d λJ m=>lT J m λW A=>G (j (if W<A then A else W)) T
 |rS=>jh d λJ=>lm J λy=>dh T y λI=>nh I λX=>X.length<aa/\G (S X) T
 |.V=>jh d λJ=>ja J λX=>X.length<aa/\gG T (V X) G
 |oc=>jh d λJ=>lm J λy=>dh T y λI=>AV I λw=>dj (o3 (w.map (·.1))) λX=>X.length<64/\gG T (V ((ob X).map j)) G
noncomputable def my (X:r q) (v:B):a6 q:=match v with
 |yk C=>X[C]?
 |tF C=>if C<X.length then X[X.length- (C+1)]? else R
def Su (Y:q) (G:q->Prop):dY->Prop
 |V X=>hr Y λv=>0<=v/\X.length<aa/\dj (my X v) G
 |aT w=>q.eK Y=true/\dj (b9 Y w) G
 |_=>bK
def Av (J v:q) (T:K) (G:q->K->Prop):Prop:=match J with
 |S X=>hr v λv=>X.length<aa/\dj (my X v) λJ=>G J T
 |x y=>dh T y (Su v λJ=>G J T)
 |_=>bK
noncomputable def uY (J:q):a6 e:=(ru J).bind TI
noncomputable def Hk (X:r q) (c o:q):a6 (r q):=match mz o with
 |true=>(uY c).map λy=>X.drop y
 |false=>f' (mz c) ((uY o).map λP=>X.take P)
def Bo (X:r q) (c o:q) (G:r q->Prop):Prop:=match mz o with
 |true=>dj (uY c) λy=>1<=y/\y<=X.length/\G (X.drop y)
 |false=>mz c=true/\dj (uY o) λP=>G (X.take P)
def Hj (J c o:q) (T:K) (G:q->K->Prop):Prop:=match J with
 |S X=>X.length<aa/\Bo X c o λX=>G (S X) T
 |x y=>dh T y λI=>nh I λX=>X.length<aa/\dj (Hk X c o) λk=>gG T (V k) G
 |_=>bK
noncomputable def iN (U W:e):a6 e:=match U,W with
 |57,45=>g (1000+16*57+2)
 |81,46=>g (1000+16*81+1)
 |85,47=>g (1000+16*85+1)
 |85,48=>g (1000+16*85+2)
 |85,23=>g (1000+16*85+3)
 |85,49=>g (1000+16*85+4)
 |85,50=>g (1000+16*85+5)
 |85,51=>g (1000+16*85+6)
 |85,52=>g (1000+16*85+7)
 |85,53=>g (1000+16*85+8)
 |85,54=>g (1000+16*85+9)
 |86,55=>g (1000+16*86+1)
 |103,20=>g (1000+16*103+1)
 |103,56=>g (1000+16*103+2)
 |_,_=>R
noncomputable def ll (U:e):ci:=[21,57,81,85,86,103].contains U
noncomputable abbrev b4:=e->r q->K->(q->K->Prop)->Prop
variable {l:b4}
def rv (W Y:e) (k d:Prop):Prop:=match kA W Y with|true=>k|false=>d
def TH (W:e) (C:a4) (d:r q) (T:K) (G:q->K->Prop):Prop:=rv W 61 (jh d λN=>o4 N λN=>G (aK (N.cps.toList.isPrefixOf C.cps.toList)) T) (rv W 50 (jh d λN=>ja N λX=>X.length<64/\dj (vo X) λP=>(∀N∈P,N.cps.size<1024)/\C.cps.size<1024/\G (bW (ox C P)) T) bK)
def U1 (y:e) (X:r q) (d:r q) (T:K) (G:q->K->Prop):Prop:=match d with
 |[]=>0<y/\X.length<aa/\dj X.getLast? λJ=>pk T y (V X.dropLast) (G J)
 |v::h=>oh h (hr v λv=>0<y/\0<=v/\X.length<aa/\dj (my X v) λJ=>pk T y (V (X.eraseIdx v.toNat)) (G J))
def TG (W y:e) (X:r q) (d:r q) (T:K) (G:q->K->Prop):Prop:=rv W 57 (jh d λJ=>0<y/\X.length<aa/\pk T y (V (X++[J])) (G bI)) (rv W 58 (U1 y X d T G) (rv W 60 (jh d λJ=>lm J λP=>dh T P λQ=>nh Q λk=>0<y/\0<P/\y≠P/\X.length+k.length<aa/\pk T y (V (X++k)) (G bI)) bK))
def TE (W y:e) (w:r (q×q)) (d:r q) (T:K) (G:q->K->Prop):Prop:=rv W 59 (rT d λY Q=>q.eK Y=true/\G ((b9 Y w).getD Q) T) (rv W 58 (rT d λY Q=>0<y/\q.eK Y=true/\w.length<aa/\(match b9 Y w with|some J=>pk T y (aT (lP Y w)) (G J)|none=>G Q T)) bK)
def o' (D:b4) (W:e) (J:q) (d:r q) (T:K) (G:q->K->Prop):Prop:=match J with
 |bW C=>TH W C d T G
 |x y=>dh T y λI=>(match I with
  |V X=>TG W y X d T G
  |aT w=>TE W y w d T G
  |cw U Y=>im W Y=R/\dj (iN U W) λo=>D o (x y::d) T G
  |ki _=>bK)
 |_=>bK
def s' (W:e) (J:q) (T:K):Prop:=match J with
 |bW _=>W=61\/W=50
 |x y=>dh T y λI=>(match I with
  |V _=>0<y/\(W=57\/W=58\/W=60)
  |aT _=>W=59\/W=58
  |cw U _=>(iN U W).isSome=true
  |ki _=>bK)
 |_=>bK
inductive ha where
 |f3 (y v:e)
 |fr (y v:e)
 |dk (c o:B)
 |S (X:r q)
 |kI (y:e) (I:d5) (A:r q)
open ha (kI f3)
variable {qs:ha->K->Prop} {l6:a6 (q×ha)->Prop} {ol:ha}
def abx (P:B):Prop:=P<2^40/\ -(2^40)<P
def SO (d:r q) (T:K) (G:ha->K->Prop):Prop:=match d with
 |[]=>bK
 |y::h=>hr y λy=>match h with
  |[]=>y<2^40/\ -(2^40)<y/\G (.dk 0 y) T
  |P::h=>oh h (hr P λP=>y<2^40/\ -(2^40)<y/\P<2^40/\ -(2^40)<P/\G (.dk y P) T)
def SN (y:e) (T:K) (G:ha->K->Prop):dY->Prop
 |V _=>G (f3 y 0) T
 |aT w=>w.length<aa/\∀I,G (kI y I (w.map (·.1))) (T.eM y (ki I))
 |_=>bK
def FU (J:q) (T:K) (G:ha->K->Prop):Prop:=match J with
 |S X=>G (.S X) T
 |x y=>dh T y (SN y T G)
 |_=>bK
def g4 (E:lK) (J:q) (T:K) (G:ha->K->Prop):Prop:=match E with
 |dC=>FU J T G
 |fr=>lm J λy=>dh T y λI=>nh I λX=>X.length<aa/\G (.fr y X.length) T
 |dk=>ja J λX=>SO X T G
def kL (t:ha) (T:K) (G:a6 (q×ha)->Prop):Prop:=match t with
 |.S X=>(match X with|[]=>G R|J::X=>G (g (J,.S X)))
 |.dk c o=>if c<o then G (g (j c,.dk (c+1) o)) else G R
 |f3 y v=>dh T y λI=>nh I λX=>X.length<aa/\(match X[v]? with|some J=>G (g (J,f3 y (v+1)))|none=>G R)
 |.fr y v=>(match v with|0=>G R|v+1=>dh T y λI=>nh I λX=>dj X[v]? λJ=>G (g (J,.fr y v)))
 |kI y I A=>dh T y λa=>AW a λQ=>Q=I/\(match A with|[]=>G R|Y::A=>G (g (Y,kI y I A)))
noncomputable def hS (P:(e->a6 q)->K->(q->K->Prop)->Prop) (b:(e->a6 q)->K->(q->K->Prop)->Prop) (h:bu) (Y:e):e->ha->r q->K->(r q->K->Prop)->Prop
 |0,_,_,_,_=>bK
 |C+1,t,d,T,G=>kL t T fun
  |none=>G d T
  |some (J,a)=>b (h.aP Y J) T λU k=>dj (fc U k) fun
   |true=>P (h.aP Y J) k λW p=>d.length<aa/\hS P b h Y C a (d++[W]) p G
   |false=>hS P b h Y C a d k G
noncomputable def tg:r q->a6 (r (q×q))
 |[]=>g []
 |Y::h=>match h with|[]=>R|J::h=>f' (q.eK Y) ((tg h).map λX=>(Y,J)::X)
def AL (X:r q) (k:K) (G:q->K->Prop):Prop:=match X with
 |[]=>bK
 |y::h=>hr y λy=>match h with
  |[]=> -(2^40)<y/\y<aa/\gG k (V ((eQ y.toNat).map λ(v:e)=>q.j (v:B))) G
  |P::h=>oh h (hr P λP=>0<=y/\y<2^40/\ -(2^40)<P/\P<aa/\gG k (V ((eQ (P- y).toNat).map λ(v:e)=>q.j (y+(v:B)))) G)
def aM (D:b4):b0->bu->K->(q->K->Prop)->Prop
 |oQ,_,_,_=>bK
 |u J,_,T,G=>G J T
 |f Y,h,T,G=>dj (h Y) λJ=>G J T
 |bR Z y P,h,T,G=>aM D y h T λW k=>aM D P h k λA p=>mo Z W A p G
 |aJ Z y P,h,T,G=>aM D y h T λW k=>aM D P h k λA p=>rc Z W A p G
 |it y,h,T,G=>aM D y h T λW k=>dj (fc W k) λN=>G (aK (!N)) k
 |fD y P,h,T,G=>aM D y h T λW k=>dj (fc W k) fun|true=>aM D P h k G|false=>G W k
 |hh y P,h,T,G=>aM D y h T λW k=>dj (fc W k) fun|true=>G W k|false=>aM D P h k G
 |.bc U y P,h,T,G=>aM D U h T λW k=>dj (fc W k) fun|true=>aM D y h k G|false=>aM D P h k G
 |.S w,h,T,G=>aM D w h T λW k=>ja W λX=>X.length<aa/\G (S X) k
 |.V w,h,T,G=>aM D w h T λW k=>ja W λX=>X.length<aa/\gG k (V X) G
 |.aT w,h,T,G=>aM D w h T λW k=>ja W λX=>X.length<=20/\dj (tg X) λa=>gG k (aT (a.foldl (λw Q=>et Q.1 Q.2 w) [])) G
 |aH F W,h,T,G=>aM D F h T λJ k=>lm J λy=>dh k y λI=>u1 I λ_ b=>dj (im W b) λm=>G m k
 |as F v,h,T,G=>aM D F h T λJ k=>aM D v h k λm p=>Av J m p G
 |j0 F c o,h,T,G=>aM D F h T λJ k=>aM D c h k λy p=>aM D o h p λP l=>Hj J y P l G
 |bh d w,h,T,G=>aM D w h T λW k=>ja W λX=>D d X k G
 |.cK U w,h,T,G=>ll U=true/\aM D w h T λW k=>ja W λX=>gG k (cw U []) λy k=>D (1000+16*U) (y::X) k λJ p=>s6 J (G y p)
 |cT P w,h,T,G=>aM D w h T λW k=>ja W λX=>zv P X k G
 |b1 W F w,h,T,G=>aM D F h T λJ k=>s' W J k/\aM D w h k λm p=>ja m λX=>o' D W J X p G
 |rD w,h,T,G=>aM D w h T λW k=>ja W λX=>AL X k G
 |fx E F Y t U,h,T,G=>aM D t h T λJ k=>g4 E J k λv k=>∃C,hS (λh T G=>aM D F h T G) (λh T G=>aM D U h T G) h Y C v [] k λX p=>X.length<aa/\gG p (V X) G
 |z,_,T,G=>G (S []) T
 |n y P,h,T,G=>aM D y h T λW k=>aM D P h k λA p=>ja A λX=>G (S (W::X)) p
noncomputable abbrev gZ:=sv->bu->K->Prop
variable {j6:bu->K->gZ->Prop} {aA:gZ}
noncomputable def lr:r e->r q->bu->a6 bu
 |[],d,h=>f' d.isEmpty (g h)
 |Y::A,d,h=>match d with|[]=>R|J::d=>lr A d (h.aP Y J)
def of (A:r e) (J:q) (h:bu) (T:K) (G:bu->Prop):Prop:=match J with
 |S X=>dj (lr A X h) G
 |x y=>dh T y λI=>nh I λX=>dj (lr A X h) G
 |_=>bK
def ip (d:bu->K->gZ->Prop) (A:q->bu->K->(bu->Prop)->Prop):e->ha->bu->K->gZ->Prop
 |0,_,_,_,_=>bK
 |C+1,t,h,T,G=>kL t T fun
  |none=>G cr h T
  |some (J,a)=>A J h T λX=>d X T λo I p=>(match o with
   |cr=>ip d A C a I p G
   |gp=>ip d A C a I p G
   |go=>G cr I p
   |.aR J=>G (.aR J) I p)
def qp (M:bu->K->(q->K->Prop)->Prop) (d:bu->K->gZ->Prop):e->bu->K->gZ->Prop
 |0,_,_,_=>bK
 |C+1,h,T,G=>M h T λJ k=>dj (fc J k) fun
  |false=>G cr h k
  |true=>d h k λo I p=>(match o with
   |cr=>qp M d C I p G
   |gp=>qp M d C I p G
   |go=>G cr I p
   |.aR J=>G (.aR J) I p)
def ve (J:q) (W:e) (m:q) (T:K) (G:K->Prop):Prop:=lm J λy=>dh T y λI=>u1 I λU Y=>0<y/\Y.length<64/\iN U W=R/\pk T y (cw U (kg W m Y)) G
def WF (y:e) (v m:q) (T:K) (G:K->Prop):dY->Prop
 |V X=>hr v λv=>0<y/\0<=v/\v.toNat<X.length/\X.length<aa/\pk T y (V (X.set v.toNat m)) G
 |aT w=>0<y/\q.eK v=true/\w.length<aa/\pk T y (aT (et v m w)) G
 |_=>bK
def vf (J v m:q) (T:K) (G:K->Prop):Prop:=lm J λy=>dh T y (WF y v m T G)
def a7 (D:b4):bO->bu->K->gZ->Prop
 |.oQ,_,_,_=>bK
 |L,h,T,G=>G cr h T
 |.go,h,T,G=>G go h T
 |.gp,h,T,G=>G gp h T
 |du F,h,T,G=>aM D F h T λ_ k=>G cr h k
 |ba Y F,h,T,G=>aM D F h T λJ k=>G cr (h.aP Y J) k
 |jM A F,h,T,G=>aM D F h T λJ k=>of A J h k λX=>G cr X k
 |dy I W F,h,T,G=>aM D F h T λJ k=>aM D I h k λy p=>ve y W J p λl=>G cr h l
 |es I i F,h,T,G=>aM D F h T λJ k=>aM D I h k λy p=>aM D i h p λw l=>vf y w J l λv=>G cr h v
 |q5 Y Z F,h,T,G=>dj (h Y) λc=>aM D F h T λJ k=>mo Z c J k λm p=>hr m λ_=>G cr (h.aP Y m) p
 |kG I W Z F,h,T,G=>aM D I h T λy k=>lm y λP=>dh k P λa=>u1 a λ_ q=>dj (im W q) λc=>aM D F h k λJ p=>mo Z c J p λm l=>hr m λ_=>ve y W m l λv=>G cr h v
 |bc U C N,h,T,G=>aM D U h T λJ k=>dj (fc J k) fun|true=>a7 D C h k G|false=>a7 D N h k G
 |kr U C,h,T,G=>∃d,qp (λh T G=>aM D U h T G) (λh T G=>a7 D C h T G) d h T G
 |el E Y F C,h,T,G=>aM D F h T λJ k=>g4 E J k λt k=>∃d,ip (λh T G=>a7 D C h T G) (λJ h _ G=>G (h.aP Y J)) d t h k G
 |sY E A F C,h,T,G=>aM D F h T λJ k=>g4 E J k λt k=>∃d,ip (λh T G=>a7 D C h T G) (λJ h T G=>of A J h T G) d t h k G
 |aR F,h,T,G=>aM D F h T λJ k=>G (.aR J) h k
 |tw C N,h,T,G=>a7 D C h T λo X k=>a7 D N X k λb H p=>(match b with|cr=>G o H p|_=>bK)
 |s C N,h,T,G=>a7 D C h T λo X k=>(match o with|cr=>a7 D N X k G|o=>G o X k)
noncomputable def bC (C:e->a6 (r e×bO)):e->b4
 |0=>λ_ _ _ _=>bK
 |a+1=>λo d T G=>dj (C o) λQ=>dj (lr Q.1 d λ_=>R) λh=>a7 (bC C a) Q.2 h T λU _ k=>(match U with
  |cr=>G bI k
  |.aR J=>G J k
  |_=>bK)
theorem bV (T:¬bd->bK):bd:=HV T
theorem l0 [vL bd] (T:bd) (Z:aG gT N r3 oj bs k):aG gT N (if bd then r3 else qu) oj bs k:=by exact c (aZ T)<|Z
theorem hU [vL bd] (T:¬bd) (Z:aG gT N qu oj bs k):aG gT N (if bd then r3 else qu) oj bs k:=by exact c (ay T)<|Z
inductive pR where
 |e9
 |c'
 |eU (y:e)
 |nP (y:e)
theorem hL {y P:pR} (T:y=P) (F:kA y.ctorIdx P.ctorIdx=false):bd:=ei (cS _ T) F
theorem ks (T:aI=cR) (F:kA aI.ctorIdx cR.ctorIdx=false):bd:=ei (cS _ T) F
structure cM where
 b5:e->dM
 jy:e->dM
 bw:dM->pR
mutual
inductive be (b:cM) (C:e) (T:gf):q->aX->Prop
 |bI:be b C T bI bf
 |aK (P:ci):be b C T (aK P) (gz P)
 |j (v:B) (N:h1):be b C T (j v) (aN v N)
 |bW (a:a4) (N:h1):be b C T (bW a) (bS a N)
 |x (y:e) (U:y<C):be b C T (x y) (O (b.b5 y))
 |S {X:r q} {y:dM} {I:d5} {d:hX aX} {F:e} (w:T.get? y=g I) (G:I.cls=ak "tuple") (l:I.data=.seq d F) (K:b.bw y=.e9) (D:bQ b C T X d.toList):be b C T (S X) (O y)
inductive bQ (b:cM) (C:e) (T:gf):r q->r aX->Prop
 |z:bQ b C T [] []
 |n {M:q} {J:aX} {E:r q} {d:r aX} (Q:be b C T M J) (D:bQ b C T E d):bQ b C T (M::E) (J::d)
end
section
variable {dX pI:cM}
structure fh (dX pI:cM) (a d:e) (ae fP:gf):Prop where
 cq:a<=d
 b5:∀y,y<a->pI.b5 y=dX.b5 y
 e9:∀y,dX.bw y=.e9->pI.bw y=.e9
 p7:∀y I,ae.get? y=g I->dX.bw y=.e9->fP.get? y=g I
theorem be.jT {U:q->aX->Prop} {b:r q->r aX->Prop} (k:U .bI bf) (p:∀P,U (.aK P) (gz P)) (l:∀v N,U (.j v) (aN v N)) (c:∀v N,U (.bW v) (bS v N)) (h:∀y,y<a->U (.x y) (O (dX.b5 y))) (A:∀X y I (d:hX aX) F,ae.get? y=g I->I.cls=ak "tuple"->I.data=.seq d F->dX.bw y=.e9->bQ dX a ae X d.toList->b X d.toList->U (.S X) (O y)) (i:b [] []) (w:∀C aI E d,be dX a ae C aI->bQ dX a ae E d->U C aI->b E d->b (C::E) (aI::d)) (W:be dX a ae C aI):U C aI:=be.rec (motive_1:=λC aI _=>U C aI) (motive_2:=λX d _=>b X d) k p l c h (λm G o K D=>A _ _ _ _ _ m G o K D) i (λQ D=>w _ _ _ _ Q D) W
theorem bQ.jT {U:r q->r aX->Prop} (i:U [] []) (w:∀M J E cF,be dX a ae M J->bQ dX a ae E cF->U E cF->U (M::E) (J::cF)) (W:bQ dX a ae ai cF):U ai cF:=bQ.rec (motive_1:=λ_ _ _=>sp) (motive_2:=λai cF _=>U ai cF) trivial (λ_=>trivial) (λ_ _=>trivial) (λ_ _=>trivial) (λ_ _=>trivial) (λ_ _ _ _ _ _=>trivial) i (λQ D _=>w _ _ _ _ Q D) W
inductive DR (dX:cM) (a:e) (ae:gf) (X:r q) (J:aX):Prop
 |iM (y:dM) (I:d5) (d:hX aX) (F:e) (Q:J=O y) (w:ae.get? y=g I) (G:I.cls=ak "tuple") (l:I.data=.seq d F) (K:dX.bw y=.e9) (D:bQ dX a ae X d.toList)
def DU (b:cM) (C:e) (T:gf):q->aX->Prop
 |bI,J=>J=bf
 |aK P,J=>J=gz P
 |j v,J=>∃N,J=aN v N
 |bW v,J=>∃N,J=bS v N
 |x y,J=>J=O (b.b5 y)/\y<C
 |S X,J=>DR b C T X J
def DT (b:cM) (C:e) (T:gf):r q->r aX->Prop
 |[],d=>d=[]
 |M::E,d=>(match d with|[]=>bK|J::d=>be b C T M J/\bQ b C T E d)
theorem be.o (W:be dX a ae C aI):DU dX a ae C aI:=be.jT (U:=DU dX a ae) (b:=λ_ _=>sp) rfl (λ_=>rfl) (λ_ _=>⟨_,rfl⟩) (λ_ _=>⟨_,rfl⟩) (λ_ ae=>⟨rfl,ae⟩) (λ_ _ _ _ _ k p l v P _=>⟨_,_,_,_,rfl,k,p,l,v,P⟩) trivial (λ_ _ _ _ _ _ _ _=>trivial) W
theorem bQ.o (W:bQ dX a ae ai cF):DT dX a ae ai cF:=W.jT (U:=DT dX a ae) rfl λ_ _ _ _ Q D _=>⟨Q,D⟩
theorem be.a0 (b:fh dX pI a d ae fP) (W:be dX a ae C aI):be pI d fP C aI:=be.jT (U:=be pI d fP) (b:=bQ pI d fP) .bI .aK .j .bW (λy U=>b.b5 y U▸.x y (gy U b.cq)) (λ_ _ _ _ _ w G l K _ t=>.S (b.p7 _ _ w K) G l (b.e9 _ K) t) .z (λ_ _ _ _ _ _ y P=>.n y P) W
theorem bQ.a0 (b:fh dX pI a d ae fP) (W:bQ dX a ae ai cF):bQ pI d fP ai cF:=W.jT .z λ_ _ _ _ Q _ t=>.n (Q.a0 b) t
theorem bQ.o5 (W:bQ dX a ae ai cF):ai.length=cF.length:=W.jT (U:=λai cF=>ai.length=cF.length) rfl λ_ _ _ _ _ _ t=>cS yv t
theorem bQ.c6 (Z:bQ dX a ae ai cF):∀(v:e) {W:q},ai[v]? =g W->∃A,cF[v]? =g A/\be dX a ae W A:=Z.jT (U:=λai cF=>∀(v:e) {W:q},ai[v]? =g W->∃A,cF[v]? =g A/\be dX a ae W A) (λv W F=>ce F) λ_ _ _ _ Q _ t v W=>qE v (λF=>bm F▸(a8 _ rfl Q)) λv F=>t v F
theorem bQ.R2 (Z:bQ dX a ae ai cF) (v:e) (F:ai[v]? =R):cF[v]? =R:=r6 (Z.o5▸YG.mp F)
theorem bQ.wC {c:r aX} (W:bQ dX a ae ai cF) (Z:bQ dX a ae d' c):bQ dX a ae (ai++d') (cF++c):=W.jT (U:=λai cF=>bQ dX a ae (ai++d') (cF++c)) Z λ_ _ _ _ Q _ t=>.n Q t
theorem bQ.Hx (Y:e) (W:bQ dX a ae ai cF):bQ dX a ae (ai.take Y) (cF.take Y):=W.jT (U:=λai cF=>∀Y,bQ dX a ae (ai.take Y) (cF.take Y)) (λY=>qE Y .z λ_=>.z) (λ_ _ _ _ Q _ t Y=>qE Y .z λY=>.n Q (t Y)) Y
theorem bQ.p0 (Y:e) (W:bQ dX a ae ai cF):bQ dX a ae (ai.drop Y) (cF.drop Y):=W.jT (U:=λai cF=>∀Y,bQ dX a ae (ai.drop Y) (cF.drop Y)) (λY=>qE Y .z λ_=>.z) (λ_ _ _ _ Q D t Y=>qE Y (.n Q D) λY=>t Y) Y
theorem bQ.iu (Y:e) (h:bQ dX a ae ai cF) (Z:be dX a ae C aI):bQ dX a ae (ai.set Y C) (cF.set Y aI):=h.jT (U:=λai cF=>∀Y,bQ dX a ae (ai.set Y C) (cF.set Y aI)) (λ_=>.z) (λ_ _ _ _ Q D t Y=>qE Y (.n Z D) λY=>.n Q (t Y)) Y
theorem bQ.E4 (Y:e) (h:bQ dX a ae ai cF):bQ dX a ae (ai.eraseIdx Y) (cF.eraseIdx Y):=h.jT (U:=λai cF=>∀Y,bQ dX a ae (ai.eraseIdx Y) (cF.eraseIdx Y)) (λ_=>.z) (λ_ _ _ _ Q D t Y=>qE Y D λY=>.n Q (t Y)) Y
end
open pR (nP c' e9 eU)
variable {pn cP p:cM}
theorem SZ:uR Q aB=true↔Q=aB:=by
 induction Q generalizing aB with
 |nil=>cases aB with
  |nil=>exact⟨λ_=>rfl,λ_=>rfl⟩
  |cons P aB=>exact⟨(λT=>eY T),(λT=>vu T)⟩
 |cons y Q t=>cases aB with
  |nil=>exact⟨(λT=>eY T),(λT=>rW T)⟩
  |cons P aB=>
   refine Yh (b:=kA y P=true/\uR Q aB=true) ?_ ⟨λT=>yq T.1▸t.mp T.2▸rfl,λT=>?_⟩
   ·refine(?_:(match kA y P with|true=>uR Q aB|false=>false)=true↔_)
    cases kA y P with
    |true=>exact⟨λT=>⟨rfl,T⟩,λT=>T.2⟩
    |false=>exact⟨(λT=>eY T),(λT=>eY T.1)⟩
   cases T;exact⟨Y0 y,t.mpr rfl⟩
theorem kn:dV ac fu=true↔ac=fu:=by refine SZ.trans ⟨λT=>?_,λT=>T▸rfl⟩;cases ac;cases fu;exact cS Str.mk (HR.mp T)
theorem pa (y P:a4):dV y P=decide (y=P):=by rw[hN,kn,hB]
def i6 (U:eG->Prop):a6 eG->Prop
 |none=>sp
 |some y=>U y
theorem i6.gb (T:i6 fd hj) (F:hj=g dH):fd dH:=(F▸T:i6 fd (g dH))
theorem xp (T:ru C=g am):C=j am:=i6.gb (fd:=λam=>C=j am) (by cases C<;>first|exact trivial|exact rfl) T
theorem Hr (T:vn C=g ac):C=bW ac:=i6.gb (fd:=λac=>C=bW ac) (by cases C<;>first|exact trivial|exact rfl) T
theorem zB (T:wM C=g bt):C=aK bt:=i6.gb (fd:=λbt=>C=aK bt) (by cases C<;>first|exact trivial|exact rfl) T
theorem XC (T:x8 C=g ai):C=S ai:=i6.gb (fd:=λai=>C=S ai) (by cases C<;>first|exact trivial|exact rfl) T
theorem Vt (T:GN C=g a):C=x a:=i6.gb (fd:=λa=>C=x a) (by cases C<;>first|exact trivial|exact rfl) T
theorem uM (T:mz C=true):C=bI:=by cases C<;>first|exact rfl|exact(fR T).elim
theorem wJ (y:q):q.d6 y y=true:=q.rec (motive_1:=λy=>q.d6 y y=true) (motive_2:=λX=>kh X X=true) rfl (λ_=>oF rfl) (λ_=>oF rfl) (λ_=>kn.mpr rfl) (λ_ T=>T) (λ_=>oF rfl) rfl (λ_ _ T H=>dR.mpr ⟨T,H⟩) y
theorem E3 (y:q):∀{P:q},q.d6 y P=true->y=P:=q.rec (motive_1:=λy=>∀P,q.d6 y P=true->y=P) (motive_2:=λX=>∀k,kh X k=true->X=k) (λ_ T=>(uM T).symm) (λ_ _ T=>(zB (dq T)).symm) (λ_ _ T=>(xp (dq T)).symm) (λ_ P T=>by cases P<;>first|exact cS _ (kn.mp T)|exact eY T) (λ_ t P T=>by cases P<;>first|exact cS _ (t _ T)|exact eY T) (λ_ _ T=>(Vt (dq T)).symm) (λX T=>by cases X<;>first|rfl|exact eY T) (λ_ _ T H X F=>by
   cases X with
   |nil=>exact eY F
   |cons _ _=>exact T _ (dR.mp F).1▸H _ (dR.mp F).2▸rfl) y _
theorem gE:q.d6 C b2=true↔C=b2:=⟨E3 C,λT=>T▸wJ C⟩
theorem Pc:kh ai d'=true↔ai=d':=⟨λT=>q.S.inj (E3 (S ai) (P:=S d') T),λT=>T▸wJ (S ai)⟩
theorem abo (T:C≠b2):q.d6 C b2=false:=Yg.mpr λF=>T (gE.mp F)
theorem Pe (v w:B):q.d6 (j v) (j w)=decide (v=w):=hN.mpr (gE.trans ⟨λT=>oF (q.j.inj T),λT=>cS _ (dq T)⟩)
inductive JG (Y:e) (y:q):Prop
 |j (v:B) (F:y=j v)
 |bW (v:a4) (F:y=bW v)
 |S (X:r q) (w:e) (F:y=S X) (J:Y=w+1) (T:X.all (dJ w)=true)
theorem uz (F:dJ a C=dJ 0 bI) (o:dJ a C=true):bd:=(fR (F▸o:dJ 0 bI=true)).elim
theorem m':dJ a C=true->JG a C:=by
 cases C with
 |j v=>exact λ_=>.j v rfl
 |bW v=>exact λ_=>.bW v rfl
 |S X=>cases a with
  |zero=>exact uz rfl
  |succ a=>exact λo=>.S X a rfl rfl o
 |_=>cases a<;>exact uz rfl
theorem be.SE (W:be p a ae (.j am) aI):∃N,aI=aN am N:=W.o
theorem be.abP (W:be p a ae (.bW ac) aI):∃N,aI=bS ac N:=W.o
theorem be.abq (W:be p a ae (.aK bt) aI):aI=gz bt:=W.o
theorem be.abE (W:be p a ae .bI aI):aI=bf:=W.o
theorem be.abM (W:be p a ae (.x d) aI):aI=O (p.b5 d)/\d<a:=W.o
theorem be.abR (W:be p a ae (.S ai) aI):DR p a ae ai aI:=W.o
theorem xZ {b h i:qS} (I:N.units<ek) (U:∀E:cc,E.heap=k.heap->E.TypeIs aI gw) (q:∀E:cc,E.heap=k.heap->E.TypeIs cR b) (C:(ak gw !=ak b)=true) (d:tZ (ak b) (ak gw)=pure false) (t:Slot gw (I9 ou).2.1 h) (p:Slot b (I9 ou).2.2 i) (K:CI aI cR=pure bt) (G:aG (bG cd v) N (gX (bH h) [aI,cR]) (λJ a=>J=tU/\a.heap=k.heap/\aG (bG cd v) N (gX (bH i) [cR,aI]) (λJ o=>J=tU/\cC (gz (bt)) o) bs a) bs k):aG (bG cd v) N (CL ou aI cR) cC bs k:=by
 unfold CL;refine f4<|wpAny_bind (wpAny_cRoomFor I ?_)
 refine c ((U k rfl).oneThing_none ..)<|wpAny_bind (yX (U k rfl) (av (yX (q k rfl) ?_)))
 refine l0 C (av (oD d (hU fR ?_)));refine av (m:=tryCompare aI _ cR) (aaw (U k rfl) t (dt G (λJ a Z=>⟨Z.1,?_⟩) λ_ _ W=>W));refine l0 rfl (av (m:=tryCompare cR _ aI) (aaw (q a Z.2.1) p (dt Z.2.2 (λJ o l=>⟨l.1,?_⟩) λ_ _ W=>W)));refine av (kc (av (oD K (bz l.2))))
theorem HB (w:k.heap.get? W=g cf) (G:cf.cls=ak "tuple") (l:cf.data=.seq cB a) (Z:cC tU k):aG (bG cd v) N (gX (bH "tuple.__eq__") [O W,aN am fL]) cC bs k:=jD sd (a8 cf w G) IN (by
  obtain⟨U,Q,d,A⟩:=cf;refine c G ?_;refine c l ?_;obtain⟨J,b,Q,M,y⟩:=k;unfold Builtin.«tuple.__eq__»;have o:Looks (bG cd v) J (yN (aN am fL) (ak "tuple")) false:=Z5 (by refine(?_:tZ (ak "int") (ak "tuple")=_);refine c (v8 ..) ?_;kernel_rfl);repeat lk
  exact a8 _ rfl Z) (IM _ _)
theorem HC (w:k.heap.get? W=g cf) (G:cf.cls=ak "tuple") (l:cf.data=.seq cB a) (Z:cC tU k):aG (bG cd v) N (gX (bH "tuple.__eq__") [O W,bS ac fL]) cC bs k:=jD sd (a8 cf w G) IN (by
  obtain⟨U,Q,d,A⟩:=cf;refine c G ?_;refine c l ?_;obtain⟨J,b,Q,M,y⟩:=k;unfold Builtin.«tuple.__eq__»;have o:Looks (bG cd v) J (yN (bS ac fL) (ak "tuple")) false:=Z5 (by refine(?_:tZ (ak "str") (ak "tuple")=_);refine c (v8 ..) ?_;kernel_rfl);repeat lk
  exact a8 _ rfl Z) (IM _ _)
theorem FM (w:k.heap.get? W=g cf) (G:cf.cls=ak "tuple") (l:cf.data=.seq cB a) (Z:cC tU k):aG (bG cd v) N (gX (bH "int.__eq__") [aN am fL,O W]) cC bs k:=jD ZL (yT k am fL) F.entry_int_eq (by
  obtain⟨U,Q,d,A⟩:=cf;refine c G ?_;obtain rfl:=l;obtain⟨J,b,Q,M,y⟩:=k;unfold Builtin.«int.__eq__»;repeat lk
  exact a8 _ rfl Z) (F.args_int_eq_2 _ _)
theorem Hs (w:k.heap.get? W=g cf) (G:cf.cls=ak "tuple") (l:cf.data=.seq cB a) (Z:cC tU k):aG (bG cd v) N (gX (bH "str.__eq__") [bS ac fL,O W]) cC bs k:=jD ZR (qQ k ac fL) F.entry_str_eq (by
  obtain⟨U,Q,d,A⟩:=cf;refine c G ?_;obtain rfl:=l;obtain⟨J,b,Q,M,y⟩:=k;unfold Builtin.«str.__eq__»;repeat lk
  exact a8 _ rfl Z) (F.args_str_eq_2 _ _)
theorem Xa:tZ (ak "int") (ak "tuple")=pure false:=by refine c (v8 ..) ?_;kernel_rfl
theorem Xb:tZ (ak "str") (ak "tuple")=pure false:=by refine c (v8 ..) ?_;kernel_rfl
theorem Xc:tZ (ak "tuple") (ak "int")=pure false:=by refine c (v8 ..) ?_;kernel_rfl
theorem Xd:tZ (ak "tuple") (ak "str")=pure false:=by refine c (v8 ..) ?_;kernel_rfl
theorem Hl:Slot "tuple" (I9 ou).2.2 "tuple.__eq__":=sd
theorem FJ (Z:be p a ae C aI):∀{Y w:e} {A:q},dJ Y C=true->dJ w A=true->be p a ae A aI->C=A:=Z.jT (U:=λC aI=>∀{Y w:e} {A:q},dJ Y C=true->dJ w A=true->be p a ae A aI->C=A) (b:=λG d=>∀{Y w:e} {b:r q},G.all (dJ Y)=true->b.all (dJ w)=true->bQ p a ae b d->G=b) (λ{Y} _ _ W=>by cases Y<;>exact uz rfl W) (λP {Y} _ _ W=>by cases Y<;>exact uz rfl W) (λv N Y w A _ W h=>by
   obtain⟨v,rfl⟩|⟨v,rfl⟩|⟨X,_,rfl,_,_⟩:=m' W
   ·refine aU h.o λ_ F=>?_;cases F;rfl
   ·refine aU h.o λ_ F=>?_;exact ks F rfl
   ·obtain⟨_,_,_,_,F,_⟩:=h.o;exact ks F rfl)
  (λv N Y w A _ W h=>by
   obtain⟨v,rfl⟩|⟨v,rfl⟩|⟨X,_,rfl,_,_⟩:=m' W
   ·refine aU h.o λ_ F=>?_;exact ks F rfl
   ·refine aU h.o λ_ F=>?_;cases F;rfl
   obtain⟨_,_,_,_,F,_⟩:=h.o;exact ks F rfl)
  (λy _ {Y} _ _ W=>by cases Y<;>exact uz rfl W)
  (λX y I d F aa ag l ah D t Y w A K W h=>by
   obtain⟨v,rfl⟩|⟨v,rfl⟩|⟨k,U,rfl,rfl,i⟩:=m' W
   ·refine aU h.o λ_ F=>?_;exact ks F rfl
   ·refine aU h.o λ_ F=>?_;exact ks F rfl
   ·obtain⟨ai,Q,aj,J,ab,T,_,af,_,m⟩:=h.o
    cases ab
    obtain rfl:=bm (aa.symm.trans T)
    cases l.symm.trans af
    cases Y with
    |zero=>exact eY K
    |succ Y=>exact cS q.S (t K i m))
  (λ_ _ D=>by
   rename_i b _ _
   cases b with
   |nil=>rfl
   |cons _ _=>cases D.o)
  (λM aI E d _ _ t H Y w b K i D=>by
   cases b with
   |nil=>cases D.o
   |cons A b=>have K:=dR.mp K;have i:=dR.mp i;exact c (t K.1 i.1 D.o.1) (c (H K.2 i.2 D.o.2) rfl))
theorem be.FI (Y:e) (b:dJ Y C=true) (c:dJ Y b2=true) (q:be p a ae C aI) (h:be p a ae b2 aI):C=b2:=FJ q b c h
theorem ri (M:∀P a,aI=.float P a->bK) (T:(aI==cR)=false) (i:aG (bG cd v) N (CL ou aI cR) (λh E=>aG (bG cd v) N (aai h) fe bs E) bs k):aG (bG cd v) N (oz aI cR) fe bs k:=by
 unfold oz;refine f4<|hU (by exact c T<|fR) ?_
 dsimp only;split
 ·rename_i F;exact(M _ _ (cS Zm F)).elim
 exact av i
section
variable (m0:N.units<ek) (hP:k.heap.get? W=g cf) (me:cf.cls=ak "tuple") (iZ:cf.data=.seq cB a) (jr:fe false k)
include m0 hP me iZ jr
theorem Q0:aG (bG cd v) N (oz (O W) (aN am fL)) fe bs k:=ri (λ_ _ a=>ks a rfl) rfl (xZ m0 (λE a=>a8 cf (a▸hP) me) (λE _=>yT E am fL) (aQ rfl) Xa sd F.slot_int_eq_refl rfl (HB hP me iZ (ch rfl rfl (FM hP me iZ ⟨rfl,oE jr⟩))))
theorem Q1:aG (bG cd v) N (oz (O W) (bS ac fL)) fe bs k:=ri (λ_ _ a=>ks a rfl) rfl (xZ m0 (λE a=>a8 cf (a▸hP) me) (λE _=>qQ E ac fL) (aQ rfl) Xb sd F.slot_str_eq_refl rfl (HC hP me iZ (ch rfl rfl (Hs hP me iZ ⟨rfl,oE jr⟩))))
theorem QY:aG (bG cd v) N (oz (aN am fL) (O W)) fe bs k:=ri (λ_ _ F=>ks F rfl) rfl (xZ m0 (λE _=>yT E am fL) (λE F=>a8 cf (F▸hP) me) (aQ rfl) Xc ZL Hl rfl (FM hP me iZ (ch rfl rfl (HB hP me iZ ⟨rfl,oE jr⟩))))
theorem QZ:aG (bG cd v) N (oz (bS ac fL) (O W)) fe bs k:=ri (λ_ _ F=>ks F rfl) rfl (xZ m0 (λE _=>qQ E ac fL) (λE F=>a8 cf (F▸hP) me) (aQ rfl) Xd ZR Hl rfl (Hs hP me iZ (ch rfl rfl (HC hP me iZ ⟨rfl,oE jr⟩))))
end
inductive pU (p:cM) (a:e) (T:gf) (Y:e) (P M:ci) (c:r (aX×aX)):Prop
 |iM (W A:r q) (G b:r aX) (y:c=YY G b) (d:bQ p a T W G) (h:bQ p a T A b) (K:W.all (dJ Y)=true) (i:A.all (dJ Y)=true) (k:kh W A=P) (D:(G.length==b.length)=M)
theorem AR (q:bQ p a ae ai []):ai=[]:=BL q.o5
theorem pU.z (N:pU p a ae d bt iT []):iT=bt:=by
 obtain⟨W,A,G,b,y,q,h,_,_,M,D⟩:=N
 refine bp M (bp D ?_)
 clear M D
 cases G with
 |nil=>
  refine c (AR q) ?_
  cases A with
  |nil=>refine c (show b=[] from h.o) ?_;rfl
  |cons _ _=>cases b with
   |nil=>cases h.o
   |cons _ _=>rfl
 |cons _ _=>cases b with
  |nil=>
   refine c (AR h) ?_
   cases W with
   |nil=>cases q.o
   |cons _ _=>rfl
  |cons _ _=>exact vu y
inductive DQ (p:cM) (a:e) (T:gf) (Y:e) (P M:ci) (Q:aX×aX) (A:r (aX×aX)):Prop
 |iM (m E:q) (K:dJ Y m=true) (i:dJ Y E=true) (k:be p a T m Q.1) (b:be p a T E Q.2) (N:q.d6 m E=true->pU p a T Y P M A) (o:q.d6 m E=false->P=false)
theorem pU.rr {b:r aX} (c:bQ p a ae ai (aI::cF)) (h:bQ p a ae d' (cR::b)) (K:ai.all (dJ d)=true) (i:d'.all (dJ d)=true):DQ p a ae d (kh ai d') ((aI::cF).length==(cR::b).length) (aI,cR) (YY cF b):=by
 cases ai with
 |nil=>exact(qA _ _ c.o).elim
 |cons m ai=>cases d' with
  |nil=>exact(qA _ _ h.o).elim
  |cons E d'=>have y:=dR.mp K;have U:=dR.mp i;exact⟨m,E,y.1,U.1,c.o.1,h.o.1,λF=>⟨ai,d',cF,b,rfl,c.o.2,h.o.2,y.2,U.2,show _=(q.d6 m E&&_) from F▸rfl,hN.mpr ((t1.trans Nat.succ_inj.symm).trans t1.symm)⟩,λF=>(cS (· &&_) F:(q.d6 m E&&_)=_)⟩
theorem pU.n {Q:aX×aX} {A:r (aX×aX)} (N:pU p a ae d bt iT (Q::A)):DQ p a ae d bt iT Q A:=by
 refine bV λH=>?_
 obtain⟨W,m,G,b,y,q,h,K,i,M,D⟩:=N
 cases G with
 |nil=>exact rW y
 |cons X G=>cases b with
  |nil=>exact rW y
  |cons J b=>injection y with k l;refine H<|c k<|c l<|bp M<|bp D<|pU.rr q h K i
theorem Q2 (Y:e) (t:∀{W cE:q} {X J:aX} {fe:ci->cc->Prop},dJ Y W=true->dJ Y cE=true->be p a k.heap W X->be p a k.heap cE J->fe (q.d6 W cE) k->aG (bG cd v) N.in1 (oz X J) fe bs k) (I:N.units<ek) (b:ai.all (dJ Y)=true) (C:d'.all (dJ Y)=true) {Q:d5} {o:hX aX} (y:k.heap.get? W=g cf) (G:cf.cls=ak "tuple") (l:cf.data=.seq cB d) (D:bQ p a k.heap ai cB.toList) (T:k.heap.get? cE=g Q) (F:Q.cls=ak "tuple") (P:Q.data=.seq o w) (m:bQ p a k.heap d' o.toList) (Z:fe (kh ai d') k):aG (bG cd v) N (CL ou (O W) (O cE)) (λh E=>aG (bG cd v) N (aai h) fe bs E) bs k:=by
 refine wpAny_richCompare_same_room (op:=ou) (a8 cf y G) (a8 Q T F) sd (jD sd (a8 cf y G) IN ?_ (IM _ _)) I;refine(?_:aG _ _ (yN (O cE) (ak "tuple")>>=_) _ _ k);refine av (t0 (a8 Q T F) aab ?_);refine hU (show ¬((!true)=true) from fR)<|wpAny_bind (Jo y l (av (Jo T P (av ?_))))
 refine Jk _ (λA h E=>h.1=R/\k=E/\pU p a k.heap Y (kh ai d') (cB.size==o.size) A) _ ?_ ?_ _ _ ⟨rfl,rfl,ai,d',cB.toList,o.toList,rfl,D,m,b,C,rfl,rfl⟩
 ·rintro⟨X,J⟩ A h E ⟨i,rfl,H⟩
  obtain⟨U,aa,ab,ae,af,ag,ah,M⟩:=H.n
  refine av (t ab ae af ag ?_)
  cases K:q.d6 U aa with
  |true=>exact bz (ch rfl rfl (ah K))
  |false=>rw[M K] at Z;exact av (bz (bz (bz (d7 _ rfl (λd=>ks d rfl) (oE Z)))))
 rintro⟨aj,ao⟩ E ⟨i,rfl,H⟩;cases i;refine bz<|(?_:∃J,Fin.done (se (gz (cB.size==o.size)))=Fin.done (se J)/\_)
 exact c H.z<|d7 _ rfl (λd=>ks d rfl) (oE Z)
theorem E1 {H:jC} (P:H.units+d<ek) (Q:dJ d C=true) (X:dJ d b2=true) (U:be p a k.heap C aI) (E:be p a k.heap b2 cR) (Z:fe (q.d6 C b2) k) (y:∀{W A:r q} {J:e},C=S W->b2=S A->d=J+1->W.all (dJ J)=true->A.all (dJ J)=true->aG (bG cd v) H (oz aI cR) fe bs k):aG (bG cd v) H (oz aI cR) fe bs k:=by
 have t:H.units<ek:=kB (bX _ _) P;obtain⟨D,rfl⟩|⟨D,rfl⟩|⟨W,J,rfl,rfl,K⟩:=m' Q<;>obtain⟨T,rfl⟩|⟨T,rfl⟩|⟨A,Y,rfl,F,i⟩:=m' X
 ·refine aU U.o λN m=>?_;refine c m<|aU E.o λh m=>?_;exact c m<|(yM cd v).eqBool (a:=D) (b:=T) (intKind_is _ _ _ _) (intKind_is _ _ _ _) (Pe D T▸Z)
 ·refine aU U.o λN m=>?_;refine c m<|aU E.o λh m=>?_;exact c m<|ri (λ_ _ F=>ks F rfl) rfl (EqMixed.eq_int_str (oE Z))
 ·refine aU U.o λN m=>?_;refine c m ?_;obtain⟨C,I,M,F,rfl,w,G,l,_⟩:=E.o;exact QY t w G l Z
 ·refine aU U.o λN m=>?_;refine c m<|aU E.o λh m=>?_;exact c m<|ri (λ_ _ F=>ks F rfl) rfl (EqMixed.eq_str_int (oE Z))
 ·refine aU U.o λN m=>?_;refine c m<|aU E.o λh m=>?_;exact c m<|(strKind cd v).eqBool (a:=D) (b:=T) (strKind_is _ _ _ _) (strKind_is _ _ _ _) (pa D T▸Z)
 ·refine aU U.o λN m=>?_;refine c m ?_;obtain⟨C,I,M,F,rfl,w,G,l,_⟩:=E.o;exact QZ t w G l Z
 ·refine aU E.o λN m=>?_;refine c m ?_;obtain⟨C,I,M,F,rfl,w,G,l,_⟩:=U.o;exact Q0 t w G l Z
 ·refine aU E.o λN m=>?_;refine c m ?_;obtain⟨C,I,M,F,rfl,w,G,l,_⟩:=U.o;exact Q1 t w G l Z
 cases F;exact y rfl rfl rfl K i
theorem w3 (Y:e):∀{aa:jC} {y P:q} {X J:aX} {H:ci->cc->Prop},aa.units+Y<ek->dJ Y y=true->dJ Y P=true->be p a k.heap y X->be p a k.heap P J->H (q.d6 y P) k->aG (bG cd v) aa (oz X J) H bs k:=by
 induction Y with
 |zero=>exact λI b C U E Z=>E1 I b C U E Z λ_ _ F=>ei F rfl
 |succ Y t=>
  intro aa y P X J H I b C U E Z;refine E1 I b C U E Z λ{W A ai} ab ae N K i=>?_;cases N;subst ab ae;obtain⟨y,aj,d,F,rfl,w,G,l,_,D⟩:=U.o;obtain⟨P,Q,ao,aq,rfl,T,af,h,_,m⟩:=E.o;by_cases M:y=P
  ·subst M;obtain rfl:=bm (w.symm.trans T);cases l.symm.trans h;rw[show W=A from q.S.inj (FJ U b C E),wJ] at Z;unfold oz;refine f4<|l0 (wb _)<|wpAny_bind (kc (bz Z))
  exact ri (λ_ _ F=>ks F rfl) (pH.mpr λF=>M (Z4 F)) (Q2 Y (λK i ag ah Z=>t (by exact c (Ce ..)<|(hO aa.units 1 Y).symm▸I) K i ag ah Z) (kB (bX _ _) I) K i w G l D T af h m Z)
noncomputable def Sl (m:bZ):q->B
 |j v=>CH v
 |bW C=>hashStr m C
 |_=>0
noncomputable def jS (m:bZ) (C:e):q->B:=B6 (Sl m) (λ_ o J=>match J with
 |S X=>Jg (yD (X.map o))
 |j v=>CH v
 |bW a=>hashStr m a
 |_=>0) C
inductive Mz (v:bZ) (p:cM) (a:e) (C:cc) (c:e) (W:r q) (A:r aX) (P:hX B) (E:cc):Prop
 |iM (Y b:r q) (M:h1) (d:W=Y++b) (D:bQ p a C.heap b A) (i:P.toList=Y.map (jS v c)) (h:E={C with toks:=M})
theorem Sm (Y:e) {H:B->cc->Prop} (ab:∀{k:cc} {W:q} {X:aX} {H:B->cc->Prop},dJ Y W=true->be p a k.heap W X->(∀M,H (jS v Y W) {k with toks:=M})->aG (bG cd v) N.in1 (CK X) H bs k) (I:N.units<ek) (b:ai.all (dJ Y)=true) (w:k.heap.get? W=g cf) (G:cf.cls=ak "tuple") (l:cf.data=.seq cB d) (D:bQ p a k.heap ai cB.toList) (Z:∀M,H (Jg (yD (ai.map (jS v Y)))) {k with toks:=M}):aG (bG cd v) N (CK (O W)) H bs k:=by
 have t:k.TypeIs (O W) "tuple":=a8 cf w G;unfold CK pyHashByItsType;refine av (wpAny_cRoomFor_or (ar I) ?_);refine av (so t Ck.lookup ?_);refine(?_:aG _ _ (if(g (bH "tuple.__hash__")==g bf)=true then _ else _) H bs k);refine hU (by exact c (Z9 ..)<|fR)<|wpAny_bind (so t Ck.lookup ?_)
 refine(?_:aG _ _ (callSpecialIfBoundUnlessNone? (O W) "__hash__" _>>=_) H bs k);refine av (wpAny_callSpecialIfBoundUnlessNone?_slot t Ck (jD Ck t F.entry_tuple_hash ?_ (F.args_tuple_hash_1 _)));refine(?_:aG _ _ (Zv (O W)>>=_) _ _ k);refine av (Jo w l ?_);refine av<|bp (X' ..)<|wpAny_forIn_list _ (Mz v p a k Y ai) _ ?_ ?_ _ _ ⟨[],ai,k.toks,rfl,D,rfl,rfl⟩
 ·intro A ah P ae Q
  refine HV λT=>?_
  obtain⟨U,C,M,J,m,E,h⟩:=Q
  cases C with
  |nil=>cases m.o
  |cons aa C=>
   refine bl m.o λaf ag=>?_;rw[J] at b;refine T<|c h<|wpAny_bind (ab (k:={k with toks:=M}) (f2.mp b aa (mT _ (fC _))) af λy=>?_)
   exact bz ⟨U++[aa],C,y,J.trans (gx U [aa] C).symm,ag,by exact c (eq ..)<|bp E<|HS,rfl⟩
 intro P ae Q;refine HV λT=>?_;obtain⟨U,C,M,J,m,E,h⟩:=Q;refine T ?_;obtain rfl:=BL m.o5;rw[eP] at J;subst J;refine(?_:aG _ _ (retInt (yD P.toList)) _ _ _);refine c E (c h ?_);refine aav<|(?_:aG _ _ (if(decide (-(2:B)^63<=yD (ai.map (jS v Y)))&&decide (yD (ai.map (jS v Y))<2^63))=true then _ else _) H bs _)
 have K:=Z (M+1);unfold Jg at K;split at K
 ·rename_i i;refine l0 i<|wpAny_pure K
 rename_i i;refine hU i<|wpAny_bind (kc (bz K))
theorem Am (Y:e):∀{k:jC} {P:aX->cc->Prop} {C:cc} {y:q} {X:aX} {H:B->cc->Prop},k.units+Y<ek->dJ Y y=true->be p a C.heap y X->(∀M,H (jS v Y y) {C with toks:=M})->aG (bG cd v) k (CK X) H P C:=by
 induction Y with
 |zero=>
  intro k P C y X H I b U Z;obtain⟨h,rfl⟩|⟨h,rfl⟩|⟨W,w,rfl,F,K⟩:=m' b
  ·refine aU U.o λN m=>?_;exact c m<|wpAny_pyHash_int (Z _)
  ·refine aU U.o λN m=>?_;exact c m<|wpAny_pyHash_str (Z _)
  exact ei F rfl
 |succ Y t=>
  intro k P C y X H I b U Z;obtain⟨h,rfl⟩|⟨h,rfl⟩|⟨W,w,rfl,F,K⟩:=m' b
  ·refine aU U.o λN m=>?_;exact c m<|wpAny_pyHash_int (Z _)
  ·refine aU U.o λN m=>?_;exact c m<|wpAny_pyHash_str (Z _)
  obtain⟨y,E,d,F,rfl,i,G,l,_,D⟩:=U.o;exact Sm Y (λA T Z=>t (by exact c (Ce ..)<|(hO k.units 1 Y).symm▸I) A T Z) (kB (bX _ _) I) b i G l D Z
theorem Vn (Q Y:e) (c:∀{W:q} {X:aX} {fe:ci->cc->Prop},dJ Y W=true->be p a k.heap W X->fe true k->aG (bG cd v) N (CE Q X) fe bs k) (b:ai.all (dJ Y)=true) (w:k.heap.get? W=g cf) (G:cf.cls=ak "tuple") (l:cf.data=.seq cB d) (D:bQ p a k.heap ai cB.toList) (Z:fe true k):aG (bG cd v) N (CE (Q+1) (O W)) fe bs k:=by
 have t:k.TypeIs (O W) "tuple":=a8 cf w G;unfold CE;refine av (so t sd.lookup ?_);refine(?_:aG _ _ (yN (O W) (ak "tuple")>>=_) _ _ k);refine av (t0 t aab ?_);refine hU (show ¬((!true)=true) from fR)<|wpAny_bind (Jn w l ?_)
 refine av<|(?_:aG _ _ (vN cB _ _) _ _ k)
 refine bp (X' ..)<|wpAny_forIn_list _ (λA h E=>h.1=R/\k=E/\∃C,bQ p a k.heap C A/\C.all (dJ Y)=true) _ ?_ ?_ _ _ ⟨rfl,rfl,ai,D,b⟩
 ·refine λJ A h E y=>wV y λi F C m U=>?_;refine bp F ?_
  cases C with
  |nil=>cases m.o
  |cons M C=>refine bl m.o λH K=>av (c (dR.mp U).1 H (bz ⟨rfl,rfl,_,K,(dR.mp U).2⟩))
 rintro⟨P,I⟩ E ⟨i,rfl,_⟩;cases i;exact bz Z
theorem GK (Q:e):∀(Y:e) {k:jC} {P:aX->cc->Prop} {C:cc} {y:q} {X:aX} {H:ci->cc->Prop},Y<=Q->dJ Y y=true->be p a C.heap y X->H true C->aG (bG cd v) k (CE Q X) H P C:=by
 induction Q with
 |zero=>
  intro Y k P C y X H K b U Z;obtain⟨h,rfl⟩|⟨h,rfl⟩|⟨W,w,rfl,F,i⟩:=m' b
  ·refine aU U.o λN m=>?_;exact c m<|c (CF _ rfl)<|wpAny_pure Z
  ·refine aU U.o λN m=>?_;exact c m<|c (CF _ rfl)<|wpAny_pure Z
  rw[F] at K;exact absurd K (Zc _)
 |succ Q t=>
  intro Y k P C y X H K b U Z;obtain⟨h,rfl⟩|⟨h,rfl⟩|⟨W,w,rfl,F,i⟩:=m' b
  ·refine aU U.o λN m=>?_;exact c m<|c (CF _ rfl)<|wpAny_pure Z
  ·refine aU U.o λN m=>?_;exact c m<|c (CF _ rfl)<|wpAny_pure Z
  subst F;obtain⟨y,I,d,F,rfl,A,G,l,_,D⟩:=U.o;exact Vn Q w (λE T Z=>t w (Nat.le_of_succ_le_succ K) E T Z) i A G l D Z
inductive wj (m:bZ) (b:cM) (C:e) (T:gf) (I:a6 (q×q)) (F:fY):Prop
 |iM (Q:q×q) (J:I=g Q) (k:be b C T Q.1 F.key) (p:q.eK Q.1=true) (l:F.hash=jS m 3 Q.1) (v:be b C T Q.2 F.val)
structure fv (m:bZ) (b:cM) (C:e) (T:gf) (E:r (q×q)) (w:hX fY):Prop where
 bo:E.length=w.size
 kJ:∀v (o:v<w.size),wj m b C T E[v]? w[v]
 b7:(E.map (·.1)).Nodup
theorem be.o4 (Q:be p a ae C aI) (d:q.eK C=true) (W:a4):aI.isStr W=q.d6 C (.bW W):=by
 obtain⟨v,rfl⟩|⟨v,rfl⟩|⟨X,_,rfl,_,_⟩:=m' d
 ·refine aU Q.o λN m=>?_;refine c m ?_;rfl
 ·refine aU Q.o λN m=>?_;exact c m<|c (show q.d6 (.bW v) (.bW W)=_ from pa v W)<|hN.mpr (t1.trans hB.symm)
 obtain⟨_,_,_,_,rfl,_⟩:=Q.o;rfl
theorem T8 (y:(a1.map (·.1)).Nodup) {Z:q×q} (o:a1[a]? =g iU) (W:a1[d]? =g Z) (F:iU.1=Z.1):a=d:=by
 have l:(a1.map (·.1))[a]? =g iU.1:=by refine c (dp ..) (c o ?_);rfl
 have b:(a1.map (·.1))[d]? =g iU.1:=by refine c (dp ..) (c W (c F ?_));rfl
 exact(r7 (co.mp l).1 y).mp (l.trans b.symm)
theorem Ac (y:(a1.map (·.1)).Nodup) (o:a1[a]? =g iU) (F:iU.1=C):(a1.findIdx? λiU=>q.d6 iU.1 C)=g a:=by refine(Ie ..).mpr ?_;refine aU (co.mp o) λb K=>?_;refine a8 b (by exact c K<|gE.mpr F) (λw W d=>?_);have:=T8 y (cY (nz W b)) o ((gE.mp d).trans F.symm);exact aS (E 1 (D this) W)
theorem Fc (T:∀(w:e) (Q:q×q),a1[w]? =g Q->Q.1≠C):(a1.findIdx? λQ=>q.d6 Q.1 C)=R:=by
 refine(YA ..).mpr ?_
 intro Q J
 refine aU (j9.mp J) λw W=>?_
 cases E:q.d6 Q.1 C with
 |false=>rfl
 |true=>exact absurd (gE.mp E) (T w Q W)
noncomputable abbrev oM (m:bZ) (w:hX fY) (Y:q) (v:e):r e:=(yg v (w.size- v)).filter (λv=>(w[v]?.map (·.hash))==g (jS m 3 Y))
noncomputable abbrev ib (E:r (q×q)) (Y:q):a6 e:=E.findIdx? λQ=>q.d6 Q.1 Y
def q1 (E:r (q×q)) (Y:q) (v:e):Prop:=∀(w:e) (Q:q×q),w<v->E[w]? =g Q->Q.1≠Y
inductive NQ (v:bZ) (p:cM) (a:e) (T:gf) (E:r (q×q)) (w:hX fY) (Y:q) (W b:e) (A:r e):Prop
 |iM (d:W<w.size) (D:b<=W) (i:A=oM v w Y (W+1)) (Q:q×q) (J:E[W]? =g Q) (k:be p a T Q.1 w[W].key) (c:q.eK Q.1=true) (l:w[W].hash=jS v 3 Q.1) (X:q1 E Y b->Q.1≠Y->q1 E Y (W+1))
theorem fv.bj (Y:fv v p a ae a1 b6) (W:a1[d]? =g iU):d<b6.size:=Y.bo▸(co.mp W).1
theorem fv.dh (Y:fv v p a ae a1 b6) (W:a1[d]? =g iU):wj v p a ae (g iU) (b6[d]'(Y.bj W)):=W▸Y.kJ d (Y.bj W)
theorem fv.F1 (Y:fv v p a ae a1 b6) (W:a1[d]? =g iU) (F:iU.1=C):((b6[d]?.map (·.hash))==g (jS v 3 C))=true:=by obtain⟨_,J,_,_,l,_⟩:=Y.dh W;obtain rfl:=bm J;exact c (qy (Y.bj W))<|c (yy ..)<|c l<|c F<|beq_self_eq_true _
theorem Ho (Y:fv v p a ae a1 b6) (i:d::Q=oM v b6 C w) (o:w<=b6.size):NQ v p a ae a1 b6 C d w Q:=by
 refine rd (filter_range'_cons _ _ _ _ _ i.symm) λb c h t A=>?_;rw[B0 o] at c;obtain⟨E,J,k,G,l,_⟩:=Y.kJ d c;refine⟨c,b,A.trans (by congr 2;exact Kk b),E,J,k,G,l,λy I D m W q=>?_⟩;refine bi (pz D w) (λae=>y D m ae q) λae=>?_;refine bi (pz D d) (λH=>?_) λH=>?_
 ·intro F;have:=Y.F1 q F;rw[t D ae H] at this;exact fR this
 obtain rfl:=B1 (j' W) H;exact bm (J.symm.trans q)▸I
theorem EZ (Y:fv v p a ae a1 b6) (i:[]=oM v b6 C d) (y:q1 a1 C d):ib a1 C=R:=Fc λw Q W F=>by refine bi (pz w d) (λae=>y w Q ae W F) λae=>?_;exact Ib.mp i.symm w (List.mem_range'_1.mpr ⟨ae,by have:=Y.bj W;exact Kl this⟩) (Y.F1 W F)
theorem oM.vw:Je b6.size (λa=>b6[a]?.map (·.hash)) (jS v 3 C)=oM v b6 C 0:=by rw[Je,X8];rfl
theorem q1.vw:q1 a1 C 0:=λ_ _ T=>absurd T (yu _)
theorem fv.W7 (Y:fv v p a ae a1 b6):∀J∈Q.filterMap (λb=>b6[b]?.map (·.key)),∃M,q.eK M=true/\be p a ae M J:=by
 intro J c;refine ax (List.mem_filterMap.mp c) λb _ o=>ax (e7.mp o) λF K m=>?_;refine bp m<|aU (yh.mp K) λD m=>?_;subst m
 obtain⟨d,_,k,h,_⟩:=Y.kJ b D;exact a8 d.1 h k
theorem pl [vL bd] (a:bd->aG gT N r3 oj bs k) (p:¬bd->aG gT N qu oj bs k):aG gT N (if bd then r3 else qu) oj bs k:=by
 by_cases T:bd
 ·refine l0 T ?_;exact a T
 refine hU T ?_;exact p T
theorem z8 (Z:aG (bG cd v) N qu oj bs k):aG (bG cd v) N (if(a !=a)=true then r3 else qu) oj bs k:=by refine hU (by exact c (bne_self_eq_false ..)<|fR) ?_;exact Z
theorem Xm (X:q.eK C=true) (K:be p a k.heap C aI) (F:∀J∈cF,∃M,q.eK M=true/\be p a k.heap M J) (Z:fe false k):aG (bG cd v) N (tableMayTell aI cF) fe bs k:=by
 unfold tableMayTell;split
 ·exact bz Z
 refine av (GK 8 3 (eF rfl) X K ?_);refine av<|wpAny_forIn_list _ (λA h E=>E=k/\h=(R,())/\∀J∈A,∃M,q.eK M=true/\be p a k.heap M J) _ ?_ ?_ _ _ (ch rfl rfl F)
 ·refine λW A h E m=>gq m λb l i=>?_;refine c b ?_;refine c l<|ax (i W ky) λM d o=>av (GK 8 3 (eF rfl) d o ?_)
  exact bz (ch rfl rfl (λJ Q=>i J (jA _ Q)))
 refine λh E m=>gq m λb l _=>?_;refine c b ?_;exact c l<|wpAny_pure Z
section
variable {y1:a6 e->cc->Prop} (m0:N.units+3<ek) (pJ:q.eK C=true) (k':be p a k.heap C aI) (hP:k.heap.get? W=g cf) (iZ:cf.data=g' b6 d) (kC:fv v p a k.heap a1 b6) (jr:y1 (ib a1 C) k)
include m0 pJ k' hP iZ kC jr
theorem GA:aG (bG cd v) N (dictWalkPlain W aI (jS v 3 C) b6 (Je b6.size (λa=>b6[a]?.map (·.hash)) (jS v 3 C))) y1 bs k:=by
 refine c (oM.vw ..)<|wpAny_bind (Jk _ (λA (P:a6 _×yY) h=>(h=k/\P.1=R)/\∃a,(A=oM v b6 C a/\a<=b6.size)/\q1 a1 C a) _ ?_ ?_ _ _ (rs ⟨rfl,rfl⟩ 0 ⟨rfl,c8 _⟩ .vw))
 ·intro w A P h Q;refine bV λH=>nS Q λm a b y=>bl m λt E=>bl b λi o=>?_;subst t;obtain⟨d,_,i,Q,J,D,p,l,X⟩:=Ho kC i o;refine H<|c (qy d) ?_
  dsimp only;refine pl (λ_=>?_) λU=>bz (rs ⟨rfl,rfl⟩ (w+1) ⟨i,d⟩ (X y λF=>U (by exact c l<|c F<|beq_self_eq_true _)))
  ·refine av (qR hP iZ (av (w3 3 m0 p pJ D k' (av (qR hP iZ (z8 ?_))))))
   cases E:q.d6 Q.1 C with
   |true=>rw[ib,Ac kC.b7 J (gE.mp E)] at jr;exact av (kc (bz (bz jr)))
   |false=>exact av (kc (bz (rs ⟨rfl,rfl⟩ (w+1) ⟨i,d⟩ (X y λF=>fR (E.symm.trans (gE.mpr F))))))
 intro P h Q;obtain⟨P,_⟩:=P;refine nS Q λm a b y=>bl m λt E=>bl b λi o=>?_;refine c t ?_;cases E;exact bz (EZ kC i y▸jr)
inductive Dv (v:bZ) (b6:hX fY) (a1:r (q×q)) (C:q) (A:r e) (Y:a6 e):Prop
 |iM (a:e) (i:A=oM v b6 C a) (o:a<=b6.size) (T:(Y=R/\q1 a1 C a)\/∃w,(Y=g w/\ib a1 C=g w)/\w<a)
theorem zU:aG (bG cd v) N (dictFind W aI (jS v 3 C)) y1 bs k:=by
 unfold dictFind;refine f4 (av (sn hP iZ ?_));refine(?_:(∀ag,be p a k.heap C ag->aG (bG cd v) N ((?T:aX->hn (a6 e)) ag) y1 bs k)->_) ?_
 ·intro aw;obtain⟨aj,F⟩|⟨aj,F⟩|⟨aj,w,F,_,_⟩:=m' pJ
  ·obtain⟨az,Q⟩:=(F▸k').o;refine c Q ?_;dsimp only;refine pl (λ_=>GA m0 pJ (Q▸k') hP iZ kC jr) λ_=>?_;generalize h:aN aj az=ag;exact aw ag (h▸Q▸k')
  ·obtain⟨az,Q⟩:=(F▸k').o;refine c Q ?_;dsimp only;refine pl (λ_=>?_) λ_=>pl (λ_=>GA m0 pJ (Q▸k') hP iZ kC jr) λ_=>?_
   ·have aD:∀{ah:e} {ab:q×q} (af:a1[ah]? =g ab),(b6[ah]'(kC.bj af)).key.isStr aj=q.d6 ab.1 C:=λaf=>by
     obtain⟨ab,J,aa,ae,_⟩:=kC.dh af
     obtain rfl:=bm J
     exact c F<|aa.o4 ae aj
    unfold foundByValue
    cases M:b6.findIdx? (λF=>F.key.isStr aj) with
    |none=>rw[Array.findIdx?_eq_none_iff] at M;rw[ib,Fc λw ab ao F=>fR ((M _ (Array.getElem_mem (kC.bj ao))).symm.trans ((aD ao).trans (gE.mpr F)))] at jr;exact bz jr
    |some ah=>refine ax (Array.findIdx?_eq_some_iff_getElem.mp M) λaE af _=>?_;obtain⟨ab,J,aa,ae,_⟩:=kC.kJ ah aE;have K:=(aD J).symm.trans af;rw[ib,Ac kC.b7 J (gE.mp K)] at jr;dsimp only;refine c (qy aE) ?_;refine av (qR hP iZ (av (w3 3 m0 ae pJ aa (Q▸k') (av (qR hP iZ (z8 ?_))))));exact c K<|wpAny_bind (kc (bz jr))
   generalize h:bS aj az=ag;exact aw ag (h▸Q▸k')
  obtain⟨y,_,_,_,Q,_⟩:=(F▸k').o;refine c Q ?_;dsimp only;have aM:∀X:r aX,¬((O y::X).all carriedByValue)=true:=λX=>fR;refine hU (aM _) ?_;rewrite [ay ?_]
  ·generalize h:O y=ag;exact aw ag (h▸Q▸k')
  intro G;rw[<-Array.any_toList,vS] at G;refine ax G λF I G=>?_;obtain⟨ah,af,rfl⟩:=HP.mp (BD.mp I);obtain⟨ab,J,aa,ae,l,_⟩:=kC.kJ ah af;refine bl (dR.mp G) λaO aP=>?_;rw[vR aO] at aa;exact yZ.mp aP (by exact c l (c (be.FI 3 ae pJ aa (Q▸k')) rfl))
 intro ag k';refine(λZ=>pl (λ_=>av (bz Z)) (λ_=>av (Xm pJ k' kC.W7 Z))) ?_;refine hU (show ¬((false&&_)=true) from fR) ?_;refine c (oM.vw ..)<|wpAny_bind (Jk _ (λaA (P:a6 _×a6 e) aB=>(aB=k/\P.1=R)/\Dv v b6 a1 C aA P.2) _ ?_ ?_ _ _ ⟨⟨rfl,rfl⟩,0,rfl,c8 _,ap ⟨rfl,.vw⟩⟩)
 ·intro A aA P aB aF;refine bV λH=>bl aF λaL ai=>bl aL λaQ E=>?_;obtain⟨ah,i,af,ai⟩:=ai;obtain⟨d,D,i,ab,J,aa,ae,l,aS⟩:=Ho kC i af;have aq:ab.1≠C->Dv v b6 a1 C aA P.2:=λaU=>⟨A+1,i,d,ai.imp (λau=>⟨au.1,aS au.2 aU⟩) λt=>ax t λw au ao=>a8 w au (Is (gy ao D))⟩
  refine H ?_;clear H aF aL;subst aQ;revert ai aq;refine Prod.casesOn P λP Y ai aq=>c (qy d) ?_
  dsimp only;refine pl (λ_=>?_) λU=>bz ⟨⟨rfl,rfl⟩,aq λF=>U (by exact c l<|c F<|beq_self_eq_true _)⟩
  ·refine av (qR hP iZ (av (w3 3 m0 ae pJ aa k' (av (qR hP iZ (z8 ?_))))))
   cases E:q.d6 ab.1 C with
   |true=>
    have aC:ib a1 C=g A:=Ac kC.b7 J (gE.mp E);rcases ai with⟨rfl,_⟩|⟨w,⟨_,ae⟩,ao⟩
    ·refine av (kc ?_);exact pl (λ_=>bz (bz (aC▸jr))) λ_=>bz ⟨⟨rfl,rfl⟩,A+1,i,d,ar (a8 A ⟨rfl,aC⟩ (fp A))⟩
    exact absurd (bm (ae.symm.trans aC)▸ao) (yt.mpr D)
   |false=>exact av (kc (bz ⟨⟨rfl,rfl⟩,aq λF=>fR (E.symm.trans (gE.mpr F))⟩))
 intro P aB ab;obtain⟨P,Y⟩:=P;obtain⟨⟨rfl,E⟩,ah,i,af,ai⟩:=ab;cases E;exact bi ai (λm=>bl m λaa aV=>bz (aa▸EZ kC i aV▸jr)) λb=>ax b λw aW _=>bl aW λaa ae=>bz (aa▸ae▸jr)
end
noncomputable def g1:e->dM
 |21=>31
 |57=>194
 |81=>269
 |85=>372
 |86=>400
 |_=>545
noncomputable def he (Y:e):a4:=gD.getD Y ""
structure qT (b:cM) (C:e) (T:gf) (a:r (e×q)) (M:a4->a6 aX):Prop where
 mw:∀Y J,im Y a=g J->Y<gD.length/\∃c,M (he Y)=g c/\be b C T J c
 en:∀Y,Y<gD.length->im Y a=R->M (he Y)=R
 AZ:∀W,(∀Y,Y<gD.length->he Y≠W)->M W=R
def jJ (m:bZ) (b:cM) (C:e) (T:gf) (y:e):dY->Prop
 |V X=>∃d,bQ b C T X d.toList/\((0<y/\b.bw (b.b5 y)=eU y/\∃F,T.get? (b.b5 y)=g {cls:=ak "list",data:=.seq d F})\/(y=0/\b.bw (b.b5 y)=e9/\T.IsList (b.b5 y) d))
 |aT E=>b.bw (b.b5 y)=eU y/\∃I w F,T.get? (b.b5 y)=g I/\I.ExactDict/\I.data=g' w F/\fv m b C T E w
 |cw U Y=>b.bw (b.b5 y)=eU y/\b.bw (b.jy y)=nP y/\(ll U=true/\∀W,iN U W≠R->im W Y=R)/\T.get? (b.b5 y)=g ⟨O (g1 U),g (b.jy y),sc,#[]⟩/\T.ExactDictFk (b.jy y)/\∃M,T.Ns1 (b.jy y) M/\qT b C T Y M
 |ki I=>b.bw (b.b5 y)=eU y/\T.get? (b.b5 y)=g I/\I.ExactDict
structure a2 (m:bZ) (b:cM) (a:K) (C:cc):Prop where
 iO:0<a.i
 eU:∀y,y<a.i->jJ m b a.i C.heap y (a.c6 y)
 ew:∀y I,(MineH.e1 m.params).get? y=g I->C.heap.get? y=g I/\b.bw y=e9
 di:∀y,C.heap.get? y=R->b.bw y=c'
 lR:C.gens=#[]
noncomputable def iL:dY->e
 |V _=>0
 |aT _=>1
 |cw U _=>2+U
 |ki _=>1
structure cg (J:dM->Prop) (b:cM) (a:K) (C:cc) (W:cM) (c:K) (E:cc):Prop where
 cn:fh b W a.i c.i C.heap E.heap
 hs:∀y,y<a.i->iL (c.c6 y)=iL (a.c6 y)
 bw:∀P,C.heap.get? P≠R->W.bw P=b.bw P
 c':∀P I,C.heap.get? P=g I->b.bw P=c'->¬J P->E.heap.get? P=g I
 di:∀P,C.heap.get? P≠R->E.heap.get? P≠R
 pb:E.os=C.os
theorem fh.dO:fh p p a a ae ae:=⟨bv _,λ_ _=>rfl,λ_ ae=>ae,λ_ _ ae _=>ae⟩
theorem fh.az {b:gf} (y:fh p cP a d ae fP) (P:fh cP pn d w fP b):fh p pn a w ae b:=⟨ej y.cq P.cq,λW q=>(P.b5 W (gy q y.cq)).trans (y.b5 W q),λW q=>P.e9 W (y.e9 W q),λW I ae K=>P.p7 W I (y.p7 W I ae K) (y.e9 W K)⟩
theorem cg.dO:cg cl p b k p b k:=⟨.dO,λ_ _=>rfl,λ_ _=>rfl,λ_ _ T _ _=>T,λ_ T=>T,rfl⟩
theorem cg.az (y:cg cl p b k cP aj cQ) (P:cg cl cP aj cQ pn cs l8):cg cl p b k pn cs l8:=⟨y.cn.az P.cn,λW q=>(P.hs W (gy q y.cn.cq)).trans (y.hs W q),λW q=>(P.bw W (y.di W q)).trans (y.bw W q),λW I T M N=>P.c' W I (y.c' W I T M N) ((y.bw W (by exact c T<|fK)).trans M) N,λW q=>P.di W (y.di W q),P.pb.trans y.pb⟩
theorem cg.nt {a:dM->Prop} (y:cg cl p b k cP aj cQ) (T:∀P,cl P->a P):cg a p b k cP aj cQ:=⟨y.cn,y.hs,y.bw,λW I c d l=>y.c' W I c d λZ=>l (T _ Z),y.di,y.pb⟩
theorem cg.AQ {a:dM->Prop} (y:cg cl p b k cP aj cQ) (T:∀P,cl P->k.heap.get? P≠R->a P):cg a p b k cP aj cQ:=⟨y.cn,y.hs,y.bw,λW I d h l=>y.c' W I d h λZ=>l (T _ Z (by exact c d<|fK)),y.di,y.pb⟩
theorem a2.eS (t:a2 v p b k) (Y:e):a2 v p b {k with toks:=Y}:=⟨t.iO,t.eU,t.ew,t.di,t.lR⟩
theorem cg.eS (Y:e):cg cl p b k p b {k with toks:=Y}:=⟨.dO,λ_ _=>rfl,λ_ _=>rfl,λ_ _ T _ _=>T,λ_ T=>T,rfl⟩
theorem qT.a0 (W:qT p a ae fB pr) (b:fh p cP a d ae fP):qT cP d fP fB pr:=⟨λY J F=>let⟨y,c,P,U⟩:=W.mw Y J F;(rs y c P (U.a0 b)),W.en,W.AZ⟩
theorem fv.a0 (W:fv v p a ae a1 b6) (b:fh p cP a d ae fP):fv v cP d fP a1 b6:=⟨W.bo,λc o=>let⟨Q,y,P,U,h,F⟩:=W.kJ c o;⟨Q,y,P.a0 b,U,h,F.a0 b⟩,W.b7⟩
theorem jJ.a0 (W:jJ v p a ae w bN) (y:fh p cP a d ae fP) (U:w<a) (b:∀P,P<a->cP.jy P=p.jy P) (C:∀P,(p.bw P=eU w\/p.bw P=nP w)->cP.bw P=p.bw P/\fP.get? P=ae.get? P):jJ v cP d fP w bN:=by
 have D:=y.b5 w U
 cases bN with
 |V X=>
  refine ax W λJ Q m=>bi m (λk=>?_) λk=>?_
  ·refine bV λH=>oY k λk t F l=>H<|a8 J (Q.a0 y) (ap ⟨k,by exact c D<|c ((C _ (ap t)).1)<|t,F,by exact c D<|(C _ (ap t)).2.trans l⟩)
  refine bV λH=>wV k λk t bN l I=>H<|a8 J (Q.a0 y) (ar ⟨k,by exact c D<|y.e9 _ t,bN,by exact c D<|y.p7 _ _ l t,I⟩)
 |aT E=>refine bV λH=>EL W λh bN K F k t l I=>H ?_;have Z:=C _ (ap h);exact uH (by exact c D<|c Z.1<|h) bN K F (by exact c D<|c Z.2<|k) t l (I.a0 y)
 |cw T Y=>refine bV λH=>Qs W λh q G k m M A N=>eT m λi t l I=>H ?_;have Z:=C _ (ap h);have o:=C _ (ar q);exact⟨by exact c D<|c Z.1<|h,by exact c (b w U)<|c (o.1 ..)<|q,G,by exact c D<|c Z.2<|c (b w U)<|k,(d7 i (by exact c (b w U)<|c (o.2 ..)<|t) l I),M,by exact c (b w U)<|A.at λbN F=>o.2.trans F,N.a0 y⟩
 |ki bN=>refine gq W λh k t=>?_;have Z:=C _ (ap h);exact ch (by exact c D<|c Z.1<|h) (by exact c D<|c Z.2<|k) t
theorem gO {a:d5} (F:ae.get? W=g a):(ae.push cf).get? W=g a:=mb cf F
theorem f8:ae.get? ae.objs.size=R:=Cn (bv _)
theorem a2.qe (t:a2 v p b k) (E:p.bw W≠c'):k.heap.get? W≠R:=λF=>E (t.di W F)
theorem a2.mm (t:a2 v p b k) (I:d5) (M:I.isFreed=false):a2 v p b {k with heap:=k.heap.push I}/\cg cl p b k p b {k with heap:=k.heap.push I}:=by
 have d:fh p p b.i b.i k.heap (k.heap.push I):=⟨bv _,λ_ _=>rfl,λ_ T=>T,λ_ _ T _=>gO T⟩;refine⟨⟨t.iO,λy U=>?_,λy Q F=>⟨gO (t.ew y Q F).1,(t.ew y Q F).2⟩,λy F=>?_,t.lR⟩,d,λ_ _=>rfl,λ_ _=>rfl,λ_ _ T _ _=>gO T,λP T=>?_,rfl⟩
 ·refine(t.eU y U).a0 d U (λ_ _=>rfl) λP E=>⟨rfl,?_⟩;have:k.heap.get? P≠R:=t.qe (by refine bi E (λT=>?_) λT=>?_<;>refine c T ?_<;>simp);refine aU (nw.mp this) λW q=>c q<|gO q
 ·cases Z:k.heap.get? y with
  |none=>exact t.di y Z
  |some W=>rw[gO Z] at F;exact fK F
 refine aU (nw.mp T) λW q=>c (show({k with heap:=k.heap.push I}:cc).heap.get? P=g W from gO q)<|fK
noncomputable def cM.o1 (b:cM) (y:dM) (W:pR):cM:={b with bw:=λP=>if P=y then W else b.bw P}
theorem a2.abm (t:a2 v p b k) (I:d5) (M:I.isFreed=false):a2 v (p.o1 k.heap.objs.size e9) b {k with heap:=k.heap.push I}/\cg cl p b k (p.o1 k.heap.objs.size e9) b {k with heap:=k.heap.push I}:=by
 have C:∀P,k.heap.get? P≠R->P≠k.heap.objs.size:=λP T F=>T (F▸f8);have o:∀P,k.heap.get? P≠R->(p.o1 k.heap.objs.size e9).bw P=p.bw P:=λP T=>ay (C P T);have d:fh p (p.o1 k.heap.objs.size e9) b.i b.i k.heap (k.heap.push I):=⟨bv _,λ_ _=>rfl,λy T=>by refine(?_:(if y=_ then _ else _)=_);split<;>first|rfl|exact T,λ_ _ T _=>gO T⟩;refine⟨⟨t.iO,λy U=>?_,λy Q F=>⟨gO (t.ew y Q F).1,?_⟩,λy F=>?_,t.lR⟩,d,λ_ _=>rfl,o,λ_ _ T _ _=>gO T,λP T=>?_,rfl⟩
 ·refine(t.eU y U).a0 d U (λ_ _=>rfl) λP E=>?_;have D:k.heap.get? P≠R:=t.qe (by refine bi E (λT=>?_) λT=>?_<;>refine c T ?_<;>simp);refine aU (nw.mp D) λW q=>⟨o P D,by exact c q<|gO q⟩
 ·rw[o y (by exact c ((t.ew y Q F).1)<|fK)];exact(t.ew y Q F).2
 ·cases Z:k.heap.get? y with
  |some W=>rw[show({k with heap:=k.heap.push I}:cc).heap.get? y=_ from gO Z] at F;exact fK F
  |none=>
   refine(?_:(if y=_ then _ else _)=_);split
   ·rename_i T;subst T;rw[show({k with heap:=k.heap.push I}:cc).heap.get? k.heap.objs.size=g I from gJ _ M] at F;exact fK F
   exact t.di y Z
 refine aU (nw.mp T) λW q=>c (show({k with heap:=k.heap.push I}:cc).heap.get? P=g W from gO q)<|fK
noncomputable def cM.e' (b:cM) (C:e) (W Q:dM):cM:={b5:=λy=>if y=C then W else b.b5 y,jy:=λy=>if y=C then Q else b.jy y,bw:=λP=>if P=W then eU C else b.bw P}
theorem f1 (T:hj=g dH):hj≠R:=by exact c T<|fK
theorem a2.xP (t:a2 v p b k) (q:k.heap.get? W≠R) (M:p.bw W=c') (h:jJ v (p.e' b.i W 0) (b.i+1) k.heap b.i bN):a2 v (p.e' b.i W 0) (b.cK bN) k/\fh p (p.e' b.i W 0) b.i (b.i+1) k.heap k.heap/\∀P,P≠W->(p.e' b.i W 0).bw P=p.bw P:=by
 have o:∀P,P≠W->(p.e' b.i W 0).bw P=p.bw P:=λP T=>ay T;have d:fh p (p.e' b.i W 0) b.i (b.i+1) k.heap k.heap:=⟨ge _,λy U=>ay (iX U),λy T=>(o y λF=>by rw[F,M] at T;exact hL T rfl).trans T,λ_ _ T _=>T⟩;refine ch ⟨eH _,λy U=>?_,λy I F=>⟨(t.ew y I F).1,(o y λJ=>by have:=(t.ew y I F).2;rw[J,M] at this;exact hL this rfl).trans (t.ew y I F).2⟩,λy F=>?_,t.lR⟩ d o
 ·by_cases T:y=b.i
  ·refine c T<|(?_:jJ v _ _ _ _ (if b.i=b.i then bN else _))
   exact c (aZ rfl)<|h
  have l:y<b.i:=by have:y<b.i+1:=U;exact qr (ep 1 this) T
  refine(?_:jJ v _ _ _ _ (if y=b.i then bN else b.c6 y));refine c (ay T)<|(t.eU y l).a0 d l (λP E=>ay (iX E)) λP E=>⟨o P λF=>?_,rfl⟩
  rw[F,M] at E;refine bi E (λT=>?_) λT=>?_<;>exact hL T rfl
 exact(o y λJ=>q (J▸F)).trans (t.di y F)
theorem a2.DY (t:a2 v p b k) (I:d5) (M:I.isFreed=false) (h:jJ v (p.e' b.i k.heap.objs.size 0) (b.i+1) (k.heap.push I) b.i bN):a2 v (p.e' b.i k.heap.objs.size 0) (b.cK bN) {k with heap:=k.heap.push I}/\cg cl p b k (p.e' b.i k.heap.objs.size 0) (b.cK bN) {k with heap:=k.heap.push I}:=by refine bV λH=>bl (t.mm (cl:=cl) I M) λw o=>?_;have q:({k with heap:=k.heap.push I}:cc).heap.get? k.heap.objs.size≠R:=f1 (gJ _ M);refine gq (w.xP (W:=k.heap.objs.size) q (t.di _ f8) h) λa c d=>H<|⟨a,⟨o.cn.az c,λy U=>cS iL (ay (iX U)),λP E=>(d P λF=>E (F▸f8)).trans (o.bw P E),o.c',o.di,o.pb⟩⟩
theorem a2.x' (t:a2 v p b k) (w:a<b.i) (q:p.bw W=.eU a\/p.bw W=nP a) (h:ov W k.heap ae) (D:ae.get? W≠R) (m:jJ v p b.i ae a bN) (y:iL bN=iL (b.c6 a)):a2 v p (b.eM a bN) {k with heap:=ae,toks:=d}/\cg cl p b k p (b.eM a bN) {k with heap:=ae,toks:=d}:=by
 have C:∀{P},(p.bw P=e9\/p.bw P=c')->P≠W:=λE F=>by rw[F] at E;refine bi E (λT=>?_) λT=>?_<;>refine bi q (λZ=>?_) λZ=>?_<;>rw[Z] at T<;>exact hL T rfl
 have l:fh p p b.i b.i k.heap ae:=⟨bv _,λ_ _=>rfl,λ_ T=>T,λP I T K=>(h.2 P (C (ap K))).trans T⟩;refine⟨⟨t.iO,λP E=>?_,λP I F=>⟨(h.2 P (C (ap (t.ew P I F).2))).trans (t.ew P I F).1,(t.ew P I F).2⟩,λP F=>?_,t.lR⟩,l,λP _=>(show iL (if P=a then bN else b.c6 P)=_ from by split<;>simp_all),λ_ _=>rfl,λP I T M _=>(h.2 P (C (ar M))).trans T,λP E=>?_,rfl⟩
 ·by_cases T:P=a
  ·subst T;refine(?_:jJ v _ _ _ _ (if P=P then bN else _));exact c (aZ rfl)<|m
  refine(?_:jJ v _ _ _ _ (if P=a then bN else b.c6 P));refine c (ay T) ?_;have A:∀U,(p.bw U=.eU P\/p.bw U=nP P)->U≠W:=λU G F=>by rw[F] at G;refine bi G (λZ=>?_) λZ=>?_<;>refine bi q (λo=>?_) λo=>?_<;>rw[o] at Z<;>cases Z<;>exact T rfl
  exact(t.eU P E).a0 l E (λ_ _=>rfl) λU G=>⟨rfl,h.2 U (A U G)⟩
 ·by_cases T:P=W
  ·subst T;exact absurd F D
  exact t.di P ((h.2 P T).symm.trans F)
 refine(?_:ae.get? P≠R);by_cases T:P=W
 ·exact c T<|D
 exact c (h.2 P T)<|E
theorem a2.vs (t:a2 v p b k) (q:p.bw W=c') (h:ov W k.heap ae) (D:ae.get? W≠R):a2 v p b {k with heap:=ae,toks:=a}/\cg (λP=>P=W) p b k p b {k with heap:=ae,toks:=a}:=by
 have C:∀{P},p.bw P≠c'->P≠W:=λE F=>E (F▸q);have d:fh p p b.i b.i k.heap ae:=⟨bv _,λ_ _=>rfl,λ_ T=>T,λP I T K=>(h.2 P (C (by exact c K<|λT=>hL T rfl))).trans T⟩;refine⟨⟨t.iO,λP E=>(t.eU P E).a0 d E (λ_ _=>rfl) λU G=>⟨rfl,h.2 U (C (by refine bi G (λT=>?_) λT=>?_<;>refine c T ?_<;>simp))⟩,λP I F=>⟨(h.2 P (C (by exact c ((t.ew P I F).2)<|λT=>hL T rfl))).trans (t.ew P I F).1,(t.ew P I F).2⟩,λP F=>?_,t.lR⟩,d,λ_ _=>rfl,λ_ _=>rfl,λP I T M E=>(h.2 P E).trans T,λP E=>?_,rfl⟩
 ·by_cases T:P=W
  ·exact c T<|q
  exact t.di P ((h.2 P T).symm.trans F)
 refine(?_:ae.get? P≠R);by_cases T:P=W
 ·exact c T<|D
 exact c (h.2 P T)<|E
abbrev gi:aX->cc->Prop:=λ_ _=>bK
inductive ho (m:bZ) (b:cM) (a:K) (C:cc) (G:q->K->Prop) (h:aX) (E:cc):Prop
 |iM (W:cM) (c:K) (J:q) (t:a2 m W c E) (d:cg (λ_=>bK) b a C W c E) (Q:be W c.i E.heap J h) (Z:G J c)
def i4 (m:bZ) (k:jC) (N:hn aX) (b:cM) (a:K) (C:cc) (G:q->K->Prop):Prop:=aG (bG MineH.b8 m) k N (ho m b a C G) gi C
theorem gF (T:dj hj fd):∃J,hj=g J/\fd J:=by cases hj with|none=>exact T.elim|some J=>exact a8 J rfl T
theorem lv (t:a2 v p b k) (Z:an (j am) b):ho v p b k an (aN am d) {k with toks:=a}:=⟨p,b,j am,t.eS a,.eS a,.j _ _,Z⟩
theorem tv (t:a2 v p b k) (Z:an (bW ac) b):ho v p b k an (bS ac d) {k with toks:=a}:=⟨p,b,bW ac,t.eS a,.eS a,.bW _ _,Z⟩
theorem abQ (t:a2 v p b k) (Z:an (aK bt) b):ho v p b k an (gz bt) {k with toks:=a}:=⟨p,b,aK bt,t.eS a,.eS a,.aK _,Z⟩
theorem km (b:cM) (C:e) (W Q:dM):(b.e' C W Q).b5 C=W:=aZ rfl
theorem uX (b:cM) (C:e) (W Q:dM):(b.e' C W Q).bw W=eU C:=aZ rfl
theorem W4 (t:a2 v p b k) (I:d5):fh p (p.e' b.i k.heap.objs.size 0) b.i (b.i+1) k.heap (k.heap.push I):=⟨ge _,λy U=>ay (iX U),λy T=>(show(p.e' b.i k.heap.objs.size 0).bw y=p.bw y from ay λJ=>by rw[J,t.di _ f8] at T;exact hL T rfl).trans T,λ_ _ T _=>gO T⟩
theorem Xq (t:a2 v p b k) (Q:bQ p b.i k.heap ai cB.toList) (Z:an (x b.i) (b.cK (V ai))):ho v p b k an (O k.heap.objs.size) {k with heap:=k.heap.push {cls:=ak "list",data:=.seq cB a},toks:=d}:=by obtain⟨h,J⟩:=t.DY (cl:=λ_=>bK) {cls:=ak "list",data:=.seq cB a} rfl (bN:=V ai) (a8 cB (Q.a0 (W4 t _)) (ap ⟨t.iO,by exact c (km ..)<|uX _ _ _ _,a,by exact c (km ..)<|gJ _ rfl⟩));refine⟨_,_,x b.i,h.eS d,J.az (.eS d),?_,Z⟩;have T:=be.x (b:=p.e' b.i k.heap.objs.size 0) (C:=b.i+1) (T:=k.heap.push {cls:=ak "list",data:=.seq cB a}) b.i (fp _);rw[km] at T;exact T
theorem Pl (q:0<=am) (h:0<=bx):Zw am bx=((am.toNat|||bx.toNat:e):B):=by
 refine aU (vO q) λy m=>?_;refine c m<|aU (vO h) λP m=>?_;refine c m ?_
 have k:decide (tR (y:B)≥0)=false:=by unfold tR;exact jE (C1)
 have p:decide (tR (P:B)≥0)=false:=by unfold tR;exact jE (C1)
 have a:∀F:B,tR (tR F)=F:=λF=>by unfold tR;exact Km
 unfold Zw Builtin.bitAnd;refine c k (c p ?_);dsimp only;exact c (a ..) (c (a ..) (c (a ..) rfl))
theorem a2.lV (t:a2 v p b k) (U:a<b.i) (F:b.c6 a=V ai):∃d,k.heap.IsList (p.b5 a) d/\bQ p b.i k.heap ai d.toList:=by have:=t.eU a U;rw[F] at this;exact ax this λd Q m=>bi m (λc=>oY c λ_ _ F T=>a8 d ⟨_,T,rfl,F,rfl⟩ Q) λN=>gq N λ_ _ T=>a8 d T Q
theorem a2.rC (c:a2 v p b k) (U:a<b.i) (K:0<a) (F:b.c6 a=V ai):∃d C,p.bw (p.b5 a)=.eU a/\k.heap.get? (p.b5 a)=g {cls:=ak "list",data:=.seq d C}/\bQ p b.i k.heap ai d.toList:=by have:=c.eU a U;rw[F] at this;exact ax this λd Q m=>bi m (λl=>oY l λ_ h F T=>hf d F h T Q) λN=>gq N λo _ T=>(fn (t K (ab o)) rfl).elim
noncomputable def AY:pQ->I0|c9=>.Add|eE=>.Sub|rF=>.Mult|ht=>.Mod|vj=>.LShift|nn=>.RShift|pY=>.BitOr
theorem Ub (T:AU lB=g gU):lB=AY gU:=i6.gb (fd:=λgU=>lB=AY gU) (by cases lB<;>first|exact trivial|exact rfl) T
theorem DX (T:am.natAbs<2^64): -(2^64)<am/\am<2^64:=⟨Int.neg_lt_of_neg_lt (H1 Yi (c (Int.natAbs_neg am) (gV.mpr T))),H1 Yi (gV.mpr T)⟩
inductive MI (C b2:q) (an:B->B->Prop):Prop
 |iM (v w:B) (F:C=j v) (J:b2=j w) (Z:an v w)
theorem hr.j {G:B->Prop} (Z:hr C G):∃v,C=.j v/\G v:=by cases C<;>first|exact Z.elim|exact a8 _ rfl Z
theorem o4.bW {G:a4->Prop} (Z:o4 C G):∃v,C=.bW v/\G v:=by cases C<;>first|exact Z.elim|exact a8 _ rfl Z
theorem ja.S {G:r q->Prop} (Z:ja C G):∃v,C=.S v/\G v:=by cases C<;>first|exact Z.elim|exact a8 _ rfl Z
theorem lm.x (Z:lm C c7):∃v,C=.x v/\c7 v:=by cases C<;>first|exact Z.elim|exact a8 _ rfl Z
theorem s6.u0 (Z:s6 C bd):C=bI/\bd:=by cases C<;>first|exact Z.elim|exact⟨rfl,Z⟩
theorem nh.f3 {G:r q->Prop} (Z:nh bN G):∃X,bN=V X/\G X:=by cases bN<;>first|exact Z.elim|exact a8 _ rfl Z
theorem AV.nP {G:r (q×q)->Prop} (Z:AV bN G):∃X,bN=aT X/\G X:=by cases bN<;>first|exact Z.elim|exact a8 _ rfl Z
theorem u1.i' {G:e->r (e×q)->Prop} (Z:u1 bN G):∃U X,bN=cw U X/\G U X:=by cases bN<;>first|exact Z.elim|exact mx _ _ rfl Z
theorem AW.RL {G:d5->Prop} (Z:AW bN G):∃X,bN=ki X/\G X:=by cases bN<;>first|exact Z.elim|exact a8 _ rfl Z
theorem lT.nc {G:B->B->Prop} (Z:lT C b2 G):MI C b2 G:=
 let⟨v,F,Z⟩:=hr.j Z
 let⟨w,J,Z⟩:=hr.j Z
 ⟨v,w,F,J,Z⟩
theorem Ph (t:a2 v p b k) (y:a<b.i) (I:d<b.i) (M:b.c6 a=V ai) (D:b.c6 d=V d') (T:ai.length+d'.length<aa) (Z:an (x b.i) (b.cK (V (ai++d')))):i4 v N (binaryOp .Add (O (p.b5 a)) (O (p.b5 d))) p b k an:=by
 refine bV λH=>ax (t.lV y M) λab P Q=>ax (t.lV I D) λo K h=>?_;obtain⟨⟨U,W,af,A⟩,w,G,C,l⟩:=id P;obtain⟨⟨ag,X,ah,Y⟩,J,E,q,m⟩:=id K;obtain rfl:=G;obtain rfl:=l;obtain rfl:=E;obtain rfl:=m;have ae:ab.size+o.size<aa:=by exact bp (op ..)<|bp (op ..)<|bp (Q.o5 ..)<|bp (h.o5 ..)<|T
 refine H (concat_meets (a8 _ w rfl) (a8 _ J rfl) noFill_list_add seq_list_add PySem.F.slot_list_add PySem.F.entry_list_add (PySem.F.args_list_add_2 _ _) (list_addW _ _ ab o C q W X A Y (by exact c (v' ..)<|ej (iC ae) (by decide))) (ch w J ?_));exact Xq t (by exact c (Ye ..)<|Q.wC h) Z
theorem Pi (t:a2 v p b k) (U:be p b.i k.heap C aI) (E:be p b.i k.heap b2 cR) (Z:mo gU C b2 b an):i4 v N (binaryOp (AY gU) aI cR) p b k an:=by
 refine bV λH=>?_
 cases gU with
 |c9=>
  cases C with
  |j W=>replace Z:=Z.j;obtain⟨A,rfl,Z⟩:=Z;obtain⟨a,rfl⟩:=U.o;obtain⟨X,rfl⟩:=E.o;exact H<|ab6 (lv t Z)
  |bW W=>replace Z:=Z.bW;obtain⟨A,rfl,Z⟩:=Z;obtain⟨a,rfl⟩:=U.o;obtain⟨X,rfl⟩:=E.o;obtain⟨K,d,Z⟩:=Z;exact H<|ab7 (λh w=>tv t Z) (by exact c (v' ..)<|ej (iC (YZ K d)) (aQ rfl))
  |x W=>replace Z:=Z.x;obtain⟨A,rfl,Z⟩:=Z;obtain⟨rfl,y⟩:=U.o;obtain⟨rfl,I⟩:=E.o;replace Z:=Z.fl.fl.f3;refine ax Z λF M Z=>?_;replace Z:=Z.f3;refine eT Z λG D T Z=>H<|Ph t y I M D T Z.fl
  |_=>exact Z.elim
 |eE=>replace Z:=Z.nc;obtain⟨W,A,rfl,rfl,Z⟩:=Z;refine aU U.o λa m=>?_;subst m;refine aU E.o λX m=>?_;subst m;exact H<|acp (lv t Z)
 |rF=>replace Z:=Z.nc;obtain⟨W,A,rfl,rfl,Z⟩:=Z;refine aU U.o λa m=>?_;subst m;refine aU E.o λX m=>?_;subst m;exact H<|aci (lv t Z.2.2) (.of_left (intBits_le_64 (DX Z.1).1 (DX Z.1).2))
 |ht=>replace Z:=Z.nc;obtain⟨W,A,rfl,rfl,K,Z⟩:=Z;refine aU U.o λa m=>?_;subst m;refine aU E.o λX m=>?_;subst m;refine H<|ach (Int.ne_of_gt K)<|c (Int.fmod_eq_emod_of_nonneg _ (vP K))<|lv t Z
 |vj=>replace Z:=Z.nc;obtain⟨W,A,rfl,rfl,K,d,q,l,Z⟩:=Z;refine aU U.o λa m=>?_;subst m;refine aU E.o λX m=>?_;subst m;exact H<|acf q (Kn l) (Sq K d) (lv t Z)
 |nn=>replace Z:=Z.nc;obtain⟨W,A,rfl,rfl,K,d,q,l,Z⟩:=Z;refine aU U.o λa m=>?_;subst m;refine aU E.o λX m=>?_;subst m;refine H<|acn q<|c (Int.fdiv_eq_ediv_of_nonneg _ (vP (Int.pow_pos (aQ rfl))))<|lv t Z
 |pY=>replace Z:=Z.nc;obtain⟨W,A,rfl,rfl,K,d,q,l,Z⟩:=Z;refine aU U.o λa m=>?_;subst m;refine aU E.o λX m=>?_;subst m;refine H<|acm<|c (Pl K q)<|lv t Z
theorem zR:∀{E:r (q×q)},b9 C E=(ib E C).bind λv=>E[v]?.map (·.2):=by
 intro E;induction E with
 |nil=>exact rfl
 |cons N h t=>
  obtain⟨y,J⟩:=N;refine(?_:(if q.d6 y C=true then g J else b9 C h)=_);rw[ib,Ic];by_cases T:q.d6 y C=true
  ·rw[aZ T,aZ T];rfl
  rw[ay T,t,ay T,ib];cases (h.findIdx? λQ=>q.d6 Q.1 C)<;>rfl
def DB (b:cM) (C:e) (T:gf):a6 q->a6 aX->Prop
 |none,h=>h=R
 |some M,h=>∃J,h=g J/\be b C T M J
theorem zV (I:N.units+3<ek) (X:q.eK C=true) (K:be p a k.heap C aI) (w:k.heap.get? W=g cf) (l:cf.data=g' b6 d) (Y:fv v p a k.heap a1 b6) (Z:∀M h,DB p a k.heap (b9 C a1) h->l7 h {k with toks:=M}):aG (bG cd v) N (yK W aI) l7 bs k:=by
 unfold yK
 refine f4 (av (Am 3 I X K λM=>av (zU (k:={k with toks:=M}) I X K w l Y ?_)))
 rw[zR] at Z
 cases o:ib a1 C with
 |none=>exact bz (Z M R (by refine c o ?_;rfl))
 |some b=>refine av (sn (s:={k with toks:=M}) w l (bz (Z M _ ?_)));have D:b<b6.size:=Y.bo▸(Ie.mp o).1;obtain⟨i,J,_,_,_,Q⟩:=Y.kJ b D;refine c (qy D) (c o ?_);refine(?_:DB _ _ _ (a1[b]?.map _) _);exact c J<|a8 _ rfl Q
theorem Xj (m:bZ):((MineH.e1 m.params).get? sk).isSome=true:=by kernel_rfl
theorem a2.Gl (t:a2 v p b k) (T:p.bw W≠e9):(W==sk)=false:=by refine pH.mpr λF=>?_;obtain⟨I,w⟩:=yx.mp (Xj v);exact T (F▸(t.ew _ _ w).2)
theorem Ew (I:N.units+4<ek) (X:q.eK C=true) (K:be p a k.heap C aI) (b:(W==sk)=false) (w:k.heap.get? W=g cf) (G:cf.ExactDict) (l:cf.data=g' b6 d) (Y:fv v p a k.heap a1 b6) (Z:∀M,fe (b9 C a1).isSome {k with toks:=M}):aG (bG cd v) N (CC (O W) aI) fe bs k:=by
 have t:k.TypeIs (O W) "dict":=a8 cf w G.1
 unfold CC
 try with_reducible refine f4 ?_
 refine av (so t IQ.lookup ?_)
 refine(?_:aG _ _ (if(g (bH "dict.__contains__")==g bf)=true then _ else _) _ bs k)
 refine hU (by exact c (Z9 ..)<|fR)<|wpAny_bind (wpAny_callSpecialUnlessNone?_slot (name:=ck "__contains__") t IQ (jD IQ t F.entry_dict_contains ?_ (F.args_dict_contains_2 _ _)))
 refine(?_:aG _ _ (yK W aI>>=_) _ _ k)
 refine av (zV (show N.units+1+3<ek from(hO N.units 1 3).symm▸I) X K w l Y λM h i=>?_)
 have o:=Z M
 cases P:b9 C a1 with
 |some J=>rw[P] at i o;obtain⟨h,rfl,_⟩:=i;exact bz (a8 _ rfl (oE o))
 |none=>rw[P] at i o;cases (i:h=R);exact av (wpAny_pendingKey_other b (bz (a8 _ rfl (oE o))))
theorem E0 (Y:e) (I:N.units+Y<ek) (b:dJ Y C=true) (d:dJ Y b2=true) (U:be p a k.heap C aI) (E:be p a k.heap b2 cR):EqAt N k aI cR (q.d6 C b2):=λc m P H T=>w3 Y I b d U E T
noncomputable def w2 (W A:r q) (w:e):ci:=match W[w]?,A[w]? with|some y,g P=>q.d6 y P|_,_=>true
theorem z9 (T:a<ai.length) (H:a<d'.length):w2 ai d' a=q.d6 ai[a] d'[a]:=by unfold w2;exact c (cY T) (c (cY H) rfl)
theorem Pd (W A:r q):((eQ (min W.length A.length)).all (w2 W A)&&W.length==A.length)=kh W A:=by
 rw[hN,Pc,dR,f2,t1];constructor
 ·refine λm=>bl m λk p=>H' p λv o l=>?_;have:=k v (mU.mpr (Y7.mpr ⟨o,l⟩));rw[z9 o l] at this;exact gE.mp this
 rintro rfl;refine⟨λw a=>?_,rfl⟩;have a:=(Y7.mp (mU.mp a)).1;exact c (z9 a a ..)<|wJ _
theorem PZ (F:v6 jz aI cR=(do return gz (<-tA))) (T:aG (bG MineH.b8 v) N tA (λP E=>cC (gz P) E) bs k):aG (bG MineH.b8 v) N (v6 jz aI cR) cC bs k:=by exact c F<|wpAny_bind (dt T (λ_ _ Z=>bz Z) λ_ _ Z=>Z)
theorem FR (U:be p a k.heap C aI) (Z:fe (mz C) k):aG (bG MineH.b8 v) N (CI aI bf) fe bs k:=by exact U.jT (U:=λC aI=>fe (mz C) k->aG (bG MineH.b8 v) N (CI aI bf) fe bs k) (b:=λ_ _=>sp) (λZ=>bz Z) (λ_ Z=>bz Z) (λ_ _ Z=>bz Z) (λ_ _ Z=>bz Z) (λ_ _ Z=>bz Z) (λ_ _ _ _ _ _ _ _ _ _ _ Z=>bz Z) trivial (λ_ _ _ _ _ _ _ _=>trivial) Z
theorem uI [vL bd] (F:(if bd then g dH else R)=g l5):bd/\dH=l5:=by
 split at F
 ·rename_i T;exact⟨T,bm F⟩
 exact ce F
theorem mu (F:f' bt hj=g dH):bt=true/\hj=g dH:=by
 cases bt with
 |true=>exact⟨rfl,F⟩
 |false=>exact ce F
theorem bQ.RJ (W:bQ p a ae ai cF):C∈ai->∃J,J∈cF/\be p a ae C J:=W.jT (U:=λai cF=>C∈ai->∃J,J∈cF/\be p a ae C J) (λae=>em ae) λ_ _ _ _ Q _ t N=>(eZ.mp N).elim (λF=>a8 _ (fC _) (F▸Q)) λN=>(t N).elim λ_ ae=>a8 _ (hl _ ae.1) ae.2
theorem bQ.zu (W:bQ p a ae ai cF):aI∈cF->∃M,M∈ai/\be p a ae M aI:=W.jT (U:=λai cF=>aI∈cF->∃M,M∈ai/\be p a ae M aI) (λae=>em ae) λ_ _ _ _ Q _ t N=>(eZ.mp N).elim (λF=>a8 _ (fC _) (F▸Q)) λN=>(t N).elim λ_ ae=>a8 _ (hl _ ae.1) ae.2
theorem FF (y:jz=.In\/jz=Ch) (I:N.units+5<ek) (K:be p a k.heap C aI) (D:bQ p a k.heap ai cB.toList) (F:na C ai=g bt):∃F:aX->ci,(∀A,A∈cB->EqAt N.in1 k A aI (F A))/\cB.any F=bt:=by
 classical
 refine bl (uI F) λi F=>bl (dR.mp i) λc b=>?_
 have b:=f2.mp b
 refine a8 (λA=>decide (∃M,M∈ai/\be p a k.heap M A/\q.d6 M C=true)) (λA h=>?_) ?_
 ·refine ax (D.zu (BD.mpr h)) λM d Q=>?_;have m:q.d6 M C=decide (∃M,M∈ai/\be p a k.heap M A/\q.d6 M C=true):=hN.mpr (Yh ⟨λT=>d7 _ d Q T,λt=>eT t λ_ o v l=>be.FI 3 (b _ d) (b _ o) Q v▸l⟩ hB.symm);show EqAt _ _ _ _ (decide _);exact bp (m ..)<|E0 (N:=N.in1) 3 (by rw[Ce];exact nz (bv _) I) (b _ d) c Q K
 ·rw[<-F,hN,Array.any_eq_true',vS];exact⟨λt=>ax t λA h T=>(dq T).elim λM T=>a8 M T.1 T.2.2,λt=>ax t λM d T=>(D.RJ d).elim λA h=>a8 A (BD.mp h.1) (oF ⟨M,d,h.2,T⟩)⟩
noncomputable def zF:wr->CmpOp|bL=>ou|d8=>.NotEq|bj=>.Lt|i8=>.Gt|mv=>.GtE|lj=>.Is|ry=>.IsNot|e2=>.In|n5=>Ch
theorem Gr (T:xG jz=g lA):jz=zF lA:=i6.gb (fd:=λlA=>jz=zF lA) (by cases jz<;>first|exact trivial|exact rfl) T
theorem CT (W A:a4):(W==A)=dV W A:=hN.mpr (t1.trans kn.symm)
theorem bQ.fW (W:bQ p a ae ai cB.toList):cB.size=ai.length:=op.symm.trans W.o5.symm
theorem bQ.dh (W:bQ p a ae ai cB.toList) (k:d<ai.length) (b:d<cB.size):be p a ae ai[d] cB[d]:=by refine ax (W.c6 d (cY k)) λX F Q=>?_;rw[r4,qy b] at F;exact bm F▸Q
theorem Q4 (I:N.units+5<ek) (U:be p a k.heap (S ai) aI) (E:be p a k.heap (S d') cR) (K:ai.all (dJ 2)=true) (i:d'.all (dJ 2)=true) (Z:cC (gz (kh ai d')) k):aG (bG MineH.b8 v) N (v6 ou aI cR) cC bs k:=by refine bV λH=>?_;obtain⟨y,A,d,M,rfl,C,G,J,_,D⟩:=U.o;obtain⟨P,Q,W,X,rfl,T,F,h,_,m⟩:=E.o;refine H (eq_tupleAt (items:=d) (items2:=W) (e:=w2 ai d') (li A C G _ J) (li Q T F _ h) (kB (bX _ _) I) (λw q t=>?_) (c (D.fW ..)<|c (m.fW ..)<|c (Pd ..)<|Z));have l:w<ai.length:=D.fW▸q;have b:w<d'.length:=m.fW▸t;exact c (z9 l b)<|E0 2 (by exact c (Ce ..)<|nz (qD (by decide:1+2<5) N.units) I) (f2.mp K _ (tK l)) (f2.mp i _ (tK b)) (D.dh l q) (m.dh b t)
theorem Q3 (I:N.units+5<ek) (U:be p a k.heap C aI) (E:be p a k.heap b2 cR) (F:E2 C b2=g bt) (Z:cC (gz bt) k):aG (bG MineH.b8 v) N (v6 ou aI cR) cC bs k:=by
 refine bV λH=>?_
 cases C with
 |aK W=>refine ax (e7.mp F) λA M m=>?_;subst m;rw[zB M] at E;obtain rfl:=U.o;obtain rfl:=E.o;exact H (RcAt.bool_bool _ _ _ _ _ _ Z)
 |j W=>refine ax (e7.mp F) λA M m=>?_;subst m;rw[xp M] at E;refine aU U.o λd m=>?_;subst m;refine aU E.o λX m=>?_;subst m;exact H (ab9 Z)
 |bW W=>refine ax (e7.mp F) λA M m=>?_;subst m;rw[Hr M] at E;refine aU U.o λd m=>?_;subst m;refine aU E.o λX m=>?_;subst m;refine H (aca ?_);exact c (CT ..)<|Z
 |S W=>refine ax (hz.mp F) λA M D=>bl (mu D) λb D=>?_;rw[XC M] at E;exact H (Q4 I U E (dR.mp b).1 (dR.mp b).2 (bm D▸Z))
 |_=>exact ce F
theorem Gs:(IG (ck "p") (ck ".") 0 (ck "p").length 1).isEmpty=true/\(IG (ck "q") (ck ".") 0 (ck "q").length 1).isEmpty=true:=by decide+kernel
theorem yb (h:ci):(h^^false)=h:=by cases h<;>rfl
theorem yc (h:ci):(h^^true)=!h:=by cases h<;>rfl
theorem FG (y:(jz=.In/\bt=false)\/(jz=Ch/\bt=true)) {ah:ci->Prop} (t:a2 v p b k) (I:N.units+5<ek) (U:be p b.i k.heap C aI) (E:be p b.i k.heap b2 cR) (Y:Aw C b2 b ah) (Z:∀h M,ah h->cC (gz (h^^bt)) {k with toks:=M}):aG (bG MineH.b8 v) N (v6 jz aI cR) cC bs k:=by
 refine bV λH=>?_
 cases b2 with
 |S X=>
  refine ax (gF Y) λh F q=>?_;obtain⟨b2,ae,d,af,rfl,w,G,l,_,D⟩:=E.o;refine ax (FF (jz:=.In) (ap rfl) I U D F) λJ T ag=>?_;subst ag;rcases y with⟨rfl,rfl⟩|⟨rfl,rfl⟩
  ·exact H (in_tupleAt J (li ae w G _ l) T (yb (d.any J)▸Z _ k.toks q))
  exact H (notIn_tupleAt J (li ae w G _ l) T (yc _▸Z _ k.toks q))
 |bW A=>
  refine sT Y.bW λau m ao aa q=>?_;subst m;subst ao;refine aU U.o λaw m=>?_;subst m;refine aU E.o λay m=>?_;subst m;have K:(IG A (ck ".") 0 A.length 1).isEmpty=true:=aa.elim (λF=>F▸Gs.1) λF=>F▸Gs.2;rcases y with⟨rfl,rfl⟩|⟨rfl,rfl⟩
  ·exact H (acd (K▸Z _ k.toks q))
  exact H (acl (K▸Z _ k.toks q))
 |x Q=>
  obtain⟨ai,Y⟩:=Y
  refine bl E.o λm _=>?_;subst m
  generalize af:b.c6 Q=a at Y
  cases a with
  |V X=>
   refine ax (gF Y) λh F q=>ax (t.lV ai af) λd P D=>ax (FF (jz:=.In) (ap rfl) I U D F) λJ T ag=>?_;subst ag;rcases y with⟨rfl,rfl⟩|⟨rfl,rfl⟩
   ·exact H (in_listAt J P T (yb (d.any J)▸Z _ k.toks q))
   exact H (notIn_listAt J P T (yc _▸Z _ k.toks q))
  |aT aq=>
   have ab:=t.eU Q ai;rw[af] at ab;refine EL ab λab ae az aA w G l aj=>?_;have aa:=t.Gl (W:=p.b5 Q) (by exact c ab<|pR.noConfusion);have I:N.units+4<ek:=py I;rcases y with⟨rfl,rfl⟩|⟨rfl,rfl⟩
   ·refine H (?_:aG _ N (do return gz (<-CC (O (p.b5 Q)) aI)) cC bs k);exact av (Ew I Y.1 U aa w G l aj λM=>bz (yb (b9 C aq).isSome▸Z _ M Y.2))
   refine H (?_:aG _ N (do return gz (!(<-CC (O (p.b5 Q)) aI))) cC bs k);exact av (Ew I Y.1 U aa w G l aj λM=>bz (yc _▸Z _ M Y.2))
  |_=>exact Y.elim
 |_=>exact Y.elim
theorem Er (t:a2 v p b k) (I:N.units+5<ek) (U:be p b.i k.heap C aI) (E:be p b.i k.heap b2 cR) (Z:rc lA C b2 b an):i4 v N (v6 (zF lA) aI cR) p b k an:=by
 have Y:∀{h:ci},an (aK h) b->ho v p b k an (gz h) k:=λZ=>⟨p,b,_,t,.dO,.aK _,Z⟩
 refine bV λH=>?_
 cases lA with
 |bL=>refine ax (gF Z) λh F Z=>?_;exact H (Q3 I U E F (Y Z))
 |d8=>
  replace Z:=gF Z
  refine ax Z λh F Z=>?_
  cases C with
  |j W=>refine ax (e7.mp F) λA M m=>?_;subst m;rw[xp M] at E;refine aU U.o λd m=>?_;subst m;refine aU E.o λX m=>?_;subst m;refine H (acj (Y ?_));exact c (show(W !=A)=decide (W≠A) from hN.mpr (yZ.trans hB.symm))<|Z
  |bW W=>refine ax (e7.mp F) λA M m=>?_;subst m;rw[Hr M] at E;refine aU U.o λd m=>?_;subst m;refine aU E.o λX m=>?_;subst m;refine H (ack (Y ?_));show an (aK (!(_==_))) b;exact c (CT ..)<|Z
  |aK W=>refine ax (e7.mp F) λA M m=>?_;subst m;rw[zB M] at E;obtain rfl:=U.o;obtain rfl:=E.o;exact H (RcNeAt.bool_bool _ _ _ _ _ _ (Y Z))
  |_=>exact ce F
 |bj=>replace Z:=Z.nc;obtain⟨W,A,rfl,rfl,Z⟩:=Z;refine aU U.o λd m=>?_;subst m;refine aU E.o λX m=>?_;subst m;exact H (acg (Y Z))
 |i8=>replace Z:=Z.nc;obtain⟨W,A,rfl,rfl,Z⟩:=Z;refine aU U.o λd m=>?_;subst m;refine aU E.o λX m=>?_;subst m;exact H (acb (Y Z))
 |mv=>replace Z:=Z.nc;obtain⟨W,A,rfl,rfl,Z⟩:=Z;refine aU U.o λd m=>?_;subst m;refine aU E.o λX m=>?_;subst m;exact H (PySem.P.ge_int (Y Z))
 |lj=>replace Z:=Z.u0;obtain⟨rfl,Z⟩:=Z;obtain rfl:=E.o;exact H (PZ rfl (FR U (Y Z)))
 |ry=>replace Z:=Z.u0;obtain⟨rfl,Z⟩:=Z;obtain rfl:=E.o;refine H (?_:aG _ N (do return gz (!(<-CI aI bf))) _ _ k);exact av (FR U (bz (Y Z)))
 |e2=>exact H (FG (ap ⟨rfl,rfl⟩) t I U E Z λh a q=>⟨p,b,_,t.eS a,.eS a,.aK _,(yb h).symm▸q⟩)
 |n5=>exact H (FG (ar ⟨rfl,rfl⟩) t I U E Z λh a q=>⟨p,b,_,t.eS a,.eS a,.aK _,(yc h).symm▸q⟩)
theorem TC (Q:dM) (l:(Q==sk)=false):MeetsIn cd v (Builtin.«dict.__len__» ⟨[O Q],[]⟩) (λ_ m C=>∃I w A,C.heap.get? Q=g I/\I.data=g' w A/\m (.ok (se (aN w.size C.toks))) {C with toks:=C.toks+1}):= .of_wp λk m C ⟨I,w,A,a,b,T⟩=>by refine(?_:aG _ _ (dictSize Q>>=_) _ _ C);unfold dictSize;refine av (av (sn a b (bz ?_)));refine(?_:aG _ _ (act Q>>=_) _ _ C);refine av (wpAny_pendingCount_other l ?_);refine aav<|c (yo ..)<|T
theorem F5 (l:(W==sk)=false) (w:k.heap.get? W=g cf) (G:cf.ExactDict) (b:cf.data=g' b6 a) (d:(b6.size:B)<2^63) (T:cC (aN b6.size (k.toks+1)) {k with toks:=k.toks+1+1}):aG (bG cd v) N (Builtin.«len» ⟨[O W],[]⟩) (λy E=>∃h,y=.done (se h)/\cC h E) bs k:=by
 have t:k.TypeIs (O W) "dict":=a8 cf w G.1;unfold Builtin.«len»;refine av (m:=oneArg "len" _) (bz ?_);refine av (m:=callSpecial? (O W) (ck "__len__")) (oB (name:=ck "__len__") t IS (call_meetsIn IS t F.entry_dict_len (F.args_dict_len_1 _) (TC W l) ⟨cf,b6,a,w,b,?_⟩));refine(?_:aG _ _ _ _ _ {k with toks:=k.toks+1});refine av (f4 (bz ?_));refine av (wpAny_letGo ?_);refine(?_:aG _ _ (if((b6.size:e):B)<0 then _ else _) _ _ _);refine hU (sx)<|(?_:aG _ _ (if((b6.size:e):B)≥2^63 then _ else _) _ _ _)
 refine hU (J0 d)<|wpAny_bind (wpAny_mkInt (bz (a8 _ rfl T)))
theorem Xu (l:(W==sk)=false) (w:k.heap.get? W=g cf) (G:cf.ExactDict) (b:cf.data=g' b6 a) (d:(b6.size:B)<2^63) (T:fe (!b6.isEmpty) {k with toks:=k.toks+1+1}):aG (bG cd v) N (CN (O W)) fe bs k:=by
 have t:k.TypeIs (O W) "dict":=a8 cf w G.1;have C:((b6.size:B) !=0)=!b6.isEmpty:=by
  unfold Array.isEmpty;refine bi (vY b6.size) (λi=>?_) λi=>?_
  ·refine c i ?_;rfl
  have p:b6.size≠0:=a3 i;have o:((b6.size:B) !=0)=true:=yZ.mpr (J1 p);refine c o (c (jE p) ?_);rfl
 have Z:aG (bG cd v) N (runValue (v3 "len" ⟨[O W],[]⟩)) (λh E=>h=aN b6.size (k.toks+1)/\fe (!b6.isEmpty) E) bs k:=by refine wpAny_runValue (codeAny_builtin entry_len ?_);exact c (Around.under_plainId plain_len _)<|wpAny_mono (F5 (cC:=λh E=>h=aN b6.size (k.toks+1)/\fe (!b6.isEmpty) E) l w G b d ⟨rfl,T⟩) (λy E H=>by refine ax H λh m J=>?_;exact c m<|J) λ_ _ i=>i
 unfold CN;first
  |refine av (wpAny_callSpecial?_none (name:=ck "__bool__") t noBool_dict ?_)
  |refine wpAny_bind (wpAny_pure (wpAny_bind (wpAny_callSpecial?_none (name:=Str.ofString "__bool__") t noBool_dict ?_)))
 first
  |refine av (so (name:=ck "__len__") t IS.lookup ?_)
  |refine wpAny_bind (wpAny_pure (wpAny_bind (wpAny_specialOf (name:=Str.ofString "__len__") t F.slot_dict_len.lookup ?_)))
 first
  |exact av (dt Z (λh E H=>by refine bl H λm J=>?_;exact c m<|wpAny_pure (C▸J)) λ_ _ i=>i)
  |exact wpAny_bind (wpAny_pure (wpAny_bind (wpAny_mono Z (λh E H=>by obtain⟨rfl,J⟩:=H;exact wpAny_pure (C▸J)) λ_ _ i=>i)))
theorem a2.nQ (t:a2 v p b k) (U:a<b.i) (F:b.c6 a=aT a1):p.bw (p.b5 a)=.eU a/\(p.b5 a==sk)=false/\∃I w A,k.heap.get? (p.b5 a)=g I/\I.ExactDict/\I.data=g' w A/\fv v p b.i k.heap a1 w:=by have:=t.eU a U;rw[F] at this;exact ch this.1 (t.Gl (by exact c (this.1 ..)<|λT=>hL T rfl)) this.2
theorem TM (Y:e):((Y:B) !=0)=decide (Y≠0):=by cases Y<;>rfl
theorem bQ.EX (W:bQ p a ae ai cB.toList):cB.isEmpty=ai.isEmpty:=by rw[hN,YK,HO,W.fW]
theorem rB (T:a<aa):(a:B)<2^63:=gV.mpr (nz T (by decide:aa<2^63))
theorem vq (t:a2 v p b k) (U:be p b.i k.heap C aI) (F:fc C b=g bt) (Z:∀M,fe bt {k with toks:=M}):aG (bG cd v) N (CN aI) fe bs k:=by
 refine bV λH=>?_
 have c:fe bt k:=Z k.toks
 cases C with
 |bI=>obtain rfl:=bm F;obtain rfl:=U.o;exact H (truthy_none c)
 |aK W=>obtain rfl:=bm F;obtain rfl:=U.o;exact H (oE c)
 |j q=>obtain rfl:=bm F;refine aU U.o λK m=>?_;subst m;refine H (PySem.P.truthy_int ?_);rw[show(q !=0)=decide (q≠0) from hN.mpr (yZ.trans hB.symm)];exact c
 |bW W=>refine bl (uI F) λD m=>?_;subst m;refine aU U.o λK m=>?_;subst m;exact H (PySem.P.truthy_str (H4.mpr (rB D)) (show fe ((W.cps.size:B) !=0) _ from TM _▸Z _))
 |S X=>refine bl (uI F) λy m=>?_;subst m;obtain⟨C,I,d,A,rfl,w,G,l,_,D⟩:=U.o;exact H (truthy_tuple (items:=d) (li I w G _ l) (D.fW▸rB y) (D.EX▸Z _))
 |x Q=>
  refine bl U.o λm E=>?_;subst m
  rw[show fc (x Q) b=_ from aZ E] at F
  generalize J:b.c6 Q=a at F
  cases a with
  |V X=>refine bl (uI F) λy m=>?_;subst m;refine ax (t.lV E J) λd T D=>H (wpAny_truthy_list T (D.fW▸rB y) (D.EX▸Z _))
  |aT aa=>refine bl (uI F) λy m=>?_;subst m;refine oZ (t.nQ E J) λ_ h I d A w G l Y=>H (Xu h w G l (Y.bo▸rB y) ?_);rw[show d.isEmpty=aa.isEmpty from by rw[hN,YK,HO,Y.bo]];exact Z _
  |_=>exact ce F
abbrev kE (T H:gf):Prop:=∀P I,T.get? P=g I->H.get? P=g I
theorem kE.di (Y:kE ae fP) (E:ae.get? W≠R):fP.get? W≠R:=by refine aU (nw.mp E) λa q=>c (Y _ _ q)<|fK
theorem a2.uD (t:a2 v p b k) (Y:kE k.heap ae) (N:e):a2 v p b {k with heap:=ae,toks:=N}/\cg cl p b k p b {k with heap:=ae,toks:=N}:=by
 have d:fh p p b.i b.i k.heap ae:=⟨bv _,λ_ _=>rfl,λ_ T=>T,λP I T _=>Y _ _ T⟩;refine⟨⟨t.iO,λy U=>(t.eU y U).a0 d U (λ_ _=>rfl) λP E=>⟨rfl,?_⟩,λy I F=>⟨Y _ _ (t.ew y I F).1,(t.ew y I F).2⟩,λy F=>?_,t.lR⟩,d,λ_ _=>rfl,λ_ _=>rfl,λP I T _ _=>Y _ _ T,λP T=>Y.di T,rfl⟩
 ·have:k.heap.get? P≠R:=t.qe (by refine bi E (λT=>?_) λT=>?_<;>refine c T ?_<;>simp);refine aU (nw.mp this) λW q=>c q<|Y _ _ q
 refine t.di y (vM λT=>Y.di T F)
theorem a2.Se (t:a2 v p b k) (Y:kE k.heap ae) (N:e) (q:k.heap.get? W=R) (A:ae.get? W≠R) (h:jJ v (p.e' b.i W 0) (b.i+1) ae b.i bN):a2 v (p.e' b.i W 0) (b.cK bN) {k with heap:=ae,toks:=N}/\cg cl p b k (p.e' b.i W 0) (b.cK bN) {k with heap:=ae,toks:=N}:=by refine bV λH=>bl (t.uD (cl:=cl) Y N) λw o=>?_;obtain⟨a,c,d⟩:=w.xP (W:=W) A (t.di _ q) h;refine H<|⟨a,⟨o.cn.az c,λy U=>cS iL (ay (iX U)),λP E=>(d P λF=>E (F▸q)).trans (o.bw P E),o.c',o.di,o.pb⟩⟩
theorem W3 (t:a2 v p b k) (Y:kE k.heap ae) (q:k.heap.get? W=R):fh p (p.e' b.i W 0) b.i (b.i+1) k.heap ae:=⟨ge _,λy U=>ay (iX U),λy T=>(show(p.e' b.i W 0).bw y=p.bw y from ay λJ=>by rw[J,t.di _ q] at T;exact hL T rfl).trans T,λ_ _ T _=>Y _ _ T⟩
theorem tt (t:a2 v p b k) (Y:kE k.heap ae) (N:e) (q:k.heap.get? W=R) (P:ae.get? W=g {cls:=ak "list",data:=.seq cB a}) (Q:bQ p b.i k.heap ai cB.toList) (Z:an (x b.i) (b.cK (V ai))):ho v p b k an (O W) {k with heap:=ae,toks:=N}:=by
 have A:ae.get? W≠R:=by exact c P<|fK
 obtain⟨d,J⟩:=t.Se Y N q A (bN:=V ai) (a8 cB (Q.a0 (W3 t Y q)) (ap ⟨t.iO,by exact c (km ..)<|uX _ _ _ _,a,by exact c (km ..)<|P⟩));refine⟨_,_,x b.i,d,J,?_,Z⟩;have T:=be.x (b:=p.e' b.i W 0) (C:=b.i+1) (T:=ae) b.i (fp _);rw[km] at T;exact T
theorem a2.Sd (t:a2 v p b k) (Y:kE k.heap ae) (N:e) (q:k.heap.get? W=R) (A:ae.get? W≠R):a2 v (p.o1 W e9) b {k with heap:=ae,toks:=N}/\cg cl p b k (p.o1 W e9) b {k with heap:=ae,toks:=N}:=by
 have C:∀P,k.heap.get? P≠R->P≠W:=λP T F=>T (F▸q);have o:∀P,k.heap.get? P≠R->(p.o1 W e9).bw P=p.bw P:=λP T=>ay (C P T);have X:p.bw W=c':=t.di _ q;have d:fh p (p.o1 W e9) b.i b.i k.heap ae:=⟨bv _,λ_ _=>rfl,λy T=>by refine(?_:(if y=_ then _ else _)=_);split<;>first|rfl|exact T,λ_ _ T _=>Y _ _ T⟩;refine⟨⟨t.iO,λy U=>?_,λy Q F=>⟨Y _ _ (t.ew y Q F).1,?_⟩,λy F=>?_,t.lR⟩,d,λ_ _=>rfl,o,λ_ _ T _ _=>Y _ _ T,λP T=>Y.di T,rfl⟩
 ·refine(t.eU y U).a0 d U (λ_ _=>rfl) λP E=>?_;have D:k.heap.get? P≠R:=t.qe (by rcases E with T|T<;>refine c T ?_<;>simp);obtain⟨W,q⟩:=nw.mp D;exact⟨o P D,by exact c q<|Y _ _ q⟩
 ·rw[o y (by exact c ((t.ew y Q F).1)<|fK)];exact(t.ew y Q F).2
 refine(?_:(if y=_ then _ else _)=_);split
 ·rename_i T;subst T;exact absurd F A
 exact t.di y (vM λT=>Y.di T F)
theorem W2 (t:a2 v p b k) (Y:kE k.heap ae):fh p (p.o1 W e9) b.i b.i k.heap ae:=⟨bv _,λ_ _=>rfl,λy T=>by refine(?_:(if y=_ then _ else _)=_);split<;>first|rfl|exact T,λ_ _ T _=>Y _ _ T⟩
theorem x7 (t:a2 v p b k) (Y:kE k.heap ae) (N:e) (q:k.heap.get? W=R) (w:ae.get? W=g cf) (G:cf.cls=ak "tuple") (l:cf.data=.seq cB a) (Q:bQ p b.i k.heap ai cB.toList) (Z:an (S ai) b):ho v p b k an (O W) {k with heap:=ae,toks:=N}:=by obtain⟨d,J⟩:=t.Sd Y N q (by exact c w<|fK);exact⟨_,_,S ai,d,J,.S w G l (aZ rfl) (Q.a0 (W2 t Y)),Z⟩
theorem Hz (t:a2 v p b k) (Y:kE k.heap ae) (N:e) (Q:be p b.i k.heap C aI) (Z:an C b):ho v p b k an aI {k with heap:=ae,toks:=N}:=by obtain⟨d,J⟩:=t.uD Y N;exact⟨_,_,C,d,J,Q.a0 J.cn,Z⟩
theorem T3:sl (ak "str") (ck "__int__")=pure R:=by refine c (yU ..) (c (yJ ..) ?_);kernel_rfl
theorem T2:sl (ak "str") (ck "__index__")=pure R:=by refine c (yU ..) (c (yJ ..) ?_);kernel_rfl
theorem T6:sl (ak "str") (ck "__trunc__")=pure R:=by refine c (yU ..) (c (yJ ..) ?_);kernel_rfl
theorem XG (F:r3=qu) (T:aG gT N qu oj bs k):aG gT N r3 oj bs k:=F▸T
set_option maxHeartbeats 4000000 in
theorem Fn (X:h1) (q:(ac=ck "1"/\am=1/\a=49)\/(ac=ck "2"/\am=2/\a=50)):Gives (Builtin.«int.__new__» ⟨[ak "int",bS ac X],[]⟩) (IY am):= .of_wp λd k P C H T=>by
  obtain⟨J,b,Q,M,y⟩:=C;have K:=F.conv_sub_int;have i:=F.madeHere_int;repeat (any_goals (first|assumption|wp_step))
  clear K i;refine(?_:aG d k (sl (ak "str") (ck "__int__")) _ _ _);refine oD T3 (bz ?_);refine av (m:=specialOf (bS ac X) (ck "__index__")) (so (qQ _ _ _) T2 ?_);refine av (m:=specialOf (bS ac X) (ck "__trunc__")) (so (qQ _ _ _) T6 ?_);dsimp only;refine av (oD (show _=pure (g [a]) from by rcases q with⟨rfl,rfl,rfl⟩|⟨rfl,rfl,rfl⟩<;>kernel_rfl) ?_);dsimp only;refine XG (show _=mkInt am from by rcases q with⟨rfl,rfl,rfl⟩|⟨rfl,rfl,rfl⟩<;>kernel_rfl) (wpAny_mkInt ?_);exact bz (a8 _ rfl T)
theorem W9 (q:ck (toString am)=ac) (T:ac.length<=nC) (D:am.natAbs.log2<1920) (I:N.units+3<ek) (a:∀M X,cC (bS ac X) {k with toks:=M}):aG (bG cd v) N (acz (aN am fL)) cC bs k:=by subst q;refine wpAny_strOf_slot rfl (H 2 I) (yT k am fL) F.slot_int_str ZM.toG<|call_gives ZM (yT k am fL) F.entry_int_repr (F.args_int_repr_1 _) (gives_int_repr am fL D)<|⟨T,_,_,rfl,a _ _⟩
theorem Ek (q:ck (toString am)=ac) (h:ac.length<=nC) (D:am.natAbs.log2<1920) (I:N.units+6<ek) (T:∀M X,cC (bS ac X) {k with toks:=M}):aG (bG cd v) N (gX (ak "str") [aN am fL]) cC bs k:=callType_new F.called_str (aQ rfl) (F.typeCall_str_1 _) (F.newCall_str_1 _) (λc=>F.args_object_init_2 c _) F.entry_str_new (meets_str_new (S:=λa m E=>a.units+4<ek/\∀M X,m (.ok (se (bS ac X))) {E with toks:=M}) λd b a m E T=>W9 (cd:=d) (v:=b) (N:=a.in1) q h D (by refine(?_:a.units+1+3<ek);have:=T.1;exact T.1) T.2) ⟨by refine(?_:N.units+1+4<ek);exact H 1 I,λM X=>⟨qQ _ _ _,T M X⟩⟩
noncomputable def uo:t8->aX|bo=>bH "len"|.bW=>ak "str"|oc=>bH "sorted"|rS=>ak "tuple"|o8=>bH "max"|.j=>ak "int"|.V=>ak "list"
theorem bQ.eL (W:bQ p a ae [C] cF):∃J,cF=[J]/\be p a ae C J:=by
 cases cF with
 |nil=>exact W.o.elim
 |cons J cF=>exact c (show cF=[] from W.o.2.o)<|a8 _ rfl W.o.1
theorem bQ.og (W:bQ p a ae [C,b2] cF):∃J X,cF=[J,X]/\be p a ae C J/\be p a ae b2 X:=by
 cases cF with
 |nil=>exact W.o.elim
 |cons J cF=>refine ax W.o.2.eL λX m I=>?_;exact c m<|hf _ _ rfl W.o.1 I
theorem WK:(ck "1").length<=nC:=aQ rfl
theorem WL:(ck "2").length<=nC:=aQ rfl
theorem Qo {U:B->Prop} (Z:dj (sQ ac) U):(ac=ck "1"/\U 1)\/(ac=ck "2"/\U 2):=by
 by_cases T:ac=ck "1"
 ·rw[show sQ ac=_ from aZ T] at Z;exact ap ⟨T,Z⟩
 rw[show sQ ac=_ from ay T] at Z;by_cases T:ac=ck "2"
 ·rw[aZ T] at Z;exact ar ⟨T,Z⟩
 rw[ay T] at Z;exact Z.elim
theorem oh.z (Z:oh ai bd):ai=[]/\bd:=by cases ai<;>first|exact⟨rfl,Z⟩|exact Z.elim
theorem jh.eL {G:q->Prop} (Z:jh ai G):∃y,ai=[y]/\G y:=by
 cases ai with
 |nil=>exact Z.elim
 |cons y h=>obtain⟨F,Z⟩:=oh.z Z;exact a8 y (F▸rfl) Z
theorem rT.og {G:q->q->Prop} (Z:rT ai G):∃y P,ai=[y,P]/\G y P:=by
 cases ai with
 |nil=>exact Z.elim
 |cons y h=>obtain⟨P,F,Z⟩:=jh.eL Z;exact mx y P (F▸rfl) Z
theorem kM (T:a<aa):a<nC:=nz T (aQ rfl)
theorem Fk (K:kE ae fP):ae.get? fP.objs.size=R:=by
 cases F:ae.get? fP.objs.size with
 |none=>rfl
 |some I=>exact absurd (ZX (K _ _ F)) (ys _)
theorem Jx (ah:kZ≠oc) (U:N.handled=R) (t:a2 v p b k) (ae:N.units+8<ek) (D:bQ p b.i k.heap ai cF) (Z:zv kZ ai b an):i4 v N (gX (uo kZ) cF) p b k an:=by
 refine bV λH=>?_
 cases kZ with
 |bo=>
  replace Z:=Z.eL
  obtain⟨y,rfl,Z⟩:=Z
  obtain⟨J,rfl,Q⟩:=D.eL
  cases y with
  |S ai=>obtain⟨T,Z⟩:=Z;obtain⟨y,I,C,af,rfl,w,G,l,_,q⟩:=Q.o;refine H (len_tuple (items:=C) (li I w G _ l) (q.fW▸rB T) ?_);exact c (q.fW ..)<|lv t Z
  |x y=>
   obtain⟨E,Z⟩:=Z
   obtain⟨rfl,_⟩:=Q.o
   generalize M:b.c6 y=a at Z
   cases a with
   |V ai=>obtain⟨T,Z⟩:=Z;obtain⟨C,P,q⟩:=t.lV E M;refine H (Calls.call_len_list P (q.fW▸rB T) ?_);exact c (q.fW ..)<|lv t Z
   |aT aq=>obtain⟨T,Z⟩:=Z;obtain⟨_,h,I,C,af,w,G,l,Y⟩:=t.nQ E M;refine H (Zx kind_len plain_len entry_len (args_len1 _) (F5 h w G l (Y.bo▸rB T) ?_));exact bp Y.bo<|lv t Z
   |_=>exact Z.elim
  |_=>exact Z.elim
 |bW=>
  replace Z:=Z.eL;obtain⟨y,rfl,Z⟩:=Z;obtain⟨J,rfl,Q⟩:=D.eL;replace Z:=Z.j;obtain⟨aj,rfl,Z⟩:=Z;obtain⟨aa,rfl⟩:=Q.o;have d:N.units+6<ek:=py (py ae);rcases Z with⟨rfl,Z⟩|⟨rfl,Z⟩
  ·exact H (Ek (ac:=ck "1") (aQ rfl) WK (aQ rfl) d λab X=>tv t Z)
  exact H (Ek (ac:=ck "2") (aQ rfl) WL (aQ rfl) d λab X=>tv t Z)
 |j=>
  replace Z:=Z.eL;obtain⟨y,rfl,Z⟩:=Z;obtain⟨J,rfl,Q⟩:=D.eL;replace Z:=Z.bW;obtain⟨aj,rfl,Z⟩:=Z;obtain⟨aa,rfl⟩:=Q.o;rcases Qo Z with⟨rfl,Z⟩|⟨rfl,Z⟩
  ·exact H (call_int_1 (Fn aa (ap (ch rfl rfl rfl))).meets (show(IY 1).post _ k from⟨rfl,lv t Z⟩))
  exact H (call_int_1 (Fn aa (ar (ch rfl rfl rfl))).meets (show(IY 2).post _ k from⟨rfl,lv t Z⟩))
 |o8=>
  replace Z:=Z.og;obtain⟨y,kZ,rfl,Z⟩:=Z;obtain⟨J,X,rfl,Q,ae⟩:=D.og;replace Z:=Z.nc;obtain⟨W,A,rfl,rfl,Z⟩:=Z;refine aU Q.o λaa m=>?_;subst m;refine aU ae.o λau m=>?_;subst m;refine H (max_two_ints U λag ab K=>?_);by_cases G:A>W
  ·refine c (aZ G) ?_;rw[aZ (show W<A from G)] at Z;exact Hz t K ab (.j _ _) Z
  refine c (ay G) ?_;rw[ay (show ¬W<A from G)] at Z;exact Hz t K ab (.j _ _) Z
 |rS=>replace Z:=Z.eL;obtain⟨y,rfl,Z⟩:=Z;obtain⟨J,rfl,Q⟩:=D.eL;replace Z:=Z.x;obtain⟨y,rfl,E,Z⟩:=Z;replace Z:=Z.f3;refine eT Z λai M T Z=>bl Q.o λm _=>?_;subst m;refine ax (t.lV E M) λC P q=>H (call_tuple_list P (λag K=>?_) (q.fW▸iC (kM T)));exact x7 t (λkZ I F=>mb _ (K kZ I F)) k.toks (Fk K) (gJ _ rfl) rfl rfl q Z
 |V=>replace Z:=Z.eL;obtain⟨y,rfl,Z⟩:=Z;obtain⟨J,rfl,Q⟩:=D.eL;replace Z:=Z.S;obtain⟨ai,rfl,T,Z⟩:=Z;obtain⟨y,I,C,af,rfl,w,G,l,_,q⟩:=Q.o;refine H (call_list_seq y (ar rfl) w G l (λag av K ao=>?_) (q.fW▸iC (kM T)));exact tt t K k.toks f8 ao q Z.fl
 |oc=>exact ah rfl
def pT (m:bZ) (k:jC) (I v:aX) (H:aX->cc->Prop) (P:aX->cc->Prop) (C:cc):Prop:=∃M,(∃b,sl (ak M) "__getitem__"=pure (g (bH b)))/\C.TypeIs I M/\aG (bG MineH.b8 m) k (v7 I v) H P C
theorem Ht (T:pT v N aI cR cC bs k):
  aG (bG MineH.b8 v) N (do
   let h<-Jh dv (<-getitemInPython aI) aI cR
   aac aY aI h
   pure h) cC bs k:=by
 refine bV λH=>eT T λM m t P=>aU m λb D=>H<|wpAny_bind<|c (getitemInPython_of_ne t.not_modules)<|wpAny_bind (so t D ?_)
 have y:aG (bG MineH.b8 v) N (Jh dv false aI cR) (λh a=>aG (bG MineH.b8 v) N (aac aY aI h>>=λ_=>pure h) cC bs a) bs k:=by
  have:∃l,Jh dv false aI cR=operate l (v7 aI cR):=by
   cases dv with
   |Slice _ _ i _=>cases i<;>exact⟨_,rfl⟩
   |_=>exact⟨_,rfl⟩
  refine aU this λl F=>c F<|wpAny_operating (dt P (λh a d=>av (aaq (bz d))) λ_ _ W=>W)
 first
  |exact bz (av y)
  |exact wpAny_bind (wpAny_pure (wpAny_bind y))
  |exact wpAny_bind y
theorem RY (I:N.units+4<ek) (X:q.eK C=true) (K:be p a k.heap C aI) (w:k.heap.get? W=g cf) (G:cf.ExactDict) (l:cf.data=g' b6 d) (Y:fv v p a k.heap a1 b6) (Q:b9 C a1=g b2) (Z:∀M h,be p a k.heap b2 h->cC h {k with toks:=M}):aG (bG cd v) N (v7 (O W) aI) cC bs k:=by
 have t:k.TypeIs (O W) "dict":=a8 cf w G.1;unfold v7;try with_reducible refine f4 ?_
 refine av (CO t (aQ rfl) ?_);refine av (oB (name:=ck "__getitem__") t IR (jD IR t F.entry_dict_getitem ?_ (F.args_dict_getitem_2 _ _)));refine(?_:aG _ _ (yK W aI>>=_) _ _ k);refine av (zV (show N.units+1+3<ek from(hO N.units 1 3).symm▸I) X K w l Y λM h i=>?_);rw[Q] at i;obtain⟨h,rfl,i⟩:=i;exact bz (a8 h rfl (bz (Z M h i)))
theorem pj (t:a2 v p b k) (Q:be p b.i k.heap C aI) (Z:an C b):ho v p b k an aI {k with toks:=a}:=⟨p,b,C,t.eS a,.eS a,Q,Z⟩
theorem bQ.q4 (q:bQ p a ae ai cB.toList) (F:ai[d]? =g C):d<cB.size/\∃A,cB[d]? =g A/\be p a ae C A:=by refine ax (q.c6 _ F) λA h Q=>?_;rw[r4] at h;exact rs ((yh.mp h).1) A h Q
theorem Hd (T:a<d):CM (a:B) d=g a:=by unfold CM;rw[ay (show ¬((a:B)<0) by exact sx)];simp[T]
theorem WA (T:a<d):CM (tF a) d=g (d- (a+1)):=by
 unfold CM
 refine c (Yl ..)<|c (aZ (show(-((a:B)+1)<0) by exact J2)) (c (aZ (by simp;exact J3 T)) ?_)
 congr 1
 exact J4
theorem uG (T:a<d) (y:d<aa): -(2^63)<=(yk a)/\yk a<2^63:=by unfold aa at y;exact⟨r5 (aQ rfl) (pt a),tE (gV.mpr (nz T y)) (aQ rfl)⟩
theorem FB (T:a<d) (y:d<aa): -(2^63)<=(tF a)/\tF a<2^63:=by
 have F:((1048576:e):B)<=2^63:=by decide+kernel
 exact c (Yl a) ⟨Int.neg_le_neg (r5 (nx.mpr (t T (H 1 y))) F),tE (Int.negSucc_lt_zero a) (aQ rfl)⟩
theorem Sx (t:a2 v p b k) (U:be p b.i k.heap (S ai) aI) (T:ai.length<aa) (a:my ai am=g C) (y:an C b):pT v N aI (aN am fL) (ho v p b k an) gi k:=by
 refine bV λH=>?_
 obtain⟨d,I,G,m,rfl,w,c,l,_,q⟩:=U.o
 refine H (d7 ("tuple") ⟨_,Cj.lookup⟩ ⟨I,w,c⟩ ?_)
 rw[<-q.fW] at T
 cases am with
 |ofNat Y=>refine nS (q.q4 a) λK A h Q=>Zn (items:=G) (j:=Y) (li I w c _ l) (uG K T).1 (uG K T).2 (Hd K) h (pj t Q y)
 |negSucc Y=>
  by_cases K:Y<ai.length
  ·rw[show my ai (tF Y)=_ from aZ K] at a;refine nS (q.q4 a) λ_ A h Q=>?_;rw[<-q.fW] at K h;exact Zn (items:=G) (j:=G.size- (Y+1)) (li I w c _ l) (FB K T).1 (FB K T).2 (WA K) h (pj t Q y)
  rw[show my ai (tF Y)=_ from ay K] at a;exact ce a
theorem Sw (t:a2 v p b k) (I:N.units+5<ek) (U:be p b.i k.heap C aI) (E:be p b.i k.heap b2 cR) (Z:Av C b2 b an):pT v N aI cR (ho v p b k an) gi k:=by
 refine bV λH=>?_
 cases C with
 |S X=>replace Z:=Z.j;obtain⟨D,rfl,T,Z⟩:=Z;replace Z:=gF Z;refine ax Z λJ c y=>aU E.o λF m=>?_;subst m;exact H (Sx t U T c y)
 |x Q=>
  obtain⟨d,Z⟩:=Z
  refine bl U.o λm _=>?_;subst m
  generalize M:b.c6 Q=a at Z
  cases a with
  |V X=>replace Z:=Z.j;obtain⟨D,rfl,K,T,Z⟩:=Z;replace Z:=gF Z;refine ax Z λJ c y=>ax (t.lV d M) λW P q=>aU E.o λF m=>?_;subst m;refine aU (vO K) λah m=>?_;subst m;refine nS (q.q4 c) λaa A h ab=>H (d7 ("list") ⟨_,aad⟩ P.typeIs (wpAny_getItem_list P K (uG aa (q.fW▸T)).2 h (pj t ab y)))
  |aT ai=>refine bl Z λae Z=>?_;replace Z:=gF Z;refine ax Z λJ c y=>oZ (t.nQ d M) λ_ _ af W aj w G l Y=>H (d7 ("dict") ⟨_,IR.lookup⟩ ⟨af,w,G.1⟩ (RY (py I) ae E w G l Y c λao aq ag=>pj t ag y))
  |_=>exact Z.elim
 |_=>exact Z.elim
theorem NT (P C:e):IF R (g (P:B)) 1 (C:B)=((0:B),((min P C:e):B)):=by
 unfold IF
 have k:¬((1:B)<0):=J5
 have p:¬((P:B)<0):=sx
 simp only[k,p,t3]
 congr 1
 exact J6
theorem UY (M:e):Cf (0:B) (M:B) 1=M:=by unfold Cf;have k:(1:B)>0:=J7;simp only[k,wc,Int.ediv_one];exact if T:0<(M:B) then c (aZ T) (c (H6 _) (c (Yq ..) rfl)) else c (ay T) (Y2 λW=>T (vQ.mpr W)).symm
theorem WP {H:B×B×e->cc->Prop} (h:k.heap.IsSliceOf W bf (aN a fL) bf) (T:H ((0:B),1,min a d) k):aG (bG cd v) N (Zs (O W) (pure (d:B))) H bs k:=by
 refine eT (id h) λy l i p=>?_;unfold Zs acy;refine av (av (oC l p (x:=bf) rfl (av (oC l p (x:=aN a fL) rfl (av (oC l p (x:=bf) rfl (bz ?_)))))));refine av (Zo ?_);refine(?_:aG _ _ (if((1:B)==0)=true then _ else _) _ _ k);refine hU (aQ rfl)<|wpAny_bind (Zo (av (slicePart_int (av (bz ?_)))))
 refine(?_:aG _ _ (match IF R (g (a:B)) 1 (d:B) with|(b,o)=>pure (b,(1:B),Cf b o 1)) _ _ k);refine c (NT a d)<|(?_:aG _ _ (pure ((0:B),(1:B),Cf (0:B) ((min a d:e):B) 1)) _ _ k)
 exact c (UY ..)<|wpAny_pure T
theorem UX (G:hX aX) (M:e):((eQ M).filterMap λ(Y:e)=>G[((0:B)+(Y:B)*1).toNat]?).toArray=(G.toList.take M).toArray:=by
 have F:(λ(Y:e)=>G[((0:B)+(Y:B)*1).toNat]?)=λY=>G[Y]? :=by funext Y;have:((0:B)+(Y:B)*1).toNat=Y:=J8;rw[this]
 rw[F]
 congr 1
 have D:(λ(Y:e)=>G[Y]?)=λY=>G.toList[Y]? :=by funext Y;exact c (r4 ..) rfl
 refine c D ?_
 generalize G.toList=X
 induction M with
 |zero=>simp
 |succ M t=>
  refine c (BY ..) (c (List.filterMap_append ..) (c t ?_))
  cases T:X[M]? with
  |none=>refine c (List.filterMap_cons_none T) ?_;rw[YG] at T;exact c (Il T)<|c (Il (bJ 1 T))<|eP _
  |some W=>refine c (List.filterMap_cons_some T) ?_;simp[List.take_add_one,T]
theorem RZ (A:IsTup k.heap W cB) (h:k.heap.IsSliceOf cE bf (aN a fL) bf) (q:cB.size<=a->cC (O W) k) (T:cC (O k.heap.objs.size) {k with heap:=k.heap.push {cls:=ak "tuple",data:=.seq (cB.toList.take a).toArray}}) (b:cB.size<=nC):aG (bG cd v) N (v7 (O W) (O cE)) cC bs k:=by
 have d:sizeOk (.seq (cB.toList.take a).toArray):=by refine(?_:(cB.toList.take a).toArray.size<=nC);rw[List.size_toArray,lD,op];exact t (qH _ _) b
 refine eT (id h) λy l i p=>?_;have o:k.TypeIs (O cE) "slice":=a8 y l i;unfold v7;try with_reducible refine f4 ?_
 first|refine av (bz ?_)|skip
 refine av (CO A.typeIs (aQ rfl) ?_);refine av (oB (name:=ck "__getitem__") A.typeIs Cj (jD Cj A.typeIs F.entry_tuple_getitem ?_ (F.args_tuple_getitem_2 _ _)));refine(?_:aG _ _ (Zv (O W)>>=_) _ _ k);refine av (tupleItemsOf_ A ?_);refine av (yX o ?_);refine l0 (aQ rfl)<|wpAny_bind (WP h ?_)
 refine(?_:aG _ _ (if((0:B)==0&&(1:B)==1&&(min a cB.size)==cB.size)=true then _ else _) _ _ k);by_cases E:cB.size<=a
 ·refine l0 (by rw[Y9 E];exact aZ rfl) ?_;have Z:=q E;refine av (m:=Zu _) ?_;unfold Zu;refine av (yX A.typeIs (bz ?_));refine l0 (aQ rfl)<|wpAny_bind (kc (bz (a8 _ rfl (bz Z))))
 refine hU (by rw[vZ (H 1 (BA E))];simp;exact aD (BA E)) ?_;rw[UX];have w:cB.toList.take (min a cB.size)=cB.toList.take a:=by exact c (vZ (H 1 (BA E))) rfl
 refine c w ?_;first
  |exact av (m:=acA _) (lG (bz (a8 _ rfl (bz T))) d)
  |exact wpAny_bind (m:=Builtin.Tuple.tupleExact _) (wpAny_newObj_type (wpAny_bind (wpAny_pure (wpAny_pure ⟨_,rfl,wpAny_pure T⟩))) d)
  |exact wpAny_bind (wpAny_bind (m:=Builtin.Tuple.tupleExact _) (wpAny_newObj_type (wpAny_pure (wpAny_pure ⟨_,rfl,wpAny_pure T⟩)) d))
  |exact wpAny_bind (wpAny_bind (m:=Builtin.Tuple.tupleExact _) (wpAny_newObj_type (wpAny_pure ⟨_,rfl,wpAny_pure T⟩) d))
theorem s0:kE ae (ae.push cf):=λ_ _ F=>mb _ F
theorem xC (T:uY C=g a):C=j a:=by
 refine ax (hz.mp T) λv k p=>?_
 cases v with
 |ofNat Y=>exact(xp k).trans (bm p▸rfl)
 |negSucc Y=>exact ce p
theorem WO (t:a2 v p b k) (U:be p b.i k.heap (S ai) aI) (K:be p b.i k.heap C cR) (J:be p b.i k.heap b2 tC) (h:k.heap.IsSliceOf W cR tC bf) (T:ai.length<aa) (Z:Bo ai C b2 λai=>an (S ai) b):pT v N aI (O W) (ho v p b k an) gi k:=by
 refine bV λH=>?_
 obtain⟨Q,I,G,A,F,w,y,l,_,q⟩:=id U.o
 refine H (d7 ("tuple") ⟨_,Cj.lookup⟩ (F▸⟨I,w,y⟩) ?_)
 have P:G.size<=nC:=q.fW▸iC (kM T)
 unfold Bo at Z
 cases d:mz b2 with
 |true=>
  rw[d] at Z;replace Z:=gF Z;refine sT Z λY M X ab Z=>?_;rw[xC M] at K;rw[uM d] at J;refine aU K.o λae m=>?_;subst m;obtain rfl:=J.o;refine c F<|getItem_tuple_from (items:=G) (li I w y _ l) h X (q.fW▸ab) ?_ P
  exact x7 t s0 k.toks f8 (gJ _ rfl) rfl rfl (by exact c (sa ..)<|q.p0 _) Z
 |false=>
  rw[d] at Z;refine bl Z λM Z=>?_;replace Z:=gF Z;refine ax Z λaf D Z=>?_;rw[xC D] at J;rw[uM M] at K;obtain rfl:=K.o;refine aU J.o λae m=>?_;subst m;refine c F<|RZ (cB:=G) (a:=af) (li I w y _ l) h (λE=>?_) (x7 t s0 k.toks f8 (gJ _ rfl) rfl rfl (by exact c (sa ..)<|q.Hx _) Z) P
  rw[Il (q.fW▸E)] at Z;exact⟨p,b,_,t,.dO,F▸U,Z⟩
theorem WN (t:a2 v p b k) (U:be p b.i k.heap C aI) (K:be p b.i k.heap b2 cR) (J:be p b.i k.heap tz tC) (h:k.heap.IsSliceOf W cR tC bf) (Z:Hj C b2 tz b an):pT v N aI (O W) (ho v p b k an) gi k:=by
 refine bV λH=>?_
 cases C with
 |S X=>exact H (WO t U K J h Z.1 Z.2)
 |x Q=>
  obtain⟨E,Z⟩:=Z
  refine bl U.o λm _=>?_;subst m
  replace Z:=Z.f3
  refine eT Z λX M T Z=>?_
  replace Z:=gF Z
  refine ax Z λF l y=>ax (t.lV E M) λG P q=>?_
  have w:G.size<=nC:=q.fW▸iC (kM T)
  refine H (d7 ("list") ⟨_,aad⟩ P.typeIs ?_)
  unfold Hk at l
  cases d:mz tz with
  |true=>rw[d] at l;refine ax (e7.mp l) λY M m=>?_;subst m;rw[xC M] at K;rw[uM d] at J;refine aU K.o λa m=>?_;subst m;obtain rfl:=J.o;refine aao P h (.int (Y:B) a) Co Co (ce) ?_ w;exact c (slicePick_from' ..)<|tt t s0 k.toks f8 (gJ _ rfl) (by exact c (sa ..)<|q.p0 _) y.fl
  |false=>rw[d] at l;refine bl (mu l) λM l=>ax (e7.mp l) λA D m=>?_;subst m;rw[xC D] at J;rw[uM M] at K;obtain rfl:=K.o;refine aU J.o λa m=>?_;subst m;refine aao P h Co (.int (A:B) a) Co (ce) ?_ w;exact c (slicePick_upto' ..)<|tt t s0 k.toks f8 (gJ _ rfl) (by exact c (sa ..)<|q.Hx _) y.fl
 |_=>exact Z.elim
theorem AA:ib ((b2,tz)::a1) C=if q.d6 b2 C=true then g 0 else(ib a1 C).map (· +1):=Ic
theorem Qc:∀{E:r (q×q)} {v:e},ib E C=g v->et C b2 E=E.set v (C,b2):=by
 intro E;induction E with
 |nil=>intro v F;exact ce F
 |cons N h t=>
  obtain⟨y,P⟩:=N;intro v F;rw[AA] at F;refine(?_:(if q.d6 y C=true then(y,b2)::h else(y,P)::et C b2 h)=_);by_cases T:q.d6 y C=true
  ·rw[aZ T] at F⊢;refine bp (bm F) (c (gE.mp T) ?_);rfl
  rw[ay T] at F⊢;refine ax (e7.mp F) λw i m=>?_;refine bp m<|c (t i) ?_;rfl
theorem Qe:∀{E:r (q×q)},ib E C=R->et C b2 E=E++[(C,b2)]:=by
 intro E;induction E with
 |nil=>intro F;exact rfl
 |cons N h t=>
  obtain⟨y,P⟩:=N;intro F;rw[AA] at F;refine(?_:(if q.d6 y C=true then(y,b2)::h else(y,P)::et C b2 h)=_);by_cases T:q.d6 y C=true
  ·rw[aZ T] at F;exact fK F
  rw[ay T] at F⊢;refine c (t (Option.map_eq_none_iff.mp F)) ?_;rfl
theorem Qa:∀{E:r (q×q)} {v:e},ib E C=g v->lP C E=E.eraseIdx v:=by
 intro E;induction E with
 |nil=>intro v F;exact ce F
 |cons N h t=>
  obtain⟨y,P⟩:=N;intro v F;rw[AA] at F;refine(?_:(if q.d6 y C=true then h else(y,P)::lP C h)=_);by_cases T:q.d6 y C=true
  ·rw[aZ T] at F⊢;refine bp (bm F) ?_;rfl
  rw[ay T] at F⊢;refine ax (e7.mp F) λw i m=>?_;refine bp m<|c (t i) ?_;rfl
theorem Ad (F:ib a1 C=g a):∃T:a<a1.length,(a1[a]).1=C:=by refine ax (Ie.mp F) λT k _=>?_;exact⟨T,gE.mp k⟩
theorem wj.gb {I:a6 (q×q)} {F:fY} (J:I=g iU) (k:be p a ae iU.1 F.key) (b:q.eK iU.1=true) (l:F.hash=jS v 3 iU.1) (c:be p a ae iU.2 F.val):wj v p a ae I F:=⟨iU,J,k,b,l,c⟩
theorem fv.iu (Y:fv v p a ae a1 b6) (F:ib a1 C=g d) (Q:be p a ae b2 aI):fv v p a ae (et C b2 a1) (b6.modify d λF=>{F with val:=aI}):=by
 refine aU (Ad F) λo K=>c (Qc F) ?_;refine⟨by exact c (mR ..)<|c (Yc ..)<|Y.bo,λw W=>?_,?_⟩
 ·rw[Yc] at W;refine c (Array.getElem_modify ..) ?_;by_cases b:d=w
  ·subst b;obtain⟨m,k,h,l,i,P⟩:=Y.kJ d W;obtain rfl:=bm ((cY o).symm.trans k);rw[K] at h l i;exact c (aZ rfl)<|.gb (iU:=(C,b2)) (vU o) h l i Q
  exact c (ay b)<|c (qB b)<|Y.kJ w W
 rw[kx,show(C,b2).1=(a1.map (·.1))[d]'(by exact c (au ..)<|o) from K.symm.trans (BP _).symm,List.set_getElem_self];exact Y.b7
theorem fv.n7 (Y:fv v p a ae a1 b6) (F:ib a1 C=R) (X:q.eK C=true) (K:be p a ae C aI) (Q:be p a ae b2 cR):fv v p a ae (et C b2 a1) (b6.push ⟨jS v 3 C,aI,cR⟩):=by
 refine c (Qe F) ?_;refine⟨by refine c (dw ..) (c (Yd ..) (c Y.bo ?_));rfl,λw W=>?_,?_⟩
 ·rw[Yd] at W;by_cases b:w<b6.size
  ·exact c (Array.getElem_push_lt b)<|c (iz (Y.bo▸b))<|Y.kJ w b
  obtain rfl:w=b6.size:=B1 (j' W) (yt.mp b);exact c (Array.getElem_push_eq ..)<|.gb (iU:=(C,b2)) (by refine bp (Y.bo ..) (c (oq (bv _) ..) (c (pA ..) ?_));rfl) K X rfl Q
 rw[eq,iA];refine ch Y.b7 (il _ _) (λy U P E M=>?_);rw[e6.mp E] at M;refine ax (e5.mp U) λh J d=>fR ((YA.mp F h J).symm.trans (gE.mpr (d.trans M)))
theorem fv.Q6 (Y:fv v p a ae a1 b6) (F:ib a1 C=g d):fv v p a ae (lP C a1) (b6.eraseIdxIfInBounds d):=by
 refine aU (Ad F) λo K=>?_;have l:d<b6.size:=Y.bo▸o;refine c (Qa F) (c (show b6.eraseIdxIfInBounds d=b6.eraseIdx d l from Jq l) ?_);refine⟨by exact c (List.length_eraseIdx ..) (c (aZ o) (c Y.bo (c (Yb ..) rfl))),λw W=>?_,ab0 (List.Sublist.map _ (List.eraseIdx_sublist _ _)) Y.b7⟩;rw[Yb] at W;refine c (Array.getElem_eraseIdx ..) ?_;by_cases E:w<d
 ·exact c (Jq E)<|c (List.getElem?_eraseIdx_of_lt E)<|Y.kJ w _
 exact c (dif_neg E)<|c (List.getElem?_eraseIdx_of_ge (yt.mp E))<|Y.kJ (w+1) _
theorem Bt (t:a2 v p b k) (q:p.bw W=eU a\/p.bw W=nP a) (h:ov W k.heap ae):fh p p b.i b.i k.heap ae:=⟨bv _,λ_ _=>rfl,λ_ T=>T,λP I T K=>(h.2 P λF=>by rw[F] at K;refine bi q (λZ=>?_) λZ=>?_<;>rw[Z] at K<;>exact hL K rfl).trans T⟩
theorem Hg (t:a2 v p b k) (I:N.units+3<ek) (U:a<b.i) (F:b.c6 a=aT a1) (X:q.eK C=true) (K:be p b.i k.heap C aI) (ab:be p b.i k.heap b2 cR) (ae:a1.length<aa) (af:∀E,a2 v p (b.eM a (aT (et C b2 a1))) E->cg cl p b k p (b.eM a (aT (et C b2 a1))) E->kv () E):aG (bG cd v) N (CD (p.b5 a) aI cR) kv bs k:=by
 refine bV λag=>oZ (t.nQ U F) λh aq au ah A w G l Y=>?_
 have y:ah.size<=nC:=Y.bo▸iC (kM ae)
 refine ag ?_
 have Z:∀(H:gf) (Q:d5) (P:hX fY) (W M:e),ov (p.b5 a) k.heap H->H.get? (p.b5 a)=g Q->Q.ExactDict->Q.data=g' P W->fv v p b.i k.heap (et C b2 a1) P->kv () {k with heap:=H,toks:=M}:=λH Q P W M D T ai aj m=>by refine bl (t.x' (d:=M) (cl:=cl) U (ap h) D (f1 T) (bN:=aT (et C b2 a1)) (uH h Q P W T ai aj (m.a0 (Bt t (ap h) D))) (by refine c F ?_;rfl)) λao J=>?_;exact af _ ao J
 unfold CD
 refine f4 (av (Am 3 I X K λM=>?_))
 unfold dictSetHashed
 refine f4 (av (zU (k:={k with toks:=M}) I X K w l Y ?_))
 cases o:ib a1 C with
 |some aw=>exact av (kc (av (wpAny_updateDict (s:={k with toks:=M}) w l (wpAny_point (Z _ _ _ A M (qL ..) (tT _ w (IZ (ZZ l _))) (G.mapDict _) (ZZ l _) (Y.iu o ab))))))
 |none=>exact av (kc (aax (hz:=y) (s:={k with toks:=M}) w l (Z _ _ _ (A+1) M (qL ..) (tT _ w (IZ (Cp l _))) (G.mapDictKeys _) (Cp l _) (Y.n7 o X K ab))))
theorem a2.vg (t:a2 v p b k) (U:a<b.i) (K:0<a) (F:b.c6 a=V ai) (h:p.bw (p.b5 a)=.eU a) (w:k.heap.get? (p.b5 a)=g {cls:=ak "list",data:=.seq cB d}) (o:hX aX->hX aX) (Q:bQ p b.i k.heap d' (o cB).toList) (Y:e):a2 v p (b.eM a (V d')) {k with heap:=k.heap.update (p.b5 a) (Cr o),toks:=Y}/\cg cl p b k p (b.eM a (V d')) {k with heap:=k.heap.update (p.b5 a) (Cr o),toks:=Y}:=by have T:=Cc (c:="list") (xs:=cB) (n:=d) w o;have D:ov (p.b5 a) k.heap (k.heap.update (p.b5 a) (Cr o)):=qL ..;have l:=Bt t (ap h) D;obtain⟨m,J⟩:=t.x' (d:=Y) U (ap h) D (f1 T) (bN:=V d') (a8 _ (Q.a0 l) (ap ⟨K,h,_,T⟩)) (by refine c F ?_;rfl);exact⟨m,J⟩
inductive t9 (Y W:e) (b:qS):Prop
 |mn (K:Y=0) (q:W=57) (F:b="list.append")
 |U0 (K:Y=0) (q:W=58) (F:b="list.pop")
 |G (K:Y=0) (q:W=60) (F:b="list.extend")
 |c6 (K:Y=1) (q:W=59) (F:b="dict.get")
 |Qq (K:Y=1) (q:W=58) (F:b="dict.pop")
inductive zl (W:e) (b:qS):Prop
 |WY (q:W=61) (F:b="str.startswith")
 |Az (q:W=50) (F:b="str.join")
theorem T0:he 61=("startswith":a4):=by kernel_rfl
theorem TW:he 50=("join":a4):=by kernel_rfl
theorem TX:he 57=("append":a4):=by kernel_rfl
theorem Gj:he 58=("pop":a4):=by kernel_rfl
theorem TZ:he 60=("extend":a4):=by kernel_rfl
theorem TY:he 59=("get":a4):=by kernel_rfl
theorem R1 (q:zl a gw) {H:aX×r aX->cc->Prop} (Z:H (bH gw,[bS ac fL]) k):aG (bG cd v) N (CG (bS ac fL) (he a) tA) H bs k:=by
 have t:=qQ k ac fL;have l:∀P,bS ac fL=O P->∃I,k.heap.get? P=g I/\I.dict=R:=λP T=>ks T rfl;obtain⟨rfl,rfl⟩|⟨rfl,rfl⟩:=q
 ·refine c T0 ?_;with_reducible exact aaa t ZG ZT F.type_str_startswith l Z
 refine c TW ?_;with_reducible exact aaa t ZG ZS F.type_str_join l Z
theorem s8 (T:0=2+a):bK:=fn (t (bX _ _) (D T)) rfl
theorem jt (T:1=2+a):bK:=fn (t (bX _ _) (D T)) rfl
theorem SX (T:iL bN=2+a):∃Y,bN=cw a Y:=by
 cases bN with
 |cw b Y=>exact⟨Y,(BZ T:b=a)▸rfl⟩
 |V X=>exact(s8 T).elim
 |_=>exact(jt T).elim
theorem F0 (T:iL bN=0):∃X,bN=V X:=by
 cases bN with
 |V X=>exact⟨X,rfl⟩
 |cw U Y=>exact(s8 T.symm).elim
 |_=>exact(B4 T).elim
theorem FZ (T:iL bN=1):(∃X,bN=aT X)\/∃X,bN=ki X:=by
 cases bN with
 |aT X=>exact ap ⟨X,rfl⟩
 |ki X=>exact ar ⟨X,rfl⟩
 |cw U Y=>exact(jt T.symm).elim
 |V X=>exact(Nat.zero_ne_one T).elim
def uf (C:cc) (W:dM) (M:qS):Prop:=C.TypeIs (O W) M/\∀P,O W=O P->∃I,C.heap.get? P=g I/\I.dict=R
theorem uf.gb (w:k.heap.get? W=g cf) (G:cf.cls=ak gw) (l:cf.dict=R):uf k W gw:=⟨(a8 cf w G),λP T=>Z4 T▸(a8 cf w l)⟩
theorem a2.qg (t:a2 v p b k) (U:a<b.i) (K:0<a) (c:iL (b.c6 a)=0):uf k (p.b5 a) "list":=by refine aU (F0 c) λX F=>fF (t.rC U K F) λd M _ w _=>.gb w rfl rfl
theorem a2.xO (t:a2 v p b k) (U:a<b.i) (K:iL (b.c6 a)=1):uf k (p.b5 a) "dict":=by
 have h:=t.eU a U;refine bi (FZ K) (λm=>aU m λX F=>?_) λc=>aU c λX F=>?_<;>rw[F] at h
 ·refine Qw h λ_ I _ _ w G _=>.gb w G.1 G.2.1
 exact .gb h.2.1 h.2.2.1 h.2.2.2.1
theorem Fr (t:a2 v p b k) (U:a<b.i) (h:0<a\/iL (b.c6 a)≠0) (q:t9 (iL (b.c6 a)) d gw) {H:aX×r aX->cc->Prop} (Z:H (bH gw,[O (p.b5 a)]) k):aG (bG cd v) N (CG (O (p.b5 a)) (he d) tA) H bs k:=by
 have D:iL (b.c6 a)=0->uf k (p.b5 a) "list":=λT=>t.qg U (h.elim (λT=>T) λl=>absurd T l) T;obtain⟨K,rfl,rfl⟩|⟨K,rfl,rfl⟩|⟨K,rfl,rfl⟩|⟨K,rfl,rfl⟩|⟨K,rfl,rfl⟩:=q
 ·exact c TX<|getMethod_builtin (D K).1 IP IT F.type_list_append (D K).2 Z
 ·exact c Gj<|getMethod_builtin (D K).1 IP IU F.type_list_pop (D K).2 Z
 ·exact c TZ<|getMethod_builtin (D K).1 IP ZN F.type_list_extend (D K).2 Z
 ·exact c TY<|getMethod_builtin (t.xO U K).1 ZF ZH F.type_dict_get (t.xO U K).2 Z
 exact c Gj<|getMethod_builtin (t.xO U K).1 ZF ZJ F.type_dict_pop (t.xO U K).2 Z
theorem W':∀{P:r a4} {d:r aX} {T:gf},vo ai=g P->bQ p a T ai d->∃U:r (a4×h1),d=strValues U/\U.map (·.1)=P:=by
 induction ai with
 |nil=>exact λF T=>a8 ([]) T.o (bm F)
 |cons M h t=>
  intro P d T F D
  cases M with
  |bW W=>
   refine ax (e7.mp F) λc i m=>?_;refine bp m ?_
   cases d with
   |nil=>exact D.o.elim
   |cons J d=>refine ax (t i D.o.2) λU m b=>?_;subst m;subst b;refine aU D.o.1.o λN m=>?_;subst m;exact a8 ((W,N)::U) rfl rfl
  |_=>exact ce F
theorem RH (M:e):∀(P:r a4) (Y:e),(∀N∈P,N.length<1024)->M<1024->P.foldl (· +·.length+M) Y<=Y+P.length*2048:=by
 intro P;induction P with
 |nil=>intro Y _ _;simp
 |cons W h t=>
  intro Y T a;refine c (List.foldl_cons ..)<|ej (t _ (λN A=>T N (hl _ A)) a) ?_
  have:=T W (fC _);exact c (hm ..)<|J9 a this
theorem SR (a:a4) (b:a.length<1024):∀P:r a4,(∀N∈P,N.length<1024)->(ox a P).length<=P.length*2048:=by
 intro P;induction P with
 |nil=>intro _;exact bv 0
 |cons W h t=>
  intro T
  cases h with
  |nil=>have:=T W (fC _);simp[ox];exact bJ 1024 (H 1 this)
  |cons A h=>?_
  have k:=T W (fC _)
  have p:=t λN d=>T N (hl _ d)
  have F:(ox a (W::A::h)).length=W.length+a.length+(ox a (A::h)).length:=by refine(?_:(W.cps++a.cps++_).size=_);refine c (HQ ..) (c (HQ ..) ?_);rfl
  exact c F<|c (hm ..)<|CZ b k p
theorem W1 (W A:a4):(decide (0+A.length<=W.length)&&Zt W A 0)=A.cps.toList.isPrefixOf W.cps.toList:=by
 rw[hN,ps,hB,List.isPrefixOf_iff_prefix];unfold Zt;rw[t1,List.prefix_iff_eq_take,<-HR];simp only[tP,Array.toList_extract,List.extract_eq_drop_take,List.drop_zero,Nat.sub_zero,op];refine(?_:_/\List.take A.cps.size _=_↔_);constructor
 ·refine λm=>bl m λ_ T=>?_;exact T.symm
 intro T;refine⟨?_,T.symm⟩;have:=cS qC T;rw[lD,op,op] at this;refine(?_:A.cps.size<=W.cps.size);exact t (ab this) (qH _ _)
theorem R' {U:r (a4×h1)} (J:U.map (·.1)=k3) (t:a2 v p b k) (W:(ox ac k3).length<=nC) (y:an (bW (ox ac k3)) b):(joinMade ac U).post (ho v p b k an) k:=by
 subst J
 match U with
 |[]=>exact⟨by refine(?_:(Cg ac []).length<=_);exact c (Cu ..)<|c8 _,by refine(?_:ho v p b k an (bS (Cg ac []) _) _);exact c (Cu ..)<|tv t y⟩
 |[Q]=>exact⟨p,b,bW Q.1,t,.dO,.bW _ _,y⟩
 |Q::m::h=>exact⟨by refine(?_:(Cg ac ((Q::m::h).map (·.1))).length<=_);exact c (Cu ..)<|W,by refine(?_:ho v p b k an (bS (Cg ac ((Q::m::h).map (·.1))) _) _);exact c (Cu ..)<|tv t y⟩
theorem W8 (q:zl a gw) (M:a2 v p b k) (W:bQ p b.i k.heap ai cF) (Z:o' l a (bW ac) ai b an):i4 v N (gX (bH gw) (bS ac fL::cF)) p b k an:=by
 refine bV λY=>?_;obtain⟨rfl,rfl⟩|⟨rfl,rfl⟩:=q
 ·replace Z:=jh.eL Z;obtain⟨E,rfl,Z⟩:=Z;obtain⟨ae,rfl,Q⟩:=W.eL;replace Z:=Z.bW;obtain⟨E,rfl,Z⟩:=Z;obtain⟨X,rfl⟩:=Q.o;refine Y (call_gives ZT (qQ k ac fL) F.entry_str_startswith (F.args_str_startswith_2 _ _) (gives_str_startswith ac E fL X) ?_);refine(?_:ho v p b k an (gz _) k);exact c (W1 ..)<|⟨p,b,_,M,.dO,.aK _,Z⟩
 replace Z:=jh.eL Z;obtain⟨E,rfl,Z⟩:=Z;obtain⟨ae,rfl,Q⟩:=W.eL;replace Z:=Z.S;obtain⟨aj,rfl,T,Z⟩:=Z;replace Z:=gF Z;refine sT Z λP m h aa y=>?_;obtain⟨af,I,ao,A,rfl,w,G,ag,_,q⟩:=Q.o;refine ax (W' m q) λU J d=>?_;have ah:P.length<64:=by have ab:=q.o5;rw[J,strValues,au] at ab;exact bp d<|c (au ..)<|ab▸T
 have K:P.length*2048<=131072:=ej (It _ (iC ah)) (aQ rfl);refine Y (v5 ZS (qQ k ac fL) F.entry_str_join (F.args_str_join_2 _ _) (meets_str_join_tuple ac fL af U ?_) ⟨(hf I A w G (by exact c ag (bp J rfl))),R' d M (ej (SR ac aa P h) (ej K (aQ rfl))) y⟩);refine c d (bp (Array.foldl_toList ..) (c (sa ..) ?_));have C:=ej (RH ac.length P 0 h aa) (by exact c (tP ..)<|K);exact jE (by have:=v';exact fo (H 16646144 (t (al 16646144 C) (D this))))
theorem Qr (X:r eG):X.dropLast=X.eraseIdx (X.length- 1):=by
 refine c (List.dropLast_eq_take ..) (c (BM ..) ?_)
 cases X with
 |nil=>rfl
 |cons y h=>simp
theorem E5 (T:a<cB.size):(cB.eraseIdxIfInBounds a).toList=cB.toList.eraseIdx a:=by rw[Array.eraseIdxIfInBounds,Jq T,Array.toList_eraseIdx]
theorem Tc (q:t9 0 a gw) (t:a2 v p b k) (U:d<b.i) (W:b.c6 d=V ai) (D:bQ p b.i k.heap d' cF) (Z:o' l a (x d) d' b an):i4 v N (gX (bH gw) (O (p.b5 d)::cF)) p b k an:=by
 refine bV λae=>?_;replace Z:=Z.fl;rw[W] at Z;obtain⟨_,rfl,rfl⟩|⟨_,rfl,rfl⟩|⟨_,rfl,rfl⟩|⟨ag,_,_⟩|⟨ag,_,_⟩:=q
 ·replace Z:=jh.eL Z;obtain⟨ah,rfl,K,T,Z⟩:=Z;obtain⟨G,M,h,w,Q⟩:=t.rC U K W;obtain⟨X,rfl,I⟩:=D.eL;refine ae (v5 IT (a8 _ w rfl) ZD (ZB _ _) (list_append (p.b5 d) G M X (Q.fW▸iC (kM T))) ⟨w,?_⟩);obtain⟨aa,J⟩:=t.vg (cl:=λ_=>bK) U K W h w (λa=>a.push X) (d':=ai++[ah]) (by exact c (HS ..)<|Q.wC (.n I .z)) k.toks;exact⟨p,_,_,aa,J,.bI,Z.fl⟩
 ·cases d' with
  |nil=>refine gq Z λK T Z=>?_;replace Z:=gF Z;refine ax Z λah af y=>fF (t.rC U K W) λG M h w Q=>?_;obtain rfl:=D.o;rw[List.getLast?_eq_getElem?] at af;refine nS (Q.q4 af) λab X I aj=>?_;rw[<-Q.fW] at ab I;refine ae (v5 IU (a8 _ w rfl) ZE (F.args_list_pop_1 _) (MeetsSeq.list_pop_last (p.b5 d) G M X I (Q.fW▸iC (kM T))) ⟨w,?_⟩);refine bl (t.vg (cl:=λ_=>bK) U K W h w (λA=>A.eraseIdxIfInBounds (G.size- 1)) (d':=ai.dropLast) (by exact c (E5 ab)<|c (Qr ..)<|c (Q.fW ..)<|Q.E4 _) k.toks) λaa J=>⟨p,_,_,aa,J,aj.a0 J.cn,y.fl⟩
  |cons aw d'=>replace Z:=oh.z Z;obtain⟨rfl,Z⟩:=Z;replace Z:=Z.j;obtain⟨aw,rfl,K,aq,T,Z⟩:=Z;replace Z:=gF Z;refine ax Z λah af y=>fF (t.rC U K W) λG M h w Q=>ax D.eL λay m ao=>?_;subst m;refine aU ao.o λaz m=>?_;subst m;refine aU (vO aq) λY m=>?_;subst m;refine nS (Q.q4 af) λab X I aj=>ae (v5 IU (a8 _ w rfl) ZE (F.args_list_pop_2 _ _) (@MeetsSeq.list_pop_at (p.b5 d) G M Y az Y X (fitsIndex_of aq (uG ab (Q.fW▸T)).2) (Hd ab) I (Q.fW▸iC (kM T))) ⟨w,?_⟩);refine bl (t.vg (cl:=λ_=>bK) U K W h w (λA=>A.eraseIdxIfInBounds Y) (d':=ai.eraseIdx Y) (by exact c (E5 ab)<|Q.E4 _) k.toks) λaa J=>⟨p,_,_,aa,J,aj.a0 J.cn,y.fl⟩
 ·replace Z:=jh.eL Z;obtain⟨P,rfl,Z⟩:=Z;replace Z:=Z.x;obtain⟨P,rfl,aA,Z⟩:=Z;replace Z:=Z.f3;refine Qx Z λaB aC K aD C T Z=>fF (t.rC U K W) λG M h w Q=>fF (t.rC aA aD aC) λau aE aG aF av=>ax D.eL λay m ao=>?_;subst m;refine bl ao.o λm _=>?_;subst m;rw[<-Q.fW,<-av.fW] at T;refine ae (v5 ZN (a8 _ w rfl) F.entry_list_extend (F.args_list_extend_2 _ _) (AutoSeq1.list_extend_list_list_0 (p.b5 d) G M (p.b5 P) au aE (by unfold acv;have:=kM T;simp;exact λ_=>iC this) (by have:=kM T;exact H 1 (E 1 (bX _ _) this)) (by have:=kM T;exact bJ 1 (H 1 this))) (ch w aF ?_));refine bl (t.vg (cl:=λ_=>bK) U K W h w (λA=>A++au) (d':=ai++aB) (by exact c (Ye ..)<|Q.wC av) k.toks) λaa J=>⟨p,_,_,aa,J,.bI,Z.fl⟩
 ·exact absurd ag (aQ rfl)
 exact absurd ag (aQ rfl)
theorem Xk (t:a2 v p b k) (I:N.units+3<ek) (U:a<b.i) (F:b.c6 a=aT a1) (X:q.eK C=true) (K:be p b.i k.heap C aI) (af:a1.length<aa) {H:a6 fY->cc->Prop} (y:b9 C a1=R->∀M,H R {k with toks:=M}) (ag:∀J F E,b9 C a1=g J->a2 v p (b.eM a (aT (lP C a1))) E->cg cl p b k p (b.eM a (aT (lP C a1))) E->be p b.i E.heap J F.val->H (g F) E):aG (bG cd v) N (Zq (p.b5 a) aI) H bs k:=by
 refine bV λah=>oZ (t.nQ U F) λZ aw ax ab A w G l Y=>?_
 have ai:ab.size<=nC:=Y.bo▸iC (kM af)
 refine ah ?_
 unfold Zq
 refine f4 (av (Am 3 I X K λM=>av (zU (k:={k with toks:=M}) I X K w l Y ?_)))
 cases o:ib a1 C with
 |none=>exact bz (y (by refine c (zR ..) (c o ?_);rfl) M)
 |some P=>have m:P<ab.size:=Y.bo▸(Ad o).1;obtain⟨Q,aj,_,_,_,ao⟩:=Y.kJ P m;refine av (sn (s:={k with toks:=M}) w l ?_);refine c (qy m) ?_;have D:ov (p.b5 a) k.heap (k.heap.update (p.b5 a) (Z0 λW=>W.eraseIdxIfInBounds P)):=qL ..;have ae:=Bt t (ap Z) D;have T:=tT (h:=k.heap) (Z0 λW=>W.eraseIdxIfInBounds P) w (IZ (Cp l _));refine bl (t.x' (cl:=cl) (d:=M) U (ap Z) D (f1 T) (bN:=aT (lP C a1)) (uH Z _ _ (A+1) T (G.mapDictKeys _) (Cp l _) ((Y.Q6 o).a0 ae)) (by refine c F ?_;rfl)) λaq au=>?_;refine av (aax (hz:=ai) (s:={k with toks:=M}) w l (bz (ag Q.2 _ _ ?_ aq au (ao.a0 ae))));refine c (zR ..) (c o (c (Option.bind_some ..) (c aj ?_)));rfl
theorem Ql (t:a2 v p b k) (I:N.units+5<ek) (U:a<b.i) (W:b.c6 a=aT a1) (K:be p b.i k.heap C aI) (o:be p b.i k.heap b2 cR) (X:q.eK C=true) (Z:an ((b9 C a1).getD b2) b):i4 v N (gX (bH "dict.get") [O (p.b5 a),aI,cR]) p b k an:=by
 refine bV λH=>oZ (t.nQ U W) λy d m D A w G l Y=>H<|wpAny_call_entry ZH (a8 m w G.1) F.entry_dict_get ?_ (F.args_dict_get_3 _ _ _)
 refine(?_:aG _ _ (yK (p.b5 a) aI>>=_) _ _ k)
 refine av (zV (show N.units+1+3<ek from(hO N.units 1 3).symm▸py I) X K w l Y λM h c=>?_)
 cases P:b9 C a1 with
 |some J=>rw[P] at c Z;obtain⟨h,rfl,c⟩:=c;exact bz (a8 h rfl (pj t c Z))
 |none=>rw[P] at c Z;cases (c:h=R);exact av (wpAny_missed_other d (bz (a8 cR rfl (pj t o Z))))
theorem fv.T' (Y:fv v p a ae a1 b6) (b:b6.isEmpty=true):b9 C a1=R:=by refine c (BQ.mp (Y.bo.trans (HO.mp b))) ?_;rfl
theorem Qn (t:a2 v p b k) (I:N.units+5<ek) (U:a<b.i) (W:b.c6 a=aT a1) (K:be p b.i k.heap C aI) (o:be p b.i k.heap b2 cR) (X:q.eK C=true) (af:a1.length<aa) (D:∀J,b9 C a1=g J->an J (b.eM a (aT (lP C a1)))) (y:b9 C a1=R->an b2 b):i4 v N (gX (bH "dict.pop") [O (p.b5 a),aI,cR]) p b k an:=by
 refine bV λH=>oZ (t.nQ U W) λaq h ag au A w G l Y=>?_;have ae:k.TypeIs (O (p.b5 a)) "dict":=a8 ag w G.1;refine H<|wpAny_call_entry ZJ ae F.entry_dict_pop ?_ (F.args_dict_pop_3 _ _ _)
 unfold Builtin.«dict.pop»;refine av ?_;unfold acr;refine av (Jm ae ?_);refine(?_:aG _ _ (pure (p.b5 a,aI,g cR)) _ _ k);refine bz<|(λ(Z:∀(P:ci) (E:cc),(E=k/\(P=true->b9 C a1=R))->_)=>pl (λ_=>av (dt (bz ⟨rfl,λT=>eY T⟩) Z λ_ _ ab=>ab)) (λ_=>av (sn w l (av (dt (bz ⟨rfl,Y.T'⟩) Z λ_ _ ab=>ab))))) ?_
 refine λP E m=>bl m λah ai=>?_;refine c ah<|pl (λT=>?_) λ_=>?_
 ·exact av (kc (av (bz (av (aas h (av (kc (bz (a8 cR rfl (pj t o (y (ai T))))))))))))
 exact av (Xk (cl:=λ_=>bK) t (show N.units+1+3<ek from(hO N.units 1 3).symm▸py I) U W X K af (λab M=>av (aas h (av (kc (bz (a8 cR rfl (pj t o (y ab)))))))) λJ ab E aj d ao Q=>av (wpAny_letGo (bz (a8 ab.val rfl ⟨p,_,_,d,ao,Q,D J aj⟩))))
theorem Qm (q:t9 1 a gw) (t:a2 v p b k) (I:N.units+5<ek) (U:d<b.i) (W:b.c6 d=aT a1) (D:bQ p b.i k.heap ai cF) (Z:o' l a (x d) ai b an):i4 v N (gX (bH gw) (O (p.b5 d)::cF)) p b k an:=by
 refine bV λH=>?_;replace Z:=Z.fl;rw[W] at Z;obtain⟨K,_,_⟩|⟨K,_,_⟩|⟨K,_,_⟩|⟨_,rfl,rfl⟩|⟨_,rfl,rfl⟩:=q
 ·exact absurd K (aQ rfl)
 ·exact absurd K (aQ rfl)
 ·exact absurd K (aQ rfl)
 ·replace Z:=rT.og Z;obtain⟨Y,Q,rfl,X,Z⟩:=Z;obtain⟨m,c,rfl,K,o⟩:=D.og;exact H (Ql t I U W K o X Z)
 replace Z:=rT.og Z;obtain⟨Y,Q,rfl,h,X,T,Z⟩:=Z;obtain⟨m,c,rfl,K,o⟩:=D.og;exact H (Qn t I U W K o X T (λJ F=>by rw[F] at Z;exact Z.fl) λF=>by rw[F] at Z;exact Z)
inductive DE (v:bZ) (p:cM) (b:K) (k:cc) (an:K->Prop) (X:yY) (E:cc):Prop
 |iM (W:cM) (c:K) (t:a2 v W c E) (d:cg (λ_=>bK) p b k W c E) (Z:an c)
theorem WE (b:k.heap.get? W=g {cls:=ak "list",data:=.seq cB a}) (K:0<=am) (d:am<2^63) (y:am<cB.size) (M:kv () {k with heap:=k.heap.update W (Cr (·.setIfInBounds am.toNat aI))}):aG (bG cd v) N (yR (O W) (aN am fL) aI) kv bs k:=by
 have D:k.heap.IsList W cB:=li _ b rfl a rfl;unfold yR;try with_reducible refine f4 ?_
 first|refine av (bz ?_)|skip
 refine av (CO D.typeIs (aQ rfl) ?_);refine av (oB (name:=ck "__setitem__") D.typeIs ZO (jD ZO D.typeIs F.entry_list_setitem ?_ (F.args_list_setitem_3 _ _ _)));refine(?_:aG _ _ (acu (aN am fL)>>=_) _ _ k);refine av (wpAny_listSubscript_int (fitsIndex_of K d) ?_);clear d;refine aU (vO K) λw m=>?_;subst m;have i:w<cB.size:=C0 y;have A:cB[w]? =g cB[w]:=qy i;refine(?_:aG _ _ ((seqItemAt W w>>=λh=>pure (h.map (w,·)))>>=_) _ _ k);refine av (av (wpAny_seqItemAt b rfl (bz ?_)));refine c A<|(?_:aG _ _ (setSeqItemAt W w aI>>=_) _ _ k)
 refine av (wpAny_setSeqItemAt b rfl ?_);first
  |exact av (bz (bz (a8 .none rfl (bz M))))
  |exact bz ⟨bf,rfl,bz M⟩
theorem WD (c:a2 v p b k) (I:N.units+4<ek) (U:a<b.i) (h:b.c6 a=aT a1) (X:q.eK C=true) (K:be p b.i k.heap C aI) (Q:be p b.i k.heap b2 cR) (T:a1.length<aa) (Z:∀E,a2 v p (b.eM a (aT (et C b2 a1))) E->cg (λ_=>bK) p b k p (b.eM a (aT (et C b2 a1))) E->kv () E):aG (bG cd v) N (yR (O (p.b5 a)) aI cR) kv bs k:=by
 refine oZ (c.nQ U h) λ_ _ l m A w G _ _=>?_;have t:k.TypeIs (O (p.b5 a)) "dict":=a8 l w G.1;unfold yR;try with_reducible refine f4 ?_
 refine av (CO t (aQ rfl) ?_);refine av (oB (name:=ck "__setitem__") t ZK (jD ZK t F.entry_dict_setitem ?_ (F.args_dict_setitem_3 _ _ _)));refine(?_:aG _ _ (acs "__setitem__" ⟨[O (p.b5 a),aI,cR],[]⟩>>=_) _ _ k);refine av (Jm t ?_);refine(?_:aG _ _ (CD (p.b5 a) aI cR>>=_) _ _ k);exact av (Hg (cl:=λ_=>bK) c (show N.units+1+3<ek from(hO N.units 1 3).symm▸I) U h X K Q T λE d J=>bz (a8 bf rfl (bz (Z E d J))))
theorem WC (t:a2 v p b k) (I:N.units+5<ek) (Q:be p b.i k.heap C aI) (F:be p b.i k.heap b2 cR) (q:be p b.i k.heap tz tC) (Z:vf C b2 tz b pp):aG (bG cd v) N (yR aI cR tC) (DE v p b k pp) bs k:=by
 refine bV λH=>?_
 replace Z:=Z.x
 obtain⟨y,rfl,U,Z⟩:=Z
 refine bl Q.o λm _=>?_;subst m
 generalize M:b.c6 y=a at Z
 cases a with
 |V X=>replace Z:=Z.j;obtain⟨aa,rfl,K,l,P,T,Z⟩:=Z;obtain⟨G,ab,h,w,D⟩:=t.rC U K M;obtain⟨ae,rfl⟩:=F.o;obtain⟨Y,rfl⟩:=vO l;refine H (WE w l (uG P T).2 (gV.mpr (D.fW▸P)) ?_);obtain⟨d,J⟩:=t.vg (cl:=λ_=>bK) U K M h w (λA=>A.setIfInBounds Y tC) (d':=X.set Y tz) (by exact c (Array.toList_setIfInBounds ..)<|D.iu _ q) k.toks;exact⟨p,_,d,J,Z.fl⟩
 |aT af=>refine oX Z λ_ W T Z=>H (WD t (py I) U M W F q T λE d J=>⟨p,_,d,J,Z.fl⟩)
 |_=>exact Z.elim
theorem XB (t:a2 v p b k) (D:bQ p b.i k.heap ai cF) (T:ai.length<aa) (Z:an (S ai) b):i4 v N (v9 cF) p b k an:=wpAny_newTuple (x7 t s0 k.toks f8 (gJ _ rfl) rfl rfl (by exact c (sa ..)<|D) Z) (D.o5▸iC (kM T))
theorem Td (t:a2 v p b k) (D:bQ p b.i k.heap ai cF) (T:ai.length<aa) (Z:an (x b.i) (b.cK (V ai))):i4 v N (Jd cF) p b k an:=aat (tt t s0 k.toks f8 (gJ _ rfl) (by exact c (sa ..)<|D) Z) (D.o5▸iC (kM T))
theorem rI:∀{X:r (a4×eG)},fb ac X=X.lookup ac:=by
 intro X;induction X with
 |nil=>exact rfl
 |cons N h t=>
  obtain⟨A,J⟩:=N;refine(?_:(bif dV A ac then g J else fb ac h)=_);refine c (mS ..) ?_;by_cases T:A=ac
  ·exact c T<|c (kn.mpr rfl) (c (wb ..) rfl)
  have k:dV A ac=false:=by exact c (pa ..)<|decide_eq_false T
  have p:(ac==A)=false:=pH.mpr λF=>T F.symm;exact c (k ..)<|c (p ..)<|t
theorem Ex:∀{H:r a4} {Y:e},fE ac H=g Y->H.reverse[Y]? =g ac:=by
 intro H;induction H with
 |nil=>intro Y F;exact ce F
 |cons A h t=>
  intro Y F
  replace F:(bif dV A ac then g h.length else fE ac h)=g Y:=F
  refine c (vX ..) ?_
  cases T:dV A ac with
  |true=>
   rw[T] at F;refine bp (bm F)<|c (oq (px mQ)) ?_
   simp[kn.mp T]
  |false=>rw[T] at F;have k:=t F;have p:Y<h.reverse.length:=(co.mp k).1;exact c (iz p)<|k
theorem sP (y:fE ac Y=g a) (P:fE fu Y=g a):ac=fu:=by have k:=Ex y;have p:=Ex P;rw[k] at p;exact bm p
def n1 (p:hY) (W:a4):Prop:=p.kindOf W=g hZ\/p.kindOf W=g hA
structure dg (y:hY) (Y:r a4) (h:bu) (p:cM) (a:e) (T:gf):Prop where
 ct:y.scope.kind=pD
 p3:y.globals=CJ
 pX:y.builtins=Z'
 rA:p.bw y.locals=c'
 oR:∀W U,y.cells.lookup W=g U->p.bw U=c'/\U≠y.locals/\∃J,T.IsCell U J
 sO:∀W A U,y.cells.lookup W=g U->y.cells.lookup A=g U->W=A
 mw:∀W,n1 y W->∃U,y.cells.lookup W=g U
 qd:∃M,T.Ns y.locals M/\∀W b J,fE W Y=g b->y.kindOf W=g .local->h b=g J->∃c,M W=g c/\be p a T J c
 ra:∀W b J U,fE W Y=g b->n1 y W->y.cells.lookup W=g U->h b=g J->∃c,T.IsCell U (g c)/\be p a T J c
theorem IsCell.di (a:ae.IsCell W ye):ae.get? W≠R:=by refine ax a λI w _=>?_;exact f1 w
theorem Ns.di (a:ae.Ns W pr):ae.get? W≠R:=by refine wX a λI _ _ w _=>?_;exact f1 w
theorem dg.e9 (m:dg y Y h p a ae) (q:fh p cP a d ae fP) (w:∀P,ae.get? P≠R->cP.bw P=p.bw P) (M:∀P I,ae.get? P=g I->p.bw P=c'->(P=y.locals\/∃W,y.cells.lookup W=g P)->fP.get? P=g I):dg y Y h cP d fP:=by
 have b:∀{W U J},y.cells.lookup W=g U->ae.IsCell U J->fP.IsCell U J:=λ{W U J} C t=>ax t λI G E=>a8 I (M _ _ G (m.oR W U C).1 (ar ⟨W,C⟩)) E;refine bV λH=>ax m.qd λF N D=>H ⟨m.ct,m.p3,m.pX,(w _ (Ns.di N)).trans m.rA,λW U G=>?_,m.sO,m.mw,(a8 F ?_ (λW o J k c l=>(D W o J k c l).imp λ_ ae=>⟨ae.1,ae.2.a0 q⟩)),λW o J U k c l v=>(m.ra W o J U k c l v).imp λ_ ae=>⟨b l ae.1,ae.2.a0 q⟩⟩
 ·refine bV λH=>oY (m.oR W U G) λk c J l=>H<|s2 ((w _ (IsCell.di l)).trans k) c J (b G l)
 refine bV λH=>wX N λI K A Q i=>H<|⟨I,K,A,M _ _ Q m.rA (ap rfl),i⟩
theorem dg.vm (m:dg y Y h p b.i k.heap) (d:cg cl p b k cP aj cQ) (a:¬cl y.locals) (l:∀W U,y.cells.lookup W=g U->¬cl U):dg y Y h cP aj.i cQ.heap:=m.e9 d.cn d.bw λP I T M E=>d.c' P I T M (E.elim (λF=>F▸a) λT=>T.elim λW T=>l W P T)
theorem dg.ez (m:dg y Y h p b.i k.heap) (d:cg (λ_=>bK) p b k cP aj cQ):dg y Y h cP aj.i cQ.heap:=m.vm d (λT=>T) λ_ _ _ T=>T
theorem Tq (m:dg y Y h p a k.heap) (q:fE ac Y=g d) (K:y.kindOf ac=g .local\/n1 y ac) (Q:h d=g C) (i:(ac==("__classdict__":a4))=false) (Z:∀c,be p a k.heap C c->cC c k):aG (bG cd v) N (si y ac) cC bs k:=by
 refine bi K (λK=>?_) λK=>?_
 ·refine bV λH=>ax m.qd λM o D=>ax (D ac d C q K Q) λc b l=>H<|wpAny_loadName_local m.ct K o b (Z c l)
 exact bV λH=>aU (m.mw ac K) λU G=>ax (m.ra ac d C U q K G Q) λc b l=>H<|bi K (λK=>aar m.ct K G b (Z c l)) λK=>wpAny_loadName_free m.ct K G b (Z c l) i
def lf (p:hY) (P:dM):Prop:=P=p.locals\/∃W,p.cells.lookup W=g P
theorem u8:h.aP a C a=g C:=aZ rfl
theorem rL (T:d≠a):h.aP a C d=h d:=ay T
theorem Hq (t:a2 v p b k) (m:dg y Y h p b.i k.heap) (q:fE ac Y=g a) (K:y.kindOf ac=g .local) (Q:be p b.i k.heap C aI) (Z:∀E,a2 v p b E->cg (λP=>P=y.locals) p b k p b E->dg y Y (h.aP a C) p b.i E.heap->kv () E):aG (bG cd v) N (storeName y ac aI) kv bs k:=by
 refine bV λH=>ax m.qd λM ag D=>H (wpAny_storeName_local K ag (λai ae ab=>?_) (by refine c m.ct ?_;rfl));refine bV λH=>bl (t.vs (a:=k.toks+1) m.rA ab (Ns.di ae)) λd J=>H (Z _ d J ⟨m.ct,m.p3,m.pX,m.rA,λA U G=>?_,m.sO,m.mw,(a8 _ ae (λA w X aa I l=>?_)),λA w X U aa I l af=>?_⟩)
 ·refine bV λH=>oY (m.oR A U G) λaa I C l=>H<|s2 aa I C (l.sameBut ab I)
 ·by_cases o:A=ac
  ·obtain rfl:a=w:=bm (q.symm.trans (o▸aa));rw[u8] at l;exact a8 aI (aZ o) (bm l▸Q.a0 J.cn)
  rw[rL λF:w=a=>o (sP (F▸aa) q)] at l;exact(D A w X aa I l).imp λ_ T=>⟨(ay o).trans T.1,T.2.a0 J.cn⟩
 have W:w≠a:=λF=>by have ah:A=ac:=sP (F▸aa) q;rw[ah] at I;refine bi I (λI=>?_) λI=>?_<;>rw[K] at I<;>cases bm I
 rw[rL W] at af;exact(m.ra A w X U aa I l af).imp λ_ T=>⟨T.1.sameBut ab (m.oR A U l).2.1,T.2.a0 J.cn⟩
theorem tr (t:a2 v p b k) (m:dg y Y h p b.i k.heap) (q:fE ac Y=g a) (K:y.kindOf ac=g .local\/y.kindOf ac=g hZ) (aj:be p b.i k.heap C aI) (Z:∀E,a2 v p b E->cg (lf y) p b k p b E->dg y Y (h.aP a C) p b.i E.heap->kv () E):aG (bG cd v) N (storeName y ac aI) kv bs k:=by
 refine bV λH=>ax m.qd λM ao D=>bi K (λK=>H (Hq t m q K aj λE d J aq=>Z E d (J.nt λP T=>ap T) aq)) λK=>?_;refine aU (m.mw ac (ap K)) λU G=>oY (m.oR ac U G) λau av aE aw=>H (wpAny_storeName_cell m.ct K G aw λaF ag ae=>?_);refine bV λH=>bl (t.vs (a:=k.toks) au ae (IsCell.di ag)) λd J=>H (Z _ d (J.nt λP T=>ar ⟨ac,by exact c T<|G⟩) ⟨m.ct,m.p3,m.pX,m.rA,λA Q ay=>?_,m.sO,m.mw,(a8 M ?_ (λA w X aa ab l=>?_)),λA w X Q aa ab l af=>?_⟩)
 ·refine bV λH=>oY (m.oR A Q ay) λaa ab C l=>H ?_;by_cases F:Q=U
  ·subst F;exact s2 aa ab _ ag
  exact s2 aa ab C (l.sameBut ae F)
 ·refine bV λH=>wX ao λI az aA aB aC=>H<|⟨I,az,aA,(ae.2 _ av.symm).trans aB,aC⟩
 ·have W:w≠a:=λF=>by
   have:A=ac:=sP (F▸aa) q
   subst this
   rw[K] at ab;cases bm ab
  rw[rL W] at l
  refine ax (D A w X aa ab l) λo ah P=>a8 o ah (P.a0 J.cn)
 by_cases ai:A=ac
 ·subst ai;obtain rfl:a=w:=bm (q.symm.trans aa);obtain rfl:U=Q:=bm (G.symm.trans l);rw[u8] at af;refine bp (bm af)<|a8 aI ag (aj.a0 J.cn)
 have W:w≠a:=λF=>ai (sP (F▸aa) q);rw[rL W] at af;refine ax (m.ra A w X Q aa ab l af) λo ah P=>?_;have aD:Q≠U:=λF=>ai (m.sO A ac U (F▸l) G);exact a8 o (ah.sameBut ae aD) (P.a0 J.cn)
theorem Uc:(gD.all λW=>match fastLookup "object" W with|some R=>true|_=>false)=true:=by kernel_rfl
theorem zr (K:a<gD.length):he a=gD[a]:=by unfold he;refine c (tI ..) (c (cY K) ?_);rfl
theorem D1 (K:a<gD.length):he a∈gD:=zr K▸tK K
theorem AX (K:a<gD.length):sl (ak "object") (he a)=pure R:=by
 have T:=f2.mp Uc (he a) (D1 K);refine c (yU ..) (c (yJ ..) ?_);split at T
 ·rename_i F;exact c F rfl
 exact eY T
noncomputable def pZ:e->dM
 |21=>30
 |57=>193
 |81=>268
 |85=>371
 |86=>399
 |_=>544
noncomputable def zT:Data->a6 (hX fY)|g' w _=>g w|_=>R
noncomputable def Hc:Data->a6 (hX aX)|.seq d _=>g d|_=>R
noncomputable def FL:aX->a6 B|aN v _=>g v|_=>R
noncomputable def x6:aX->a6 a4|bS W _=>g W|_=>R
noncomputable def x0:aX->a6 dM|O y=>g y|_=>R
noncomputable def zL:aX->a6 qS|ak N=>g N|_=>R
theorem Qk (T:zT k0=g b6):∃C,k0=g' b6 C:=i6.gb (fd:=λb6=>∃C,k0=g' b6 C) (by cases k0<;>first|exact trivial|exact⟨_,rfl⟩) T
theorem Wz (T:Hc k0=g cB):∃C,k0=.seq cB C:=i6.gb (fd:=λcB=>∃C,k0=.seq cB C) (by cases k0<;>first|exact trivial|exact⟨_,rfl⟩) T
theorem SB (T:FL aI=g am):∃N,aI=aN am N:=i6.gb (fd:=λam=>∃N,aI=aN am N) (by cases aI<;>first|exact trivial|exact⟨_,rfl⟩) T
theorem Bu (T:x6 aI=g ac):∃N,aI=bS ac N:=i6.gb (fd:=λac=>∃N,aI=bS ac N) (by cases aI<;>first|exact trivial|exact⟨_,rfl⟩) T
theorem Be (T:x0 aI=g W):aI=O W:=i6.gb (fd:=λW=>aI=O W) (by cases aI<;>first|exact trivial|exact rfl) T
theorem Eo (T:zL aI=g gw):aI=ak gw:=i6.gb (fd:=λgw=>aI=ak gw) (by cases aI<;>first|exact trivial|exact rfl) T
noncomputable def le (m:bZ) (y:dM):hX fY:=(((MineH.e1 m.params).get? y).bind λI=>zT I.data).getD #[]
noncomputable def uL (m:bZ) (y:dM):ci:=(((MineH.e1 m.params).get? y).bind λI=>zT I.data).any λw=>w.all λF=>(x6 F.key).isSome
noncomputable def ne (m:bZ) (y:dM) (W:a4):ci:=(mY (le m y) W).isNone
theorem Ua (m:bZ):([30,193,268,371,399,544].all λy=>uL m y)=true:=by kernel_rfl
theorem AT (m:bZ):([30,193,268,371,399,544].all λy=>ne m y "__getattribute__"&&ne m y "__getattr__"&&ne m y "__setattr__")=true:=by kernel_rfl
theorem Gm (m:bZ):([21,57,81,85,86,103].all λU=>(eQ 62).all λY=>match iN U Y with|none=>ne m (pZ U) (he Y)|some _=>true)=true:=by kernel_rfl
theorem um:gD.length=62:=by kernel_rfl
theorem qc (T:ne v W ac=true):mY (le v W) ac=R:=yw.mp T
theorem PT (m:bZ):(MineH.e1 m.params).get? 31=g (pF "Node" "Node" 31 30 [ak "object"] [ak "object"] true [] [] false R R R R (g (bS "Node" 229)) (g (bS "Node" 237)) (g (gz true)) "object.__new__"):=by kernel_rfl
theorem PR (m:bZ):(MineH.e1 m.params).get? 194=g (pF "TypeTable" "TypeTable" 194 193 [ak "object"] [ak "object"] true [] [] false R R R R (g (bS "TypeTable" 476)) (g (bS "TypeTable" 484)) (g (gz true)) "object.__new__"):=by kernel_rfl
theorem PS (m:bZ):(MineH.e1 m.params).get? 269=g (pF "Graph" "Graph" 269 268 [ak "object"] [ak "object"] true [] [] false R R R R (g (bS "Graph" 621)) (g (bS "Graph" 629)) (g (gz true)) "object.__new__"):=by kernel_rfl
theorem PU (m:bZ):(MineH.e1 m.params).get? 372=g (pF "Asker" "Asker" 372 371 [ak "object"] [ak "object"] true [] [] false R R R R (g (bS "Asker" 697)) (g (bS "Asker" 705)) (g (gz true)) "object.__new__"):=by kernel_rfl
theorem PV (m:bZ):(MineH.e1 m.params).get? 400=g (pF "Walk" "Walk" 400 399 [ak "object"] [ak "object"] true [] [] false R R R R (g (bS "Walk" 815)) (g (bS "Walk" 823)) (g (gz true)) "object.__new__"):=by kernel_rfl
theorem PW (m:bZ):(MineH.e1 m.params).get? 545=g (pF "Stops" "Stops" 545 544 [ak "object"] [ak "object"] true [] [] false R R R R (g (bS "Stops" 1028)) (g (bS "Stops" 1036)) (g (gz true)) "object.__new__"):=by kernel_rfl
theorem En (G:ll a=true):a=21\/a=57\/a=81\/a=85\/a=86\/a=103:=by simpa [ll,List.contains_iff_mem] using G
theorem ut (m:bZ) (G:ll a=true):∃A Z E i,(MineH.e1 m.params).get? (g1 a)=g (pF A Z (g1 a) (pZ a) [ak "object"] [ak "object"] true [] [] false R R R R E i (g (gz true)) "object.__new__"):=by
 rcases En G with rfl|rfl|rfl|rfl|rfl|rfl
 ·exact rt _ _ _ _ (PT m)
 ·exact rt _ _ _ _ (PR m)
 ·exact rt _ _ _ _ (PS m)
 ·exact rt _ _ _ _ (PU m)
 ·exact rt _ _ _ _ (PV m)
 exact rt _ _ _ _ (PW m)
theorem oS (G:ll a=true):pZ a∈[30,193,268,371,399,544]/\a∈[21,57,81,85,86,103]:=by rcases En G with rfl|rfl|rfl|rfl|rfl|rfl<;>decide
theorem a2.xF (t:a2 v p b k) (T:uL v W=true):k.heap.Ns W (mY (le v W)):=nK T λw M a=>D7 M λI d l=>(Qk l).elim λA h=>by have K:le v W=w:=cS (λF=>Option.getD F #[]) M;refine c K ⟨I,w,A,(t.ew _ _ d).1,h,λi N=>?_,λ_=>rfl⟩;refine(yx.mp (Array.all_eq_true'.mp a i N)).elim λm q=>(Bu q).elim λo y=>js m o y
theorem a2.wU (t:a2 v p b k) (G:ll a=true):k.heap.Ns (pZ a) (mY (le v (pZ a))):=t.xF (f2.mp (Ua v) _ (oS G).1)
theorem D3 (t:a2 v p b k) (U:a<b.i) (ab:b.c6 a=cw w fB) (q:im d fB=g C) (Z:an C b):aG (bG cd v) N (getAttr (O (p.b5 a)) (he d) bt) (ho v p b k an) bs k:=by
 refine bV λH=>?_;have h:=t.eU a U;rw[ab] at h;obtain⟨h,aa,⟨G,P⟩,ae,Y,M,D,l⟩:=h;obtain⟨W,c,Q,J⟩:=l.mw d C q;obtain⟨A,o,E,aq,I⟩:=ut v G;have af:iN w d=R:=vM λT=>by rw[P d T] at q;exact ce q
 have X:=f2.mp (AT v) _ (oS G).1;have X:=dR.mp X;have ag:=dR.mp X.1;have K:=f2.mp (f2.mp (Gm v) w (oS G).2) d (mU.mpr (um▸W));rw[af] at K;obtain⟨ah,m,au,av,y⟩:=k;have ai:p.jy a≠p.b5 a:=λF=>by rw[F,h] at aa;exact hL aa rfl
 have aj:ah.InstFk (p.b5 a) (g1 w) M:=Ar _ ae rfl (λ_ T=>nomatch T) (ar ⟨_,rfl,ai,D,Y⟩);have ao:handedOut c=pure c:=J.jT (U:=λ_ c=>handedOut c=pure c) (b:=λ_ _=>sp) rfl (λ_=>rfl) (λ_ _=>rfl) (λ_ _=>rfl) (λ_ _=>rfl) (λ_ _ _ _ _ _ _ _ _ _ _=>rfl) trivial λ_ _ _ _ _ _ _ _=>trivial;refine H (load_attrFk (t.ew _ _ I).1 (t.wU G) (qc ag.1) (qc K) (AX W) aj Q ao (pj t J Z))
theorem a2.XE (t:a2 v p b k) (N:a<b.i) (q:p.bw W=.eU a\/p.bw W=nP a) (h:∀P I,P≠W->k.heap.get? P=g I->ae.get? P=g I) (D:ae.get? W≠R) (J:jJ v p b.i ae a bN) (y:iL bN=iL (b.c6 a)):a2 v p (b.eM a bN) {k with heap:=ae,toks:=d}/\cg cl p b k p (b.eM a bN) {k with heap:=ae,toks:=d}:=by
 have C:∀{P},(p.bw P=e9\/p.bw P=c')->P≠W:=λE F=>by rw[F] at E;refine bi E (λT=>?_) λT=>?_<;>refine bi q (λZ=>?_) λZ=>?_<;>rw[Z] at T<;>exact hL T rfl
 have H:fh p p b.i b.i k.heap ae:=⟨bv _,λ_ _=>rfl,λ_ T=>T,λP I T K=>h P I (C (ap K)) T⟩;have m:∀P,k.heap.get? P≠R->ae.get? P≠R:=λP E=>by
  by_cases T:P=W
  ·exact c T<|D
  refine aU (nw.mp E) λI w=>c (h P I T w)<|fK
 refine⟨⟨t.iO,λP E=>?_,λP I F=>⟨h P I (C (ap (t.ew P I F).2)) (t.ew P I F).1,(t.ew P I F).2⟩,λP F=>?_,t.lR⟩,H,λP _=>(show iL (if P=a then bN else b.c6 P)=_ from by split<;>simp_all),λ_ _=>rfl,λP I T M _=>h P I (C (ar M)) T,m,rfl⟩
 ·by_cases T:P=a
  ·subst T;refine(?_:jJ v _ _ _ _ (if P=P then bN else _));exact c (aZ rfl)<|J
  refine(?_:jJ v _ _ _ _ (if P=a then bN else b.c6 P));refine c (ay T) ?_;have A:∀U,(p.bw U=.eU P\/p.bw U=nP P)->U≠W:=λU G F=>by rw[F] at G;refine bi G (λZ=>?_) λZ=>?_<;>refine bi q (λo=>?_) λo=>?_<;>rw[o] at Z<;>cases Z<;>exact T rfl
  refine(t.eU P E).a0 H E (λ_ _=>rfl) λU G=>⟨rfl,?_⟩;have l:k.heap.get? U≠R:=t.qe (by refine bi G (λT=>?_) λT=>?_<;>refine c T ?_<;>simp);refine aU (nw.mp l) λI w=>c w<|h U I (A U G) w
 exact t.di P (vM λT=>m P T F)
theorem zp:∀{Y:r (e×q)},im d (kg a C Y)=if d=a then g C else im d Y:=by
 intro Y;induction Y with
 |nil=>
  refine(?_:(if a=d then g C else R)=if d=a then g C else R);by_cases T:d=a
  ·exact c (aZ T.symm) (c (aZ T) rfl)
  exact c (ay (λF=>T F.symm)) (c (ay T) rfl)
 |cons N h t=>
  obtain⟨y,P⟩:=N;refine(?_:im d (if y=a then(y,C)::h else(y,P)::kg a C h)=if d=a then g C else if y=d then g P else im d h);by_cases T:y=a
  ·refine bp T<|c (aZ rfl)<|(?_:(if y=d then g C else im d h)=_)
   by_cases F:y=d
   ·exact c (aZ F) (c (aZ F.symm) rfl)
   exact c (ay F) (c (ay F) (c (ay λZ=>F Z.symm) rfl))
  refine c (ay T)<|(?_:(if y=d then g P else im d (kg a C h))=_)
  by_cases F:y=d
  ·exact c (aZ F) (c (aZ F) (c (ay λZ=>T (F.trans Z)) rfl))
  exact c (ay F)<|c (ay F)<|t
theorem D2 (K:a<gD.length) (W:d<gD.length) (F:he a=he d):a=d:=by rw[zr K,zr W] at F;exact(YI (dq (by decide+kernel:decide gD.Nodup=true))).mp F
theorem qT.iu (m:qT p a ae fB pr) (q:d<gD.length) (Q:be p a ae C aI):qT p a ae (kg d C fB) (λA=>if A=he d then g aI else pr A):=by
 refine⟨λY X F=>?_,λY K F=>?_,λA h=>(ay λZ=>h d q Z.symm).trans (m.AZ A h)⟩
 ·rw[zp] at F;by_cases b:Y=d
  ·subst b;rw[aZ rfl] at F;refine bp (bm F)<|rs q aI (aZ rfl) Q
  rw[ay b] at F;refine nS (m.mw Y X F) λk o c l=>rs k o ((ay λZ=>b (D2 k q Z)).trans c) l
 rw[zp] at F;by_cases b:Y=d
 ·rw[aZ b] at F;exact fK F
 rw[ay b] at F;exact(ay λZ=>b (D2 K q Z)).trans (m.en Y K F)
theorem Hf (t:a2 v p b k) (ax:be p b.i k.heap C aI) (Q:be p b.i k.heap b2 cR) (W:a<gD.length) (Z:ve C a b2 b pp):aG (bG cd v) N (setAttr aI (he a) cR) (DE v p b k pp) bs k:=by
 refine bV λae=>?_;replace Z:=Z.x;obtain⟨P,rfl,E,Z⟩:=Z;replace Z:=Z.i';refine Qy Z λU Y ah _ _ ai Z=>bl ax.o λaf _=>?_;subst af;have h:=t.eU P E;rw[ah] at h;obtain⟨h,q,⟨G,az⟩,w,aA,M,D,l⟩:=h;obtain⟨bg,bk,bq,br,aj⟩:=ut v G;have X:=(dR.mp (f2.mp (AT v) _ (oS G).1)).2;have ao:=f2.mp (f2.mp (Gm v) U (oS G).2) a (mU.mpr (um▸W));rw[ai] at ao;obtain⟨J,bt,bu,bw,bx⟩:=k;have aB:p.jy P≠p.b5 P:=λaa=>by rw[aa,h] at q;exact hL q rfl
 have aC:p.b5 P≠g1 U:=λaa=>by have:=(t.ew _ _ aj).2;rw[<-aa,h] at this;exact hL this rfl
 have aD:J.InstFk (p.b5 P) (g1 U) M:=Ar _ w rfl (λ_ T=>nomatch T) (ar ⟨_,rfl,aB,D,aA⟩);have aE:PySem.Within M gD:=λA ab=>vM λT=>ab (l.AZ A λbz K aa=>T (aa▸D1 K));refine ae (store_attrFk F.store_object (t.ew _ _ aj).1 (t.wU G) (qc X) (qc ao) (AX W) aC aD (λH y aF K aL=>?_) aE (by refine c (um ..) (c (v' ..) ?_);decide));refine bV λae=>re (aL _ w) λaM aO aP aQ aS aq=>?_;have aU:=aq _ rfl;clear aq;have ag:H.get? (p.b5 P)=g ⟨O (g1 U),g (p.jy P),sc,#[]⟩:=by obtain⟨bA,bB,bC,bD⟩:=aM;obtain rfl:=aP;obtain rfl:=aQ;obtain rfl:=aS;cases aU;exact aO
 refine sT aF λaV aW _ _ m=>?_;obtain rfl:aV=_:=bm (aW.symm.trans ag);refine bi m (λaf=>bl af λm _=>fK m) λaY=>sT aY λaZ m _ a3 au=>?_;obtain rfl:p.jy P=aZ:=bm m;have av:∀A I,A≠p.jy P->J.get? A=g I->H.get? A=g I:=λA I ab T=>by
  by_cases aw:A=p.b5 P
  ·rw[aw] at T⊢;exact c ag<|bp T<|w.symm
  exact K A I aw (λbE bF a5 a7=>by obtain rfl:=bm (w.symm.trans a5);obtain rfl:=bm a7;exact ab) T
 have a8:fh p p b.i b.i J H:=⟨bv _,λ_ _=>rfl,λ_ T=>T,λA I T K=>av A I (λaa=>by rw[aa,q] at K;exact hL K rfl) T⟩;have a9:H.get? (p.jy P)≠R:=by obtain⟨I,T,_⟩:=au;exact f1 T
 obtain⟨a',bb⟩:=t.XE (cl:=λ_=>bK) (d:=y) E (ar q) av a9 (bN:=cw U (kg a b2 Y)) ⟨h,q,⟨G,λA ab=>by exact c (zp ..)<|c (ay (λT:A=a=>ab (T.symm▸ai)))<|az A ab⟩,ag,au,_,a3,(l.iu W Q).a0 a8⟩ (by refine c ah ?_;rfl);exact ae ⟨p,_,a',bb,Z.fl⟩
noncomputable def Fg:r (e×dM):=[(22,42),(23,49),(24,56),(25,63),(26,70),(27,77),(28,84),(29,91),(30,98),(58,205),(59,212),(60,219),(61,226),(62,233),(63,240),(64,245),(82,280),(83,287),(84,292),(87,411),(88,418),(89,425),(90,432),(91,439),(92,446),(93,451),(94,458),(95,465),(96,472),(97,479),(98,486),(99,493),(100,500),(101,507),(102,514),(104,556),(105,563),(110,581),(111,586),(112,593),(113,600),(114,607),(115,612),(116,617),(117,624),(118,631),(119,638),(120,643),(121,648),(122,655),(123,660),(124,665),(125,672),(126,677),(127,684),(128,691),(129,698),(130,705),(1336,28),(1912,177),(1914,191),(2296,259),(2297,266),(2360,306),(2361,313),(2362,320),(2363,327),(2364,334),(2365,341),(2366,348),(2367,355),(2368,362),(2369,369),(2376,390),(2377,397),(2648,528),(2649,535),(2650,542)]
noncomputable def xa (o:e):r (e×dM)->a6 dM
 |[]=>R
 |(y,P)::h=>bif kA y o then g P else xa o h
noncomputable def nW (o:e):a6 dM:=xa o Fg
noncomputable def uN (m:bZ) (y:dM) (W:a4) (P:dM):ci:=((mY (le m y) W).bind x0).any λU=>kA U P
theorem xq (T:uN v W ac cE=true):mY (le v W) ac=g (O cE):=nK T λU F T=>D7 F λJ D q=>c D (cS g ((Be q).trans (cS O (yq T))))
noncomputable def Ai:Data->a6 yG|v4 o=>g o|_=>R
theorem Fm (T:Ai k0=g g9):k0=v4 g9:=i6.gb (fd:=λg9=>k0=v4 g9) (by cases k0<;>first|exact trivial|exact rfl) T
theorem Gn (m:bZ):([21,57,81,85,86,103].all λU=>(eQ 62).all λY=>match iN U Y with|none=>true|some o=>(match nW o with|some P=>uN m (pZ U) (he Y) P|none=>false))=true:=by kernel_rfl
noncomputable def SJ (m:bZ) (y:dM):ci:=((MineH.e1 m.params).get? y).any λI=>((zL I.cls).any λN=>N=="function")&&(Ai I.data).isSome
theorem RG (m:bZ):(Fg.all λQ=>SJ m Q.2)=true:=by kernel_rfl
theorem a2.w' (t:a2 v p b k) (T:nW a=g W):∃I y,(MineH.e1 v.params).get? W=g I/\k.heap.get? W=g I/\I.cls=ak "function"/\I.data=v4 y:=by
 have N:∀X:r (e×dM),xa a X=g W->∃Q,Q∈X/\Q.2=W:=by
  intro X
  induction X with
  |nil=>intro T;exact ce T
  |cons Q h o=>
   obtain⟨i,U⟩:=Q
   intro T
   replace T:(bif kA i a then g U else xa a h)=g W:=T
   cases F:kA i a with
   |true=>rw[F] at T;exact a8 _ (fC _) (bm T)
   |false=>rw[F] at T;exact ax (o T) λZ c d=>a8 Z (hl _ c) d
 refine ax (N _ T) λQ J m=>?_;refine bp m ?_;have:=f2.mp (RG v) Q J;exact nK this λI w T=>bl (dR.mp T) λc d=>nK c λC A l=>(yx.mp d).elim λy q=>⟨I,y,w,(t.ew _ _ w).1,(Eo A).trans (cS ak (vR l)),Fm q⟩
theorem R0 {Y:r (e×q)} (t:a2 v p b k) (U:a<b.i) (af:b.c6 a=cw Z Y) (aa:d<gD.length) (ab:iN Z d=g w) (M:nW w=g W) {H:aX×r aX->cc->Prop} (ag:H (O W,[O (p.b5 a)]) k):aG (bG cd v) N (CG (O (p.b5 a)) (he d) tA) H bs k:=by
 have h:=t.eU a U;rw[af] at h;refine bV λah=>?_;obtain⟨h,ae,⟨G,P⟩,ai,aj,ao,D,l⟩:=h;obtain⟨A,o,E,aw,I⟩:=ut v G;have X:=f2.mp (AT v) _ (oS G).1;simp only[ps] at X;have K:=f2.mp (f2.mp (Gn v) Z (oS G).2) d (mU.mpr (um▸aa));rw[ab] at K;simp only[M] at K;obtain⟨ax,y,_,aq,au,_⟩:=t.w' M;have T:=xq K;obtain⟨J,m,ay,az,aA⟩:=k;refine ah ?_;have C:p.jy a≠p.b5 a:=λF=>by rw[F,h] at ae;exact hL ae rfl
 have Q:J.InstFk (p.b5 a) (g1 Z) ao:=Ar _ ai rfl (λ_ av=>nomatch av) (ar ⟨_,rfl,C,D,aj⟩);exact method_ofFk (t.ew _ _ I).1 (t.wU G) (qc X.1.1) (qc X.1.2) T aq au (AX aa) Q (l.en d aa (P d (by exact c ab<|fK))) ag
noncomputable def zK (o:q->aX->ci):r q->r aX->ci
 |[],A=>A.isEmpty
 |y::W,A=>A.head?.any λP=>o y P&&zK o W A.tail
noncomputable def wR (m:bZ):e->q->aX->ci
 |0,_,_=>false
 |C+1,J,X=>match J with
  |j v=>(FL X).any λw=>decide (v=w)
  |bW W=>(x6 X).any λA=>dV W A
  |S a=>(x0 X).any λy=>((MineH.e1 m.params).get? y).any λI=>((zL I.cls).any λN=>N=="tuple")&&(Hc I.data).any λd=>zK (wR m C) a d.toList
  |_=>false
noncomputable def abp:t8->a6 aX
 |bo=>g (bH "len")|.bW=>g (ak "str")|oc=>g (bH "sorted")|rS=>g (ak "tuple")|o8=>g (bH "max")|.j=>g (ak "int")|.V=>g (ak "list")
noncomputable def xe (m:bZ) (Q:a4×oK):ci:=match Q.2 with
 |ct o=>(match nW o with|some P=>uN m 3 Q.1 P|none=>false)
 |m5 U=>ll U&&uN m 3 Q.1 (g1 U)
 |lO J=>(match mY (le m 3) Q.1 with|some X=>wR m 6 J X|none=>false)
 |lc P=>true
theorem Al (m:bZ):(jR.all λQ=>xe m Q)=true:=by kernel_rfl
theorem R5 (m:bZ):(uL m 3&&uL m 0)=true:=by kernel_rfl
theorem PN (t:a2 v p b k):∀(C:e) {J:q} {a:aX},wR v C J a=true->be p b.i k.heap J a:=by
 intro C;induction C with
 |zero=>intro J a T;exact eY T
 |succ C o=>
 intro J a T
 cases J with
 |j G=>exact nK T λw F T=>(SB F).elim λN F=>c F<|of_decide_eq_true T▸.j _ _
 |bW G=>exact nK T λw F T=>(Bu F).elim λN F=>c F<|kn.mp T▸.bW _ _
 |bI=>exact eY T
 |aK _=>exact eY T
 |x _=>exact eY T
 |S X=>
  refine nK T λy F T=>nK T λI H T=>bl (dR.mp T) λm D=>nK m λN A l=>nK D λd Q K=>(Wz Q).elim λY M=>?_;have E:=t.ew y I H;refine c (Be F)<|.S E.1 ((Eo A).trans (cS ak (vR l))) M E.2 ?_
  have U:∀(X:r q) (d:r aX),zK (wR v C) X d=true->bQ p b.i k.heap X d:=by
   intro X
   induction X with
   |nil=>intro d T;cases d with|nil=>exact .z|cons=>exact eY T
   |cons y h W=>
    intro d T
    cases d with
    |nil=>exact eY T
    |cons P Z=>exact bl (dR.mp T) λm D=>.n (o m) (W Z D)
  exact U _ _ K
theorem xg {Y:oK} (T:fb ac jR=g Y):(ac,Y)∈jR:=by
 have i:∀X:r (a4×oK),fb ac X=g Y->(ac,Y)∈X:=by
  intro X
  induction X with
  |nil=>intro T;exact ce T
  |cons Q h t=>
   obtain⟨A,J⟩:=Q
   intro T
   replace T:(bif dV A ac then g J else fb ac h)=g Y:=T
   cases F:dV A ac with
   |true=>rw[F] at T;exact bp (bm T)<|bp (kn.mp F)<|fC _
   |false=>rw[F] at T;exact hl _ (t T)
 exact i _ T
theorem xf (t:a2 v p b k) (m:dg y Y h p b.i k.heap) (K:y.kindOf ac=g iY) (Z:match mY (le v 3) ac with|some J=>cC J k|none=>(match mY (le v 0) ac with|some J=>cC J k|none=>bK)):aG (bG cd v) N (si y ac) cC bs k:=by
 have l:=dR.mp (R5 v)
 have d:=t.xF l.1
 have o:=t.xF l.2
 have P:y.globals=3:=m.p3
 have E:y.builtins=0:=m.pX
 refine c (loadName_read m.ct K) ?_
 unfold loadGlobal
 refine c P (c E ?_)
 refine av (wpAny_nsGet d ?_)
 cases F:mY (le v 3) ac with
 |some J=>rw[F] at Z;exact bz Z
 |none=>
  rw[F] at Z
  refine av (wpAny_nsGet o ?_)
  cases a:mY (le v 0) ac with
  |some J=>rw[a] at Z;exact bz Z
  |none=>rw[a] at Z;exact Z.elim
theorem R8 (t:a2 v p b k) (m:dg y Y h p b.i k.heap) (K:y.kindOf ac=g iY) (q:fb ac jR=g (lO C)) (Z:∀X,be p b.i k.heap C X->cC X k):aG (bG cd v) N (si y ac) cC bs k:=by
 have T:=f2.mp (Al v) _ (xg q);dsimp only[xe] at T;refine xf t m K ?_;split at T
 ·rename_i X F;exact Z X (PN t _ T)
 exact eY T
theorem R9 (t:a2 v p b k) (m:dg y Y h p b.i k.heap) (K:y.kindOf ac=g iY) (q:fb ac jR=g (ct a)) (Z:∀P,nW a=g P->cC (O P) k):aG (bG cd v) N (si y ac) cC bs k:=by
 have T:=f2.mp (Al v) _ (xg q);dsimp only[xe] at T;refine xf t m K ?_;split at T
 ·rename_i P F;exact c (xq T)<|Z P F
 exact eY T
theorem R7 (t:a2 v p b k) (m:dg y Y h p b.i k.heap) (K:y.kindOf ac=g iY) (q:fb ac jR=g (m5 a)) (Z:ll a=true->cC (O (g1 a)) k):aG (bG cd v) N (si y ac) cC bs k:=by have T:=f2.mp (Al v) _ (xg q);dsimp only[xe] at T;refine bl (dR.mp T) λd T=>xf t m K<|c (xq T)<|Z d
theorem TS {h} (U:N.handled=R) (Y:k.heap.IsListIter W cE a) (D:k.heap.IsList cE h) (q:h[a]? =R) (M:∀H,qK W k.heap H->H.get? W≠R->l7 R {k with heap:=H}):aG (bG cd v) N (mZ (O W)) l7 bs k:=by
 refine bV λt=>eT (id Y) λI w _ l=>EM D λi p _ o d=>t ?_;unfold mZ;refine av (wa (oB (name:=ck "__next__") Y.typeIs aah (jD aah Y.typeIs entry_listiter_next ?_ (args_listiter_next _))));refine(?_:aG _ _ (tY (O W) 0>>=_) _ _ k);refine av (oC w l (x:=O cE) rfl ?_);refine(?_:aG _ _ (if(O cE==bf)=true then _ else _) _ _ k);refine hU (show ¬((O cE==bf)=true) from fR)<|(?_:aG _ _ (tY (O W) 1>>=_) _ _ k)
 refine av (oC w l (x:=aN a 0) rfl ?_);refine(?_:aG _ _ (seqItems? (O cE)>>=_) _ _ k);refine av (Jn p d ?_);dsimp only;refine c (show h[kw (a:B)]? =R from q)<|wpAny_bind (kc (av (CP w l (eH _) ?_)))
 refine(?_:aG _ _ (oA (ak "StopIteration") []>>=_) _ _ _);refine av ?_;dsimp only[oA,v9];refine av (lG ?_ (by size_fits));refine av (m:=yL _ _) (oD (a:=bf) (by first|rfl|(dsimp only[firstArgMember];rfl)) ?_);refine lG ?_ (by size_fits);dsimp only[yQ];refine av (yV ?_);refine c (show N.in1.handled=R from U)<|wpAny_bind (bz (yW ?_))
 refine av (t0 (T:="StopIteration") (b:=true) (a8 _ (gJ _ rfl) rfl) yO ?_);refine bz (M _ (((qL ..).extBut.push _).push _) ?_);exact f1 (gO (gO (tT _ w (Cq (yH l _)))))
theorem TV {h} (U:N.handled=R) (Y:k.heap.IsTupleIter W cE a) (A:k.heap.IsTuple cE h) (q:h[a]? =R) (M:∀H,qK W k.heap H->H.get? W≠R->l7 R {k with heap:=H}):aG (bG cd v) N (mZ (O W)) l7 bs k:=by
 refine bV λt=>eT (id Y) λI w _ l=>EM A λi p _ o d=>t ?_;unfold mZ;refine av (wa (oB (name:=ck "__next__") Y.typeIs ZU (jD ZU Y.typeIs F.entry_tuple_iterator_next ?_ (F.args_tuple_iterator_next_1 _))));refine(?_:aG _ _ (tY (O W) 0>>=_) _ _ k);refine av (oC w l (x:=O cE) rfl ?_);refine(?_:aG _ _ (if(O cE==bf)=true then _ else _) _ _ k);refine hU (show ¬((O cE==bf)=true) from fR)<|(?_:aG _ _ (tY (O W) 1>>=_) _ _ k)
 refine av (oC w l (x:=aN a 0) rfl ?_);refine(?_:aG _ _ (seqItems? (O cE)>>=_) _ _ k);refine av (Jn p d ?_);dsimp only;refine c (show h[kw (a:B)]? =R from q)<|wpAny_bind (kc (av (CP w l (eH _) ?_)))
 refine(?_:aG _ _ (oA (ak "StopIteration") []>>=_) _ _ _);refine av ?_;dsimp only[oA,v9];refine av (lG ?_ (by size_fits));refine av (m:=yL _ _) (oD (a:=bf) (by first|rfl|(dsimp only[firstArgMember];rfl)) ?_);refine lG ?_ (by size_fits);dsimp only[yQ];refine av (yV ?_);first|refine c (show N.in1.handled=R from U) ?_|refine c U ?_
 refine av (bz (yW ?_));refine av (t0 (T:="StopIteration") (b:=true) (a8 _ (gJ _ rfl) rfl) yO ?_);refine bz (M _ (((qL ..).extBut.push _).push _) ?_);exact f1 (gO (gO (tT _ w (Cq (yH l _)))))
theorem TU (U:N.handled=R) (Y:ZY k.heap W am bx gS) (d:bx<=0) (M:∀H,qK W k.heap H->H.get? W≠R->l7 R {k with heap:=H}):aG (bG cd v) N (mZ (O W)) l7 bs k:=by
 have t:k.TypeIs (O W) "range_iterator":=a8 _ Y rfl;unfold mZ;refine av (wa (oB (name:=ck "__next__") t ZQ (jD ZQ t F.entry_range_iterator_next ?_ (F.args_range_iterator_next_1 _))));refine(?_:aG _ _ (tY (O W) 0>>=_) _ _ k);refine av (oC Y rfl (x:=nB am) rfl ?_);refine(?_:aG _ _ (tY (O W) 1>>=_) _ _ k);refine av (oC Y rfl (x:=nB bx) rfl ?_);refine(?_:aG _ _ (tY (O W) 2>>=_) _ _ k);refine av (oC Y rfl (x:=nB gS) rfl ?_);refine(?_:aG _ _ (if bx<=0 then _ else _) _ _ k);refine l0 d<|wpAny_bind (kc ?_)
 refine av<|(?_:aG _ _ (oA (ak "StopIteration") []>>=_) _ _ _)
 refine av ?_;dsimp only[oA,v9];refine av (lG ?_ (by size_fits));refine av (m:=yL _ _) (oD (a:=bf) (by first|rfl|(dsimp only[firstArgMember];rfl)) ?_);refine lG ?_ (by size_fits);dsimp only[yQ];refine av (yV ?_);first|refine c (show N.in1.handled=R from U) ?_|refine c U ?_
 refine av (bz (yW ?_));refine av (t0 (T:="StopIteration") (b:=true) (a8 _ (gJ _ rfl) rfl) yO ?_);refine bz (M _ (((ZV W k.heap).push _).push _) ?_);exact f1 (gO (gO Y))
theorem TT (U:N.handled=R) (Y:k.heap.IsRevIter W cE (-1)) (M:∀H,qK W k.heap H->H.get? W≠R->l7 R {k with heap:=H}):aG (bG cd v) N (mZ (O W)) l7 bs k:=by
 refine eT (id Y) λI w G l=>?_
 unfold mZ
 refine av (wa (oB (name:=ck "__next__") Y.typeIs ZP (jD ZP Y.typeIs F.entry_lri_next ?_ (F.args_lri_next_1 _))))
 unfold Builtin.«list_reverseiterator.__next__»
 refine av (oD (a:=(O W,[])) rfl ?_)
 try dsimp only
 refine av (oC w l (x:=nB (-1)) rfl ?_)
 refine(?_:aG _ _ (if(-1:B)<0 then _ else _) _ _ k)
 refine l0 (aQ rfl)<|wpAny_bind (kc ?_)
 first
 |show aG _ _ (oA (ak "StopIteration") []>>=_) _ _ _
 |(refine av ?_;refine(?_:aG _ _ (oA (ak "StopIteration") []>>=_) _ _ _))
 refine av ?_
 dsimp only[oA,v9]
 refine av (lG ?_ (by size_fits))
 refine av (m:=yL _ _) (oD (a:=bf) (by first|rfl|(dsimp only[firstArgMember];rfl)) ?_)
 refine lG ?_ (by size_fits)
 dsimp only[yQ]
 refine av (yV ?_)
 first|refine c (show N.in1.handled=R from U) ?_|refine c U ?_
 refine av (bz (yW ?_))
 refine av (t0 (T:="StopIteration") (b:=true) (a8 _ (gJ _ rfl) rfl) yO ?_)
 refine bz (M _ (((ZV _ _).push _).push _) ?_)
 exact f1 (gO (gO w))
theorem a2.Rw (t:a2 v p b k) (q:p.bw W=c') (h:qK W k.heap ae) (D:ae.get? W≠R) (Y:e):a2 v p b {k with heap:=ae,toks:=Y}/\cg (λP=>P=W) p b k p b {k with heap:=ae,toks:=Y}:=by
 have C:∀{P},p.bw P≠c'->P≠W:=λE F=>E (F▸q);have d:fh p p b.i b.i k.heap ae:=⟨bv _,λ_ _=>rfl,λ_ T=>T,λP I T K=>h P I (C (by exact c K<|λT=>hL T rfl)) T⟩;have m:∀P,k.heap.get? P≠R->ae.get? P≠R:=λP E=>by
  by_cases T:P=W
  ·exact c T<|D
  refine aU (nw.mp E) λI w=>c (h P I T w)<|fK
 refine⟨⟨t.iO,λP E=>(t.eU P E).a0 d E (λ_ _=>rfl) λU G=>⟨rfl,?_⟩,λP I F=>⟨h P I (C (by exact c ((t.ew P I F).2)<|λT=>hL T rfl)) (t.ew P I F).1,(t.ew P I F).2⟩,λP F=>?_,t.lR⟩,d,λ_ _=>rfl,λ_ _=>rfl,λP I T M E=>h P I E T,m,rfl⟩
 ·have M:p.bw U≠c':=by refine bi G (λT=>?_) λT=>?_<;>refine c T ?_<;>simp
  refine aU (nw.mp (t.qe M)) λI w=>c w<|h U I (C M) w
 exact t.di P (vM λT=>m P T F)
theorem U4 (l:(W==sk)=false) (w:k.heap.get? W=g cf) (G:cf.ExactDict) (b:cf.data=g' b6 a) (M:cC (O k.heap.objs.size) {k with heap:=k.heap.push {cls:=ak "dict_keyiterator",data:=ma #[O W,aN 0 0,aN b6.size 0,aN a 0]}}):aG (bG cd v) N (yP (O W)) cC bs k:=by
 have t:k.TypeIs (O W) "dict":=a8 cf w G.1;refine wpAny_pyIter_slot t ZI (jD ZI t F.entry_dict_iter ?_ (F.args_dict_iter_1 _));unfold Builtin.«dict.__iter__»;refine av ?_;unfold acq;refine av (Jm t ?_);refine(?_:aG _ _ (pure (O W)) _ _ k);refine bz<|(?_:aG _ _ (Zp W>>=_) _ _ k)
 unfold Zp;rw[ay (by exact c l<|fR)];refine av (bz ?_);refine av (sn w b ?_);refine av (qR w b ?_);refine av (lG (bz ⟨_,rfl,"dict_keyiterator",_,(a8 _ (gJ _ rfl) rfl),yF.lookup,?_⟩));simpa [nB] using M
theorem TR {m:fY} (Y:k.heap.IsKeyIter W cE a b6.size d) (h:k.heap.get? cE=g cf) (p:cf.data=g' b6 d) (q:b6[a]? =g m) (M:∀H,H.IsKeyIter W cE (a+1) b6.size d->ov W k.heap H->l7 (g m.key) {k with heap:=H}):aG (bG cd v) N (mZ (O W)) l7 bs k:=by
 refine eT (id Y) λI w G l=>?_;unfold mZ;refine av (wa (oB (name:=ck "__next__") Y.typeIs yF (jD yF Y.typeIs ZC ?_ (ZA _))));refine av (bz ?_);refine av<|wpAny_bind ?_
 first|refine av (CQ Y.typeIs (bz ?_))|refine wpAny_bind (wpAny_typeNameOf_keyiter Y.typeIs (wpAny_pure ?_))
 refine av (aan w l ?_);have o:Zr "dict_keyiterator"=false:=aQ rfl;dsimp only[o,HT,t3];refine(?_:aG _ _ (if(O cE==bf)=true then _ else _) _ _ k);refine hU (show ¬((O cE==bf)=true) from fR)<|wpAny_bind (bz ?_)
 refine av (sn h p ?_);refine hU (by simp)<|wpAny_bind (bz ?_)
 refine av (qR h p ?_);refine hU (by simp)<|wpAny_pure ?_
 have b:a<b6.size:=(yh.mp q).1;have i:b6[a]=m:=(yh.mp q).2;simp only[show ¬((a:B)<0) from sx,t3,qz,qy b];refine av ?_;first|refine av (CQ Y.typeIs (bz ?_))|refine wpAny_bind (wpAny_typeNameOf_keyiter Y.typeIs (wpAny_pure ?_))
 refine av (aap Y.typeIs ?_);refine(?_:aG _ _ (setField (O W) 1 (nB ((a:B)+1))>>=_) _ _ k);refine av (CP w l (by simp) ?_);have t:(k.heap.update W (Z1 (·.setIfInBounds 1 (nB ((a:B)+1))))).IsKeyIter W cE (a+1) b6.size d:=(d7 _ (tT _ w (Cq (yH l _))) ((Obj.cls_mapFields ..).trans G) (by exact c (yH l ..)<|rfl));refine av (f4 ?_);refine av (aap (s:={k with heap:=k.heap.update W (Z1 (·.setIfInBounds 1 (nB ((a:B)+1))))}) t.typeIs ?_);refine(?_:aG _ _ (pure b6[a].key) _ _ _);exact c i<|wpAny_pure (bz (a8 _ rfl (bz (M _ t (qL ..)))))
theorem TQ (U:N.handled=R) (Y:k.heap.IsKeyIter W cE a b6.size d) (h:k.heap.get? cE=g cf) (p:cf.data=g' b6 d) (i:b6.size<=a) (M:∀H,qK W k.heap H->H.get? W≠R->l7 R {k with heap:=H}):aG (bG cd v) N (mZ (O W)) l7 bs k:=by
 refine eT (id Y) λI w G l=>?_;unfold mZ;refine av (wa (oB (name:=ck "__next__") Y.typeIs yF (jD yF Y.typeIs ZC ?_ (ZA _))));refine av (bz ?_);refine av<|wpAny_bind ?_
 first|refine av (CQ Y.typeIs (bz ?_))|refine wpAny_bind (wpAny_typeNameOf_keyiter Y.typeIs (wpAny_pure ?_))
 refine av (aan w l ?_);have o:Zr "dict_keyiterator"=false:=aQ rfl;dsimp only[o,HT,t3];refine(?_:aG _ _ (if(O cE==bf)=true then _ else _) _ _ k);refine hU (show ¬((O cE==bf)=true) from fR)<|wpAny_bind (bz ?_)
 refine av (sn h p ?_);refine hU (by simp)<|wpAny_bind (bz ?_)
 refine av (qR h p ?_);refine hU (by simp)<|wpAny_pure ?_
 simp only[show ¬((a:B)<0) from sx,t3,qz,Ya i];refine av ?_;first|refine av (CQ Y.typeIs (bz ?_))|refine wpAny_bind (wpAny_typeNameOf_keyiter Y.typeIs (wpAny_pure ?_))
 refine(?_:aG _ _ (setField (O W) 0 bf>>=_) _ _ k);refine av (CP w l (eH _) ?_);refine(?_:aG _ _ (oA (ak "StopIteration") []>>=_) _ _ _);refine av ?_;dsimp only[oA,v9];refine av (lG ?_ (by size_fits));refine av (m:=yL _ _) (oD (a:=bf) (by first|rfl|(dsimp only[firstArgMember];rfl)) ?_);refine lG ?_ (by size_fits);dsimp only[yQ];refine av (yV ?_);refine c (show N.in1.handled=R from U)<|wpAny_bind (bz (yW ?_))
 refine av (t0 (T:="StopIteration") (b:=true) (a8 _ (gJ _ rfl) rfl) yO ?_);refine bz (M _ (((qL ..).extBut.push _).push _) ?_);exact f1 (gO (gO (tT _ w (Cq (yH l _)))))
theorem bQ.gb:∀{d:r aX},eO.length=d.length->(∀v (o:v<eO.length) (l:v<d.length),be p a ae eO[v] d[v])->bQ p a ae eO d:=by
 induction eO with
 |nil=>exact λF _=>BL F.symm▸.z
 |cons M eO t=>
  intro d F X
  cases d with
  |nil=>exact ei F rfl
  |cons J d=>exact .n (X 0 (eH _) (eH _)) (t (IB F) λv o l=>X (v+1) (Zg o) (Zg l))
theorem fv.S0 (Y:fv v p a ae qw b6):bQ p a ae (qw.map (·.1)) (b6.toList.map (·.key)):= .gb (by exact c (au ..) (c (au ..) (c Y.bo (c (op ..) rfl)))) λb o l=>by rw[au] at o;have A:b<b6.size:=Y.bo▸o;obtain⟨Q,J,K,_⟩:=Y.kJ b A;exact c (BP ..)<|c (BP ..)<|c (bm ((cY o).symm.trans J))<|K
inductive hQ (p:cM) (a:e) (T:gf) (Q:dM):ha->Prop
 |f3 {y v:e} (M:p.bw Q=c') (U:y<a) (o:T.IsListIter Q (p.b5 y) v):hQ p a T Q (f3 y v)
 |fr {y v:e} (M:p.bw Q=c') (U:y<a) (o:T.IsRevIter Q (p.b5 y) ((v:B)- 1)):hQ p a T Q (.fr y v)
 |dk {c o:B} (C:B) (M:p.bw Q=c') (h:ZY T Q c C 1) (D:C=o- c\/(o<=c/\C<=0)):hQ p a T Q (.dk c o)
 |S {X:r q} (N:dM) (I:d5) (d:hX aX) (F v:e) (M:p.bw Q=c') (o:T.IsTupleIter Q N v) (h:T.get? N=g I) (G:I.cls=ak "tuple") (l:I.data=.seq d F) (K:p.bw N=e9) (D:bQ p a T X (d.toList.drop v)):hQ p a T Q (.S X)
 |kI {y:e} {I:d5} {A:r q} (w:hX fY) (b v:e) (M:p.bw Q=c') (U:y<a) (l:I.data=g' w b) (o:T.IsKeyIter Q (p.b5 y) v w.size b) (D:bQ p a T A ((w.toList.map (·.key)).drop v)):hQ p a T Q (kI y I A)
theorem hQ.ez (m:hQ p b.i k.heap W ol) (d:cg cl p b k cP aj cQ) (N:¬cl W):hQ cP aj.i cQ.heap W ol:=by
 have a:∀I,p.bw W=c'->k.heap.get? W=g I->cP.bw W=c'/\cQ.heap.get? W=g I:=λI M T=>⟨(d.bw W (f1 T)).trans M,d.c' W I T M N⟩
 cases m with
 |f3 M U o=>refine ax o λI w q=>.f3 (a I M w).1 (gy U d.cn.cq) (a8 I ((a I M w).2) (d.cn.b5 _ U▸q))
 |fr M U o=>refine ax o λI w q=>.fr (a I M w).1 (gy U d.cn.cq) (a8 I ((a I M w).2) (d.cn.b5 _ U▸q))
 |dk C M w D=>exact .dk C (a _ M w).1 (a _ M w).2 D
 |S t I y F v M o w G l K D=>refine ax o λc h q=>.S t I y F v (a c M h).1 (a8 c ((a c M h).2) q) (d.cn.p7 _ _ w K) G l (d.cn.e9 _ K) (D.a0 d.cn)
 |kI E A v M U l o D=>refine ax o λI w q=>.kI E A v (a I M w).1 (gy U d.cn.cq) l (a8 I ((a I M w).2) (d.cn.b5 _ U▸q)) (D.a0 d.cn)
theorem hQ.di (m:hQ p a ae W ol):ae.get? W≠R:=by
 cases m with
 |f3 _ _ o=>exact o.elim λ_ ae=>f1 ae.1
 |fr _ _ o=>exact o.elim λ_ ae=>f1 ae.1
 |dk _ _ w _=>exact f1 w
 |S _ _ _ _ _ _ o=>exact o.elim λ_ ae=>f1 ae.1
 |kI _ _ _ _ _ _ o=>exact o.elim λ_ ae=>f1 ae.1
def uh (b:cM) (C:e) (T:gf) (a:K):lK->q->aX->Prop
 |dC,J,X=>be b C T J X
 |fr,J,X=>∃y c d,J=x y/\a.c6 y=V c/\X=O d/\hQ b C T d (.fr y c.length)
 |dk,J,X=>∃W A h I w Q,X=O Q/\IsRange T Q W A 1 h I w/\b.bw Q=c'/\(J=S [j W,j A]\/(W=0/\J=S [j A]))
inductive DP (v:bZ) (cl:dM->Prop) (p:cM) (b:K) (k:cc) (E:lK) (X:aX) (G:ha->K->Prop) (o:aX) (cQ:cc):Prop
 |iM (Q:dM) (t:ha) (c:K) (I:o=O Q) (P:k.heap.get? Q=R\/(E=fr/\o=X)) (a:a2 v p c cQ) (d:cg cl p b k p c cQ) (m:hQ p c.i cQ.heap Q t) (Z:G t c)
theorem W0 (t:a2 v p b k) (m:be p b.i k.heap C aI) (Z:FU C b qs):aG (bG cd v) N (yP aI) (DP v cl p b k dC aI qs) bs k:=by
 refine bV λH=>?_
 cases C with
 |S X=>obtain⟨Q,I,q,F,rfl,w,G,l,K,D⟩:=m.o;refine H (wpAny_pyIter_tuple (items:=q) (li I w G F l) ?_);refine bl (t.mm (cl:=cl) {cls:=ak "tuple_iterator",data:=ma #[O Q,aN 0 0]} rfl) λa J=>⟨_,.S X,b,rfl,ap f8,a,J,.S Q I q F 0 (t.di _ f8) (d7 _ (gJ _ rfl) rfl rfl) (gO w) G l K (D.a0 J.cn),Z⟩
 |x y=>
  refine bl m.o λW U=>?_;subst W
  replace Z:=Z.fl
  cases F:b.c6 y with
  |V X=>rw[F] at Z;refine ax (t.lV U F) λq P D=>H (wpAny_pyIter_list P ?_);refine bl (t.mm (cl:=cl) {cls:=ak "list_iterator",data:=ma #[O (p.b5 y),aN 0 0]} rfl) λa J=>⟨_,f3 y 0,b,rfl,ap f8,a,J,.f3 (t.di _ f8) U (d7 _ (gJ _ rfl) rfl rfl),Z⟩
  |aT E=>rw[F] at Z;refine oZ (t.nQ U F) λh aa I M A w G l Y=>H (U4 aa w G l ?_);refine bl (t.x' (cl:=cl) (d:=k.toks) U (ap h) (acB _ _) (f1 w) (bN:=ki I) (ch h w G) (by refine c F ?_;rfl)) λab T=>?_;refine bl (ab.mm (cl:=cl) {cls:=ak "dict_keyiterator",data:=ma #[O (p.b5 y),aN 0 0,aN M.size 0,aN A 0]} rfl) λa J=>⟨_,kI y I (E.map (·.1)),_,rfl,ap f8,a,T.az J,.kI M A 0 (t.di _ f8) U l (d7 _ (gJ _ rfl) rfl rfl) (Y.S0.a0 (T.az J).cn),Z.2 I⟩
  |ki _=>rw[F] at Z;exact Z.elim
  |cw _ _=>rw[F] at Z;exact Z.elim
 |_=>exact Z.elim
theorem Vw (Q:C=S [j am,j bx]\/(am=0/\C=S [j bx])) (Z:g4 dk C b qs):(-(2^40)<am/\am<2^40/\ -(2^40)<bx/\bx<2^40)/\qs (.dk am bx) b:=by
 rcases Q with rfl|⟨rfl,rfl⟩
 ·refine rd Z λk p l v Z=>?_;exact⟨(iq p k v l),Z⟩
 refine gq Z λk p Z=>?_;exact⟨(iq (aQ rfl) (aQ rfl) p k),Z⟩
theorem Hm (t:a2 v p b k) (m:uh p b.i k.heap b hM C aI) (Z:g4 hM C b qs):aG (bG cd v) N (yP aI) (DP v cl p b k hM aI qs) bs k:=by
 refine bV λH=>?_
 cases hM with
 |dC=>exact H (W0 t m Z)
 |fr=>obtain⟨y,X,Q,rfl,F,rfl,m⟩:=m;replace Z:=Z.fl;rw[F] at Z;exact H (by cases id m with|fr _ _ o=>exact aau o ⟨Q,_,b,rfl,ar ⟨rfl,rfl⟩,t,cg.dO,m,Z.2⟩)
 |dk=>
  refine rg m λW A h I w T a J M q=>?_;subst a;refine bl (Vw q Z) λa Z=>oX a λD G l K=>H (wpAny_pyIter_range J (small_one (At D) (Au G) (At l) (Au K)) ?_);refine c (aag ..)<|bl (t.mm (cl:=cl) {cls:=ak "range_iterator",data:=ma #[nB W,nB (if W<A then A- W else 0),nB 1]} rfl) λd P=>⟨_,.dk W A,b,rfl,ap f8,d,P,.dk _ (t.di _ f8) (gJ _ rfl) ?_,Z⟩
  by_cases E:W<A
  ·exact c (aZ E)<|ap rfl
  exact c (ay E)<|ar ⟨yj.mp E,Int.le_refl _⟩
inductive ue (v:bZ) (p:cM) (b:K) (cQ:cc) (Q:dM) (A:a6 (q×ha)->Prop) (I:a6 aX) (k:cc):Prop
 |bI (w:I=R) (t:a2 v p b k) (d:cg (λP=>P=Q) p b cQ p b k) (Z:A R)
 |Bp (X:aX) (J:q) (a:ha) (w:I=g X) (t:a2 v p b k) (d:cg (λP=>P=Q) p b cQ p b k) (c:be p b.i k.heap J X) (m:hQ p b.i k.heap Q a) (Z:A (g (J,a)))
theorem EF (D:bQ p a ae (C::eO) (dQ.drop d)):∃X,dQ[d]? =g X/\be p a ae C X/\bQ p a ae eO (dQ.drop (d+1)):=by
 cases b:dQ.drop d with
 |nil=>rw[b] at D;exact D.o.elim
 |cons X h=>
  rw[b] at D;refine d7 X ?_ D.o.1<|bp (List.tail_drop ..)<|c b<|D.o.2
  have:=List.getElem?_drop (xs:=dQ) (i:=d) (j:=0);rw[b] at this;exact this.symm
theorem EG (D:bQ p a ae [] (dQ.drop d)):dQ.length<=d:=List.drop_eq_nil_iff.mp D.o
section
variable (Cl:a2 v p b k) (CR:p.bw W=c')
include Cl CR
theorem ue.rq (Z:l6 R) (H:gf) (K:qK W k.heap H) (l:H.get? W≠R):ue v p b k W l6 R {k with heap:=H}:=by refine bl (Cl.Rw CR K l k.toks) λd J=>.bI rfl d J Z
theorem ue.rr (Q:be p b.i k.heap C aI) (Z:l6 (g (C,ol))) (h:ov W k.heap ae) (l:ae.get? W≠R) (m:fh p p b.i b.i k.heap ae->hQ p b.i ae W ol):ue v p b k W l6 (g aI) {k with heap:=ae,toks:=a}:=by refine bl (Cl.vs (a:=a) CR h l) λd J=>.Bp aI C ol rfl d J (Q.a0 J.cn) (m J.cn) Z
end
theorem Gi (t:a2 v p b k) (ab:N.handled=R) (aw:hQ p b.i k.heap W ol) (Z:kL ol b l6):aG (bG cd v) N (mZ (O W)) (ue v p b k W l6) bs k:=by
 refine bV λH=>?_
 cases aw with
 |@f3 y aa M U Y=>
  replace Z:=Z.fl.f3
  refine eT Z λX F _ Z=>ax (t.lV U F) λd P D=>?_
  cases o:X[aa]? with
  |none=>rw[o] at Z;exact H (TS ab Y P (r4.symm.trans (D.R2 aa o)) (.rq t M Z))
  |some J=>rw[o] at Z;refine nS (D.q4 o) λ_ ag I Q=>H (wpAny_pyNext_list_item Y P I λae a h=>.rr t M Q Z h (a.elim λ_ T=>f1 T.1) λ_=>.f3 M U a)
 |@fr y aa M U Y=>
  cases aa with
  |zero=>exact H (TT ab Y (.rq t M Z))
  |succ aa=>replace Z:=Z.fl.f3;refine ax Z λX F Z=>?_;replace Z:=gF Z;refine ax Z λJ o Z=>ax (t.lV U F) λd P D=>nS (D.q4 o) λ_ ag I Q=>?_;rw[show((aa+1:e):B)- 1=(aa:B) by exact uc] at Y;exact H (wpAny_pyNext_rev_item Y P I λae a h=>.rr t M Q Z h (a.elim λ_ T=>f1 T.1) λ_=>.fr M U a)
 |@dk c o C M Y ah=>
  by_cases E:c<o
  ·rw[show kL (.dk c o) b l6=_ from aZ E] at Z;exact H (wpAny_pyNext_range_item Y (J' ah E) λae a h=>.rr t M (.j _ _) Z h (f1 a) λ_=>.dk _ M a (Ka ah))
  rw[show kL (.dk c o) b l6=_ from ay E] at Z;exact H (TU ab Y (Kb ah E) (.rq t M Z))
 |@S X ai aj d F aa M Y ao G l K D=>
  have aq:k.heap.IsTuple ai d:=li aj ao G F l
  cases X with
  |nil=>exact H (TV ab Y aq (Ya (op▸EG D)) (.rq t M Z))
  |cons J X=>refine eT (EF D) λag I Q D=>H (wpAny_pyNext_tuple_item Y aq (r4▸I) λae a h=>.rr t M Q Z h (a.elim λ_ T=>f1 T.1) λaf=>.S ai aj d F (aa+1) M a (af.p7 _ _ ao K) G l K (D.a0 af))
 |@kI y aB A az aA aa M U l Y D=>
  replace Z:=Z.fl.RL
  refine eT Z λaC F m Z=>?_;subst m
  have av:=t.eU y U
  rw[F] at av
  refine gq av λ_ w G=>?_
  cases A with
  |nil=>exact H (TQ ab Y w l (by have:=EG D;rwa [au,op] at this) (.rq t M Z))
  |cons J X=>refine eT (EF D) λag I Q D=>?_;rw[dp,r4] at I;refine ax (e7.mp I) λaD q m=>?_;subst m;exact H (TR Y w l q λae a h=>.rr t M Q Z h (a.elim λ_ T=>f1 T.1) λaf=>.kI az aA (aa+1) M U l a (D.a0 af))
theorem SF:∀{H:r B},o3 eO=g H->eO=H.map q.j:=by
 induction eO with
 |nil=>exact λF=>bm F▸rfl
 |cons M h t=>
  intro H F
  cases M with
  |j v=>refine ax (e7.mp F) λE T m=>?_;exact bp m<|congrArg _ (t T)
  |_=>exact ce F
noncomputable def xr:aX->B
 |aN v _=>v
 |_=>0
theorem abv (m:bZ) (v:B):jS m 3 (j v)=CH v:=rfl
theorem fv.SD (Y:fv v p a ae qw b6) (w:ae.get? W=g cf) (G:cf.ExactDict) (l:cf.data=g' b6 d) (o:o3 (qw.map (·.1))=g hk):∃h:r (B×aX),ae.DictAt (yM MineH.b8 v) W h d/\h.map (·.1)=hk:=by
 have I:=SF o;have Z:∀b (o:b<b6.size),∃N,∃(y:b<hk.length),b6[b].key=aN hk[b] N/\b6[b].hash=CH hk[b]:=by
  intro b o;refine bV λH=>?_;obtain⟨Q,J,aa,M,U,ai⟩:=Y.kJ b o;have k:(qw.map (·.1))[b]? =g Q.1:=by refine c (dp ..) (c J ?_);rfl
  rw[I,dp] at k;refine ax (e7.mp k) λaj ab m=>aU (co.mp ab) λE D=>?_;rw[<-m] at aa U;refine aU aa.SE λN A=>H<|mx N E (by exact c D<|A) (by exact c D<|U)
 have T:hk.length=b6.size:=by refine bp Y.bo ?_;have:=cS qC I;simpa using this.symm
 refine a8 (b6.toList.map λF=>(xr F.key,F.val)) ⟨cf,b6,w,G,l,?_,?_,?_⟩ ?_
 ·intro F K;refine bV λH=>?_;obtain⟨b,o,rfl⟩:=HP.mp K;refine iI (Z b o) λN y k C=>H<|a8 (hk[b]) (by exact c k<|intKind_is _ _ _ _) C
 ·have i:∀X:r fY,(∀F∈X,∃b N,F.key=aN b N)->Pairs (yM MineH.b8 v) X (X.map λF=>(xr F.key,F.val)):=by
   intro X
   induction X with
   |nil=>intro _;exact .nil
   |cons F X t=>intro ae;refine g3 (ae F (fC _)) λb N k=>.cons ?_ rfl (t λaf ag=>ae af (hl _ ag));refine(?_:(yM MineH.b8 v).is (xr F.key) F.key=true);exact c k<|intKind_is MineH.b8 v b N
  refine i _ λF K=>bV λH=>?_
  obtain⟨b,o,rfl⟩:=HP.mp (BD.mp K)
  refine iI (Z b o) λN y k C=>H<|js _ N k
 all_goals
  have F:(b6.toList.map λF=>(xr F.key,F.val)).map (·.1)=hk:=by
   refine c (l' ..)<|H' (by simp[T]) λb k C=>?_
   simp only[BP,Function.comp_apply,Array.getElem_toList];have o:b<b6.size:=by exact bp T<|C
   refine bV λH=>iI (Z b o) λN y ah ao=>H<|c ah ?_;rfl
 ·refine c F ?_;have:=Y.b7;rw[I] at this;exact ab2 (f:=q.j) (S:=(·≠·)) (λaq P ae F=>ae (by exact c F rfl)) this
 exact F
theorem Gd (D:dQ.length=hk.length) (T:∀(w:e) (J:aX),dQ[w]? =g J->∃v N,hk[w]? =g v/\J=aN v N):yA dQ hk:=by
 induction dQ generalizing hk with
 |nil=>cases hk with|nil=>exact .nil|cons=>exact ei D rfl
 |cons J dQ t=>
  cases hk with
  |nil=>exact ei D rfl
  |cons v hk=>
   refine bV λH=>iI (T 0 J (rfl)) λa N k m=>?_;subst m;obtain rfl:v=a:=by simpa using k
   refine H<|.cons _ _ (t (IB D) λw J F=>by simpa using T (w+1) J (by simpa using F))
theorem AP (W:yA dQ hk):bQ p a ae (hk.map q.j) dQ:=by
 induction W with
 |nil=>exact .z
 |cons v N _ t=>exact .n (.j _ _) t
theorem abA (W:yA dQ hk):dQ.length=hk.length:=by
 induction W with
 |nil=>rfl
 |cons v N _ t=>simp[t]
theorem RX (E:ae.get? cE=g cf) (C:cE≠W):(yC ae W dQ cB).get? cE=g cf:=by unfold yC;refine c (ZW _ _ (Ne.symm C)) ?_;refine mb _ (mb _ ?_);exact c (ZW _ _ (Ne.symm C))<|E
theorem WV (X:r B):(ob X).Pairwise (·<=·):=by have:=YT (le:=λy P:B=>decide (y<=P)) (λy P U k p=>by simp only[Jp] at k p⊢;exact Kc k p) (λy P=>by simp only[BF,Jp];exact Kd) X;exact this.imp λT=>by simpa using T
theorem WU (X:r B):(ob X).Perm X:=Ij X _
theorem WX (aj:a2 v p b k) (U:N.handled=R) (aq:a<b.i) (aw:b.c6 a=aT qw) (o:o3 (qw.map (·.1))=g hk) (T:hk.length<64) (Z:an (x b.i) (b.cK (V ((ob hk).map q.j)))):i4 v N (gX (bH "sorted") [O (p.b5 a)]) p b k an:=by
 refine bV λaf=>oZ (aj.nQ aq aw) λ_ ay I aZ az w G l Y=>ax (Y.SD w G l o) λh aA K=>af ?_;have y:h.length=hk.length:=by exact bp K (c (au ..) rfl)
 refine Zx kind_sorted plain_sorted entry_sorted (args_sorted1 _) ?_;unfold Builtin.«sorted»;refine av (m:=checkCount "sorted" 1 1 _) (bz ?_);refine av (kdu_collect (A:=N.in1) (kdl_dict (knd:=yM MineH.b8 v) (kvs:=h) (ep:=az) ay) U aA (by exact c (v' ..)<|bJ 16777152 (H 1 (E 1 (ab y) T))) λaa M d C ao=>?_);have D:d.toList.length=h.length:=by exact c (op ..)<|ao.1
 have P:yA d.toList hk:=by refine Gd (by exact c D (c y rfl)) λaB J Q=>?_;rw[r4] at Q;refine bV λaf=>iI (ao.2 aB J Q) λaC W aD aE=>aU (Value.isInt_shape aE) λaF aI=>?_;subst aI;refine af<|mx aC aF (by refine bp K (c (dp ..) (c aD ?_));rfl) rfl
 refine av (aat ?_ (by exact c (v' ..)<|bJ 16777152 (H 1 (E 1 (t (ab D) (ab y)) T))));have ag:(aa.push (tQ "list" d.toList.toArray 0)).get? aa.objs.size=g (tQ "list" d.toList.toArray 0):=gJ _ rfl;refine(?_:aG _ _ _ _ _ {k with heap:=aa.push (tQ "list" d.toList.toArray 0),toks:=M});refine av (f4 (jD slot_list_sort (a8 _ ag rfl) entry_list_sort (list_sort_tree ag P (E 1 (t (ab D) (ab y)) T) λae aL aM aO aP=>a8 _ rfl ?_) (args_list_sort _)));refine bz (a8 _ rfl ?_);have aQ:aL=ob hk:=ksm_same (aO.trans (WU hk).symm) aP (WV hk);subst aQ;have X:k.heap.get? aa.objs.size=R:=Fk C;have aS:kE k.heap (yC (aa.push (tQ "list" d.toList.toArray 0)) aa.objs.size d.toList ae):=λa0 I ah=>RX (mb _ (C _ _ ah)) (λF=>by rw[F,X] at ah;exact ce ah);have ai:∃F,(yC (aa.push (tQ "list" d.toList.toArray 0)) aa.objs.size d.toList ae).get? aa.objs.size=g {cls:=ak "list",data:=.seq ae F}:=by unfold yC;have aV:=Cc ag (λ_=>#[]);have aW:=mb (tQ "tuple" d.toList.toArray 0) aV;have aY:=mb (tQ "list" #[] 0) aW;exact⟨_,Cc aY (λ_=>ae)⟩
 refine aU ai λF ai=>tt aj aS M X ai (AP aM) Z
theorem Pg (U:N.handled=R) (t:a2 v p b k) (I:N.units+8<ek) (D:bQ p b.i k.heap eO dQ) (Z:zv kZ eO b an):i4 v N (gX (uo kZ) dQ) p b k an:=by
 by_cases E:kZ=oc
 ·subst E;refine bV λH=>?_;replace Z:=jh.eL Z;obtain⟨y,rfl,Z⟩:=Z;obtain⟨J,rfl,Q⟩:=D.eL;replace Z:=Z.x;obtain⟨y,rfl,a,Z⟩:=Z;replace Z:=Z.nP;refine ax Z λw M Z=>?_;replace Z:=gF Z;refine eT Z λd c T Z=>bl Q.o λm _=>?_;subst m;exact H (WX t U a M c T Z.fl)
 exact Jx E U t I D Z
abbrev fq:dM->Prop:=λ_=>bK
def cj (m:bZ) (D:b4) (k:jC) (p:hY) (H:r a4) (N:hn aX) (I:b0):Prop:=∀(b:cM) (a:K) (C:cc) (h:bu) (G:q->K->Prop),a2 m b a C->dg p H h b a.i C.heap->aM D I h a G->i4 m k N b a C G
inductive DC (m:bZ) (b:cM) (a:K) (C:cc) (G:q->K->Prop) (d:r aX) (E:cc):Prop
 |iM (W:cM) (c:K) (X:r q) (t:a2 m W c E) (h:cg fq b a C W c E) (D:bQ W c.i E.heap X d) (Z:G (S X) c)
def y5 (m:bZ) (D:b4) (k:jC) (p:hY) (H:r a4) (c:r (ci×hn aX)) (I:b0):Prop:=∀(b:cM) (a:K) (C:cc) (h:bu) (G:q->K->Prop),a2 m b a C->dg p H h b a.i C.heap->aM D I h a G->aG (bG MineH.b8 m) k (qP c) (DC m b a C G) gi C
noncomputable def ir:cG->ci
 |.Starred _ _=>true
 |_=>false
theorem ho.gn (Q:ho v p b k an aI l8) (d:cg fq cP aj cQ p b k):ho v cP aj cQ an aI l8:=Q.casesOn λX T M t i a Z=>⟨X,T,M,t,d.az i,a,Z⟩
theorem i4.gn (d:cg fq p b k cP aj cQ) (T:i4 v N hW cP aj cQ an):aG (bG MineH.b8 v) N hW (ho v p b k an) gi cQ:=dt T (λ_ _ Q=>Q.gn d) λ_ _ F=>F
theorem Bs (T:ir aY=false):kb (aY::bT) y=(false,bY aY y)::kb bT y:=by cases aY<;>first|rfl|exact kW T
theorem rk (M:∀F I,ft F=g I->ir F=false/\cj v l N y Y (bY F y) I):∀(w:r cG) (I:b0),jN ft w=g I->y5 v l N y Y (k9 bB (kb w y)) I:=by
 intro w;induction w with
 |nil=>intro I T;intro b a C h G t m Z;obtain rfl:=bm T;exact II ⟨b,a,[],t,.dO,.z,Z⟩
 |cons F w Q=>
  intro I T;intro b a C h G t m Z;refine bV λH=>ax (hz.mp T) λA k T=>ax (e7.mp T) λP p U=>?_;subst U;refine H<|c (Bs (M F A k).1)<|IH (dt ((M F A k).2 b a C h _ t m Z) (λJ aa k=>?_) λ_ _ F=>F)
  refine bV λH=>?_;obtain⟨D,q,ab,ae,o,af,d⟩:=k;refine H (dt (Q P p D q aa h _ ae (m.ez o) d) (λaj K p=>?_) λ_ _ F=>F);refine bV λH=>?_;obtain⟨ag,ah,X,E,i,ai,W⟩:=p;replace W:=W.S;refine ax W λX F W=>?_;cases F;exact H ⟨ag,ah,ab::X,E,o.az i,.n (af.a0 i.cn) ai,W⟩
theorem y5.eb {H:r aX->cc->Prop} (T:y5 v l N y Y j8 A) (t:a2 v p b k) (m:dg y Y h p b.i k.heap) (Z:aM l A h b λJ T=>ja J λX=>oo X T) (a:∀d E W c X,a2 v W c E->cg fq p b k W c E->bQ W c.i E.heap X d->oo X c->H d E):aG (bG MineH.b8 v) N (qP j8) H gi k:=dt (T p b k h _ t m Z) (λd E Q=>Q.casesOn λW c X o q D Z=>a d E W c X o q D Z) λ_ _ F=>F
theorem Rt (M:∀F A,ft F=g A->ir F=false/\cj v l N y Y (bY F y) A) {W} (T:jN ft bT=g A):cj v l N y Y (bY (pC bT W bB) y) (.S A):=by intro b a C h G t m Z;exact c (arm_eval_Tuple ..)<|wpAny_bind (kd (av ((rk M bT A T).eb t m Z λd P i q X w o D Z=>(XB w D Z.1 Z.2).gn o)))
theorem Rn (M:∀F A,ft F=g A->ir F=false/\cj v l N y Y (bY F y) A) (T:jN ft bT=g A):cj v l N y Y (bY (.List bT bB) y) (.V A):=by intro b a C h G t m Z;exact c (arm_eval_List ..)<|wpAny_bind (kd (av ((rk M bT A T).eb t m Z λd P i q X w o D Z=>(Td w D Z.1 Z.2.fl).gn o)))
noncomputable abbrev Fe (h:r (aX×aX)):r aX:=h.flatMap λQ=>[Q.1,Q.2]
def y4 (m:bZ) (D:b4) (k:jC) (p:hY) (H:r a4) (U:r (hn aX×hn aX)) (I:b0):Prop:=∀(b:cM) (a:K) (C:cc) (h:bu) (G:q->K->Prop),a2 m b a C->dg p H h b a.i C.heap->aM D I h a G->aG (bG MineH.b8 m) k (evalPairs U) (λc E=>DC m b a C G (Fe c) E) gi C
noncomputable abbrev EB (A:r (a6 cG)) (d:r cG) (a:qN) (p:hY):r (a6 (hn aX)×hn aX):=(evalEachOpt A p).zip ((evalEach d p).map λJ=>do let W<-J;sj a;pure W)
inductive JF (v:bZ) (l:b4) (N:jC) (y:hY) (Y:r a4) (a:qN) (A:r (a6 cG)) (d:r cG) (I:b0):Prop
 |iM (U:r (hn aX×hn aX)) (M:EB A d a y=U.map (λQ=>(g Q.1,Q.2))) (D:U.length=A.length) (T:y4 v l N y Y U I)
theorem Q7 {J:hn aX} {U:r (hn aX×hn aX)} (K:cj v l N y Y hW A) (Q:cj v l N y Y J aw) (t:y4 v l N y Y U dI):y4 v l N y Y ((hW,do let W<-J;sj bB;pure W)::U) (n A (n aw dI)):=by intro b a C h G aa m Z;refine evalPairs_cons (dt (K b a C h _ aa m Z) (λay P ab=>?_) λ_ _ F=>F);refine bV λH=>?_;obtain⟨D,q,W,w,o,ae,d⟩:=ab;refine H (av (dt (Q D q P h _ w (m.ez o) d) (λk af I=>av (kd (bz ?_))) λ_ _ F=>F));refine bV λH=>?_;obtain⟨X,T,ag,E,i,ah,ai⟩:=I;refine H (dt (t X T af h _ E (m.ez (o.az i)) ai) (λaA aB M=>?_) λ_ _ F=>F);refine bV λH=>?_;obtain⟨aj,ao,aq,au,p,ax,c⟩:=M;exact H ⟨aj,ao,W::ag::aq,au,(o.az i).az p,.n (ae.a0 (i.az p).cn) (.n (ah.a0 p.cn) ax),c⟩
theorem Q8 (M:∀F I,ft F=g I->ir F=false/\cj v l N y Y (bY F y) I):∀(A:r (a6 cG)) (d:r cG) (I:b0),wO ft A d=g I->JF v l N y Y bB A d I:=by
 intro A;induction A with
 |nil=>intro d I T;refine bl (mu T) λF T=>c (tL.mp F)<|bp (bm T)<|⟨[],rfl,rfl,λb a C h G t X Z=>evalPairs_nil ⟨b,a,[],t,.dO,.z,Z⟩⟩
 |cons i A o=>
  intro d I T
  refine bV λH=>?_
  cases d with
  |nil=>exact ce T
  |cons J d=>refine ax (hz.mp T) λi m T=>?_;subst m;refine ax (hz.mp T) λq k T=>ax (hz.mp T) λP p T=>ax (e7.mp T) λU w m=>?_;subst m;obtain⟨E,K,D,Q⟩:=o d U w;exact H ⟨(bY i y,do let W<-bY J y;sj bB;pure W)::E,by refine c (r8 ..) (bp K ?_);rfl,cS yv D,Q7 (M i q k).2 (M J P p).2 Q⟩
theorem Qd:∀{w:r (q×q)},(et C b2 w).length<=w.length+1:=by
 intro w;induction w with
 |nil=>exact bv _
 |cons N h t=>
  obtain⟨y,P⟩:=N;refine(?_:(if q.d6 y C=true then(y,b2)::h else(y,P)::et C b2 h).length<=_);split
  ·exact ge _
  exact tO t
theorem Gh (a:K) (y P:dY):(a.cK y).eM a.i P=a.cK P:=by
 unfold K.cK K.eM
 congr 1
 funext W
 by_cases T:W=a.i<;>simp[T]
inductive pS (p:cM) (a:e) (T:gf):r (q×q)->r (aX×aX)->Prop
 |z:pS p a T [] []
 |n {Y J:q} {m k:aX} {U:r (q×q)} {h:r (aX×aX)} (X:q.eK Y=true) (K:be p a T Y m) (Q:be p a T J k) (D:pS p a T U h):pS p a T ((Y,J)::U) ((m,k)::h)
theorem pS.a0 (b:fh p cP a d ae fP) {h:r (aX×aX)} (W:pS p a ae qw h):pS cP d fP qw h:=by
 induction W with
 |z=>exact .z
 |n X K Q _ t=>exact .n X (K.a0 b) (Q.a0 b) t
theorem Uy:∀{U:r (q×q)},tg eO=g U->U.length<=eO.length:=by
 induction eO using tg.induct with
 |case1=>exact λT=>bm T▸bv _
 |case2 Y=>exact λT=>ce T
 |case3 Y J h t=>intro c T;refine bV λH=>bl (mu T) λ_ T=>ax (e7.mp T) λb M m=>?_;subst m;refine H<|tO (Y5 (t M))
theorem Uz {h:r (aX×aX)}:∀{X:r q} {U:r (q×q)},bQ p a ae X (Fe h)->tg X=g U->pS p a ae U h:=by
 induction h with
 |nil=>intro X U D F;rw[AR D] at F;exact bm F▸.z
 |cons Q h t=>
  intro X U D F
  cases X with
  |nil=>cases D.o
  |cons Y X=>cases X with
   |nil=>cases D.o.2.o
   |cons J X=>refine bV λH=>bl (mu F) λc F=>ax (e7.mp F) λb M m=>?_;subst m;refine H<|.n c D.o.1 D.o.2.o.1 (t D.o.2.o.2 M)
theorem WB (I:N.units+3<ek) (l:p.b5 b.i=W) {H:PUnit->cc->Prop}:∀(h:r (aX×aX)) (U a:r (q×q)) (y:cc),pS p (b.i+1) y.heap U h->a.length+U.length<aa->a2 v p (b.cK (aT a)) y->(∀A,a2 v p (b.cK (aT (U.foldl (λw Q=>et Q.1 Q.2 w) a))) A->cg fq p (b.cK (aT a)) y p (b.cK (aT (U.foldl (λw Q=>et Q.1 Q.2 w) a))) A->H IE A)->aG (bG cd v) N (vN h IE λ(F:aX×aX) (_:PUnit)=>(do CD W F.1 F.2;pure (tD IE):hn (HZ PUnit))) H bs y:=by
 intro h;induction h with
 |nil=>intro U a y J;cases J;intro _ t M;exact c (YE ..)<|wpAny_pure (M y t .dO)
 |cons F h ae=>
  intro U a y J;cases J with|@n Y Z m k U _ X K af D=>?_
  intro T t M;rw[hm] at T;refine c (YD ..) ?_;have G:(b.cK (aT a)).c6 b.i=aT a:=aZ rfl;subst l;refine av (av (Hg (cl:=fq) t I (fp b.i) G X K af (E 1 (bX _ _) T) λP ab o=>bz ?_));rw[Gh] at ab o;have ag:=Qd (C:=Y) (b2:=Z) (w:=a);refine ae U (et Y Z a) P (D.a0 o.cn) (Ke T ag) ab λA d ah=>M A d (o.az ah)
theorem EC:fv v p a ae [] #[]:=⟨rfl,λb o=>by simp at o,kz⟩
theorem cg.e' (d:cg cl p b k cP aj cQ) (q:k.heap.get? W=R) (a:fh cP (cP.e' aj.i W cE) aj.i (aj.i+1) cQ.heap cQ.heap):cg cl p b k (cP.e' aj.i W cE) (aj.cK bN) cQ:=⟨d.cn.az a,λy U=>(cS iL (ay (iX (gy U d.cn.cq)))).trans (d.hs y U),λP E=>(show(cP.e' aj.i W cE).bw P=cP.bw P from ay λ(F:P=W)=>E (by exact c F<|q)).trans (d.bw P E),d.c',d.di,d.pb⟩
theorem TP (t:a2 v p b k) (Z:an (x b.i) (b.cK (aT []))):i4 v N newDict p b k an:=by unfold newDict;refine lG ?_;obtain⟨d,J⟩:=t.DY (cl:=fq) {cls:=ak "dict",data:=g' #[]} rfl (bN:=aT []) (uH (by exact c (km ..)<|uX _ _ _ _) _ _ _ (by exact c (km ..)<|gJ _ rfl) ⟨rfl,rfl,rfl⟩ rfl EC);refine⟨_,_,x b.i,d,J,?_,Z⟩;have T:=be.x (b:=p.e' b.i k.heap.objs.size 0) (C:=b.i+1) (T:=k.heap.push {cls:=ak "dict",data:=g' #[]}) b.i (fp _);rw[km] at T;exact T
theorem Rk (I:N.units+3<ek) (M:∀F A,ft F=g A->ir F=false/\cj v l N y Y (bY F y) A) {ae:r (a6 cG)} (K:ae.length<=15) (T:wO ft ae bT=g A):cj v l N y Y (bY (.Dict ae bT bB) y) (.aT A):=by
 refine bV λH=>?_;obtain⟨U,ay,D,X⟩:=Q8 (bB:=bB) M ae bT A T;refine H ?_;intro af a C h G ag m Z;refine c (arm_eval_Dict ..)<|wpAny_bind (kd ?_)
 by_cases aj:U=[]
 ·subst aj
  have k:ae=[]:=BL (by refine bp D ?_;rfl)
  subst k
  cases bT with
  |cons _ _=>exact ce T
  |nil=>obtain rfl:=bm T;refine bl Z λ_ Z=>TP ag (gG.fl Z)
 refine(?_:aG _ _ (dictDisplay (EB ae bT bB y)) _ _ C);refine c ay (c (dictDisplay_pairs U aj (ah (al 1 (t (ab D) K)) rfl)) ?_);unfold subDict;refine av (av (wpAny_alloc (av (f4 ?_))));refine l0 (t (ab D) K)<|bl (ag.mm (cl:=fq) {cls:=ak "dict",data:=g' #[]} rfl) λaA Q=>av (dt (X af a _ h _ aA (m.ez Q) Z) (λaB P aC=>?_) λ_ _ F=>F)
 refine bV λH=>?_;obtain⟨ai,q,aQ,w,o,aD,aE,d⟩:=aC;refine H ?_;replace d:=gF d;refine bV λH=>ax d λaF ao d=>?_;have aI:=Uy ao;have p:({C with heap:=C.heap.push {cls:=ak "dict",data:=g' #[]}}:cc).heap.get? C.heap.objs.size=g {cls:=ak "dict",data:=g' #[]}:=gJ _ rfl;have aq:af.bw C.heap.objs.size=c':=ag.di _ f8;have au:=o.c' _ _ p aq (λT=>T);have aL:ai.bw C.heap.objs.size=c':=(o.bw _ (f1 p)).trans aq;refine gq (w.xP (W:=C.heap.objs.size) (bN:=aT []) (f1 au) aL (uH (by exact c (km ..)<|uX _ _ _ _) _ _ _ (by exact c (km ..)<|au) ⟨rfl,rfl,rfl⟩ rfl EC)) λE aw _=>H ?_;have aM:cg fq af a C (ai.e' q.i C.heap.objs.size 0) (q.cK (aT [])) P:=(Q.az o).e' f8 aw;refine f4 (av (WB (b:=q) I (km _ _ _ _) aB aF [] P ((Uz aD ao).a0 aw) (by unfold aa;simp;exact ah (al 1 (t aI aE)) rfl) E λaO aP J=>bz (bz (bz ?_))));refine⟨_,_,x q.i,aP,aM.az J,?_,d.fl⟩;have T:=be.x (b:=ai.e' q.i C.heap.objs.size 0) (C:=q.i+1) (T:=aO.heap) q.i (fp _);rw[km] at T;exact T
inductive ws (m:bZ) (b:cM) (a:K) (C:cc) (G:ci->K->Prop) (P:ci) (E:cc):Prop
 |iM (W:cM) (c:K) (t:a2 m W c E) (d:cg fq b a C W c E) (Z:G P c)
theorem ws.gn (Q:ws v cP aj cQ kt bt l8) (d:cg fq p b k cP aj cQ):ws v p b k kt bt l8:=Q.casesOn λX T E i Z=>⟨X,T,E,d.az i,Z⟩
def gC (m:bZ) (D:b4) (k:jC) (p:hY) (H:r a4) (N:hn ci) (I:b0):Prop:=∀(b:cM) (a:K) (C:cc) (h:bu) (G:ci->K->Prop),a2 m b a C->dg p H h b a.i C.heap->aM D I h a (λJ T=>dj (fc J T) λP=>G P T)->aG (bG MineH.b8 m) k N (ws m b a C G) gi C
structure f7 (i:gW) (p:hY):Prop where
 hs:∀W Y,fb W i.names=g Y->p.kindOf W=g Y\/(Y=hA/\p.kindOf W=g hZ)
structure la (Q:e) (k:jC):Prop where
 nY:k.handled=R
 EE:k.depth+3*Q+3<=Jf
 ij:k.units+5*Q+14<ek
theorem Rj {U:Const} (T:Ev U=g C):cj v l N y Y (bY (Ci U a bB) y) (u C):=by
 intro b c i h G t m Z
 refine bV λH=>?_
 cases U with
 |none=>obtain rfl:=bm T;exact H (bz ⟨b,c,_,t,.dO,.bI,Z⟩)
 |bool P=>obtain rfl:=bm T;exact H (bz ⟨b,c,_,t,.dO,.aK _,Z⟩)
 |int d=>obtain rfl:=bm T;exact H (aak (lv t Z))
 |str d=>obtain rfl:=bm T;exact H (Calls.Constant_str (tv t Z))
 |_=>exact ce T
theorem E':cj v l N y Y (bY (qJ .USub (Ci (.int am) a bB) dF) y) (u (j (-am))):=by intro b c C h G t m Z;refine aal (aak (PySem.P.neg_int ?_));exact lv t Z
theorem Ru (d:dV ac "__debug__"=false) (i:dV ac "__classdict__"=false) (q:fE ac Y=g a) (K:y.kindOf ac=g .local\/n1 y ac):cj v l N y Y (bY (er ac bB) y) (f a):=by
 intro b k C o G t m Z;refine ax (gF Z) λJ Q Z=>?_;have M:(ac==("__debug__":a4))=false:=by rw[pa] at d;exact pH.mpr (gg d)
 have D:(ac==("__classdict__":a4))=false:=by rw[pa] at i;exact pH.mpr (gg i)
 exact sm (Tq m q K Q D λc h=>⟨b,k,J,t,.dO,h,Z⟩) M
theorem Ri (c:dV ac "__debug__"=false) (K:y.kindOf ac=g iY) (q:fb ac jR=g (lO C)):cj v l N y Y (bY (er ac bB) y) (u C):=by
 intro b a d h G t m Z;have M:(ac==("__debug__":a4))=false:=by rw[pa] at c;exact pH.mpr (gg c)
 exact sm (R8 t m K q λX I=>⟨b,a,C,t,.dO,I,Z⟩) M
theorem j2 (T:cj v l N y Y hW A):gC v l N y Y (do let J<-hW;sj bB;holding [J] (CN J)) A:=by intro b a C h G t m Z;refine av (dt (T b a C h _ t m Z) (λJ P H=>?_) λ_ _ F=>F);obtain⟨D,q,c,w,o,Q,d⟩:=H;refine ax (gF d) λi E d=>av (kd (f4 (vq w Q E λM=>⟨D,q,w.eS M,o.az (.eS M),d⟩)))
theorem Rq (T:cj v l N y Y (bY aY y) A):cj v l N y Y (bY (qJ .Not aY bB) y) (it A):=by intro b a C h G t m Z;refine aal (dt (T b a C h _ t m Z) (λJ P H=>?_) λ_ _ aY=>aY);obtain⟨D,q,c,w,o,Q,d⟩:=H;refine ax (gF d) λi E d=>not_of (vq w Q E λM=>⟨D,q,_,w.eS M,o.az (.eS M),.aK _,d⟩)
theorem XA (T:gC v l N y Y (h3 aY y (bY aY y)) A):gC v l N y Y (h3 (qJ .Not aY bB) y hW) (it A):=by intro b a C h G t m Z;refine wpAny_isTrue_Not (dt (T b a C h (λP T=>G (!P) T) t m ?_) (λJ i H=>H.casesOn λW c t d Z=>⟨W,c,t,d,Z⟩) λ_ _ aY=>aY);exact Z
theorem Rb (w:AU lB=g gU) (k:cj v l N y Y (bY aY y) A) (p:cj v l N y Y (bY dv y) aw):cj v l N y Y (bY (.BinOp aY lB dv bB) y) (bR gU A aw):=by
 intro b a C h G t m Z;refine c (Ub w)<|wpAny_BinOp (dt (k b a C h _ t m Z) (λM P H=>?_) λ_ _ F=>F)
 obtain⟨D,q,ab,aa,o,Q,d⟩:=H;refine dt (p D q P h _ aa (m.ez o) d) (λU K I=>?_) λ_ _ F=>F;obtain⟨X,T,ae,E,i,J,W⟩:=I;exact(Pi E (Q.a0 i.cn) J W).gn (o.az i)
theorem Rh (I:N.units+5<ek) (aa:I6 jz dv=false) (w:xG jz=g lA) (k:cj v l N y Y (bY aY y) A) (p:cj v l N y Y (bY dv y) aw):cj v l N y Y (bY (IJ aY [jz] [dv] bB) y) (aJ lA A aw):=by intro b a C h G t m Z;refine wpAny_Compare1 (dt (k b a C h _ t m Z) (λM P H=>?_) λ_ _ F=>F) aa;obtain⟨D,q,af,ab,o,Q,d⟩:=H;refine dt (p D q P h _ ab (m.ez o) d) (λU K ae=>?_) λ_ _ F=>F;obtain⟨X,T,ag,E,i,J,W⟩:=ae;exact c (Gr w)<|(Er E I (Q.a0 i.cn) J W).gn (o.az i)
theorem Xy (I:N.units+5<ek) (ab:I6 jz dv=false) (w:xG jz=g lA) (k:cj v l N y Y (bY aY y) A) (p:cj v l N y Y (bY dv y) aw):gC v l N y Y (h3 (IJ aY [jz] [dv] bB) y hW) (aJ lA A aw):=by
 intro b a C h G t m Z;refine wpAny_isTrue_Compare1 (dt (k b a C h _ t m Z) (λau P H=>?_) λ_ _ F=>F) ab;obtain⟨D,q,av,ae,o,Q,d⟩:=H;refine dt (p D q P h _ ae (m.ez o) d) (λay K af=>?_) λ_ _ F=>F;obtain⟨X,T,aA,E,i,J,W⟩:=af;refine c (Gr w)<|wpAny_mono ((Er E I (Q.a0 i.cn) J W).gn (o.az i)) (λaB aC ag=>?_) λ_ _ F=>F
 obtain⟨ah,ai,aD,U,aj,ao,aa⟩:=ag;refine ax (gF aa) λaE aq aa=>vq U ao aq λM=>⟨ah,ai,U.eS M,aj.az (.eS M),aa⟩
theorem Rm (i:gC v l N y Y (h3 aY y (bY aY y)) A) (U:cj v l N y Y (bY dv y) aw) (E:cj v l N y Y (bY k1 y) dI):cj v l N y Y (bY (IK aY dv k1 bB) y) (.bc A aw dI):=by
 intro b a C h G t m Z
 refine wpAny_IfExp (dt (i b a C h (λc T=>match c with|true=>aM l aw h T G|false=>aM l dI h T G) t m Z) (λc P H=>?_) λ_ _ F=>F)
 obtain⟨D,q,w,o,d⟩:=H
 cases c with
 |true=>exact(U D q P h G w (m.ez o) d).gn o
 |false=>exact(E D q P h G w (m.ez o) d).gn o
theorem gC.eb (T:gC v l N y Y tA A) (t:a2 v p b k) (m:dg y Y h p b.i k.heap) (Z:aM l A h b (λa T=>dj (fc a T) λP=>kt P T)) (q:∀P E W c,a2 v W c E->cg fq p b k W c E->dg y Y h W c.i E.heap->kt P c->fe P E):aG (bG MineH.b8 v) N tA fe gi k:=dt (T p b k h kt t m Z) (λP E Q=>Q.casesOn λW c d J o=>q P E W c d J (m.ez J) o) λ_ _ F=>F
theorem cj.eb (T:cj v l N y Y hW A) (t:a2 v p b k) (m:dg y Y h p b.i k.heap) (Z:aM l A h b an) (q:∀X E W c J,a2 v W c E->cg fq p b k W c E->dg y Y h W c.i E.heap->be W c.i E.heap J X->an J c->bs X E):aG (bG MineH.b8 v) N hW bs gi k:=dt (T p b k h an t m Z) (λP E Q=>Q.casesOn λW c J d a w o=>q P E W c J d a (m.ez a) w o) λ_ _ F=>F
theorem Xs:dj (fc C b) (λN=>(match N with|true=>bd|false=>dj (fc C b) λP=>kt P b))=dj (fc C b) λN=>(match N with|true=>bd|false=>kt false b):=by
 cases fc C b with
 |none=>rfl
 |some N=>cases N<;>rfl
theorem Xt:dj (fc C b) (λN=>(match N with|true=>dj (fc C b) λP=>kt P b|false=>bd))=dj (fc C b) λN=>(match N with|true=>kt true b|false=>bd):=by
 cases fc C b with
 |none=>rfl
 |some N=>cases N<;>rfl
theorem Rc {h:hn aX} {b:r (hn aX)} (K:cj v l N y Y hW A) (i:cj v l N y Y (I7 bB mP (h::b)) aw):cj v l N y Y (I7 bB mP (hW::h::b)) (uV mP A aw):=by
 intro E a C k G t m Z
 cases mP with
 |And=>
  refine(?_:aG _ _ (hW>>=_) _ _ C)
  refine av (K.eb t m Z λX P D q J w o H Q d=>?_)
  refine bV λc=>?_
  replace d:=gF d
  refine ax d λhW p d=>c (av (kd (av (f4 (vq w Q p λM=>?_)))))
  cases hW with
  |true=>exact(i D q _ k G (w.eS M) (H.ez (.eS M)) d).gn (o.az (.eS M))
  |false=>exact bz ⟨D,q,J,w.eS M,o.az (.eS M),Q,d⟩
 |Or=>
  refine(?_:aG _ _ (hW>>=_) _ _ C)
  refine av (K.eb t m Z λX P D q J w o H Q d=>?_)
  refine bV λc=>?_
  replace d:=gF d
  refine ax d λhW p d=>c (av (kd (av (f4 (vq w Q p λM=>?_)))))
  cases hW with
  |true=>exact bz ⟨D,q,J,w.eS M,o.az (.eS M),Q,d⟩
  |false=>exact(i D q _ k G (w.eS M) (H.ez (.eS M)) d).gn (o.az (.eS M))
theorem Rd (M:∀F I,ft F=g I->cj v l N y Y (bY F y) I):∀(w:r cG) (I:b0),wN ft (uV mP) w=g I->cj v l N y Y (I7 bB mP (evalEach w y)) I:=by
 intro w;induction w with
 |nil=>intro I T;exact ce T
 |cons F h t=>
  intro I T
  refine ax (hz.mp T) λa k T=>?_
  cases h with
  |nil=>refine bp (bm T) ?_;exact M F _ k
  |cons J w=>refine ax (e7.mp T) λP p m=>?_;exact bp m<|Rc (M F a k) (t P p)
theorem Xw (K:gC v l N y Y (h3 aY y (bY aY y)) A) (i:gC v l N y Y (I4 mP bT y) aw):gC v l N y Y (I4 mP (aY::bT) y) (uV mP A aw):=by
 intro b a C h G t m Z
 cases mP with
 |And=>
  refine av (K.eb (kt:=λc k=>match c with|true=>aM l aw h k (λJ T=>dj (fc J T) λaw=>G aw T)|false=>G false k) t m ((funext λ_=>funext λ_=>Xs)▸Z) λc P D q w o H d=>?_)
  cases c with
  |true=>exact dt (i D q _ h G w H d) (λaw p I=>I.gn o) λ_ _ aY=>aY
  |false=>exact bz ⟨D,q,w,o,d⟩
 |Or=>
  refine av (K.eb (kt:=λc k=>match c with|true=>G true k|false=>aM l aw h k (λJ T=>dj (fc J T) λaw=>G aw T)) t m ((funext λ_=>funext λ_=>Xt)▸Z) λc P D q w o H d=>?_)
  cases c with
  |true=>exact bz ⟨D,q,w,o,d⟩
  |false=>exact dt (i D q _ h G w H d) (λaw p I=>I.gn o) λ_ _ aY=>aY
theorem Xx (M:∀F I,ft F=g I->gC v l N y Y (h3 F y (bY F y)) I):∀(w:r cG) (I:b0),wN ft (uV mP) w=g I->gC v l N y Y (I4 mP w y) I:=by
 intro w;induction w with
 |nil=>intro I T;exact ce T
 |cons F h t=>
  intro I T
  refine ax (hz.mp T) λc k T=>?_
  cases h with
  |nil=>refine bp (bm T) ?_;intro b a C h G i m Z;refine av ((M F _ k).eb i m Z λP K D q A o H d=>?_);cases mP<;>cases P<;>exact bz ⟨D,q,A,o,d⟩
  |cons J w=>refine ax (e7.mp T) λP p E=>?_;exact bp E<|Xw (M F c k) (t P p)
noncomputable def s7 (F:cG):ci:=(zH F).any λQ=>Q.2.isEmpty&&dV Q.1 "super"
theorem D0 (T:s7 aY=false) (Y:aG gT N hW cC bs k):aG gT N (Z8 aY ac y hW) cC bs k:=by
 cases aY with
 |Call o C d a=>
  cases o with
  |Name b Q=>
   cases C with
   |nil=>
    cases d with
    |nil=>have T:dV b "super"=false:=T;rw[pa] at T;have h:(b !=("super":a4))=true:=yZ.mpr (gg T);exact l0 (c h rfl) Y
    |cons _ _=>exact Y
   |cons _ _=>exact Y
  |_=>exact Y
 |_=>exact Y
theorem T1:∀{X:r a4} {C Y:e},mD ac X C=g Y->∃w,Y=C+w/\X[w]? =g ac:=by
 intro X;induction X with
 |nil=>intro C Y T;exact ce T
 |cons A X t=>
  intro C Y T
  replace T:(match dV A ac with|true=>g C|false=>mD ac X (C+1))=g Y:=T
  cases F:dV A ac with
  |true=>rw[F] at T;exact a8 0 ((bm T).symm) (by refine c (kn.mp F) ?_;rfl)
  |false=>rw[F] at T;refine ax (t T) λw k p=>a8 (w+1) (k.trans (Nat.succ_add_eq_add_succ C w)) p
theorem wD (T:mD ac gD 0=g a):he a=ac/\a<gD.length:=by refine bV λH=>ax (T1 T) λw k p=>?_;obtain rfl:a=w:=k.trans (tP w);refine aU (co.mp p) λl v=>?_;refine H ?_;exact⟨by unfold he;refine c (tI ..) (c p ?_);rfl,l⟩
theorem Ra (h:s7 aY=false) (q:mD ac gD 0=g a) (T:cj v l N y Y (bY aY y) A):cj v l N y Y (bY (pB aY ac bB) y) (aH A a):=by
 intro b af C ag G t k Z;refine bl (wD q) λm K=>?_;refine bp m<|c (arm_eval_Attribute ..)<|wpAny_bind (D0 h (T.eb t k Z λX P D ah J w p ai Q d=>av (kd (av (f4 ?_)))))
 refine bV λH=>?_;replace d:=d.x;refine bV λH=>?_;obtain⟨aj,rfl,U,d⟩:=d;refine H ?_;replace d:=d.i';refine bV λH=>iI d λao aq W d=>H ?_;replace d:=gF d;refine ax d λJ q d=>bl Q.o λm _=>?_;subst m;refine H (dt (D3 (an:=G) w U W q d) (λX au I=>?_) λ_ _ aY=>aY);exact I.casesOn λF aa M E i ab ae=>av (aaq (bz ⟨F,aa,M,E,p.az i,ab,ae⟩))
theorem pT.a0 {b:aX->cc->Prop} (T:pT v N aI cR cC bs k) (Y:∀X E,cC X E->b X E):pT v N aI cR b bs k:=by exact T.elim λM T=>d7 M T.1 T.2.1 (dt T.2.2 (λX E Z=>Y X E Z) λ_ _ F=>F)
theorem Rl (I:N.units+5<ek) (k:cj v l N y Y (bY aY y) A) (p:cj v l N y Y (bY dv y) aw):cj v l N y Y (bY (tS aY dv bB) y) (as A aw):=by
 intro b a C h G t m Z;refine c (Z7 ..)<|wpAny_bind (k.eb t m Z λX P D q aa w o H Q d=>?_)
 refine av (f4 (p.eb w H d λab K ae T U E i af J W=>av (kd ?_)));refine Ht ((Sw E I (Q.a0 i.cn) J W).a0 λag F M=>?_);exact M.gn (o.az i)
theorem E8 (M:∀F A,ft F=g A->cj v l N y Y (bY F y) A) (T:us ft vK=g A):cj v l N y Y (valueOrNone (evalOpt vK y)) A:=by
 cases vK with
 |none=>refine bp (bm T) ?_;intro b a C h G t m Z;exact bz ⟨b,a,_,t,.dO,.bI,Z⟩
 |some F=>exact M F A T
theorem Rs (M:∀aY A,ft aY=g A->cj v l N y Y (bY aY y) A) {o:a6 cG} (k:cj v l N y Y (bY aY y) A) (aa:us ft vK=g aw) (ab:us ft o=g dI):cj v l N y Y (bY (tS aY (IL vK o R dF) bB) y) (j0 A aw dI):=by
 intro aj ao C aq G t m Z;refine c (Z7 ..)<|wpAny_bind (k.eb t m Z λX P D q au w ae H Q d=>?_)
 refine av (f4 ?_);refine c (arm_eval_Slice ..)<|wpAny_bind ((E8 M aa).eb w H d λb K ax T ay E i af J W=>?_)
 refine av (f4 ((E8 M ab).eb E af W λag F aA aB aC U p aD a ah=>?_));refine av (f4 (bz ?_));unfold newFields;refine lG (av (kd ?_));refine bl (U.mm (cl:=fq) {cls:=ak "slice",data:=ma [b,ag,bf].toArray} rfl) λai I=>Ht ((WN ai (((Q.a0 i.cn).a0 p.cn).a0 I.cn) ((J.a0 p.cn).a0 I.cn) (a.a0 I.cn) ?_ ah).a0 λaE aF h=>?_)
 ·exact d7 _ (gJ _ rfl) rfl rfl
 exact h.gn (((ae.az i).az p).az I)
theorem qh (T:∀F∈bT,ir F=false):(k9 bB (kb bT y)).any (·.1)=false:=by
 induction bT with
 |nil=>rfl
 |cons F bT t=>
  refine c (Bs (T F (fC _)))<|(?_:(false||_)=false)
  exact t λF K=>T F (hl _ K)
theorem uq (M:∀F I,ft F=g I->ir F=false):∀{w:r cG} {I:b0},jN ft w=g I->∀F∈w,ir F=false:=by
 intro w;induction w with
 |nil=>intro I T F K;exact em K
 |cons W w t=>intro I T F K;refine bV λH=>ax (hz.mp T) λy k T=>ax (e7.mp T) λP p _=>H<|(eZ.mp K).elim (λK=>K▸M _ _ k) λK=>t p F K
theorem w5 {H:Args->cc->Prop} (J:j8.any (·.1)=false) (T:aG gT N (qP j8) (λd E=>H ⟨d,[]⟩ E) bs k):aG gT N (evalArgs aI true j8 []) H bs k:=by
 cases j8 with
 |nil=>unfold evalArgs;refine(?_:aG gT N (qP []>>=_) H bs k);refine av (dt T (λd E a=>?_) λ_ _ W=>W);refine f4<|wpAny_bind (bz (av (bz (bz a))))
 |cons W A=>
  obtain⟨P,c⟩:=W;have b:P=false:=by rw[List.any_cons] at J;exact(BE.mp J).1
  subst b;exact Calls.evalArgs_plain T
theorem q' (J:j8.any (·.1)=false) (T:aG gT N (qP j8) (λd a=>aG gT N (gX (ak gw) d) cC bs a) bs k):aG gT N (tX bB (ak gw) [] j8 []) cC bs k:=ab8 J (w5 J T)
theorem sN (J:j8.any (·.1)=false) (T:aG gT N (qP j8) (λd a=>aG gT N (gX (bH gw) (dQ++d)) cC bs a) bs k):aG gT N (tX bB (bH gw) dQ j8 []) cC bs k:=Calls.callWith_builtin J (w5 J T)
theorem El (J:j8.any (·.1)=false) (T:aG gT N (qP j8) (λd a=>(a.heap.get? W=g cf/\cf.data=v4 g9)/\aG gT N (gX (O W) (dQ++d)) cC bs a) bs k):aG gT N (tX bB (O W) dQ j8 []) cC bs k:=Calls.callWith_function (w5 J T)
noncomputable def Ha:aX->aX->ci
 |bH y,J=>(match J with|bH P=>decide (y=P)|_=>false)
 |ak y,J=>(match J with|ak P=>decide (y=P)|_=>false)
 |_,_=>false
theorem Wx (T:Ha aI cR=true):aI=cR:=by
 cases aI with
 |builtin y=>cases cR<;>first|exact cS _ (dq T)|exact(fR T).elim
 |type y=>cases cR<;>first|exact cS _ (dq T)|exact(fR T).elim
 |_=>exact(fR T).elim
noncomputable def s5 (m:bZ) (W:a4) (J:aX):ci:=(mY (le m 0) W).any λX=>Ha X J
theorem Pf (m:bZ):(jR.all λQ=>match Q.2 with|lc P=>dV Q.1 "reversed"||(ne m 3 Q.1&&s5 m Q.1 (uo P))|_=>true)=true:=by kernel_rfl
theorem zw (m:bZ):(ne m 3 "range"&&s5 m "range" (ak "range")&&(ne m 3 "reversed"&&s5 m "reversed" (ak "reversed"))&&(ne m 3 "list"&&s5 m "list" (ak "list")))=true:=by kernel_rfl
theorem SI (T:s5 v ac aI=true):mY (le v 0) ac=g aI:=by refine ax ((Zj ..).mp T) λX F T=>F.trans (cS _ (Wx T))
theorem SA (m:bZ):([21,57,81,85,86,103].all λU=>match nW (1000+16*U) with|some P=>uN m (pZ U) "__init__" P|none=>false)=true:=by kernel_rfl
theorem wK (t:a2 v p b k) (m:dg y Y h p b.i k.heap) (K:y.kindOf ac=g iY) (T:(ne v 3 ac&&s5 v ac aI)=true) (Z:cC aI k):aG (bG cd v) N (si y ac) cC bs k:=by refine bl (dR.mp T) λa d=>xf t m K<|c (qc a)<|c (SI d)<|Z
theorem R6 (t:a2 v p b k) (m:dg y Y h p b.i k.heap) (K:y.kindOf ac=g iY) (a:dV ac "reversed"=false) (q:fb ac jR=g (lc kZ)) (Z:cC (uo kZ) k):aG (bG cd v) N (si y ac) cC bs k:=by have T:=f2.mp (Pf v) _ (xg q);exact wK t m K (by rw[a] at T;exact T) Z
theorem tb (T:fb ac jR≠R\/ac="range"\/ac="reversed"\/ac="list"):(ac==("__debug__":a4))=false:=by
 refine pH.mpr λF=>?_;subst F;refine bi T (λT=>?_) λm=>bi m (λT=>?_) λb=>bi b (λT=>?_) λT=>?_
 ·exact T (by kernel_rfl)
 all_goals exact absurd T (aQ rfl)
def lI (m:bZ) (Q:e) (D:b4):Prop:=∀(k:jC) (o:e) (P:dM) (X:r q) (d:r aX) (b:cM) (a:K) (C:cc) (G:q->K->Prop),k.handled=R->k.depth+3*Q+1<=Jf->k.units+5*Q+12<ek->nW o=g P->a2 m b a C->bQ b a.i C.heap X d->D o X a G->CB (bG MineH.b8 m) k (.call (O P) ⟨d,[]⟩) (λh E=>match h with|.ok (se J)=>ho m b a C G J E|_=>bK) C
theorem lI.lg (X:lI v a l) (m:la a N) (E:nW d=g W) (t:a2 v p b k) (D:bQ p b.i k.heap eO dQ) (Z:l d eO b an):i4 v N (gX (O W) dQ) p b k an:=by
 refine Jj (I' (X N d W eO dQ p b k an m.nY (ej (bX _ 2) m.EE) (py (py m.ij)) E t D Z) λh c T=>?_)
 cases h with
 |error F=>exact T
 |ok U=>cases U<;>exact T
theorem sW (W:a4) (Q a:qN) (C:r cG) (p:hY):bY (jp (er W Q) C [] a) p=(do
  tX a (<-bY (er W Q) p) [] (k9 a (kb C p)) []):=rfl
theorem Rf (X:lI v a l) (i:la a N) (M:∀F A,ft F=g A->ir F=false/\cj v l N y Y (bY F y) A) (K:y.kindOf ac=g iY) (q:fb ac jR=g (ct d)) (U:jN ft bT=g A):cj v l N y Y (bY (jp (er ac bB) bT [] dF) y) (bh d A):=by intro b W C h G t m Z;refine c (sW ..) ?_;have J:(k9 dF (kb bT y)).any (·.1)=false:=qh (uq (λF A T=>(M F A T).1) U);refine av (sm (R9 t m K q λP E=>?_) (tb (ap (by exact c q<|fK))));refine zY (t.w' E) λI H k _ _ p=>El (cf:=I) (g9:=H) J ((rk M bT A U).eb t m Z λaa ab ae af ag w o D Q=>⟨⟨(w.ew _ _ k).1,p⟩,(X.lg i E w D Q).gn o⟩)
theorem Re (m:la a N) (M:∀F A,ft F=g A->ir F=false/\cj v l N y Y (bY F y) A) (K:y.kindOf ac=g iY) (i:dV ac "reversed"=false) (q:fb ac jR=g (lc kZ)) (U:jN ft bT=g A):cj v l N y Y (bY (jp (er ac bB) bT [] dF) y) (cT kZ A):=by
 intro b p C h G t k Q;refine c (sW ..) ?_;have J:(k9 dF (kb bT y)).any (·.1)=false:=qh (uq (λF A T=>(M F A T).1) U);have I:=m.ij;refine av (sm (R6 t k K i q ?_) (tb (ap (by exact c q<|fK))));have Z:aG (bG MineH.b8 v) N (qP (k9 dF (kb bT y))) (λd P=>aG (bG MineH.b8 v) N (gX (uo kZ) d) (ho v b p C G) gi P) gi C:=(rk M bT A U).eb t k Q λd P aa ab X w o D W=>(Pg m.nY w (H 6 (E 15 (bX _ _) I)) D W).gn o;cases kZ
 ·exact sN (dQ:=[]) J Z
 ·exact q' J Z
 ·exact sN (dQ:=[]) J Z
 ·exact q' J Z
 ·exact sN (dQ:=[]) J Z
 ·exact q' J Z
 exact q' J Z
theorem Rv (I:cG) (W:a4) (b a:qN) (C:r cG) (p:hY):bY (jp (pB I W b) C [] a) p=(do
  let c<-Z8 I W p (bY I p)
  sj b.atName
  Jc I W b a p c (C.length+0) (k9 a (kb C p)) []):=rfl
theorem TD (T:∀F∈bT,ir F=false) (a:bT.length<20):aae (bT.length+0) (k9 bB (kb bT y)) []=true:=by
 unfold aae;have k:(k9 bB (kb bT y)).all (!·.1)=true:=by have:=qh (bB:=bB) (y:=y) T;rw[H9] at this;rw[f2];intro A h;simpa using this A h
 refine c (k ..) ?_;simp;exact ah a rfl
theorem xz (T:∀F∈bT,ir F=false) (i:bT.length<20) (D:bB.endLine=dF.line) (P:∀(a:hn ci) (b:aX×r aX->cc->Prop),b (cR,dQ) k->aG gT N (CG aI ac a) b bs k) (G:aG gT N (tX dF cR dQ (k9 dF (kb bT y)) []) cC bs k):aG gT N (Jc aY ac bB dF y aI (bT.length+0) (k9 dF (kb bT y)) []) cC bs k:=by
 have h:=TD (bB:=dF) (y:=y) T i;have d:aaf true aY y bB dF=pure dF:=by unfold aaf;simp[D]
 unfold Jc;refine c h<|wpAny_bind (f4 (P _ _ ?_))
 exact av (oD d G)
theorem WQ (T:a=61\/a=50):∃b,zl a b:=T.elim (λT=>⟨_,.WY T rfl⟩) λT=>⟨_,.Az T rfl⟩
theorem Pn (T:a=57\/a=58\/a=60):∃b,t9 0 a b:=T.elim (λT=>⟨_,.mn rfl T rfl⟩) λT=>T.elim (λT=>⟨_,.U0 rfl T rfl⟩) λT=>⟨_,.G rfl T rfl⟩
theorem Po (T:a=59\/a=58):∃b,t9 1 a b:=T.elim (λT=>⟨_,.c6 rfl T rfl⟩) λT=>⟨_,.Qq rfl T rfl⟩
theorem TF (m:bZ) (G:ll a=true) (q:d<gD.length) (T:iN a d=g w):∃P,nW w=g P:=by
 have K:=f2.mp (f2.mp (Gn m) a (oS G).2) d (mU.mpr (um▸q));rw[T] at K;dsimp only at K;split at K
 ·rename_i P F;exact⟨P,F⟩
 exact eY K
theorem Rg (aO:lI v a l) (aF:la a N) (aG:∀F aw,ft F=g aw->ir F=false/\cj v l N y Y (bY F y) aw) (aP:s7 aY=false) (aQ:mD ac gD 0=g d) (au:bT.length<20) (D:bB.endLine=dF.line) (aS:cj v l N y Y (bY aY y) A) (U:jN ft bT=g aw):cj v l N y Y (bY (jp (pB aY ac bB) bT [] dF) y) (b1 d A aw):=by
 intro a' bb C be G t aV Z
 refine bl (wD aQ) λm aI=>?_;refine bp m ?_
 have aq:=uq (λF aw aW=>(aG F aw aW).1) U
 have J:(k9 dF (kb bT y)).any (·.1)=false:=qh aq
 have I:=aF.ij
 refine c (Rv ..)<|wpAny_bind (D0 aP (aS.eb t aV Z λbg bk aZ a0 a3 w ax ay Q ao=>av (kd ?_)))
 have P:=rk (bB:=dF) aG bT aw U
 refine bV λaA=>bl ao λaa ao=>?_
 cases a3 with
 |bW bq=>refine aU (WQ aa) λaL ag=>aU Q.o λbr m=>?_;subst m;exact aA (xz aq au D (λaC b M=>R1 ag M) (sN J (P.eb w ay ao λaB K aD T X ah i ai W=>(W8 ag ah ai W).gn (ax.az i))))
 |x af=>
  refine bl Q.o λm ab=>?_;subst m
  replace aa:=aa.fl
  cases ae:a0.c6 af with
  |V a5=>rw[ae] at aa;refine bl aa λa7 aa=>aU (Pn aa) λaL ag=>aA (xz aq au D (λaC b M=>Fr w ab (ap a7) (by exact c ae<|ag) M) (sN J (P.eb w ay ao λaB K aD T X ah i ai W=>?_)));refine aU (F0 ((i.hs af ab).trans (by refine c ae ?_;rfl))) λaM aj=>?_;exact bp (i.cn.b5 af ab)<|(Tc ag ah (gy ab i.cn.cq) aj ai W).gn (ax.az i)
  |aT a5=>
   rw[ae] at aa;refine aU (Po aa) λaL ag=>aA (xz aq au D (λaC b M=>Fr w ab (ar (by exact c ae<|B4)) (by exact c ae<|ag) M) (sN J (P.eb w ay ao λaB K aD T X ah i ai W=>?_)));refine bp (i.cn.b5 af ab)<|bi (FZ ((i.hs af ab).trans (by refine c ae ?_;rfl))) (λm=>aU m λaM aj=>?_) λa8=>aU a8 λaM aj=>?_
   ·exact(Qm ag ah (H 9 (E 15 (bX _ _) I)) (gy ab i.cn.cq) aj ai W).gn (ax.az i)
   replace W:=W.fl;rw[aj] at W;exact W.elim
  |cw bt bu=>rw[ae] at aa;refine aU (yx.mp aa) λbw q=>?_;have h:=w.eU af ab;rw[ae] at h;refine aU (TF v h.2.2.1.1 aI q) λbx aE=>zY (w.w' aE) λaY a9 k _ _ p=>aA (xz aq au D (λaC b M=>R0 w ab ae aI q aE M) (El (cf:=aY) (g9:=a9) J (P.eb w ay ao λaB K aD T X ah i ai W=>⟨⟨(ah.ew _ _ k).1,p⟩,?_⟩)));refine aU (SX ((i.hs af ab).trans (by refine c ae ?_;rfl))) λbz aj=>?_;replace W:=W.fl;rw[aj] at W;replace W:=W.2;rw[q] at W;exact(aO.lg aF (dQ:=O (aZ.b5 af)::aB) (eO:=x af::X) aE ah (.n (by exact bp (i.cn.b5 af ab)<|.x af (gy ab i.cn.cq)) ai) W).gn (ax.az i)
  |ki aY=>rw[ae] at aa;exact aa.elim
 |_=>exact aa.elim
section
variable {dX:hX GenState} {wd:Drawn} {we:mX}
variable {Jv:r aX} {In:a6 ci} {IO:a6 dM} {Js Jt Ju:a6 aX}
noncomputable abbrev gu:d5:={cls:=ak "dict",data:=g' #[]}
noncomputable abbrev kO (D Y:dM):d5:={cls:=O D,dict:=g Y,data:=sc}
theorem XD (D:Z2 gw) {A:r aX} {b:dM} {H:Fin->cc->Prop} (l:ae.get? W=g (pF ac fu W cE dQ [ak "object"] true Y Jv false In IO ye BC Js Jt Ju gw)) (y:ae.Ns cE pr) (o:pr "__init__"=g (O b)) (k:ae.get? b=g cf) (P:cf.cls=ak "function") (J:aG (bG cd v) N (gX (O b) (O (ae.objs.size+1)::A)) (λh E=>h=bf/\H (.done (se (O (ae.objs.size+1)))) E) bs ⟨(ae.push gu).push (kO W ae.objs.size),dX,wd,a,we⟩):aG (bG cd v) N (Builtin.«type.__call__» ⟨O W::A,[]⟩) H bs ⟨ae,dX,wd,a,we⟩:=by
 have q:mroOf (ak "object")=pure [ak "object"]:=by kernel_rfl
 have d:sl (ak "object") "__init__"=pure (g (bH "object.__init__")):=by refine c (yU ..) (c (yJ ..) ?_);kernel_rfl
 repeat (first|with_reducible refine Jl l ?_|with_reducible refine wpAny_madeBy_exc l ?_|wp_step)
 refine codeAny_call_builtin_code (Zz _ D.quiet) (wpAny_check_obj_new D l ?_)
 refine codeAny_obj_new D l y o<|(?_:aG _ _ _ _ _ _)
 have p:=mb (kO W ae.objs.size) (mb gu l)
 have t:=mb (kO W ae.objs.size) (mb gu k)
 have C:((ae.push gu).push (kO W ae.objs.size)).Ns cE pr:=
  let⟨I,w,Q,F,h⟩:=y;⟨I,w,Q,mb _ (mb _ F),h⟩
 have G:((ae.push {cls:=ak "dict",data:=g' #[]}).push {cls:=O W,dict:=g ae.objs.size,data:=sc}).get? (ae.objs.size+1)=g {cls:=O W,dict:=g ae.objs.size,data:=sc}:=by heap_get
 have K:(O W::[ak "object"]).contains (O W)=true:=by simp
 unfold yN
 repeat (first|with_reducible refine Jl G ?_|(with_reducible refine wpAny_isSubtype_exc p ?_;refine c K ?_)|wp_step)
 refine(?_:aG _ _ (sl (O W) _) _ _ _)
 refine wpAny_typeLookup_exc p C q d<|c o<|wpAny_holding (av ?_)
 unfold bindSpecial
 refine av (yX (T:="function") (a8 _ t P) ?_)
 refine l0 (by decide)<|wpAny_pure (av (dt J (λh E i=>?_) λ_ _ U=>U))
 refine bl i λm M=>?_;refine c m ?_
 wp_walk
 exact M
theorem PB (D:Z2 gw) {A:r aX} {b:dM} (l:ae.get? W=g (pF ac fu W cE dQ [ak "object"] true Y Jv false In IO ye BC Js Jt Ju gw)) (y:ae.Ns cE pr) (o:pr "__init__"=g (O b)) (k:ae.get? b=g cf) (P:cf.cls=ak "function") (J:aG (bG cd v) (N.under (v3 "type.__call__" ⟨O W::A,[]⟩)) (gX (O b) (O (ae.objs.size+1)::A)) (λh E=>h=bf/\cC (O (ae.objs.size+1)) E) bs ⟨(ae.push gu).push (kO W ae.objs.size),dX,wd,a,we⟩):aG (bG cd v) N (gX (O W) A) cC bs ⟨ae,dX,wd,a,we⟩:=by
 have K:=tc_lookup;have i:=tc_bind (O W);have t:(⟨ae,dX,wd,a,we⟩:cc).TypeIs (O W) "type":=a8 _ l rfl;refine Jj (codeAny_of_tree ?_);refine(?_:aG _ _ (callAny (O W) _) _ _ _);repeat (any_goals (first|assumption|with_reducible refine Jl l ?_|wp_step))
 refine⟨rfl,?_⟩;refine codeAny_call_builtin_at (Zz _ (by decide+kernel)) entry_typeCall (wpAny_check_type_call_sub l (XD D l y o k P ?_));exact J
end
noncomputable def cM.cw (b:cM) (C:e) (W Q:dM):cM:={b5:=λy=>if y=C then W else b.b5 y,jy:=λy=>if y=C then Q else b.jy y,bw:=λP=>if P=W then eU C else if P=Q then nP C else b.bw P}
theorem a2.NU (t:a2 v p b k) (G:ll a=true):a2 v (p.cw b.i (k.heap.objs.size+1) k.heap.objs.size) (b.cK (cw a [])) {k with heap:=(k.heap.push gu).push (kO (g1 a) k.heap.objs.size)}/\cg fq p b k (p.cw b.i (k.heap.objs.size+1) k.heap.objs.size) (b.cK (cw a [])) {k with heap:=(k.heap.push gu).push (kO (g1 a) k.heap.objs.size)}:=by
 have h:kE k.heap ((k.heap.push gu).push (kO (g1 a) k.heap.objs.size)):=λP I F=>gO (gO F);refine bl (t.uD (cl:=fq) h k.toks) λw _=>?_;have m:k.heap.get? (k.heap.objs.size+1)=R:=Cn (ge _);have W:k.heap.get? k.heap.objs.size=R:=f8;have C:k.heap.objs.size+1≠k.heap.objs.size:=B8 _;have N:((k.heap.push gu).push (kO (g1 a) k.heap.objs.size)).get? (k.heap.objs.size+1)=g (kO (g1 a) k.heap.objs.size):=by have:((k.heap.push gu).push (kO (g1 a) k.heap.objs.size)).get? (k.heap.push gu).objs.size=g (kO (g1 a) k.heap.objs.size):=gJ _ rfl;rwa [Heap.size_push] at this
 have A:((k.heap.push gu).push (kO (g1 a) k.heap.objs.size)).get? k.heap.objs.size=g gu:=gO (gJ _ rfl);have o:∀P,P≠k.heap.objs.size+1->P≠k.heap.objs.size->(p.cw b.i (k.heap.objs.size+1) k.heap.objs.size).bw P=p.bw P:=λP X Z=>(ay X).trans (ay Z);have Q:∀P,k.heap.get? P≠R->(p.cw b.i (k.heap.objs.size+1) k.heap.objs.size).bw P=p.bw P:=λP T=>o P (λF=>T (by exact c F<|m)) λF=>T (by exact c F<|W);have H:∀P,p.bw P≠c'->(p.cw b.i (k.heap.objs.size+1) k.heap.objs.size).bw P=p.bw P:=λP T=>Q P (t.qe T);have d:fh p (p.cw b.i (k.heap.objs.size+1) k.heap.objs.size) b.i (b.i+1) k.heap ((k.heap.push gu).push (kO (g1 a) k.heap.objs.size)):=⟨ge _,λy U=>ay (iX U),λy T=>(H y (by refine c T ?_;simp)).trans T,λ_ _ T _=>h _ _ T⟩;refine⟨⟨eH _,λy U=>?_,λy I F=>⟨(w.ew y I F).1,(H y (by refine c ((w.ew y I F).2) ?_;simp)).trans (w.ew y I F).2⟩,λy F=>?_,t.lR⟩,d,λy U=>cS iL (ay (iX U)),Q,λ_ _ T _ _=>h _ _ T,λP T=>h.di T,rfl⟩
 ·by_cases T:y=b.i
  ·refine c T<|(?_:jJ v _ _ _ _ (if b.i=b.i then dY.cw a [] else _))
   refine c (aZ rfl) ?_;have D:(p.cw b.i (k.heap.objs.size+1) k.heap.objs.size).b5 b.i=k.heap.objs.size+1:=aZ rfl;have q:(p.cw b.i (k.heap.objs.size+1) k.heap.objs.size).jy b.i=k.heap.objs.size:=aZ rfl;refine⟨by exact c D<|if_pos rfl,by exact c q<|(ay C.symm).trans (aZ rfl),⟨G,λ_ _=>rfl⟩,by exact c D<|c q<|N,by exact c q<|d7 _ A rfl rfl,λ_=>R,by exact c q<|Heap.Ns1.of_empty ⟨_,#[],_,A,rfl,λF K=>absurd K (by simp),λ_=>rfl⟩,?_⟩;exact⟨λY J F=>by(exact ce F),λ_ _ _=>rfl,λ_ _=>rfl⟩
  have l:y<b.i:=by have:y<b.i+1:=U;exact qr (ep 1 this) T
  refine(?_:jJ v _ _ _ _ (if y=b.i then _ else b.c6 y));refine c (ay T)<|(t.eU y l).a0 d l (λP E=>ay (iX E)) λP E=>?_
  have M:p.bw P≠c':=by refine bi E (λT=>?_) λT=>?_<;>refine c T ?_<;>simp
  refine aU (nw.mp (t.qe M)) λI aa=>⟨H P M,by exact c aa<|h _ _ aa⟩
 have X:y≠k.heap.objs.size+1:=λT=>by subst T;exact absurd (N.symm.trans F) (fK)
 have Z:y≠k.heap.objs.size:=λT=>by subst T;exact absurd (A.symm.trans F) (fK)
 exact(o y X Z).trans (w.di y F)
theorem PD (J:j8.any (·.1)=false) (T:aG gT N (qP j8) (λd a=>a.heap.get? W=g (pF ac fu W cE [ak "object"] [ak "object"] true [] [] false R R R R ye BC (g (gz true)) "object.__new__")/\aG gT N (gX (O W) d) cC bs a) bs k):aG gT N (tX bB (O W) [] j8 []) cC bs k:=by
 unfold tX;refine av (f4 (w5 J (dt T (λy a Z=>av (kd ?_)) λ_ _ m=>m)));refine c J<|bV λH=>bl Z λl Z=>?_
 obtain⟨q,b,Q,M,p⟩:=a;refine H<|wpAny_bind (wpAny_keeperOf_exc l ?_);exact av (dt Z (λh o i=>av (f4 (wpAny_point (bz i)))) λ_ _ m=>m)
theorem Tz (X:lI v a l) (m:la a N) (G:ll d=true) (t:a2 v p b k) (D:bQ p b.i k.heap eO dQ) (Z:l (1000+16*d) (x b.i::eO) (b.cK (cw d [])) λaf ah=>s6 af (an (x b.i) ah)):i4 v N (gX (O (g1 d)) dQ) p b k an:=by
 refine bV λH=>rf (ut v G) λA aA aB aC ai=>H ?_;have I:=f2.mp (SA v) d (oS G).2;split at I;case h_2=>exact eY I
 rename_i P E;have T:=xq I;refine bV λH=>bl (t.NU G) λaj ag=>zY (t.w' E) λaD y _ K ao _=>?_;have aq:=(t.ew _ _ ai).1;have au:=t.wU G;obtain⟨J,aE,W,aF,aG⟩:=k;refine H<|PB PySem.F.objNew aq au T K ao ?_
 have h:=m.ij;have q:=m.EE;have Y:(v3 "type.__call__" ⟨O (g1 d)::dQ,[]⟩).weight<=1:=by
  first
   |exact px (show(v3 "type.__call__" ⟨O (g1 d)::dQ,[]⟩).weight=1 by rfl)
   |exact Nat.le_of_eq (show(Code.builtin "type.__call__" ⟨.ref (g1 d)::dQ,[]⟩).weight=1 by kernel_rfl)
   |exact Nat.le_trans (Nat.le_of_eq (show(Code.builtin "type.__call__" ⟨.ref (g1 d)::dQ,[]⟩).weight=0 by kernel_rfl)) (Nat.zero_le _)
 have av:(v3 "type.__call__" ⟨O (g1 d)::dQ,[]⟩).cUnits=1:=by first|rfl|kernel_rfl
 refine Jj (I' (X (N.under (v3 "type.__call__" ⟨O (g1 d)::dQ,[]⟩)) _ P (x b.i::eO) (O (J.objs.size+1)::dQ) _ _ _ _ m.nY (by refine(?_:N.depth+_+3*a+1<=_);exact Kg q Y) (by refine(?_:N.units+_+5*a+12<_);exact c av<|Kh h) E aj (.n ?_ (D.a0 ag.cn)) Z) λaw ax ab=>?_)
 ·have:=be.x (b:=p.cw b.i (J.objs.size+1) J.objs.size) (C:=b.i+1) (T:=(J.push gu).push (kO (g1 d) J.objs.size)) b.i (fp _);rwa [show(p.cw b.i (J.objs.size+1) J.objs.size).b5 b.i=J.objs.size+1 from aZ rfl] at this
 ·cases aw with
  |error aI=>exact ab
  |ok U=>
   cases U with
   |ret af=>refine bV λH=>bV λH=>?_;obtain⟨C,w,M,ay,ae,Q,aa⟩:=ab;refine H ?_;replace aa:=aa.u0;obtain⟨rfl,aa⟩:=aa;obtain rfl:=Q.o;refine H ⟨rfl,C,w,x b.i,ay,ag.az ae,?_,aa⟩;have:=be.x (b:=C) (C:=w.i) (T:=ax.heap) b.i (gy (fp b.i) ae.cn.cq);rwa [ae.cn.b5 b.i (fp _),show(p.cw b.i (J.objs.size+1) J.objs.size).b5 b.i=J.objs.size+1 from aZ rfl] at this
   |_=>exact ab.elim
theorem Rp (X:lI v a l) (k:la a N) (M:∀F A,ft F=g A->ir F=false/\cj v l N y Y (bY F y) A) (K:y.kindOf ac=g iY) (q:fb ac jR=g (m5 d)) (U:jN ft bT=g A):cj v l N y Y (bY (jp (er ac bB) bT [] dF) y) (.cK d A):=by intro b aa C h ab t m Z;refine bl Z λG Z=>c (sW ..) ?_;have J:(k9 dF (kb bT y)).any (·.1)=false:=qh (uq (λF A T=>(M F A T).1) U);refine av (sm (R7 t m K q λ_=>?_) (tb (ap (by exact c q<|fK))));refine bV λH=>rf (ut v G) λp o E i I=>H<|PD (cE:=pZ d) (ac:=p) (fu:=o) (ye:=E) (BC:=i) J ((rk M bT A U).eb t m Z λae P af ag ah w Q D W=>⟨(w.ew _ _ I).1,(Tz X k G w D (gG.fl W)).gn Q⟩)
theorem SP (m:hQ p a k.heap W ol) (Z:cC (O W) k):aG (bG cd v) N (yP (O W)) cC bs k:=by
 cases m with
 |f3 _ _ T=>exact wpAny_pyIter_listiter T Z
 |fr _ _ T=>exact aau T Z
 |dk _ _ T _=>exact wpAny_pyIter_rangeiter T Z
 |S _ _ _ _ _ _ T=>exact wpAny_pyIter_tupleiter T Z
 |kI _ _ _ _ _ _ T=>exact wpAny_pyIter_keyiter T Z
inductive DD (v:bZ) (p:cM) (b:K) (cQ:cc) (E:lK) (G:ha->K->Prop) (X:aX) (k:cc):Prop
 |iM (W:cM) (c:K) (J:q) (t:a2 v W c k) (d:cg fq p b cQ W c k) (h:uh W c.i k.heap c E J X) (a:E=fr->∀Q,X=O Q->cQ.heap.get? Q=R) (Z:g4 E J c G)
inductive MQ (v:bZ) (p:cM) (b:K) (cQ:cc) (an:q->K->Prop) (X:aX) (k:cc):Prop
 |iM (W:cM) (c:K) (J:q) (t:a2 v W c k) (d:cg fq p b cQ W c k) (h:uh W c.i k.heap c dk J X) (Z:an J c)
def qU (m:bZ) (D:b4) (k:jC) (p:hY) (H:r a4) (N:hn aX) (E:lK) (I:b0):Prop:=∀(b:cM) (a:K) (C:cc) (h:bu) (G:ha->K->Prop),a2 m b a C->dg p H h b a.i C.heap->aM D I h a (λJ T=>g4 E J T G)->aG (bG MineH.b8 m) k N (DD m b a C E G) gi C
theorem Q9 (T:cj v l N y Y hW A):qU v l N y Y hW dC A:=by intro b a C h G t m Z;exact dt (T b a C h _ t m Z) (λX P H=>H.casesOn λD q J w o Q d=>⟨D,q,J,w,o,Q,(λT=>nomatch T),d⟩) λ_ _ F=>F
theorem Vr (D:bQ p a ae eO dQ) (k:∀P N,eO=[j P]->dQ=[aN P N]->bd) (b:∀y P N h,eO=[j y,j P]->dQ=[aN y N,aN P h]->bd) (Z:(∃P,eO=[j P])\/∃y P,eO=[j y,j P]):bd:=by
 rcases Z with⟨P,rfl⟩|⟨y,P,rfl⟩
 ·refine ax D.eL λJ m Q=>?_;subst m;refine aU Q.o λN m=>?_;subst m;exact k P N rfl rfl
 refine fF D.og λJ X m Q I=>?_;subst m;refine aU Q.o λN m=>?_;subst m;refine aU I.o λh m=>?_;subst m;exact b y P N h rfl rfl
theorem Vs (t:a2 v p b k) (c:bQ p b.i k.heap eO dQ) (Z:(∃P,eO=[j P])\/∃y P,eO=[j y,j P]) (Y:∀E X,a2 v p b E->cg fq p b k p b E->uh p b.i E.heap b dk (S eO) X->cC X E):aG (bG cd v) N (gX (ak "range") dQ) cC bs k:=by
 refine Vr c (λP a M D=>?_) (λy P a h M D=>?_) Z
 ·subst M D;refine call_range_1<|bl (t.mm (cl:=fq) {cls:=ak "range",data:=ma #[aN 0 k.toks,aN P a,aN 1 (k.toks+1)]} rfl) λw o=>Y _ _ (w.eS _) (o.az (.eS _)) (s3 0 P _ _ _ _ rfl (gJ _ rfl) (t.di _ f8) (ar ⟨rfl,rfl⟩))
 subst M D;refine call_range_2<|bl (t.mm (cl:=fq) {cls:=ak "range",data:=ma #[aN y a,aN P h,aN 1 k.toks]} rfl) λw o=>Y _ _ (w.eS _) (o.az (.eS _)) (s3 y P _ _ _ _ rfl (gJ _ rfl) (t.di _ f8) (ap rfl))
theorem Vv (Z:g4 dk C b qs):∃X,C=S X/\((∃P,X=[j P])\/∃y P,X=[j y,j P]):=by
 replace Z:=ja.S Z
 obtain⟨X,rfl,Z⟩:=Z
 refine a8 X rfl ?_
 cases X with
 |nil=>exact Z.elim
 |cons y h=>
  obtain⟨y,rfl,Z⟩:=hr.j Z
  cases h with
  |nil=>exact ap ⟨y,rfl⟩
  |cons P h=>refine bl (oh.z Z) λm Z=>?_;refine c m<|ax (hr.j Z) λP m _=>?_;exact c m<|ar (js y P rfl)
theorem E9 (M:∀F A,ft F=g A->ir F=false/\cj v l N y Y (bY F y) A) {G:ha->K->Prop} (I:y.kindOf "range"=g iY) (U:jN ft bT=g A) (t:a2 v p b k) (m:dg y Y h p b.i k.heap) (Z:aM l A h b an) (Q:∀J T,an J T->∃X,J=S X/\((∃P,X=[j P])\/∃W P,X=[j W,j P])):aG (bG MineH.b8 v) N (bY (jp (er "range" bB) bT [] dF) y) (MQ v p b k an) gi k:=by refine c (sW ..) ?_;have aa:(k9 dF (kb bT y)).any (·.1)=false:=qh (uq (λF A T=>(M F A T).1) U);have E:=zw v;have E:=dR.mp E;have C:=dR.mp E.1;refine av (sm (wK t m I C.1 ?_) (tb (ar (ap rfl))));refine q' aa (dt (rk M bT A U p b k h _ t m Z) (λah ai H=>?_) λ_ _ F=>F);obtain⟨D,q,X,w,o,ab,d⟩:=H;refine ax (Q _ _ d) λaj F a=>?_;cases F;exact Vs w ab a λao aq ae af ag=>⟨D,q,_,ae,o.az af,ag,d⟩
theorem Rr (F:ir aY=false) (K:cj v l N y Y (bY aY y) A) (ab:y.kindOf "reversed"=g iY) (t:a2 v p b k) (m:dg y Y h p b.i k.heap) (Z:aM l A h b (λJ T=>g4 fr J T qs)):aG (bG MineH.b8 v) N (bY (jp (er "reversed" bB) [aY] [] dF) y) (DD v p b k fr qs) gi k:=by
 refine c (sW ..) ?_
 have ae:(k9 dF (kb [aY] y)).any (·.1)=false:=qh (λaw q=>by cases q with|head=>exact F|tail _ T=>exact em T)
 have E:=zw v
 have E:=dR.mp E
 have C:=dR.mp E.1
 refine av (sm (wK t m ab C.2 ?_) (tb (ar (ar (ap rfl)))))
 refine q' ae<|c (Bs F)<|IH (K.eb t m Z λay P D af J w a _ Q d=>II ?_)
 refine bV λH=>?_
 have W:=lm.x d
 obtain⟨M,rfl,U,W⟩:=W
 replace W:=W.f3
 refine ax W λX aa _=>bl Q.o λag _=>?_;subst ag
 refine ax (w.lV U aa) λG ah ai=>H (call_reversed_list ah ?_)
 refine bl (w.mm (cl:=fq) (revObj (D.b5 M) ((G.size:B)- 1)) rfl) λaj ao=>⟨D,af,_,aj,a.az ao,⟨M,X,_,rfl,aa,rfl,.fr (w.di _ f8) U (d7 _ (gJ _ rfl) rfl (by refine bp (ai.fW ..) ?_;rfl))⟩,λ_ aA aq=>?_,d⟩
 cases aq
 cases au:k.heap.get? P.heap.objs.size with
 |none=>rfl
 |some I=>exact absurd f8 (a.di _ (f1 au))
theorem f7.p4 (d:f7 b' y) (T:fb ac b'.names=g iY):y.kindOf ac=g iY:=by refine bi (d.hs ac _ T) (λT=>T) λm=>bl m λT _=>?_;cases T
theorem zI (T:q9 ac b' aY=g bT):(∃Q Z,aY=jp (er ac Q) bT [] Z)/\fb ac b'.names=g iY:=by refine ax (hz.mp T) λQ k p=>bl (mu p) λE p=>bl (dR.mp E) λC a=>g3 (PA _ k) λZ h K=>⟨(js Z h (by exact c K (c (kn.mp C) (c (bm p) rfl)))),dq a⟩
theorem z' (d:f7 b' y) (M:∀aY A,ft aY=g A->ir aY=false/\cj v l N y Y (bY aY y) A) (T:sK ft b' aY=g (hM,A)):qU v l N y Y (bY aY y) hM A:=by
 unfold sK at T
 cases k:q9 "range" b' aY with
 |some I=>rw[k] at T;refine ax (e7.mp T) λQ U aY=>?_;cases aY;refine bl (zI k) λm q=>g3 m λ_ _ b=>?_;refine c b ?_;intro W a C h G t F Z;exact dt (E9 (G:=G) M (d.p4 q) U t F Z λJ T K=>Vv K) (λX ae H=>H.casesOn λD aa J w o i ab=>⟨D,aa,J,w,o,i,(λT=>nomatch T),ab⟩) λ_ _ aY=>aY
 |none=>
  rw[k] at T
  cases p:q9 "reversed" b' aY with
  |some I=>
   rw[p] at T;refine ax (hz.mp T) λQ U T=>ax (e7.mp T) λP E aY=>?_;cases aY;refine bl (zI p) λm q=>g3 m λ_ _ b=>?_;refine c b<|c (rJ _ U) ?_
   intro W a C h G t F Z;exact Rr (M _ _ E).1 (M _ _ E).2 (d.p4 q) t F Z
  |none=>rw[p] at T;refine ax (e7.mp T) λP E aY=>?_;cases aY;exact Q9 (M _ _ E).2
theorem Vu (P:ItemsOf (λv J=>∃N,J=aN (am+v*bx) N) cB d):bQ p a ae ((eQ d).map λ(v:e)=>q.j (am+v*bx)) cB.toList:=by
 have i:∀(H:r B) (X:r aX),X.length=H.length->(∀(w:e) (J:aX),X[w]? =g J->∃v N,H[w]? =g v/\J=aN v N)->bQ p a ae (H.map q.j) X:=λH X k b=>AP (Gd k b);have:=i ((eQ d).map λ(v:e)=>am+v*bx) cB.toList (by simp[P.1]) λw J Q=>by
  rw[r4] at Q;refine aU (P.2 w J Q) λN m=>?_;refine c m ?_;have W:w<d:=by exact bp (P.1 ..)<|(yh.mp Q).1
  exact mx _ N (by refine c (dp ..) (c (BO W) ?_);rfl) rfl
 rwa [l'] at this
theorem Tu (Z:ja C λX=>AL X b an):∃X,C=S X/\((∃P,X=[j P])\/∃y P,X=[j y,j P]):=by
 replace Z:=ja.S Z
 obtain⟨X,rfl,Z⟩:=Z
 refine a8 X rfl ?_
 cases X with
 |nil=>exact Z.elim
 |cons y h=>
  obtain⟨y,rfl,Z⟩:=hr.j Z
  cases h with
  |nil=>exact ap ⟨y,rfl⟩
  |cons P h=>refine bl (oh.z Z) λm Z=>?_;refine c m<|ax (hr.j Z) λP m _=>?_;exact c m<|ar (js y P rfl)
theorem Tv (Q:C=S [j am,j bx]\/(am=0/\C=S [j bx])) (Z:ja C λX=>AL X b an):(0<=am/\am<2^40/\ -(2^40)<bx/\bx<aa)/\gG b (V ((eQ (bx- am).toNat).map λ(v:e)=>q.j (am+v*1))) an:=by
 rcases Q with rfl|⟨rfl,rfl⟩
 ·refine rd Z λK b p l Z=>⟨(iq K b p l),by simpa using Z⟩
 refine gq Z λp l Z=>⟨(iq (aQ rfl) (aQ rfl) p l),by simpa using Z⟩
theorem Tt (K:0<=am) (k:am<2^40) (p: -(2^40)<bx) (l:bx<aa):acx am bx 1=true/\acw am bx 1=(bx- am).toNat/\(bx- am).toNat<=2^24:=by have l:bx<1048576:=l;refine ch (small_one (r5 (aQ rfl) K) (Au k) (At p) (tE l (aQ rfl))) ?_ (Int.toNat_le.mpr (r5 (H5 bx K) (vP (tE l (aQ rfl)))));refine c (aag ..)<|if T:am<bx then c (aZ T) (H7 (BI.mpr (vP T))).symm else c (ay T) (cS k8 (Int.toNat_eq_zero.mpr (Ys (yj.mp T)))).symm
theorem Ro (af:la a N) (ab:f7 b' y) (M:∀F A,ft F=g A->ir F=false/\cj v l N y Y (bY F y) A) {aa:qN} (K:fb "list" b'.names=g iY) (ag:fb "range" b'.names=g iY) (U:jN ft bT=g A):cj v l N y Y (bY (jp (er "list" bB) [jp (er "range" r1) bT [] aa] [] dF) y) (rD A):=by
 intro ay az aA aB G t ae Z;refine c (sW ..) ?_;have J:(k9 dF (kb [jp (er "range" r1) bT [] aa] y)).any (·.1)=false:=qh (λW q=>by cases q with|head=>rfl|tail _ T=>exact em T);have E:=zw v;have E:=dR.mp E;refine av (sm (wK t ae (ab.p4 K) E.2 ?_) (tb (ar (ar (ar rfl)))));refine q' J<|IH (dt (E9 (G:=λ_ _=>sp) M (ab.p4 ag) U t ae Z λah T K=>Tu K) (λX aC H=>II ?_) λ_ _ F=>F)
 refine bV λai=>?_;obtain⟨D,aD,ah,w,o,h,d⟩:=H;refine rg h λW aE aF I aG bB m i _ Q=>?_;subst m;refine bl (Tv Q d) λm d=>oX m λaj k p ao=>gq (Tt aj k p ao) λaq b au=>ai (call_list_range af.nY i aq b au λaI aw aL aM C ax P=>(tt w C aw f8 ax (Vu P) d.fl).gn o)
theorem PE (T:y.cells.lookup ac=g W):CA y ac=pure W:=by unfold CA;exact c T rfl
theorem PP (o:a4×qM->r (a4×dM)->hn (HZ (r (a4×dM)))) (M:∀a h i,o (a,h) i=if h==hA then(do let w<-CA y a;pure (tD ((a,w)::i))) else pure (tD i)):∀(b:r (a4×qM)) (d:r (a4×dM)),(∀W,(W,hA)∈b->∃U,y.cells.lookup W=g U)->∃I,vN b d o=pure I/\(∀W U,I.lookup W=g U->d.lookup W=g U\/y.cells.lookup W=g U)/\(∀W,((W,hA)∈b\/∃U,d.lookup W=g U)->∃U,I.lookup W=g U):=by
 intro b;induction b with
 |nil=>intro d _;exact d7 d (by rw[YE]) (λW U T=>ap T) (λW T=>by refine bi T (λT=>?_) λT=>?_;{exact em T};{exact T})
 |cons N A t=>
  obtain⟨a,h⟩:=N;intro d T;rw[YD,M];by_cases K:h=hA
  ·subst K;refine bV λH=>aU (T a (fC _)) λU G=>eT (t ((a,U)::d) λW q=>T W (hl _ q)) λI k p l=>H<|d7 I ?_ (λW v q=>?_) (λW q=>l W ?_)
   ·simp only[wb,wc,PE G,pure_bind];exact k
   ·refine bi (p W v q) (λT=>?_) λT=>ar T
    ·rw[mS] at T
     cases E:W==a with
     |true=>rw[E] at T;refine bp (bm T) ?_;rw[vR E];exact ar G
     |false=>rw[E] at T;exact ap T
   refine bi q (λq=>?_) λm=>aU m λv q=>?_
   ·cases q with
    |head=>exact ar ⟨U,by rw[mS,wb]⟩
    |tail _ q=>exact ap q
   ·refine ar ?_
    rw[mS]
    cases E:W==a with
    |true=>exact⟨U,rfl⟩
    |false=>exact⟨v,q⟩
  have c:(h==hA)=false:=pH.mpr K;refine bV λH=>eT (t d λW q=>T W (hl _ q)) λI k p l=>H<|d7 I ?_ p (λW q=>l W ?_)
  ·simp only[c,HT,t3,pure_bind];exact k
  refine bi q (λq=>?_) λq=>ar q
  ·cases q with
   |head=>exact absurd rfl K
   |tail _ q=>exact ap q
theorem PQ (T:∀W,(W,hA)∈b'.names->∃U,y.cells.lookup W=g U):∃I,closureFor b' y=pure I/\(∀W U,I.lookup W=g U->y.cells.lookup W=g U)/\(∀W,(W,hA)∈b'.names->∃U,I.lookup W=g U):=by
 refine bV λH=>eT (PP (y:=y) (λW b=>match W with|(a,h)=>if(h==hA)=true then(do let d<-CA y a;pure (tD ((a,d)::b))) else pure (tD b)) (λa h i=>rfl) b'.names [] T) λI k p l=>?_;refine H<|d7 I ?_ (λW U q=>by refine bi (p W U q) (λT=>?_) λT=>?_;{exact ce T};{exact T}) (λW q=>l W (ap q))
 show(vN b'.names [] _>>=λb=>pure b)=pure I;refine c k ?_;rfl
theorem Tr:∀{b:r (a4×qM)},(b.map λ(C,Y)=>if(Y==hA&&y.scope.kind==pD&&y.kindOf C==g hZ) then(C,hZ) else(C,Y)).lookup ac=(b.lookup ac).map λY=>if(Y==hA&&y.scope.kind==pD&&y.kindOf ac==g hZ) then hZ else Y:=by
 intro b;induction b with
 |nil=>rfl
 |cons a A t=>
  obtain⟨C,Y⟩:=a
  refine c (r8 ..) ?_
  show YM ac ((if _ then(C,hZ) else(C,Y))::_)=_
  cases q:ac==C with
  |true=>refine c (vR q) ?_;dsimp only[mS,wb];split<;>simp_all [mS]
  |false=>simp only[mS,q];split<;>simp only[mS,q]<;>exact t
theorem xs:(oy b' k5 W y).kindOf ac=(b'.names.lookup ac).map λY=>if(Y==hA&&y.scope.kind==pD&&y.kindOf ac==g hZ) then hZ else Y:=Tr
theorem Hb:f7 b' (oy b' k5 W y):=by
 refine⟨λa Y T=>?_⟩;rw[rI] at T;refine c (xs ..) (c T ?_);dsimp only[yy];split
 ·rename_i G;simp only[ps,t1] at G;exact ar ⟨G.1.1,rfl⟩
 exact ap rfl
structure pK (dP b':gW) (Y:r a4) (A:a4):Prop where
 hs:b'.kind=pD
 uT:∀W,(W,NameKind.local)∈b'.names->b'.names.lookup W=g .local/\(W=A\/fE W Y=R)
 c':∀W,(W,hA)∈b'.names->fb W dP.names=g hZ\/fb W dP.names=g hA
 Gk:∀W∈b'.names,W.2≠hZ
theorem P1 (T:Es b' dP Y ac=true):pK b' dP Y ac:=by
 refine bl (dR.mp T) λk p=>?_;have p:∀W a,(W,a)∈dP.names->Ep b' dP Y ac W a=true:=λW a q=>f2.mp p (W,a) q;refine⟨dq k,λW q=>?_,λW q=>(BG.mp (p W _ q)).imp dq dq,λW q F=>?_⟩
 ·refine bl (dR.mp (p W _ q)) λy P=>⟨rI.symm.trans (dq y),(BG.mp P).imp kn.mp yw.mp⟩
 have:=p W.1 W.2 q;rw[F] at this;exact fR this
theorem qa:∀{X:r (a4×eG)} {W:a4} {Y:eG},X.lookup W=g Y->(W,Y)∈X:=by
 intro X;induction X with
 |nil=>intro W Y T;exact ce T
 |cons a X t=>
  intro W Y T
  obtain⟨C,J⟩:=a
  rw[mS] at T
  cases E:W==C with
  |true=>rw[E] at T;refine c (bm T) ?_;exact c (vR E)<|fC _
  |false=>rw[E] at T;exact hl _ (t T)
theorem P9:∀{H:r a4} {Y:e},fE ac H=g Y->Y<H.length:=by
 intro H;induction H with
 |nil=>intro Y T;exact ce T
 |cons A X t=>
  intro Y T
  replace T:(bif dV A ac then g X.length else fE ac X)=g Y:=T
  cases F:dV A ac with
  |true=>rw[F] at T;exact bm T▸fp _
  |false=>rw[F] at T;exact Is (t T)
theorem Ey (T:ac≠fu):fE ac (fu::Y)=fE ac Y:=by
 refine(?_:(bif dV fu ac then g Y.length else fE ac Y)=_);have:dV fu ac=false:=by refine c (pa ..) ?_;exact jE λF=>T F.symm
 exact c (this ..) rfl
theorem zP:fE ac (ac::Y)=g Y.length:=by exact(c (kn.mpr rfl) rfl:(bif dV ac ac then g Y.length else fE ac Y)=_)
theorem dg.AI (m:dg y Y h p a k.heap):k.heap.get? y.locals≠R:=by refine ax m.qd λM N _=>?_;exact Ns.di N
theorem dg.AH (m:dg y Y h p a k.heap) (T:y.cells.lookup ac=g W):k.heap.get? W≠R:=by refine oY (m.oR ac W T) λ_ _ J l=>?_;exact IsCell.di l
theorem Fj (d:f7 b' y) (X:pK b' dP Y ac) (T:(fu,hA)∈dP.names):n1 y fu:=by
 refine bi (X.c' fu T) (λF=>?_) λF=>?_
 ·refine bi (d.hs fu _ F) (λT=>ap T) λm=>bl m λT _=>?_;cases T
 exact bi (d.hs fu _ F) (λT=>ar T) λm=>bl m λ_ T=>ap T
theorem QX (d:f7 b' y) (X:pK b' dP Y ac) (m:dg y Y h p a k.heap) (A:∀t U,k5.lookup t=g U->y.cells.lookup t=g U) (l:∀t,(t,hA)∈dP.names->∃U,k5.lookup t=g U) (i:∀w,w≠Y.length->jj w=h w) (Z:jj Y.length=R) (P:p.bw W=c') (C:∀t U,y.cells.lookup t=g U->U≠W) (D:k.heap.Ns W λ_=>R):dg (oy dP k5 W y) (ac::Y) jj p a k.heap:=by
 have c:∀t,n1 (oy dP k5 W y) t->(t,hA)∈dP.names:=λt q=>by
  unfold n1 at q
  rw[xs] at q
  cases F:dP.names.lookup t with
  |none=>rw[F] at q;simp at q
  |some I=>
   have N:=qa F
   cases I with
   |free=>exact N
   |cell=>exact absurd rfl (X.Gk _ N)
   |«local»=>rw[F] at q;simp at q
   |globalExplicit=>rw[F] at q;simp at q
   |globalImplicit=>rw[F] at q;simp at q
 refine⟨X.hs,m.p3,m.pX,P,λt U G=>?_,λt M U q aa=>m.sO t M U (A t U q) (A M U aa),λt q=>l t (c t q),(a8 _ D (λt I J q K Q=>?_)),λt I J U q K G Q=>?_⟩
 ·refine bV λH=>oY (m.oR t U (A t U G)) λab _ J F=>H<|s2 ab (C t U (A t U G)) J F
 ·exfalso
  rw[xs] at K
  cases F:dP.names.lookup t with
  |none=>rw[F] at K;exact ce K
  |some o=>
   rw[F] at K;have v:o=.local:=by
    simp only[yy,ab5] at K;split at K
    ·cases K
    exact K
   subst v;by_cases b:t=ac
   ·subst b;rw[zP] at q;obtain rfl:=bm q;rw[Z] at Q;exact ce Q
   rw[Ey b] at q;refine bi ((X.uT t (qa F)).2) (λT=>?_) λT=>?_
   ·exact b T
   rw[T] at q;exact ce q
 by_cases b:t=ac
 ·subst b;rw[zP] at q;obtain rfl:=bm q;rw[Z] at Q;exact ce Q
 rw[Ey b] at q;have E:=P9 q;rw[i I (aD E)] at Q;refine m.ra t I J U q ?_ (A t U G) Q;exact Fj d X (c t K)
abbrev Gc (Q Y p:dM):dM->Prop:=λP=>P=Q\/P=Y\/P=p
noncomputable abbrev qg (G:hX aX) (F:e):d5:={cls:=ak "list",data:=.seq G F}
structure lH (v:bZ) (a:hY) (c:r a4) (cP:cM) (aj:K) (cQ:cc) (Q Y:dM) (y:bu) (d:r q) (p:cM) (b:K) (k:cc):Prop where
 bq:a2 v p b k
 i2:cg (Gc Q Y a.locals) cP aj cQ p b k
 eg:∃G F,k.heap.get? Y=g (qg G F)/\bQ p b.i k.heap d G.toList
 oW:p.bw Y=c'
 p2:dg a c y p b.i k.heap
theorem lH.ez (U:lH v y Y p b k W cE h eO cP aj cQ) (t:a2 v pn cs l8) (d:cg cl cP aj cQ pn cs l8) (q:¬cl cE) (c:¬cl y.locals) (l:∀i U,y.cells.lookup i=g U->¬cl U) (m:∀P,cl P->Gc W cE y.locals P):lH v y Y p b k W cE h eO pn cs l8:=by refine bV λH=>iI U.eg λG F a o=>H<|⟨t,U.i2.az (d.nt m),(mx G F (d.c' _ _ a U.oW q) (o.a0 d.cn)),(d.bw _ (f1 a)).trans U.oW,U.p2.vm d c l⟩
theorem lH.Hn (U:lH v y Y p b k W cE h eO cP aj cQ) (t:a2 v pn cs l8) (d:cg fq cP aj cQ pn cs l8):lH v y Y p b k W cE h eO pn cs l8:=U.ez t d (λT=>T) (λT=>T) (λ_ _ _ T=>T) λ_ T=>T.elim
theorem lH.n7 (U:lH v y Y p b k W cE h eO cP aj cQ) (m:cE≠y.locals) (o:∀q U,y.cells.lookup q=g U->U≠cE) (Q:be cP aj.i cQ.heap C aI) (D:eO.length<aa) (Z:∀E,lH v y Y p b k W cE h (eO++[C]) cP aj E->cg (λP=>P=cE) cP aj cQ cP aj E->cC bf E):aG (bG cd v) N (gX (bH "list.append") [O cE,aI]) cC bs cQ:=by refine bV λH=>iI U.eg λG F w A=>H ?_;have t:cQ.TypeIs (O cE) "list":=a8 _ w rfl;refine v5 IT t ZD (ZB _ _) (list_append cE G F aI (A.fW▸iC (kM D))) ⟨w,?_⟩;have l:=Cc w (λq=>q.push aI);refine bl (U.bq.vs (a:=cQ.toks) U.oW (qL ..) (f1 l)) λd J=>Z _ ⟨d,U.i2.az (J.nt λP T=>ar (ap T)),(mx _ _ l ?_),U.oW,U.p2.vm J (λT=>m T.symm) λq U T F=>o q U T F⟩ J;exact c (HS ..)<|(A.a0 J.cn).wC (.n (Q.a0 J.cn) .z)
theorem P8 (T:(bT=[]/\A=u (aK true))\/∃U,bT=[U]/\gC v l N y Y (h3 U y (bY U y)) A) (t:a2 v p b k) (m:dg y Y h p b.i k.heap) (Z:aM l A h b (λJ T=>dj (fc J T) λP=>kt P T)) (a:∀P E W c,a2 v W c E->cg fq p b k W c E->kt P c->fe P E):aG (bG MineH.b8 v) N (vN bT true λU q=>if q=true then do let w<-h3 U y (bY U y);pure (tD w) else pure (tD q)) fe gi k:=by
 rcases T with⟨rfl,rfl⟩|⟨U,rfl,T⟩
 ·skip;exact wpAny_tests_nil (a true k p b t .dO Z)
 exact wpAny_tests_one (T.eb t m Z λP E W c d C _ o=>a P E W c d C o)
theorem U3 (T:∀w,w≠a->jj w=h w):jj.aP a C=h.aP a C:=by
 funext w;unfold bu.aP;by_cases W:w=a
 ·exact c (aZ W) (c (aZ W) rfl)
 exact c (ay W) (c (ay W) (c (T w W) rfl))
theorem cg.p0 (d:cg cl p b k cP aj cQ) (q:cP.bw W=.c') (l:k.heap.get? W=R) (h:ov W cQ.heap ae):cg cl p b k cP aj {cQ with heap:=ae,toks:=a}:=by
 have C:∀{P},k.heap.get? P≠R->P≠W:=λT F=>T (by exact c F<|l);have i:∀{P},cP.bw P=e9->P≠W:=λE F=>by rw[F,q] at E;exact hL E rfl
 refine⟨⟨d.cn.cq,d.cn.b5,d.cn.e9,λy I T K=>(h.2 y (i (d.cn.e9 y K))).trans (d.cn.p7 y I T K)⟩,d.hs,d.bw,λP I T M N=>(h.2 P (C (f1 T))).trans (d.c' P I T M N),λP E=>?_,d.pb⟩;refine(?_:ae.get? P≠R);exact c (h.2 P (C E))<|d.di P E
theorem a2.p0 (t:a2 v p b k) (q:p.bw W=c') (h:ov W k.heap ae):a2 v p b {k with heap:=ae,toks:=a}:=by
 have C:∀{P},p.bw P≠c'->P≠W:=λE F=>E (F▸q);have d:fh p p b.i b.i k.heap ae:=⟨bv _,λ_ _=>rfl,λ_ T=>T,λP I T K=>(h.2 P (C (by exact c K<|λT=>hL T rfl))).trans T⟩;refine⟨t.iO,λP E=>(t.eU P E).a0 d E (λ_ _=>rfl) λU G=>⟨rfl,h.2 U (C (by refine bi G (λT=>?_) λT=>?_<;>refine c T ?_<;>simp))⟩,λP I F=>⟨(h.2 P (C (by exact c ((t.ew P I F).2)<|λT=>hL T rfl))).trans (t.ew P I F).1,(t.ew P I F).2⟩,λP F=>?_,t.lR⟩;by_cases T:P=W
 ·exact c T<|q
 exact t.di P ((h.2 P T).symm.trans F)
theorem P2 {aL:aX->dM->Result->cc->Prop} {av:_} (bk:N.handled=R) (bp:cj v l N y (ac::Y) (bY aY y) A) (br:(bT=[]/\aw=u (aK true))\/∃U,bT=[U]/\gC v l N y (ac::Y) (h3 U y (bY U y)) aw) (bt:y.kindOf ac=g .local) (aO:∀{af U},y.cells.lookup af=g U->U≠W/\U≠cE/\U≠y.locals) (aQ:cE≠W) (aS:W≠y.locals) (aA:cE≠y.locals) (Z:∀aB,aB≠Y.length->jj aB=h aB) (aU:∀{m:cM} {M:e} {aV:gf} {J:q},dg y (ac::Y) (h.aP Y.length J) m M aV->dg y (ac::Y) jj m M aV) (bu:k.heap.get? W=R) (aW:k.heap.get? cE=R) (a3:k.heap.get? y.locals=R) (bx:∀E ab ae X cE ai ah F M,a2 v ab ae E->cg fq p b k ab ae E->E.heap.get? cE=g (qg ah F)->bQ ab ae.i E.heap X ah.toList->ab.bw cE=c'->k.heap.get? cE=R->oo X ae->E.heap.Ns ai M->ab.bw ai=c'->k.heap.get? ai=R->cE≠ai->aL (O cE) ai (.ok .next) E) (bz:hS (λh T G=>aM l A h T G) (λh T G=>aM l aw h T G) h Y.length a av [] aj oo) (bA:lH v y (ac::Y) p b k W cE jj [] cP aj cQ) (bC:hQ cP aj.i cQ.heap W av):CB (bG MineH.b8 v) N (Zy (qI aY [⟨er ac bB,dv,bT,0⟩] b' dF) 0 (O W) (O cE) y) (aL (O cE) y.locals) cQ:=by
 refine codeAny_compLoop_tests (λa E=>∃ab ae t d,hS (λh T G=>aM l A h T G) (λh T G=>aM l aw h T G) h Y.length a t d ae oo/\lH v y (ac::Y) p b k W cE jj d ab ae E/\hQ ab ae.i E.heap W t) (λa E bD=>?_) a ⟨cP,aj,av,[],bz,bA,bC⟩
 refine bV λH=>QB bD λab ae t d a5 U bE=>H ?_
 cases a with
 |zero=>exact a5.elim
 |succ M=>
  refine dt (Gi U.bq bk bE a5) (λI aC Q=>?_) λ_ _ F=>F
  have K:a2 v ab ae aC->cg (λP=>P=W) ab ae E ab ae aC->_:=λw o=>U.ez w o (λT=>aQ T) (λT=>aS T.symm) (λaf U aD T=>(aO aD).1 T) λP T=>ap T
  refine bV λH=>?_
  cases Q with
  |bI aE w o Q=>
   replace K:=K w o;subst aE;refine H<|bV λH=>iI K.eg λah F aF D=>ax K.p2.qd λbF bJ _=>H<|bx aC ab ae d _ _ ah F bF w (K.i2.AQ λP bM C=>?_) aF D K.oW aW Q bJ K.p2.rA a3 aA
   refine bi bM (λT=>?_) λbN=>bi bN (λT=>?_) λT=>?_<;>rw[T] at C
   ·exact C bu
   ·exact C aW
   exact C a3
  |Bp cp J aq aE w o bO bP Q=>
   replace K:=K w o
   subst aE
   refine H<|wpAny_assign_Name (Hq w K.p2 zP bt bO λbU a7 au aG=>?_)
   rw[U3 Z] at aG
   refine bV λH=>iI K.eg λah F aF D=>H ?_
   have bX:lH v y (ac::Y) p b k W cE (h.aP Y.length J) d ab ae bU:=⟨a7,K.i2.az (au.nt λP T=>ar (ar T)),(mx ah F (au.c' _ _ aF K.oW (λT=>aA T)) (D.a0 au.cn)),K.oW,aG⟩
   have b0:=bP.ez au (λT=>aS T)
   refine dt (P8 br a7 aG (kt:=λP a8=>match P with|true=>aM l A (h.aP Y.length J) a8 (λaf b2=>d.length<aa/\hS (λh T G=>aM l A h T G) (λh T G=>aM l aw h T G) h Y.length M aq (d++[af]) b2 oo)|false=>hS (λh T G=>aM l A h T G) (λh T G=>aM l aw h T G) h Y.length M aq d a8 oo) Q λP cq b3 b4 a9 a' bb=>?_) (λ_ _ af=>af) λ_ _ F=>F.elim
   have ag:=bX.Hn a9 a'
   have be:=b0.ez a' (λT=>T)
   cases P with
   |false=>exact c (ay fR)<|⟨M,fp M,b3,b4,aq,d,bb,⟨ag.bq,ag.i2,ag.eg,ag.oW,aU ag.p2⟩,be⟩
   |true=>
    refine c (aZ rfl)<|wpAny_mono (bp.eb a9 ag.p2 bb λcu cv b5 b6 af b7 bg _ b9 aI=>?_) (λ_ _ af=>af) λ_ _ F=>F.elim
    have cb:=ag.Hn b7 bg;have cf:=be.ez bg (λT=>T);refine bl aI λck aI=>cb.n7 aA (λaf U aD=>(aO aD).2.1) b9 ck λcx ao cm=>⟨M,fp M,b5,b6,aq,d++[af],aI,⟨ao.bq,ao.i2,ao.eg,ao.oW,aU ao.p2⟩,cf.ez cm (λT=>aQ T.symm)⟩
theorem P4 {aC:aX->dM->Result->cc->Prop} (b0:N.handled=R) (b2:f7 b' y) (X:pK b' dP Y ac) (b3:(ac,NameKind.local)∈dP.names) (b4:∀ae,f7 dP ae->cj v l N ae (ac::Y) (bY aY ae) A) (b5:∀ae,f7 dP ae->(bT=[]/\aw=u (aK true))\/∃U,bT=[U]/\gC v l N ae (ac::Y) (h3 U ae (bY U ae)) aw) (aD:dg y Y h p b.i k.heap) (b6:a2 v cP aj cQ) (aE:cg fq p b k cP aj cQ) (b7:uh cP aj.i cQ.heap aj hM C aI) (b9:hM=fr->∀Q,aI=O Q->k.heap.get? Q=R) (cb:g4 hM C aj λaF av=>∃bb,hS (λh T aL=>aM l A h T aL) (λh T aL=>aM l aw h T aL) h Y.length bb aF [] av oo) (av:∀aa U,k5.lookup aa=g U->y.cells.lookup aa=g U) (cf:∀aa,(aa,hA)∈dP.names->∃U,k5.lookup aa=g U) (ck:∀E ag aA be ah ai bg ab M,a2 v ag aA E->cg fq p b k ag aA E->E.heap.get? ah=g (qg bg ab)->bQ ag aA.i E.heap be bg.toList->ag.bw ah=c'->k.heap.get? ah=R->oo be aA->E.heap.Ns ai M->ag.bw ai=c'->k.heap.get? ai=R->ah≠ai->aC (O ah) ai (.ok .next) E):aG (bG MineH.b8 v) N (yP aI) (λt o=>aG (bG MineH.b8 v) N (Jd []) (λbk cm=>aG (bG MineH.b8 v) N (newFunctionEnv dP y.globals k5 [] y.qual R bf (g y)) (λae cn=>CB (bG MineH.b8 v) N (.compStart (qI aY [⟨er ac bB,dv,bT,0⟩] dP dF) 0 t bk {ae with scope:=relabel dP y}) (aC bk ae.locals) cn) gi cm) gi o) gi cQ:=by
 have m:=aD.ez aE;refine dt (Hm (cl:=fq) b6 b7 cb) (λt K cp=>?_) λ_ _ ab=>ab;refine bV λcq=>?_;obtain⟨Q,aF,aO,rfl,ao,bq,aQ,br,bb,cu⟩:=cp;refine cq ?_;have bt:∀{P},cQ.heap.get? P=R->k.heap.get? P=R:=λ{P} aS=>by
  cases d:k.heap.get? P with
  |none=>rfl
  |some bx=>exact absurd aS (aE.di _ (by exact c d<|fK))
 have bz:k.heap.get? Q=R:=by
  rcases ao with ao|⟨rfl,ao⟩
  ·exact bt ao
  exact b9 rfl Q ao.symm
 have aU:K.heap.get? K.heap.objs.size=R:=f8;have bA:∀{P},K.heap.get? P=R->k.heap.get? P=R:=λ{P} aS=>by
  refine bt ?_
  cases d:cQ.heap.get? P with
  |none=>rfl
  |some bx=>exact absurd aS (aQ.di _ (by exact c d<|fK))
 have bC:=bA aU;have bD:=br.di;refine lG<|bl (bq.mm (cl:=fq) {cls:=ak "list",data:=.seq ([]:r aX).toArray} rfl) λbE aq=>wpAny_newFunctionEnv X.Gk (by intro aa cv;exact em cv) (λH bF bJ=>?_) X.hs
 generalize cx:({K with heap:=K.heap.push {cls:=ak "list",data:=.seq ([]:r aX).toArray}}:cc)=F at*;have aV:F.heap.get? K.heap.objs.size=g (qg #[] 0):=by exact bp cx<|gJ _ rfl
 have cy:F.heap.get? Q≠R:=aq.di _ bD;have aB:F.heap.get? F.heap.objs.size=R:=f8;have bM:K.heap.objs.size≠F.heap.objs.size:=λab=>by rw[ab,aB] at aV;exact ce aV
 have bN:Q≠F.heap.objs.size:=λab=>cy (by exact c ab<|aB);have aW:k.heap.get? F.heap.objs.size=R:=by
  refine bA ?_
  cases d:K.heap.get? F.heap.objs.size with
  |none=>rfl
  |some bx=>exact absurd aB (aq.di _ (by exact c d<|fK))
 have cz:K.heap.objs.size≠Q:=λab=>bD (by exact bp ab<|aU);refine bl (bE.mm (cl:=fq) {cls:=ak (if(g y).isSome=true then "dict" else "frame"),data:=g' #[]} rfl) λcA I=>?_;have bO:cP.bw F.heap.objs.size=c':=bE.di _ aB;refine bl (cA.vs (W:=F.heap.objs.size) (a:=F.toks+([]:r (a4×aX)).length) bO bJ (Ns.di bF)) λcB a0=>?_;have a3:∀aa U,y.cells.lookup aa=g U->U≠Q/\U≠K.heap.objs.size/\U≠F.heap.objs.size:=λaa U G=>by have D:=aD.AH G;exact ch (λab=>D (by exact c ab<|bz)) (λab=>D (by exact c ab<|bC)) (λab=>D (by exact c ab<|aW))
 have cC:y.locals≠F.heap.objs.size:=λab=>aD.AI (by exact c ab<|aW);have cD:=(((m.ez aQ).ez aq).ez I).vm a0 cC λaa U G=>(a3 aa U G).2.2;let af:bu:=λw=>if w=Y.length then R else h w;have Z:∀w,w≠Y.length->af w=h w:=λw au=>ay au;have cE:dg (oy dP k5 F.heap.objs.size y) (ac::Y) af cP aO.i H:=QX b2 X cD av cf Z (aZ rfl) bO (λaa U G=>(a3 aa U G).2.2) (by simpa using bF);have cF:(oy dP k5 F.heap.objs.size y).kindOf ac=g .local:=by refine c (xs ..) (c ((X.uT ac b3).1) ?_);rfl
 have cH:lH v (oy dP k5 F.heap.objs.size y) (ac::Y) p b k Q K.heap.objs.size af [] cP aO {F with heap:=H,toks:=F.toks+([]:r (a4×aX)).length}:=by refine⟨cB,(((aE.az aQ).az aq).az I|>.nt λP T=>T.elim).az (a0.nt λP T=>ar (ar T)),(mx (#[]) 0 ?_ .z),bq.di _ aU,cE⟩;exact(bJ.2 _ bM).trans (gO aV)
 have bP:hQ cP aO.i H Q aF:=((br.ez aq λT=>T).ez I λT=>T).ez a0 bN;have cI:∀{a5:cM} {M:e} {J:gf} {C:q},dg (oy dP k5 F.heap.objs.size y) (ac::Y) (h.aP Y.length C) a5 M J->dg (oy dP k5 F.heap.objs.size y) (ac::Y) af a5 M J:=λ{a5 M J C} m=>by
  have bU:∀w aI,af w=g aI->h.aP Y.length C w=g aI:=λw aI au=>by
   by_cases a7:w=Y.length
   ·have:af w=R:=aZ a7;rw[this] at au;exact ce au
   exact c (rL a7)<|bp (Z w a7)<|au
  refine ax m.qd λcJ cL cN=>⟨m.ct,m.p3,m.pX,m.rA,m.oR,m.sO,m.mw,(a8 cJ cL (λaa a9 C a' P U=>cN aa a9 C a' P (bU _ _ U))),λaa a9 C U a' P ab cO=>m.ra aa a9 C U a' P ab (bU _ _ cO)⟩
 have cR:∀{aa U},(oy dP k5 F.heap.objs.size y).cells.lookup aa=g U->U≠Q/\U≠K.heap.objs.size/\U≠F.heap.objs.size:=λ{aa U} G=>a3 aa U (av aa U G);have bX:CB (bG MineH.b8 v) N (Zy (qI aY [⟨er ac bB,dv,bT,0⟩] dP dF) 0 (O Q) (O K.heap.objs.size) (oy dP k5 F.heap.objs.size y)) (aC (O K.heap.objs.size) F.heap.objs.size) {F with heap:=H,toks:=F.toks+([]:r (a4×aX)).length}:=P2 b0 (b4 _ Hb) (b5 _ Hb) cF cR cz bN bM Z cI bz bC aW ck cu cH bP;exact codeAny_compStart_list bX (SP bP bX)
noncomputable def n2:cG->ci
 |.Set _ _ _=>true
 |_=>false
theorem Fh (T:n2 aY=false):foldedSetIterable aY y aI=pure aI:=by cases aY<;>first|rfl|exact kW T
theorem GB (t:a2 v p b k) (d:cg cl cP aj cQ p b k) (q:k.heap.get? W=g (qg cB a)) (D:bQ p b.i k.heap eO cB.toList) (M:p.bw W=c') (K:cQ.heap.get? W=R):a2 v (p.e' b.i W 0) (b.cK (V eO)) k/\cg cl cP aj cQ (p.e' b.i W 0) (b.cK (V eO)) k/\be (p.e' b.i W 0) (b.cK (V eO)).i k.heap (x b.i) (O W):=by have Q:fh p (p.e' b.i W 0) b.i (b.i+1) k.heap k.heap:=⟨ge _,λy U=>ay (iX U),λy T=>(show(p.e' b.i W 0).bw y=p.bw y from ay λ(J:y=W)=>by rw[J,M] at T;exact hL T rfl).trans T,λ_ _ T _=>T⟩;refine gq (t.xP (W:=W) (bN:=V eO) (f1 q) M (a8 cB (D.a0 Q) (ap ⟨t.iO,by exact c (km ..)<|uX _ _ _ _,a,by exact c (km ..)<|q⟩))) λE h _=>ch E (d.e' K h) ?_;have T:=be.x (b:=p.e' b.i W 0) (C:=b.i+1) (T:=k.heap) b.i (fp _);rw[km] at T;exact T
abbrev P0 (D:b4) (E:lK) (F:b0) (Y:e) (t U:b0) (h:bu) (T:K) (a:r q->K->Prop):Prop:=aM D t h T λJ k=>g4 E J k λv k=>∃C,hS (λh T G=>aM D F h T G) (λh T G=>aM D U h T G) h Y C v [] k a
theorem Et {af:a6 (aX->hn yY)} (ai:N.handled=R) (ag:f7 b' y) (X:pK b' dP Y ac) (aj:(ac,NameKind.local)∈dP.names) (T:n2 dv=false) (H:∀a,f7 dP a->cj v l N a (ac::Y) (bY aY a) A) (Q:∀a,f7 dP a->(bT=[]/\aw=u (aK true))\/∃U,bT=[U]/\gC v l N a (ac::Y) (h3 U a (bY U a)) aw) (ao:qU v l N y Y (bY dv y) hM dI) (t:a2 v p b k) (m:dg y Y h p b.i k.heap) (Z:P0 l hM A Y.length dI aw h b oo) (aq:∀E aa c ah ab ae G F M,a2 v aa c E->cg fq p b k aa c E->E.heap.get? ab=g (qg G F)->bQ aa c.i E.heap ah G.toList->aa.bw ab=c'->k.heap.get? ab=R->oo ah c->E.heap.Ns ae M->aa.bw ae=c'->k.heap.get? ae=R->ab≠ae->compPost (bG MineH.b8 v) N gi af bs (O ab) ae (.ok .next) E):aG (bG MineH.b8 v) N (comprehension (qI aY [⟨er ac bB,dv,bT,0⟩] dP dF) dP y r1 (Jd []) false (bY dv y) af) bs gi k:=by have au:∀W,(W,hA)∈dP.names->∃U,y.cells.lookup W=g U:=λW q=>m.mw W (Fj ag X q);refine eT (PQ au) λI C av ax=>wpAny_comprehension_free (gs:=[]) rfl (λW=>Fh T) C X.hs (λW q K=>(X.uT W.1 (by obtain⟨aA,P⟩:=W;dsimp only at K;exact bp K<|q)).1) (dt (ao p b k h _ t m Z) (λaB aC r1=>?_) λ_ _ F=>F);exact r1.casesOn λD aD J w o ay az d=>P4 ai ag X aj H Q m w o ay az d av ax aq
theorem E7 (af:N.handled=R) (ag:f7 b' y) (X:pK b' dP Y ac) (ah:(ac,NameKind.local)∈dP.names) (ai:n2 dv=false) (H:∀aa,f7 dP aa->cj v l N aa (ac::Y) (bY aY aa) A) (Q:∀aa,f7 dP aa->(bT=[]/\aw=u (aK true))\/∃U,bT=[U]/\gC v l N aa (ac::Y) (h3 U aa (bY U aa)) aw) (b:qU v l N y Y (bY dv y) hM dI):cj v l N y Y (bY (qI aY [⟨er ac bB,dv,bT,0⟩] dP dF) y) (fx hM A Y.length dI aw):=by
 intro aB aC aD aE G t m Z;refine c (eval_ListComp ..)<|Et (af:=R) af ag X ah ai H Q b t m Z λE W ae aF aj aG aI F M d J q D ao p C aq ab k au=>a8 M aq (λav h=>?_)
 refine bl C λaL C=>?_;have w:=d.p0 (a:=E.toks) ab h;have o:=J.p0 (a:=E.toks) ab k h;have ax:fh W W ae.i ae.i E.heap av:=⟨bv _,λ_ _=>rfl,λ_ T=>T,λP I T K=>(h.2 P λF=>by rw[F,ab] at K;exact hL K rfl).trans T⟩;refine gq (GB w o ((h.2 aj au).trans q) (D.a0 ax) ao p) λay az aA=>⟨_,_,_,ay,az,aA,C.fl⟩
theorem Xz (k:gC v l N y Y (h3 aY y (bY aY y)) A) (U:gC v l N y Y (h3 dv y (bY dv y)) aw) (E:gC v l N y Y (h3 k1 y (bY k1 y)) dI):gC v l N y Y (h3 (IK aY dv k1 bB) y hW) (.bc A aw dI):=by
 intro b a C h G t m Z
 refine c (arm_isTrue_IfExp ..)<|wpAny_bind (k.eb (kt:=λi T=>match i with|true=>aM l aw h T (λJ T=>dj (fc J T) λk1=>G k1 T)|false=>aM l dI h T (λJ T=>dj (fc J T) λk1=>G k1 T)) t m Z λi P D q w o H d=>?_)
 cases i with
 |true=>exact dt (U D q P h G w H d) (λk1 K I=>I.gn o) λ_ _ F=>F
 |false=>exact dt (E D q P h G w H d) (λk1 K I=>I.gn o) λ_ _ F=>F
structure m1 (v:bZ) (l:b4) (N:jC) (Y:r a4) (y:hY) (F:cG) (I:b0):Prop where
 WZ:ir F=false
 Hu:s7 F=false
 iu:n2 F=false
 rj:cj v l N y Y (bY F y) I
 Xv:gC v l N y Y (h3 F y (bY F y)) I
def y3 (m:bZ) (D:b4) (k:jC) (o:gW->r a4->cG->a6 b0):Prop:=∀i H p F,f7 i p->ee (m1 m D k H p F) (o i H F)
theorem SM {Y:oK} (T:fb ac jR=g Y):dV ac "super"=false:=by
 refine c (pa ..)<|decide_eq_false λF=>?_
 rw[F,show fb (ck "super") jR=R by kernel_rfl] at T;exact ce T
theorem FT (T:dV ac "super"=false):s7 (jp (er ac bB) bT [] dF)=false:=by refine(?_:(bT.isEmpty&&dV ac "super")=false);exact c T (c (Yf ..) rfl)
theorem E6:cj v l N y Y hW oQ:=λb a C h G t m Z=>Z.elim
theorem zE (M:∀aY I,ft aY=g I->n2 aY=false) {Q:lK×b0} (T:sK ft b' aY=g Q):n2 aY=false:=by
 cases aY with
 |Set y P U=>refine ax (e7.mp (show(ft (.Set y P U)).map (λy=>(lK.dC,y))=g Q from T)) λW k p=>M _ _ k
 |_=>rfl
section
variable (oH:lI v a l) (gK:la a N) (dx:y3 v l N k4) (bn:f7 b' y)
include dx bn
theorem gN (T:k4 b' Y aY=g A):cj v l N y Y (bY aY y) A:=(dx b' Y y aY bn A T).rj
theorem o0 (T:k4 b' Y aY=g A):gC v l N y Y (h3 aY y (bY aY y)) A:=(dx b' Y y aY bn A T).Xv
theorem m8 (F:cG) (I:b0) (T:k4 b' Y F=g I):ir F=false/\cj v l N y Y (bY F y) I:=⟨(dx b' Y y F bn I T).WZ,(dx b' Y y F bn I T).rj⟩
omit dx bn in
theorem Fp {Z:I2} (k:cj v l N y Y (bY (qJ Z aY bB) y) A) (p:gC v l N y Y (h3 (qJ Z aY bB) y (bY (qJ Z aY bB) y)) A):m1 v l N Y y (qJ Z aY bB) A:=⟨rfl,rfl,rfl,k,p⟩
theorem RV {Z:I2}:ee (m1 v l N Y y (qJ Z aY bB)) (Ej (k4 b' Y) aY Z):=by
 cases Z with
 |Not=>exact .h4 λJ T=>Fp (Rq (gN dx bn T)) (XA (o0 dx bn T))
 |USub=>
  cases aY with
  |Constant U _ _=>
   cases U with
   |int a=>exact .kX (Fp E' (j2 E'))
   |_=>exact .en
  |_=>exact .en
 |_=>exact .en
omit dx bn in
theorem Fo (k:cj v l N y Y (bY (er ac bB) y) A):m1 v l N Y y (er ac bB) A:=⟨rfl,rfl,rfl,k,j2 k⟩
omit dx in
theorem RT:ee (m1 v l N Y y (er ac bB)) (Eg b' Y ac):=by
 refine .fD λM D=>.gA λb q=>?_
 replace M:=qx _▸M
 replace D:=qx _▸D
 have a:(y.kindOf ac=g .local\/n1 y ac)->ee (m1 v l N Y y (er ac bB)) ((fE ac Y).map f):=λK=>.h4 λJ T=>Fo (Ru M D T K)
 cases b with
 |globalImplicit=>
  refine .gA λb K=>?_
  cases b with
  |lO J=>exact .kX (Fo (Ri M (bn.p4 q) K))
  |_=>exact .en
 |«local»=>exact a ((bn.hs ac _ q).elim ap λT=>nomatch T.1)
 |cell=>exact a ((bn.hs ac _ q).elim (λT=>ar (ap T)) λT=>nomatch T.1)
 |free=>exact a ((bn.hs ac _ q).elim (λT=>ar (ar T)) λT=>ar (ap T.2))
 |globalExplicit=>exact .en
include gK in
theorem RU:ee (m1 v l N Y y (tS aY dv bB)) (zG (k4 b' Y) aY dv):=by
 unfold zG
 cases F:Bn dv with
 |some Z=>refine aU (WM _ F) λh m=>?_;exact c m<|.gA λa k=>.gA λP p=>.h4 λU b=>have T:=Rs (bB:=bB) (dF:=h) (λF I T=>gN dx bn T) (gN dx bn k) p b;⟨rfl,rfl,rfl,T,j2 T⟩
 |none=>exact .gA λa k=>.h4 λP p=>have T:=Rl (bB:=bB) (kB (bJ 9 (al 5 (bX _ _))) gK.ij) (gN dx bn k) (gN dx bn p);⟨rfl,rfl,rfl,T,j2 T⟩
include oH gK in
theorem RR (q:fb ac b'.names=g iY):ee (m1 v l N Y y (jp (er ac bB) bT [] dF)) (zD (k4 b' Y) ac bT):=by
 unfold zD
 cases F:dV ac "isinstance" with
 |true=>exact .kX ⟨rfl,FT (by refine c (kn.mp F) ?_;kernel_rfl),rfl,E6,j2 E6⟩
 |false=>
  refine .fD λM D=>.gA λa K=>.gA λP E=>?_
  have h:s7 (jp (er ac bB) bT [] dF)=false:=FT (SM K)
  cases a with
  |ct a=>exact .kX (have T:=Rf (bB:=bB) (dF:=dF) oH gK (m8 dx bn) (bn.p4 q) K E;⟨rfl,h,rfl,T,j2 T⟩)
  |m5 a=>exact .kX (have T:=Rp (bB:=bB) (dF:=dF) oH gK (m8 dx bn) (bn.p4 q) K E;⟨rfl,h,rfl,T,j2 T⟩)
  |lc a=>exact .kX (have T:=Re (bB:=bB) (dF:=dF) gK (m8 dx bn) (bn.p4 q) (qx _▸M) K E;⟨rfl,h,rfl,T,j2 T⟩)
  |lO _=>exact .en
include oH gK in
theorem RS:ee (m1 v l N Y y (jp (er ac bB) bT [] dF)) (Eb (k4 b' Y) b' ac bT):=by
 refine .fD λ_ q=>?_
 replace q:=dq q
 cases F:f' (dV ac "list") ((eL bT).bind (q9 "range" b')) with
 |some c=>refine bl (mu F) λM F=>ax (hz.mp F) λd k p=>bl (zI p) λm a=>g3 m λI W b=>?_;subst b;obtain rfl:=rJ _ k;obtain rfl:=kn.mp M;exact .h4 λP E=>have T:=Ro (bB:=bB) (dF:=dF) (r1:=I) (aa:=W) gK bn (m8 dx bn) q a E;⟨rfl,rfl,rfl,T,j2 T⟩
 |none=>exact RR oH gK dx bn q
include oH gK in
theorem RQ:ee (m1 v l N Y y (jp aY bT [] bB)) (Ea (k4 b' Y) b' bT bB aY):=by
 cases aY with
 |Attribute I W b=>exact .fD λM D=>.gA λa k=>.gA λd p=>.h4 λP c=>have T:=Rg (bB:=b) (dF:=bB) oH gK (m8 dx bn) (dx b' Y y I bn a k).Hu p (Y1.mp M) (yq D) (gN dx bn k) c;⟨rfl,rfl,rfl,T,j2 T⟩
 |Name W Q=>exact RS oH gK dx bn
 |_=>exact .en
omit bn in
theorem Pu {p:hY} (bn:f7 b' p) (T:Ef (k4 b' Y) bT=g A):(bT=[]/\A=u (aK true))\/∃F,bT=[F]/\gC v l N p Y (h3 F p (bY F p)) A:=by
 cases bT with
 |nil=>exact ap ⟨rfl,(bm T).symm⟩
 |cons F h=>cases h with
  |nil=>exact ar (a8 F rfl (o0 dx bn T))
  |cons _ _=>exact ce T
inductive JD (v:bZ) (l:b4) (N:jC) (y:hY) (Y:r a4) (b' dP:gW) (k:cG) (p:yE) (A:a4) (I:b0):Prop
 |iM (G:qN) (E:lK) (t F o:b0) (P:p=⟨er A G,p.iter,p.ifs,0⟩) (c:I=fx E F Y.length t o) (X:pK b' dP Y A) (h:(A,NameKind.local)∈dP.names) (T:n2 p.iter=false) (H:∀a,f7 dP a->cj v l N a (A::Y) (bY k a) F) (Q:∀a,f7 dP a->(p.ifs=[]/\o=u (aK true))\/∃U,p.ifs=[U]/\gC v l N a (A::Y) (h3 U a (bY U a)) o) (b:qU v l N y Y (bY p.iter y) E t)
omit dx bn in
theorem RP {b:yE} (h:b.target=er ac bB) (T:b.is_async=0):b=⟨er ac bB,b.iter,b.ifs,0⟩:=by cases b;refine bp h ?_;obtain rfl:=T;rfl
theorem Eu {b:yE} (h:b.target=er ac bB):ee (JD v l N y Y b' dP aY b ac) (Ec k4 b' Y aY b dP ac):= .fD λM D=>.f' λq=>.gA λc k=>.gA λF p=>.h4 λU d=>⟨bB,c.1,c.2,F,U,RP h (dq M),rfl,P1 D,qa (rI.symm.trans (dq q)),zE (λF I T=>(dx b' Y y F bn I T).iu) k,λa G=>gN dx G p,λa G=>Pu dx G d,z' bn (m8 dx bn) k⟩
include oH gK in
theorem Q':ee (m1 v l N Y y aY) (Ed k4 b' Y aY):=by
 have af:=gK.ij
 cases aY with
 |Constant U ab Q=>exact .h4 λJ T=>have T:=Rj (a:=ab) (bB:=Q) T;⟨rfl,rfl,rfl,T,j2 T⟩
 |UnaryOp Z aa Q=>exact RV dx bn
 |Name W Q=>exact RT bn
 |BoolOp Z d Q=>exact λI T=>⟨rfl,rfl,rfl,Rd (λaY I T=>gN dx bn T) d I T,Xx (λaY I T=>o0 dx bn T) d I T⟩
 |BinOp X Z W Q=>exact .gA λae w=>.gA λaa k=>.h4 λP p=>have T:=Rb (bB:=Q) w (gN dx bn k) (gN dx bn p);⟨rfl,rfl,rfl,T,j2 T⟩
 |Compare X av aw Q=>
  refine hq rJ λZ M=>hq rJ λW D=>.gA λae w=>.gA λaa k=>.h4 λP p=>?_;subst M D;have o:N.units+5<ek:=H 9 (E 15 (bX _ _) af);have ag:I6 Z W=false:=by have:=(dx b' Y y W bn P p).iu;cases W<;>first|rfl|exact(fR this.symm).elim
  exact⟨rfl,rfl,rfl,Rh o ag w (gN dx bn k) (gN dx bn p),Xy o ag w (gN dx bn k) (gN dx bn p)⟩
 |IfExp U aa P Q=>exact .gA λU k=>.gA λaa p=>.h4 λP ah=>⟨rfl,rfl,rfl,Rm (o0 dx bn k) (gN dx bn p) (gN dx bn ah),Xz (o0 dx bn k) (o0 dx bn p) (o0 dx bn ah)⟩
 |Tuple ai ab Q=>exact .h4 λJ T=>have T:=Rt (W:=ab) (bB:=Q) (m8 dx bn) T;⟨rfl,rfl,rfl,T,j2 T⟩
 |List ai Q=>exact .h4 λJ T=>have T:=Rn (bB:=Q) (m8 dx bn) T;⟨rfl,rfl,rfl,T,j2 T⟩
 |Dict A d Q=>exact .f' λaj=>.h4 λJ T=>have T:=Rk (bB:=Q) (H 11 (E 15 (bX _ _) af)) (m8 dx bn) (iC (Y1.mp aj)) T;⟨rfl,rfl,rfl,T,j2 T⟩
 |Attribute ae W Q=>exact .gA λaa k=>.h4 λab p=>have T:=Ra (bB:=Q) (dx b' Y y ae bn aa k).Hu p (gN dx bn k);⟨rfl,rfl,rfl,T,j2 T⟩
 |Subscript ae ax Q=>exact RU gK dx bn
 |Call ay C t Q=>cases t with
  |nil=>exact RQ oH gK dx bn
  |cons _ _=>exact .en
 |ListComp az F m Q=>refine hq rJ λb M=>hq xB λaA D=>D.elim λG D=>.FE (Eu dx bn D) λI U=>c M ?_;obtain⟨G,aB,aC,aY,aD,ao,rfl,K,aq,q,h,i,au⟩:=U;refine c ao ?_;have T:=E7 (bB:=G) (dF:=Q) gK.nY bn K aq q h i au;exact⟨rfl,rfl,rfl,T,j2 T⟩
 |_=>exact .en
end
theorem w4 (X:lI v a l) (m:la a N) (C:e):y3 v l N (up C):=by
 induction C with
 |zero=>exact λ_ _ _ _ _=>.en
 |succ C t=>exact λi H p F d=>Q' X m t d
inductive nF (b:cM) (C:e) (T:gf):sv->nA->Prop
 |cr:nF b C T cr .next
 |go:nF b C T go IV
 |gp:nF b C T gp IW
 |aR {J:q} {X:aX} (Q:be b C T J X):nF b C T (.aR J) (se X)
inductive sD (m:bZ) (p:hY) (H:r a4) (b:cM) (a:K) (C:cc) (G:gZ) (o:nA) (E:cc):Prop
 |iM (W:cM) (c:K) (U:sv) (d:bu) (t:a2 m W c E) (h:cg (lf p) b a C W c E) (k:dg p H d W c.i E.heap) (M:nF W c.i E.heap U o) (Z:G U d c)
def fw (m:bZ) (D:b4) (k:jC) (p:hY) (H:r a4) (N:hn nA) (E:bO):Prop:=∀(b:cM) (a:K) (C:cc) (h:bu) (G:gZ),a2 m b a C->dg p H h b a.i C.heap->a7 D E h a G->aG (bG MineH.b8 m) k N (sD m p H b a C G) gi C
theorem sD.gn {o:nA} (Q:sD v y Y p b k aA o l8) (d:cg (lf y) cP aj cQ p b k):sD v y Y cP aj cQ aA o l8:=Q.casesOn λX T U I E i a M Z=>⟨X,T,U,I,E,d.az i,a,M,Z⟩
theorem fw.eb {a:hn nA} {H:nA->cc->Prop} (T:fw v l N y Y a aC) (t:a2 v p b k) (m:dg y Y h p b.i k.heap) (Z:a7 l aC h b aA) (w:∀o E W c U d,a2 v W c E->cg (lf y) p b k W c E->dg y Y d W c.i E.heap->nF W c.i E.heap U o->aA U d c->H o E):aG (bG MineH.b8 v) N a H gi k:=dt (T p b k h aA t m Z) (λo E Q=>Q.casesOn λW c U d A J q M C=>w o E W c U d A J q M C) λ_ _ F=>F
theorem cg.jW (d:cg fq p b k cP aj cQ):cg cl p b k cP aj cQ:=d.nt λ_ T=>T.elim
theorem XZ:fw v l N y Y (h2 (Ct bB) y) L:=by intro b a C h G t m Z;refine(?_:aG _ _ (sj bB>>=λ_=>pure Flow.next) _ _ C);exact av (kd (bz ⟨b,a,_,h,t,.dO,m,.cr,Z⟩))
theorem XV:fw v l N y Y (h2 (.Break bB) y) .go:=by intro b a C h G t m Z;refine(?_:aG _ _ (sj bB>>=λ_=>pure IV) _ _ C);exact av (kd (bz ⟨b,a,_,h,t,.dO,m,.go,Z⟩))
theorem XW:fw v l N y Y (h2 (Z3 bB) y) .gp:=by intro b a C h G t m Z;refine(?_:aG _ _ (sj bB>>=λ_=>pure IW) _ _ C);exact av (kd (bz ⟨b,a,_,h,t,.dO,m,.gp,Z⟩))
theorem XU {c:hn nA}:fw v l N y Y c .oQ:=by intro b a C h G t m Z;exact Z.elim
theorem SC (T:y.scope.kind=pD):interactive y=false:=by unfold interactive;refine c T ?_;rfl
theorem Hv (T:uK aY=false):yS aY vK a y=pure false:=by cases aY<;>first|rfl|exact kW T
theorem XX (G:uK aY=false) (T:cj v l N y Y (bY aY y) A):fw v l N y Y (h2 (.Expr aY bB) y) (du A):=by intro b a C h c t m Z;exact wpAny_Expr_any (T.eb t m Z λX P D q J w o H Q d=>⟨D,q,_,h,w,o.jW,H,.cr,d⟩) (SC m.ct) (Hv G)
theorem X1:fw v l N y Y (h2 (I1 R bB) y) (aR (u bI)):=by intro b a C h G t m Z;exact wpAny_Return_none ⟨b,a,_,h,t,.dO,m,.aR .bI,Z⟩
theorem X0 (T:cj v l N y Y (bY aY y) A):fw v l N y Y (h2 (I1 (g aY) bB) y) (aR A):=by intro b a C h G t m Z;exact wpAny_Return_some (T.eb t m Z λX P D q J w o H Q d=>⟨D,q,_,h,w,o.jW,H,.aR Q,d⟩)
abbrev rx (p:hY) (W:a4):Prop:=p.kindOf W=g .local\/p.kindOf W=g hZ
theorem XM (G:uK aY=false) (q:fE ac Y=g a) (K:rx y ac) (T:cj v l N y Y (bY aY y) A):fw v l N y Y (h2 (sf [er ac bB] aY dF) y) (ba a A):=by intro b p C h F t m Z;exact aaj (T.eb t m Z λX P D c J w o H Q d=>tr w H q K Q λI E i k=>⟨D,c,_,_,E,o.jW.az i,k,.cr,d⟩) (Hv G)
theorem Xi {F:r yE}:∃P,yS (qI aY F b' bB) (g (er ac dF)) a y=pure P:=⟨_,rfl⟩
theorem SameBut.cn (q:p.bw W=c') (h:ov W ae fP):fh p p a a ae fP:=⟨bv _,λ_ _=>rfl,λ_ ae=>ae,λP I ae K=>(h.2 P λF=>by rw[F,q] at K;exact hL K rfl).trans ae⟩
theorem XO {ai:qN} (q:fE ac Y=g a) (aj:rx y ac) (ao:N.handled=R) (aq:f7 b' y) (X:pK b' dP Y fu) (au:(fu,NameKind.local)∈dP.names) (ax:n2 dv=false) (H:∀aa,f7 dP aa->cj v l N aa (fu::Y) (bY aY aa) A) (aA:∀aa,f7 dP aa->(bT=[]/\aw=u (aK true))\/∃U,bT=[U]/\gC v l N aa (fu::Y) (h3 U aa (bY U aa)) aw) (b:qU v l N y Y (bY dv y) hM dI):fw v l N y Y (h2 (sf [er ac bB] (qI aY [⟨er fu r1,dv,bT,0⟩] dP ai) dF) y) (ba a (fx hM A Y.length dI aw)):=by
 intro aE aF aG br G t m Z
 refine aU (Xi (y:=y) (aY:=aY) (F:=[⟨er fu r1,dv,bT,0⟩]) (b':=dP) (bB:=ai) (dF:=bB) (ac:=ac) (a:=dF.line)) λP E=>?_
 cases P with
 |false=>exact aaj ((E7 ao aq X au ax H aA b).eb t m Z λbt bu D aI bx w o aL Q d=>tr w aL q aj Q λK af ab k=>⟨D,aI,_,_,af,o.jW.az ab,k,.cr,d⟩) E
 |true=>
  refine c (exec_Assign_Name_used _ _ _ _ E)<|wpAny_bind (kd (av ?_))
  refine c (arm_evalThenUse_ListComp ..)<|wpAny_bind (dt (Et (af:=g (yI (er ac bB) y)) (bs:=λ_ aB=>sD v y Y aE aF aG G .next aB) ao aq X au ax H aA b t m Z λaB W aC bA ag p bC F M aM J aO aP aQ aS C aV aW ah aZ=>?_) (λ_ _ T=>bz (bz T)) λ_ _ F=>F)
  refine bl C λbD C=>gq (GB aM J aO aP aQ aS) λw o Q=>Ji (tr w (m.ez o) q aj Q λK af ab k=>?_);have a0:p≠y.locals:=λF=>m.AI (by exact bp F<|ah);have a3:∀fu U,y.cells.lookup fu=g U->U≠p:=λfu U a5 F=>m.AH a5 (by exact c F<|ah);have ae:(W.e' aC.i ag 0).bw p=c':=(show(W.e' aC.i ag 0).bw p=W.bw p from ay (λF:p=ag=>aZ F.symm)).trans aW;refine wX aV λa7 a9 a' bb be=>?_;have aD:¬lf y p:=λT=>by exact bi T (λT=>a0 T) λI=>aU I λfu T=>a3 fu p T rfl
  refine a8 M ⟨a7,a9,a',ab.c' _ _ bb ae aD,be⟩ (λbE h=>?_);have bg:=af.p0 (a:=K.toks) ae h;have bk:=(o.jW.az ab).p0 (a:=K.toks) ae ah h;refine⟨_,_,_,_,bg,bk,?_,.cr,C.fl⟩;exact k.e9 (SameBut.cn ae h) (λ_ _=>rfl) λP bF E bG bq=>(h.2 P λF=>by subst F;exact aD bq).trans E
theorem Xf:yS aY (g (pB dv ac bB)) a y=pure false:=by cases aY<;>rfl
theorem Xg:yS aY (g (tS dv k1 bB)) a y=pure false:=by cases aY<;>rfl
theorem Xh {U}:yS aY (g (pC bT U bB)) a y=pure false:=by cases aY<;>rfl
theorem XN (q:mD ac gD 0=g a) (w:cj v l N y Y (bY aY y) A) (T:cj v l N y Y (bY dv y) aw):fw v l N y Y (h2 (sf [pB aY ac bB] dv dF) y) (dy A a aw):=by
 intro b ae af h G t m Z;refine bl (wD q) λI K=>?_;refine bp I<|plainObj_wpAny_Assign_Attribute (T.eb t m Z λX P D ag ah aa o H Q d=>w.eb aa H d λai aj ao aq au E i k J W=>?_) Xf
 exact dt (Hf (bs:=gi) E J (Q.a0 i.cn) K W) (λ_ F M=>M.casesOn λC ab U p c=>⟨C,ab,_,h,U,((o.az i).az p).jW,k.ez p,.cr,c⟩) λ_ _ dv=>dv
theorem XP (aa:N.units+5<ek) (w:cj v l N y Y (bY aY y) A) (o:cj v l N y Y (bY dv y) aw) (T:cj v l N y Y (bY k1 y) dI):fw v l N y Y (h2 (sf [tS aY dv bB] k1 dF) y) (es A aw dI):=by intro b ao C h G t m Z;refine wpAny_Assign_Subscript (T.eb t m Z λX P D q aq ab ae H Q d=>w.eb ab H d λau K av ax ay E i k J W=>o.eb E k W λaA F aB aC aD U p M a c=>?_) Xg;exact dt (WC (bs:=gi) U aa (J.a0 p.cn) a ((Q.a0 i.cn).a0 p.cn) c) (λ_ aE af=>af.casesOn λag ah ai I aj=>⟨ag,ah,_,h,ai,(((ae.az i).az p).az I).jW,M.ez I,.cr,aj⟩) λ_ _ k1=>k1
theorem D4 (w:un lB=g gU) (t:a2 v p b k) (U:be p b.i k.heap C aI) (E:be p b.i k.heap b2 cR) (Z:mo gU C b2 b an) (P:∀J T,an J T->∃a,J=j a) (Y:∀a c M,an (j a) b->cC (aN a c) {k with toks:=M}):aG (bG cd v) N (inplaceOp lB aI cR) cC bs k:=by
 refine bV λH=>?_
 cases lB with
 |Add=>
  obtain rfl:=bm w
  cases C with
  |j W=>replace Z:=hr.j Z;obtain⟨A,rfl,Z⟩:=Z;obtain⟨c,rfl⟩:=U.o;obtain⟨h,rfl⟩:=E.o;exact H (acc (Y _ _ _ Z))
  |bW W=>replace Z:=o4.bW Z;refine sT Z λA _ _ _ Z=>aU (P _ _ Z) λa T=>?_;exact l1 T rfl
  |x W=>replace Z:=lm.x Z;refine ax Z λA _ Z=>?_;replace Z:=Z.fl.fl.f3;refine ax Z λX _ Z=>?_;replace Z:=Z.f3;refine eT Z λd _ _ Z=>aU (P _ _ Z.fl) λa T=>?_;exact l1 T rfl
  |_=>exact Z.elim
 |Sub=>obtain rfl:=bm w;replace Z:=lT.nc Z;obtain⟨W,A,rfl,rfl,Z⟩:=Z;refine aU U.o λc I=>?_;subst I;refine aU E.o λh I=>?_;subst I;exact H (ace (Y _ _ _ Z))
 |_=>exact ce w
theorem Tp (m:dg y Y h p a k.heap) (q:fE ac Y=g d) (K:rx y ac) (Q:h d=g C) (Z:∀c,be p a k.heap C c->cC c k):aG (bG cd v) N (si y ac) cC bs k:=by
 refine bi K (λK=>?_) λK=>?_
 ·refine ax m.qd λM l D=>ax (D ac d C q K Q) λc b i=>wpAny_loadName_local m.ct K l b (Z c i)
 refine aU (m.mw ac (ap K)) λU G=>ax (m.ra ac d C U q (ap K) G Q) λc b i=>aar m.ct K G b (Z c i)
theorem XS (U:un lB=g gU) (q:fE ac Y=g a) (K:rx y ac) (T:cj v l N y Y (bY aY y) A):fw v l N y Y (h2 (Cs (er ac bB) lB aY dF) y) (q5 a gU A):=by intro b af C h G t m Z;refine ax (gF Z) λc p Z=>wpAny_AugAssign_Name (Tp m q K p λX I=>T.eb t m Z λag P D W J w o H Q d=>?_);exact D4 U w (I.a0 o.cn) Q d (λv T aa=>(hr.j aa).imp λ_ T=>T.1) λab ae M F=>tr (w.eS M) (H.ez (.eS M)) q K (.j ab ae) λah E i k=>⟨D,W,_,_,E,((o.az (.eS M)).jW).az i,k,.cr,F⟩
theorem XT (ab:un lB=g gU) (q:mD ac gD 0=g a) (w:cj v l N y Y (bY aY y) A) (T:cj v l N y Y (bY dv y) aw):fw v l N y Y (h2 (Cs (pB aY ac bB) lB dv dF) y) (kG A a gU aw):=by
 intro b aL C h G t m Z;refine bl (wD q) λI K=>?_;refine bp I<|wpAny_AugAssign_AttributeAny (w.eb t m Z λX P D ae J af ag ah Q d=>?_)
 refine bV λH=>?_;replace d:=lm.x d;obtain⟨aM,rfl,_,d⟩:=d;replace d:=d.i';refine iI d λaO aP W d=>?_;replace d:=gF d;refine ax d λc ai d=>bl Q.o λI E=>?_;subst I;refine H (dt (D3 (bs:=gi) (an:=λJ T=>J=c/\T=ae) af E W ai ⟨rfl,rfl⟩) (λaQ aS aj=>?_) λ_ _ dv=>dv);refine bV λH=>?_;obtain⟨aU,aV,aW,ao,i,aq,rfl,rfl⟩:=aj;refine H (T.eb ao (ah.ez i) d λaZ a3 a5 a7 a8 U p au av ay=>?_);refine D4 ab U (aq.a0 p.cn) av ay (λv T aA=>(hr.j aA).imp λ_ T=>T.1) λaB aC M F=>?_;have aD:=((Q.a0 i.cn).a0 p.cn).a0 (cg.eS (cl:=fq) M).cn;exact dt (Hf (bs:=gi) (U.eS M) aD (.j aB aC) K F) (λ_ a9 aE=>aE.casesOn λaF aG aI aa k=>⟨aF,aG,_,h,aI,((((ag.az i).az p).az (.eS M)).az aa).jW,(au.ez (.eS M)).ez aa,.cr,k⟩) λ_ _ dv=>dv
theorem wQ (d:f7 b' y):ee (λa=>fE ac Y=g a/\rx y ac) (ur b' Y ac):=.f' λT a F=>⟨F,(BG.mp T).imp (λT=>(d.hs ac _ (dq T)).elim (λT=>T) λT=>nomatch T.1) λT=>(d.hs ac _ (dq T)).elim (λT=>T) λT=>nomatch T.1⟩
inductive pP (y:hY) (Y:r a4):r cG->r e->Prop
 |z:pP y Y [] []
 |n {W:a4} {Q:qN} {a:e} {b:r cG} {A:r e} (q:fE W Y=g a) (K:rx y W) (T:pP y Y b A):pP y Y (er W Q::b) (a::A)
theorem Eh (d:f7 b' y):ee (pP y Y bT) (wP b' Y bT):=by
 induction bT with
 |nil=>exact .kX .z
 |cons N bT t=>exact hq xB λW F=>hq (wQ d) λa T=>.o7 t λA h=>F.elim λQ F=>F▸.n T.1 T.2 h
theorem NV (T:pP y Y bT lC):(sh bT y).length=lC.length/\(sh bT y).findIdx? (·.1)=R:=by
 induction T with
 |z=>exact⟨rfl,rfl⟩
 |@n W Q a bT lC q K T t=>refine⟨cS yv t.1,?_⟩;refine(?_:((false,yI (er W Q) y)::sh bT y).findIdx? (·.1)=R);refine c (Ic ..) (c (t.2 ..) ?_);rfl
theorem W6 (T:pP y Y bT lC):∀{X:r q} {d:r aX} {h a:bu} {C:cc},lr lC X h=g a->a2 v p b C->dg y Y h p b.i C.heap->bQ p b.i C.heap X d->∀{H:yY->cc->Prop},(∀E,a2 v p b E->cg (lf y) p b C p b E->dg y Y a p b.i E.heap->H () E)->aG (bG cd v) N (I5 ((sh bT y).map (·.2)) d) H bs C:=by
 induction T with
 |z=>intro X d h a C J t m D H Z;refine bl (mu J) λF J=>?_;rw[tL.mp F] at D;exact c (show d=[] from D.o)<|wpAny_pure (Z C t .dO (bm J▸m))
 |@n W Q ab bT lC A K T G=>
  intro X d h a C J t m D H Z
  cases X with
  |nil=>exact ce J
  |cons ae X=>cases d with
   |nil=>exact D.o.elim
   |cons af d=>refine(?_:aG _ _ (holding _ (yI (er W Q) y _)>>=λ_=>I5 _ _) _ _ C);refine av (f4 (Ji (tr t m A K D.o.1 λP w l I=>?_)));exact G J w I (D.o.2.a0 l.cn) λM U aa k=>Z M U (l.az aa) k
theorem GD:∀{X:r q} {h d:bu},lr lC X h=g d->lC.length=X.length:=by
 induction lC with
 |nil=>exact λT=>by refine c (tL.mp (mu T).1) ?_;rfl
 |cons Y lC t=>
  intro X h d T
  cases X with
  |nil=>exact ce T
  |cons J X=>exact cS yv (t T)
theorem HD (U:N.handled=R) {M:bu->Prop} (T:pP y Y bT lC) (t:a2 v p b k) (m:dg y Y h p b.i k.heap) (Q:be p b.i k.heap C aI) (Z:of lC C h b M) (ah:∀E d,a2 v p b E->cg (lf y) p b k p b E->dg y Y d p b.i E.heap->M d->kv () E):aG (bG cd v) N (unpack aI (sh bT y)) kv bs k:=by
 refine bl (NV (y:=y) T) λD ab=>?_
 have a:∀{H},qK k.heap.objs.size k.heap H->kE k.heap H:=λK P I ae=>K P I (iX (ZX ae)) ae
 have af:∀{H:gf} {X:r q} {G:hX aX} {d:bu},lr lC X h=g d->bQ p b.i k.heap X G.toList->M d->qK k.heap.objs.size k.heap H->aG (bG cd v) N (I5 ((sh bT y).map (·.2)) G.toList) kv bs {k with heap:=H}:=λJ F Z K=>by refine bl (t.uD (cl:=fq) (a K) k.toks) λw aa=>W6 T J w (m.ez aa) (F.a0 aa.cn) λai aj ao aq=>ah ai _ aj (aa.jW.az ao) aq Z
 unfold unpack
 refine bV λag=>?_
 cases C with
 |S X=>replace Z:=gF Z;refine ax Z λd J Z=>?_;obtain⟨aB,I,G,A,rfl,au,av,l,_,F⟩:=Q.o;refine ag<|c (show(sh bT y).length=G.size from D.trans ((GD J).trans F.fW.symm))<|c ab<|wpAny_bind (f4 (wpAny_unpackItems_tuple U (li I au av A l) λH K=>af J F Z K))
 |x aC=>refine bl Q.o λaw ay=>?_;subst aw;replace Z:=Z.fl.f3;refine ax Z λX W Z=>?_;replace Z:=gF Z;refine ax Z λd J Z=>ax (t.lV ay W) λG aA F=>ag<|c (show(sh bT y).length=G.size from D.trans ((GD J).trans F.fW.symm))<|c ab<|wpAny_bind (f4 (kun_itemsOf U aA λH K=>af J F Z K))
 |_=>exact Z.elim
theorem Xe {U} (T:Ay aY=false):swappedStores [pC bT U bB] aY y=pure R:=by cases aY<;>first|rfl|exact kW T
theorem XR (p:N.handled=R) {U} (F:Ay aY=false) (M:pP y Y bT lC) (T:cj v l N y Y (bY aY y) A):fw v l N y Y (h2 (sf [pC bT U bB] aY dF) y) (jM lC A):=by intro b aa C h G t m Z;refine wpAny_Assign_stores (T.eb t m Z λX P D q J w o H Q d=>?_) (show swapsWithSole [pC bT U bB] aY dF.line y=pure false from Xh (y:=y) (bT:=bT) (U:=U) (bB:=bB) (a:=dF.line)) (Xe F);refine(?_:aG _ _ (yI (pC bT U bB) y X) _ _ P);exact c (Z6 ..)<|wpAny_bind (kd (HD p M w H Q d λK I E i k W=>⟨D,q,_,I,E,o.jW.az i,k,.cr,W⟩))
theorem nF.a0 {U:sv} {o:nA} (W:nF p a ae U o) (b:fh p cP a d ae fP):nF cP d fP U o:=by
 cases W with
 |cr=>exact .cr
 |go=>exact .go
 |gp=>exact .gp
 |aR Q=>exact .aR (Q.a0 b)
theorem Bz {J:h0->a6 bO} (M:∀h E,J h=g E->fw v l N y Y (h2 h y) E):∀(A:r h0) (E:bO),nN J A=g E->fw v l N y Y (pG A y) E:=by
 intro A;induction A with
 |nil=>intro E T;intro b a C W G t m Z;obtain rfl:=bm T;exact aam ⟨b,a,_,W,t,.dO,m,.cr,Z⟩
 |cons h A aa=>
  intro E T
  intro b a C W G t m Z
  refine ax (hz.mp T) λab k T=>ax (e7.mp T) λP p ae=>?_;subst ae
  refine wpAny_execs_cons ((M h ab k).eb t m Z λJ af D q U X w o H c d=>?_)
  cases c with
  |cr=>exact dt (aa P p D q af X G w H d) (λi K I=>I.gn o) λ_ _ F=>F
  |go=>exact⟨D,q,_,X,w,o,H,.go,d⟩
  |gp=>exact⟨D,q,_,X,w,o,H,.gp,d⟩
  |aR Q=>exact⟨D,q,_,X,w,o,H,.aR Q,d⟩
theorem XY {P:r h0} (p:gC v l N y Y (h3 aY y (bY aY y)) A) (U:fw v l N y Y (pG k6 y) aC) (E:fw v l N y Y (pG P y) dd):fw v l N y Y (h2 (.If aY k6 P bB) y) (bc A aC dd):=by
 intro b a C h G t m Z
 refine wpAny_If (p.eb (kt:=λc T=>match c with|true=>a7 l aC h T G|false=>a7 l dd h T G) t m Z λc k D q w o H d=>?_)
 cases c with
 |true=>exact dt (U D q k h G w H d) (λi K I=>I.gn o.jW) λ_ _ F=>F
 |false=>exact dt (E D q k h G w H d) (λi K I=>I.gn o.jW) λ_ _ F=>F
inductive NR (v:bZ) (l:b4) (o:b0) (w:bO) (an:gZ) (y:hY) (Y:r a4) (p:cM) (b:K) (cQ:cc) (a:e) (k:cc):Prop
 |iM (W:cM) (c:K) (d:bu) (Z:qp (λh T an=>aM l o h T an) (λh T an=>a7 l w h T an) a d c an) (t:a2 v W c k) (q:cg (lf y) p b cQ W c k) (m:dg y Y d W c.i k.heap)
theorem X3 (ao:gC v l N y Y (h3 aY y (bY aY y)) A) (U:fw v l N y Y (pG k6 y) aC):fw v l N y Y (h2 (.While aY k6 [] bB) y) (kr A aC):=by
 intro b a aq h G t m Z
 refine aU Z λC Z=>wpAny_While (codeAny_whileLoop (NR v l A aC G y Y b a aq) (λC aB P=>?_) C ⟨b,a,h,Z,t,.dO,m⟩)
 refine bV λau=>?_
 obtain⟨aD,aE,d,o,av,J,q⟩:=P
 cases C with
 |zero=>exact o.elim
 |succ M=>
  refine au (dt (ao.eb (kt:=λae ag=>match ae with
   |false=>G cr d ag
   |true=>a7 l aC d ag λah I p=>(match ah with
    |cr=>qp (λh T G=>aM l A h T G) (λh T G=>a7 l aC h T G) M I p G
    |gp=>qp (λh T G=>aM l A h T G) (λh T G=>a7 l aC h T G) M I p G
    |go=>G cr I p
    |.aR aw=>G (.aR aw) I p)) av q o λae aF D ax w ai H aj=>?_) (λ_ _ af=>af) λ_ _ F=>F.elim)
  cases ae with
  |false=>exact c (ay fR)<|wpAny_execs_nil ⟨D,ax,_,d,w,J.az ai.jW,H,.cr,aj⟩
  |true=>
   refine c (aZ rfl)<|wpAny_mono (U.eb w H aj λah K X aa aG I E i k aA W=>?_) (λ_ _ af=>af) λ_ _ F=>F.elim
   have ab:=(J.az ai.jW).az i
   cases aA with
   |cr=>exact⟨M,fp M,X,aa,I,W,E,ab,k⟩
   |gp=>exact⟨M,fp M,X,aa,I,W,E,ab,k⟩
   |go=>exact⟨X,aa,_,I,E,ab,k,.cr,W⟩
   |aR Q=>exact⟨X,aa,_,I,E,ab,k,.aR Q,W⟩
set_option backward.match.sparseCases true in
abbrev SS (U:nA->cc->Prop) (a:nA) (b:nA) (C:cc):Prop:=match b with|.next=>U a C|b=>U b C
theorem X2 {aa:r h0} {a:h0} (ah:fw v l N y Y (pG k6 y) aC) (M:fw v l N y Y (pG (a::aa) y) dd):fw v l N y Y (h2 (.Try k6 [] [] (a::aa) bB) y) (tw aC dd):=by
 intro b af C h G t m Z
 have J:∀(U:sv) (ab:nA) (P:cc) (D:cM) (q:K) (X:bu),a2 v D q P->cg (lf y) b af C D q P->dg y Y X D q.i P.heap->nF D q.i P.heap U ab->a7 l dd X q (λA I p=>match A with|cr=>G U I p|_=>bK)->aG (bG MineH.b8 v) N (pG (a::aa) y) (SS (sD v y Y b af C G) ab) (notedBy (bG MineH.b8 v) N y (cameBackBy (bG MineH.b8 v) N y gi)) P:=λU ab P D q X w o H c d=>by
  refine dt (M.eb w H d λao aq ai T au I E ag k aj W=>?_) (λ_ _ ae=>ae) λ_ _ F=>F.elim
  cases aj with
  |cr=>exact⟨ai,T,U,I,E,o.az ag,k,c.a0 ag.cn,W⟩
  |go=>exact W.elim
  |gp=>exact W.elim
  |aR Q=>exact W.elim
 refine wpAny_Try_finally (dt (ah.eb t m Z λav P D q U X w o H c d=>?_) (λ_ _ ae=>ae) λ_ _ F=>F.elim)
 cases c with
 |cr=>exact aam (J cr .next P D q X w o H .cr d)
 |go=>exact J go IV P D q X w o H .go d
 |gp=>exact J gp IW P D q X w o H .gp d
 |aR Q=>exact J _ _ P D q X w o H (.aR Q) d
inductive MJ (k:cc) (Q:dM):Prop
 |iM (I:d5) (A:qS) (d:hX aX) (w:k.heap.get? Q=g I) (G:I.cls=ak A) (l:I.data=ma d) (y:["enumerate","zip","dict_itemiterator","dict_reverseitemiterator","odict_iterator","itertools.zip_longest","itertools.pairwise"].contains A=false)
theorem hQ.eU (m:hQ p a k.heap W ol):MJ k W:=by
 cases m with
 |f3 _ _ T=>exact T.elim λI T=>⟨I,_,_,T.1,T.2.1,T.2.2,aQ rfl⟩
 |fr _ _ T=>exact T.elim λI T=>⟨I,_,_,T.1,T.2.1,T.2.2,aQ rfl⟩
 |dk _ _ w _=>exact⟨_,_,_,w,rfl,rfl,aQ rfl⟩
 |S _ _ _ _ _ _ T=>exact T.elim λI T=>⟨I,_,_,T.1,T.2.1,T.2.2,aQ rfl⟩
 |kI _ _ _ _ _ _ T=>exact T.elim λI T=>⟨I,_,_,T.1,T.2.1,T.2.2,aQ rfl⟩
set_option backward.match.sparseCases true in
theorem Ta (m:hQ p a k.heap W ol) (Z:kv () k):aG (bG cd v) N (letOwnedTupleGo aY (O W) aI) kv bs k:=by
 have b:∀(y:dM),aG (bG cd v) N (do
   let I<-load W
   match I.cls,I.data with
   |ak a,ma d=>
    if(["enumerate","zip","dict_itemiterator","dict_reverseitemiterator","odict_iterator","itertools.zip_longest","itertools.pairwise"].contains a&&d[0]? ==g (nB y))=true then do
     rule "for.unpacks-the-owned-tuple"
     updateField W 0 bf
    else pure ()
   |_,_=>pure ()) kv bs k:=λy=>by
  obtain⟨I,A,d,w,G,l,h⟩:=m.eU
  refine av (wpAny_load w ?_)
  refine c G (c l ?_)
  dsimp only
  exact c h<|wpAny_pure Z
 cases aY<;>first|exact bz Z|skip
 all_goals
  cases aI<;>first|exact bz Z|exact b _|skip
inductive JH (v:bZ) (l:b4) (w:bO) (A:q->bu->K->(bu->Prop)->Prop) (an:gZ) (y:hY) (Y:r a4) (Q:dM) (p:cM) (b:K) (cQ:cc) (a:e) (k:cc):Prop
 |iM (W:cM) (c:K) (t:ha) (d:bu) (Z:ip (λh T an=>a7 l w h T an) A a t d c an) (o:a2 v W c k) (C:cg (λP=>lf y P\/P=Q) p b cQ W c k) (m:dg y Y d W c.i k.heap) (T:hQ W c.i k.heap Q t)
theorem HL (a3:N.handled=R) (a5:n2 dv=false) (a8:qU v l N y Y (bY dv y) hM A) (a9:fw v l N y Y (pG k6 y) aC) (a':∀h T G,a7 l dd h T G=aM l A h T λJ k=>g4 hM J k λt k=>∃ae,ip (λh T G=>a7 l aC h T G) jk ae t h k G) (ay:∀(b:cM) (a:K) (C:cc) (h:bu) (J:q) (X:aX) (aF:bu->Prop) (aI:yY->cc->Prop) (bb:aX->cc->Prop),a2 v b a C->dg y Y h b a.i C.heap->be b a.i C.heap J X->jk J h a aF->(∀E d,a2 v b a E->cg (lf y) b a C b a E->dg y Y d b a.i E.heap->aF d->aI () E)->aG (bG MineH.b8 v) N (yI aY y X) aI bb C):fw v l N y Y (h2 (.For aY dv k6 [] bB) y) dd:=by
 intro b a C h G bg m Z
 rw[a'] at Z
 refine wpAny_For (dt (a8 b a C h _ bg m Z) (λX b3 bk=>?_) λ_ _ F=>F) (λag=>Fh a5)
 refine bV λH=>?_
 obtain⟨D,b4,J,bl,o,bp,bq,br⟩:=bk
 refine H (dt (Hm (cl:=fq) bl bp br) (λb5 b6 bt=>?_) λ_ _ F=>F)
 refine bV λH=>?_
 obtain⟨Q,t,bw,rfl,af,bx,aL,aA,ae,bz⟩:=bt
 have aB:C.heap.get? Q=R:=by
  rcases af with af|⟨rfl,af⟩
  ·cases bA:C.heap.get? Q with
   |none=>rfl
   |some bC=>exact absurd af (o.di _ (f1 bA))
  exact bq rfl Q af.symm
 have ah:¬lf y Q:=λT=>T.elim (λT=>m.AI (T▸aB)) λT=>T.elim λb7 T=>m.AH T aB
 refine H (codeAny_forLoop_any (JH v l aC jk G y Y Q b a C) (λae E bD=>?_) ae ⟨D,bw,t,h,bz,bx,(o.az aL).jW,(m.ez o).ez aL,aA⟩)
 clear H
 refine bV λH=>?_
 obtain⟨W,aa,t,d,aO,bE,bF,bJ,aA⟩:=bD
 have aD:∀{ab:cc} {aP:cM} {aQ:K},cg (λP=>lf y P\/P=Q) b a C aP aQ ab->cg (lf y) b a C aP aQ ab:=λbM=>bM.AQ λP ay bN=>ay.elim (λT=>T) λT=>absurd (T▸aB) bN
 cases ae with
 |zero=>exact aO.elim
 |succ ai=>
  refine H (dt (Gi bE a3 aA aO) (λbC ab M=>?_) λ_ _ F=>F)
  have aS:cg (λP=>P=Q) W aa E W aa ab->_:=λp=>bJ.vm p (λT=>ah (ap T.symm)) λag b9 bO T=>ah (ar ⟨ag,T▸bO⟩)
  have aU:cg (λP=>P=Q) W aa E W aa ab->_:=λp=>bF.az (p.nt λP T=>ar T)
  cases M with
  |bI w U p M=>exact c w<|wpAny_execs_nil ⟨W,aa,_,d,U,aD (aU p),aS p,.cr,M⟩
  |Bp bP bQ aV w U p aE aW M=>
   refine c w<|Ta aW (ay W aa ab d bQ bP _ _ _ U (aS p) aE M λb' cb bT I bU bX=>?_)
   have b0:=aW.ez I ah
   refine dt (a9.eb bT bU bX λcf cj aj ao ck aq au aZ av b2 aw=>?_) (λ_ _ ag=>ag) λ_ _ F=>F.elim
   have ax:=((aU p).az (I.nt λP T=>ap T)).az (aZ.nt λP T=>ap T)
   have a0:=b0.ez aZ ah
   cases b2 with
   |cr=>exact⟨ai,fp ai,aj,ao,aV,aq,aw,au,ax,av,a0⟩
   |gp=>exact⟨ai,fp ai,aj,ao,aV,aq,aw,au,ax,av,a0⟩
   |go=>exact⟨aj,ao,_,aq,au,aD ax,av,.cr,aw⟩
   |aR aE=>exact⟨aj,ao,_,aq,au,aD ax,av,.aR aE,aw⟩
section
variable (gK:la a N) (dx:y3 v l N k4) (bn:f7 b' y)
include gK dx bn
theorem XQ (X:lI v a l) (q:fE ac Y=g w) (K:rx y ac):ee (λI=>fw v l N y Y (h2 (sf [er ac dF] aY bB) y) (ba w I)) (up d b' Y aY):=by
 by_cases G:uK aY=true
 ·cases d with
  |zero=>exact .en
  |succ d=>
   cases aY with
   |ListComp k F m C=>refine hq rJ λb M=>hq xB λA D=>D.elim λH D=>.FE (Eu (w4 X gK d) bn D) λI U=>c M ?_;obtain⟨H,E,t,aY,o,P,rfl,J,T,Q,h,i,p⟩:=U;exact c P<|XO q K gK.nY bn J T Q h i p
   |SetComp=>exact .en
   |DictComp=>exact .en
   |_=>exact(fR G).elim
 exact λI W=>XM (Yg.mpr G) q K (w4 X gK d b' Y y aY bn I W).rj
theorem XK {w:a6 bO} (U:ee (fw v l N y Y (pG k6 y)) w):ee (fw v l N y Y (h2 (.For dv aY k6 [] bB) y)) (Ee (k4 b' Y) b' Y aY w dv):=by
 have i:∀F I,k4 b' Y F=g I->n2 F=false:=λF I T=>(dx b' Y y F bn I T).iu
 cases dv with
 |Name W k=>exact hq (wQ bn) λD T=>.gA λK p=>.o7 U λk6 U=>HL (jk:=λJ h _ G=>G (h.aP D J)) gK.nY (zE i p) (z' bn (m8 dx bn) p) U (λh T G=>rfl) λb a C h J X M H P t m Q Z o=>Ji (tr t m T.1 T.2 Q λE d aa q=>o E _ d aa q Z)
 |Tuple ab ae k=>refine hq (Eh bn) λA T=>.gA λK p=>.o7 U λk6 U=>HL (jk:=λJ h T G=>of A J h T G) gK.nY (zE i p) (z' bn (m8 dx bn) p) U (λh T G=>rfl) λb a C h J X M H P t m Q Z o=>c (Z6 ..)<|wpAny_bind (kd (HD gK.nY T t m Q Z o))
 |_=>exact .en
theorem XI (X:lI v a l):ee (fw v l N y Y (h2 (sf [dv] aY bB) y)) (D9 (up d b' Y) b' Y aY dv):=by
 have D:=w4 X gK d
 have I:=gK.ij
 cases dv with
 |Name W Q=>exact hq (wQ bn) λh T=>.o7 (XQ gK D bn X T.1 T.2) λ_ T=>T
 |Tuple b U Q=>exact .f' λc=>hq (Eh bn) λA k=>.h4 λi p=>XR gK.nY (qx _▸c) k (gN D bn p)
 |Attribute m W Q=>exact .gA λi k=>.gA λh p=>.h4 λP c=>XN p (gN D bn k) (gN D bn c)
 |Subscript m o Q=>exact .gA λi k=>.gA λh p=>.h4 λP c=>XP (H 9 (E 15 (bX _ _) I)) (gN D bn k) (gN D bn p) (gN D bn c)
 |_=>exact .en
theorem XJ (w:un lB=g gU):ee (fw v l N y Y (h2 (Cs dv lB aY bB) y)) (D' (k4 b' Y) b' Y aY gU dv):=by
 cases dv with
 |Name W Q=>exact hq (wQ bn) λb T=>.h4 λc a=>XS w T.1 T.2 (gN dx bn a)
 |Attribute P W Q=>exact .gA λc k=>.gA λb p=>.h4 λP a=>XT w p (gN dx bn k) (gN dx bn a)
 |_=>exact .en
end
def DV (m:bZ) (D:b4) (k:jC) (o:gW->r a4->h0->a6 bO):Prop:=∀i H p h,f7 i p->ee (fw m D k p H (h2 h p)) (o i H h)
theorem XH (X:lI v a l) (m:la a N) (t:DV v l N (sM d)) (i:f7 b' y) {h:h0}:ee (fw v l N y Y (h2 h y)) (Ei (up d b' Y) b' Y (sM d b' Y) h):=by
 have D:=w4 X m d
 have W:∀{A},ee (fw v l N y Y (pG A y)) (nN (sM d b' Y) A):=λ{A} E T=>Bz (λh E T=>t b' Y y h i E T) A E T
 cases h with
 |Pass Q=>exact .kX XZ
 |Break Q=>exact .kX XV
 |Continue Q=>exact .kX XW
 |Raise o P Q=>exact .kX XU
 |Expr F Q=>exact .f' λG=>.h4 λJ T=>XX (qx _▸G) (gN D i T)
 |Return I Q=>cases I with
  |none=>exact .kX X1
  |some F=>exact .h4 λJ T=>X0 (gN D i T)
 |Assign b F Q=>exact hq rJ λq M=>M▸XI m D i X
 |AugAssign q Z F Q=>exact .gA λI w=>XJ m D i w
 |If U o P Q=>exact .gA λU k=>hq W λo p=>.o7 W λP H=>XY (o0 D i k) p H
 |While U o P Q=>cases P with
  |nil=>exact .gA λU k=>.o7 W λo p=>X3 (o0 D i k) p
  |cons _ _=>exact .en
 |For q ab o P Q=>cases P with
  |nil=>exact XK m D i W
  |cons _ _=>exact .en
 |Try o K c aa Q=>cases K with
  |nil=>cases c with
   |nil=>cases aa with
    |nil=>exact .en
    |cons C ae=>exact hq W λo k=>.o7 W λP p=>X2 k p
   |cons _ _=>exact .en
  |cons _ _=>exact .en
 |_=>exact .en
theorem HK (X:lI v a l) (m:la a N) (C:e):DV v l N (sM C):=by
 induction C with
 |zero=>exact λ_ _ _ _ _=>.en
 |succ C t=>exact λi H p h d=>XH X m t d
noncomputable def Ry (m:bZ) (o:e):a6 yG:=(nW o).bind λP=>((MineH.e1 m.params).get? P).bind λI=>Ai I.data
noncomputable def Ff:Data->a6 (hX aX)
 |ma d=>g d
 |_=>R
noncomputable def zM (m:bZ) (a:aX):a6 a4:=(x0 a).bind λU=>((MineH.e1 m.params).get? U).bind λI=>(Ff I.data).bind λd=>d[1]?.bind x6
noncomputable def xE:r a4->ci
 |[]=>true
 |W::h=>(h.all λA=>!dV W A)&&xE h
noncomputable def FS:aX->ci
 |bf=>true
 |_=>false
noncomputable def Fa (m:bZ) (y:yG) (U:r a4):ci:=y.closure.isEmpty&&(FS y.defaults&&(kA y.globals 3&&(kA y.builtins 0&&(decide (y.scope.kind=pD)&&(y.scope.names.all (λQ=>!decide (Q.2=hA))&&((zM m y.code).any (λZ=>dV Z y.qualname)&&(xE U&&(U.all (λQ=>decide (fb Q y.scope.names=g .local)||decide (fb Q y.scope.names=g hZ))&&(!y.scope.isGenerator&&!y.scope.isCoroutine)))))))))
noncomputable def AO (H:r a4):r a4->a6 (r e)
 |[]=>g []
 |Q::U=>(fE Q H).bind λY=>(AO H U).map (Yw Y)
noncomputable def Hp:IX->a6 (r h0)
 |Cm P=>g P
 |_=>R
noncomputable def w7 (m:bZ) (o:e):a6 (r e×bO):=(Ry m o).bind λy=>(Hp y.body).bind λa=>(A6 y.params).bind λU=>f' (Fa m y U) ((AO (o6 y.scope) U).bind λA=>(nN (sM 40 y.scope (o6 y.scope)) a).map (Cb A))
theorem Tb (m:bZ):(uL m cStatics&&ne m cStatics "sys.recursionlimit")=true:=by kernel_rfl
theorem a2.T4 (t:a2 v p b k):k.heap.NoLimit:=by refine bl (dR.mp (Tb v)) λa c=>a8 _ (t.xF a) (qc c)
theorem RF (T:Ff k0=g cB):k0=ma cB:=i6.gb (fd:=λcB=>k0=ma cB) (by cases k0<;>first|exact trivial|exact rfl) T
theorem W5 {J:IX} (T:Hp J=g k6):J=Cm k6:=i6.gb (fd:=λk6=>J=Cm k6) (by cases J<;>first|exact trivial|exact rfl) T
theorem SL (T:FS aI=true):aI=bf:=by cases aI<;>first|exact rfl|exact(fR T).elim
theorem a2.PY (t:a2 v p b k) (T:zM v aI=g ac):k.heap.CodeRec aI ac:=by refine ax (hz.mp T) λU a T=>ax (hz.mp T) λI c T=>ax (hz.mp T) λd l T=>ax (hz.mp T) λJ h T=>aU (Bu T) λN m=>?_;subst m;exact⟨U,I,d,N,Be a,(t.ew _ _ c).1,RF l,h⟩
structure CV (v:bZ) (y:yG) (U:r a4):Prop where
 PO:y.closure=[]
 Qj:y.defaults=bf
 p3:y.globals=3
 pX:y.builtins=0
 hs:y.scope.kind=pD
 T9:∀W,(W,hA)∉y.scope.names
 PX:zM v y.code=g y.qualname
 b7:xE U=true
 UA:∀Q,Q∈U->fb Q y.scope.names=g .local\/fb Q y.scope.names=g hZ
 RW:y.scope.isGenerator=false
 uu:y.scope.isCoroutine=false
theorem Rz (T:Fa v g9 Y=true):CV v g9 Y:=
 have T:=dR.mp T
 have k:=dR.mp T.2
 have p:=dR.mp k.2
 have l:=dR.mp p.2
 have a:=dR.mp l.2
 have P:=dR.mp a.2
 have A:=dR.mp P.2
 have i:=dR.mp A.2
 have w:=dR.mp i.2
 have F:=dR.mp w.2
 ⟨tL.mp T.1,SL k.1,yq p.1,yq l.1,dq a.1,λW q=>fR (f2.mp P.1 _ q),((Zj ..).mp A.1).elim λZ T=>T.1.trans (cS _ (kn.mp T.2)),i.1,λQ J=>(BG.mp (f2.mp w.1 Q J)).imp dq dq,qx _▸F.1,qx _▸F.2⟩
theorem T7:∀{X:r a4},xE X=true->X.Nodup:=by
 intro X;induction X with
 |nil=>intro _;exact kz
 |cons W h t=>intro T;refine bl (dR.mp T) λk p=>lE.mpr ⟨λN=>?_,t p⟩;have:=f2.mp k W N;rw[kn.mpr rfl] at this;exact eY this
theorem Ts:∀{U:r a4} {b:r aX},U.Nodup->U.length=b.length->U.filterMap (λC=>((U.zip b).lookup C).map (C,·))=U.zip b/\∀C∈U,((U.zip b).lookup C).isNone=false:=by
 intro U b y D;have Z:∀(U:r a4) (b:r aX) (a:r (a4×aX)),U.Nodup->U.length=b.length->(∀C∈U,a.lookup C=R)->U.filterMap (λC=>((a++U.zip b).lookup C).map (C,·))=U.zip b/\∀C∈U,((a++U.zip b).lookup C).isNone=false:=by
  intro U
  induction U with
  |nil=>intro b a _ _ _;exact⟨rfl,λC T=>em T⟩
  |cons Q U t=>
   intro b a y D l
   cases b with
   |nil=>exact ei D rfl
   |cons J b=>
    refine bl (lE.mp y) λm d=>?_;have F:∀C,(a++(Q::U).zip (J::b)).lookup C=((a++[(Q,J)])++U.zip b).lookup C:=λC=>by simp
    have h:∀C∈U,(a++[(Q,J)]).lookup C=R:=λC N=>by have k:=l C (hl _ N);have p:(C==Q)=false:=pH.mpr λF=>m (F▸N);refine c (YN ..) (c k ?_);simp[mS,p]
    refine bl (t b (a++[(Q,J)]) d (IB D) h) λk p=>?_;have i:(a++(Q::U).zip (J::b)).lookup Q=g J:=by refine c (YN ..) (c (l Q (fC _)) ?_);simp[mS]
    refine⟨?_,λC N=>?_⟩
    ·refine c (List.filterMap_cons ..) (c i ?_)
     dsimp only[yy,List.zip_cons_cons]
     congr 1
     refine HX ?_ k
     exact cS (λo=>Yz o U) (funext λC=>by exact c (show a++(Q,J)::U.zip b=a++[(Q,J)]++U.zip b by simp) rfl)
    ·cases N with
     |head=>refine c i ?_;rfl
     |tail _ N=>exact c (F ..)<|p C N
 have:=Z U b [] y D λ_ _=>rfl;simpa using this
theorem UZ {Q:Cd} (T:A6 Q=g Y):Q.posonlyargs=[]/\Q.args.map (·.arg)=Y/\Q.vararg=R/\Q.kwonlyargs=[]/\Q.kwarg=R:=by refine bl (mu T) λT F=>?_;have T:=dR.mp T;have k:=dR.mp T.1;have p:=dR.mp k.1;have l:=dR.mp p.1;have v:=dR.mp l.1;exact i9 (tL.mp v.1) (bm F) (yw.mp v.2) (tL.mp l.2) (yw.mp k.2)
theorem T5 {o:eG->ci} {X:r eG} (T:∀W,W∈X->o W=false) (G:(!((X.take a).filter o).isEmpty)=true):bK:=by rw[Ib.mpr λW q=>by exact c (T W (yn q))<|fR] at G;exact eY G
theorem RI {d:Type} {X:r eG} {P:d} {o:eG×tB->d->hn (HZ d)} {h:Type} {b:d->hn h} {F:hn h} (T:b P=F):(vN (X.zip (ab4 a ([]:r tB))) P o>>=b)=F:=by exact c (List.drop_nil ..)<|c (List.zip_nil_right ..)<|T
theorem Pj (T:A6 g9.params=g Y) (l:g9.defaults=bf) (y:Y.Nodup) (Z:Y.length=dQ.length):bindArgs g9 ⟨dQ,[]⟩=pure (Y.zip dQ):=by
 refine rd (UZ T) λk p aa v P=>bl (Ts y Z) λE F=>?_;clear T y;obtain⟨A,ab,b,K,i,ae,I,m,q,N,Q,d,a,o,w⟩:=g9;obtain⟨H,h,M,J,U,t,X⟩:=b;obtain rfl:H=[]:=k;obtain rfl:M=R:=aa;obtain rfl:J=[]:=v;obtain rfl:t=R:=P;obtain rfl:m=bf:=l;obtain rfl:h.map (·.arg)=Y:=p;refine HX (ay (c:=(decide (dQ.length>(h.map (·.arg)).length)&&true)=true) ?_) ?_
 ·exact c (jE (fo (D Z)))<|fR
 refine HX (ay λG=>T5 F G)<|RI<|(?_:Sem.pure (Yz (λC=>Option.map (λW=>(C,W)) (YM C ((h.map (·.arg)).zip dQ))) (h.map (·.arg)++[]))=_)
 refine c (eP ..) (c E ?_);rfl
theorem Em:∀{b:r (a4×qM)} {C:e} {d:r (a4×dM)},((ac,hZ)∈b\/∃U,d.lookup ac=g U)->∃U,(cellsFrom C b d).lookup ac=g U:=by
 intro b;induction b with
 |nil=>intro C d T;exact bi T (λT=>em T) λT=>T
 |cons N a t=>
  obtain⟨A,Y⟩:=N;intro C d T;rw[cellsFrom];by_cases K:Y=hZ
  ·refine c K ?_;rw[aZ (by rfl)];refine t<|bi T (λT=>?_) λm=>aU m λU T=>?_
   ·cases T with
    |head=>exact ar ⟨C,by rw[mS,wb]⟩
    |tail _ T=>exact ap T
   ·refine ar<|c (mS ..) ?_
    cases E:ac==A with
    |true=>exact⟨C,rfl⟩
    |false=>exact⟨U,T⟩
  refine c (ay (by simpa using K) ..)<|t<|bi T (λT=>?_) λT=>?_
  ·cases T with
   |head=>exact absurd rfl K
   |tail _ T=>exact ap T
  exact ar T
def ze (i:a4->a6 qM) (H:r a4) (b:cM) (C:e) (T:gf) (h:bu) (M E:a4->a6 aX):Prop:=∀W Y J,fE W H=g Y->h Y=g J->(i W=g .local->∃c,M W=g c/\be b C T J c)/\(i W=g hZ->∃c,E W=g c/\be b C T J c)
theorem Pk {i:a4->a6 qM}:∀{U:r a4} {I:r e} {X:r q} {b:r aX} {h d:bu} {M E:a4->a6 aX},AO Y U=g I->lr I X h=g d->bQ p a ae X b->ze i Y p a ae h M E->ze i Y p a ae d (bindL i (U.zip b) M) (bindC i (U.zip b) E)/\U.length=b.length:=by
 intro U;induction U with
 |nil=>intro I X b h d M E k G l v;obtain rfl:=bm k;refine bl (mu G) λF G=>?_;obtain rfl:=tL.mp F;exact c (show b=[] from l.o)<|⟨bm G▸v,rfl⟩
 |cons Q U t=>
  intro I X b h d M E k G l v
  refine bV λH=>ax (hz.mp k) λab af k=>ax (e7.mp k) λN D m=>?_;subst m
  cases X with
  |nil=>exact ce G
  |cons J X=>cases b with
   |nil=>exact l.o.elim
   |cons T b=>
    have ag:=l.o.1;have:=t (M:=if i Q=g .local then λA=>if A=Q then g T else M A else M) (E:=if i Q=g .local then E else λA=>if A=Q then g T else E A) D G l.o.2 (λW w ah aa Z=>?_)
    ·exact H ⟨this.1,cS yv this.2⟩
    clear H;by_cases C:W=Q
    ·obtain rfl:ab=w:=bm (af.symm.trans (C▸aa));rw[u8] at Z;exact bp (bm Z)<|c C<|⟨λK=>a8 T (by exact c (aZ K)<|if_pos rfl) ag,λK=>a8 T (by rw[ay (by exact c K<|λF=>nomatch F)];exact aZ rfl) ag⟩
    rw[rL (λF:w=ab=>C (sP (F▸aa) af))] at Z;refine bl (v W w ah aa Z) λy P=>⟨λK=>(y K).imp λ_ ae=>⟨?_,ae.2⟩,λK=>(P K).imp λ_ ae=>⟨?_,ae.2⟩⟩
    ·split
     ·exact(ay C).trans ae.1
     exact ae.1
    split
    ·exact ae.1
    exact(ay C).trans ae.1
theorem RK (w:CV v g9 Y) (t:a2 v p b k) (d:fh p p b.i b.i k.heap ae) (a:ze (lF g9 k.heap.objs.size W).kindOf (o6 g9.scope) p b.i k.heap h (bindL (lF g9 k.heap.objs.size W).kindOf (Y.zip dQ) λ_=>R) (bindC (lF g9 k.heap.objs.size W).kindOf (Y.zip dQ) λ_=>R)) (I:InCallC k (lF g9 k.heap.objs.size W).locals (bindL (lF g9 k.heap.objs.size W).kindOf (Y.zip dQ) λ_=>R) (lF g9 k.heap.objs.size W).cells (bindC (lF g9 k.heap.objs.size W).kindOf (Y.zip dQ) λ_=>R) cQ) (F:cQ.heap=ae):dg (lF g9 k.heap.objs.size W) (o6 g9.scope) h p b.i ae/\∀m U,(lF g9 k.heap.objs.size W).cells.lookup m=g U->k.heap.get? U=R:=by
 subst F;have y:k.heap.get? k.heap.objs.size=R:=f8;have c:∀m U,(lF g9 k.heap.objs.size W).cells.lookup m=g U->k.heap.get? U=R/\U≠k.heap.objs.size:=λm U G=>
  have E:k.heap.objs.size<U:=I.above m U (Jb G)
  ⟨Cn (iC E),B3 E⟩
 have l:∀m,n1 (lF g9 k.heap.objs.size W) m->(lF g9 k.heap.objs.size W).kindOf m=g hZ:=λm q=>q.elim (λT=>T) λT=>absurd (qa T) (w.T9 m);refine⟨⟨w.hs,w.p3,w.pX,t.di _ y,λm U G=>s2 (t.di _ (c m U G).1) ((c m U G).2) _ (I.cell m U G),λm A U q C=>PySem.name_of_addr I.apart (Jb q) (Jb C),λm q=>Em (ap (qa (l m q))),(a8 _ I.toInCall.ns (λm o J q K Q=>((a m o J q Q).1 K).imp λ_ T=>⟨T.1,T.2.a0 d⟩)),λm o J U q K G Q=>?_⟩,λm U G=>(c m U G).1⟩;refine((a m o J q Q).2 (l m K)).imp λ_ T=>⟨?_,T.2.a0 d⟩;have:=I.cell m U G;rwa [T.1] at this
theorem PC (m:bZ):∀Q,lI m Q (bC (w7 m) Q):=by
 intro Q;induction Q with
 |zero=>exact λk o P ay d ah ai C G U l I aj t D Z=>Z.elim
 |succ Q aA=>
  intro k o P ay d ah ai C G U l I aj t D Z;refine bV λH=>?_;replace Z:=gF Z;obtain⟨⟨a5,a7⟩,v,Z⟩:=Z;replace Z:=gF Z;refine ax Z λa8 i Z=>ax (hz.mp v) λy ae v=>ax (hz.mp v) λa9 aB v=>ax (hz.mp v) λaC aD v=>bl (mu v) λaa v=>ax (hz.mp v) λN aE v=>ax (e7.mp v) λa' aF v=>?_;cases v;replace aa:=Rz aa;refine ax (hz.mp ae) λbb aG ae=>?_;obtain rfl:=bm (aj.symm.trans aG);refine ax (hz.mp ae) λbe w aI=>?_;have ao:=Pk (i:=(lF y C.heap.objs.size P).kindOf) (M:=λ_=>R) (E:=λ_=>R) aE i D λW Y J _ af=>ce af;refine H (codeAny_call_cells (binds:=aC.zip d) (E 1 (bX _ _) l) (t.ew _ _ w).1 (Fm aI) t.T4 (t.PY aa.PX) (W5 aB) (Pj aD aa.Qj (T7 aa.b7) ao.2) aa.PO (λW q=>?_) (λbg aq=>?_) aa.uu aa.RW aa.hs)
  ·refine(aa.UA _ (List.of_mem_zip (a:=W.1) (b:=W.2) q).1).imp (λF=>rI.symm.trans F) λF=>?_;rw[rI] at F;exact⟨F,(Em (C:=C.heap.objs.size+1) (d:=[]) (ap (qa F))).elim λbk aL=>by refine c aL ?_;rfl⟩
  ·refine bV λH=>iI aq.done λbp M aM aO=>?_;subst aM
   refine bl (t.uD (cl:=fq) aO M) λaP au=>bl (RK aa t au.cn ao.1 aq rfl) λaQ aS=>?_
   have aU:f7 y.scope (lF y C.heap.objs.size P):=⟨λW Y T=>ap (rI.symm.trans T)⟩
   have aV:la Q (k.deeper (lF y C.heap.objs.size P)):=⟨U,by refine(?_:k.depth+1+3*Q+3<=_);exact Ki l,by refine(?_:k.units+3+5*Q+14<_);exact Kj I⟩
   have aW:=Bz (λh aY T=>HK aA aV 40 y.scope (o6 y.scope) _ h aU aY T) _ _ aF
   refine H (dt (aW.eb aP aQ Z λo K X ag bq br av aZ bt a0 ab=>?_) (λ_ _ W=>W) λ_ _ F=>F.elim)
   have p:cg fq ah ai C X ag K:=(au.jW.az aZ).AQ λW q aw=>q.elim (λF=>aw (F▸f8)) λT=>T.elim λA a3=>aw (aS A W a3)
   cases a0 with
   |cr=>exact⟨X,ag,bI,av,p,.bI,ab⟩
   |go=>exact ab.elim
   |gp=>exact ab.elim
   |aR af=>exact⟨X,ag,_,av,p,af,ab⟩
section
set_option maxHeartbeats 0
noncomputable def wL:bO:=(s (ba 1 (fx fr (f 20) 20 (bR c9 (j0 (f 0) (u bI) (u (j 45))) (cT .V (n (u (S [(j 0),(j 5),(j 3),(j 16),(j 1),(j 0),(j 6),(j 0),(j 1),(j 3),(j 0),(j 0),(j 5),(j 32),(j 0),(j 1),(j 0),(j 0),(j 0),(j 1),(j 0),(j 0),(j 0),(j 1)])) z))) (u (aK true)))) (s (ba 2 (bh 128 (n (f 1) z))) (s (ba 3 (as (f 2) (u (aV "rows")))) (s (ba 4 (bR eE (cT bo (n (f 3) z)) (u (j 1)))) (s (ba 5 (bh 120 (n (f 3) (n (f 2) z)))) (s (ba 6 (bh 121 (n (f 3) (n (f 2) z)))) (s (jM [7,8,9,10] (bh 116 (n (f 2) (n (f 3) (n (rD (n (bR c9 (f 4) (u (j 1))) z)) z))))) (s (bc (it (f 10)) (s (aR (u (aK false))) L) L) (s (ba 11 (fx dC (.V (n (as (f 20) (u (j 0))) (n (fx dC (f 21) 21 (as (f 20) (u (j 1))) (u (aK true))) (n (as (f 20) (u (j 2))) (n (as (f 20) (u (j 3))) (n (as (f 20) (u (j 4))) z)))))) 20 (f 3) (u (aK true)))) (s (el dk 12 (n (bR c9 (u (j 1)) (bh 110 (n (f 1) (n (u (j 3)) z)))) z) (s (du (bh 126 (n (f 1) (n (f 11) z)))) L)) (s (ba 13 (bh 127 (n (f 1) (n (cT bo (n (f 11) z)) z)))) (s (jM [14,15,16,10] (bh 116 (n (f 2) (n (f 11) (n (f 13) z))))) (s (bc (it (f 10)) (s (aR (u (aK false))) L) L) (s (el dk 17 (n (bR c9 (f 4) (u (j 1))) z) (s (bc (hh (aJ d8 (bh 105 (n (f 7) (n (f 17) (n (f 9) z)))) (as (f 6) (f 17))) (aJ d8 (bh 105 (n (f 14) (n (as (f 13) (f 17)) (n (f 16) z)))) (as (f 6) (f 17)))) (s (aR (u (aK false))) L) L) L)) (s (ba 18 (u (j 0))) (s (el dk 12 (n (bR c9 (u (j 1)) (bh 110 (n (f 1) (n (u (j 2)) z)))) z) (s (ba 18 (bR eE (f 4) (bh 110 (n (f 1) (n (bR c9 (f 4) (u (j 1))) z))))) (s (bc (aJ d8 (bh 129 (n (f 2) (n (f 7) (n (f 8) (n (f 18) z))))) (as (f 5) (f 18))) (s (aR (u (aK false))) L) L) (s (bc (aJ d8 (bh 129 (n (f 2) (n (f 14) (n (f 15) (n (as (f 13) (f 18)) z))))) (as (f 5) (f 18))) (s (aR (u (aK false))) L) L) L)))) (s (ba 19 (bh 122 (n (f 3) (n (f 18) (n (.S (n (u (j 3)) z)) (n (u (j 1)) z)))))) (s (bc (aJ bL (f 19) (u (j 0))) (s (aR (u (aK true))) L) L) (s (aR (bh 130 (n (f 2) (n (f 14) (n (f 15) (n (f 16) (n (as (f 13) (f 19)) (n (as (f 13) (f 18)) (n (as (f 5) (f 18)) (n (as (f 6) (f 18)) z)))))))))) L)))))))))))))))))))
theorem S3:nN (sM 40 MineH.hH.scope (o6 MineH.hH.scope)) MineH.hH.body=g wL:=by kernel_rfl
theorem xt:(MineH.hH.scope.kind=pD/\(MineH.hH.scope.names.all λQ=>match Q.2 with|hZ=>false|hA=>false|_=>true)=true/\fE "script" (o6 MineH.hH.scope)=g 0):=ch rfl (by kernel_rfl) (by kernel_rfl)
def Dz:Prop:=∀(m:bZ) (H:r B),H.length<=63->a7 (bC (w7 m) 100) wL (bu.aP (λ_=>R) 0 (x 0)) ⟨1,λ_=>V (H.map j)⟩ λU _ _=>U=.aR (aK true)
noncomputable def uC (T:gf) (y:dM):cM:=⟨λ_=>y,λ_=>0,λP=>match T.get? P with|some _=>e9|none=>c'⟩
theorem SH:∀{d:r aX} {H:r B},yA d H->bQ p a ae (H.map q.j) d:=λae=>AP ae
theorem Az (av:Dz):v2.Holds:=MineH.QW (by
 intro m bk a bl bp aw N b I bq ax br bt bx w l ay az ag aA C bz bA h aB aC v aD
 refine Ground.open aw ?_
 intro M _ ah _ _
 try (refine guard_noD ah (by decide+kernel) ?_;clear ah)
 refine g3 (bmod_of_top M) λbB bC _=>iI (based_of_top M rfl ag w l) λab bD ai _=>?_
 have aE:ax=_:=ai
 subst aE
 clear ai
 clear ag
 wrow_args h aB aC v aD
 refine enter_call ?_
 w_top on
 try refine I' ?_ (λ_ _ aF=>GoodW.toG aF)
 w_call any w l ay az M D
 rename_i H _ _ _ _ _ bE bF aa d bG aG bJ _ _ aI _ aL _ Z _
 have aM:H.length<=63:=JZ aL
 have ae:=D.keep
 have k:a.heap.get? a.heap.objs.size=R:=Cn (bv _)
 have af:∀{P I},a.heap.get? P=g I->(uC a.heap aa).bw P=e9:=λ{P I} E=>by refine(?_:(match a.heap.get? P with|some _=>pR.e9|none=>pR.c')=e9);exact c E rfl
 have aj:∀{P},a.heap.get? P=R->(uC a.heap aa).bw P=c':=λ{P} E=>by refine(?_:(match a.heap.get? P with|some _=>pR.e9|none=>pR.c')=c');exact c E rfl
 refine eT (id aG) λaO p aQ aS=>?_
 have t:a2 m (uC a.heap aa) ⟨1,λ_=>V (H.map j)⟩ ({heap:=Z,gens:=a.gens,drawn:=a.drawn,toks:=a.toks+1,os:=a.os}:cc):=by
  refine⟨Iv,λy U=>?_,λy I F=>⟨ae _ _ (N y I F),af (N y I F)⟩,λy F=>?_,aA⟩
  ·have:y=0:=by have:y<1:=U;exact d4 (ep 1 this) (c8 _)
   subst this;exact a8 d.toArray (by exact c (sa ..)<|SH aI) (ar ⟨rfl,af p,aO,ae _ _ p,aQ,aS⟩)
  ·refine aj ?_
   cases aU:a.heap.get? y with
   |none=>rfl
   |some I=>rw[ae _ _ aU] at F;exact fK F
 have aV:=D.ns
 have aW:dg (yB MineH.hH.name MineH.hH.scope a.heap.objs.size b (O ab)) (o6 MineH.hH.scope) (bu.aP (λ_=>R) 0 (x 0)) (uC a.heap aa) 1 Z:=by
  have K:∀W,(yB MineH.hH.name MineH.hH.scope a.heap.objs.size b (O ab)).kindOf W=MineH.hH.scope.names.lookup W:=λW=>rfl;have ao:∀W,¬n1 (yB MineH.hH.name MineH.hH.scope a.heap.objs.size b (O ab)) W:=λW q=>by
   refine bi q (λT=>?_) λT=>?_
   ·have:=f2.mp xt.2.1 _ (qa ((K W).symm.trans T));exact eY this
   have:=f2.mp xt.2.1 _ (qa ((K W).symm.trans T));exact eY this
  refine⟨xt.1,rfl,rfl,aj k,λW aq G=>ce G,λW A aq q=>ce q,λW q=>(ao W q).elim,(a8 _ aV (λW Y J q bM Q=>?_)),λW Y J aq _ K=>(ao W K).elim⟩;by_cases au:Y=0
  ·subst au;have:W="script":=sP q xt.2.2;subst this;rw[u8] at Q;obtain rfl:=bm Q;refine a8 (O aa) (by rfl)<|be.x (b:=uC a.heap aa) (C:=1) (T:=Z) 0 Iv
  rw[rL au] at Q;exact ce Q
 have aY:f7 MineH.hH.scope (yB MineH.hH.name MineH.hH.scope a.heap.objs.size b (O ab)):=⟨λW Y T=>ap (by rw[rI] at T;exact T)⟩
 have aZ:la 100 (I8.deeper (yB MineH.hH.name MineH.hH.scope a.heap.objs.size b (O ab))):=⟨rfl,(by refine(?_:I8.depth+1+3*100+3<=Jf);decide+kernel),(by refine(?_:I8.units+3+5*100+14<ek);decide+kernel)⟩
 have a0:=Bz (λa3 a5 T=>HK (PC m 100) aZ 40 MineH.hH.scope (o6 MineH.hH.scope) _ a3 aY a5 T) _ _ S3
 refine dt (a0.eb t aW (av m H aM) λbN a7 X bO bP bQ a9 i _ a' bb=>?_) (λ_ _ W=>W) λ_ _ F=>F.elim
 subst bb
 cases a' with
 |aR Q=>
  obtain rfl:=Q.o;have bg:∀P I,a.heap.get? P=g I->a7.heap.get? P=g I:=λP I E=>i.cn.p7 _ _ (ae _ _ E) (af E);refine iq (ap ⟨gz true,.bool true,[],rfl,λbT=>?_,.bool _,?_,?_⟩) bg i.pb a9.lR
  ·first|rfl|kernel_rfl
  ·first|rfl|kernel_rfl|(simp;done)
  exact λ_=>⟨kz,λy U=>em U⟩)
end
noncomputable def Ok:bO:=(s (dy (f 0) 0 (f 1)) (s (dy (f 0) 1 (f 2)) (s (dy (f 0) 2 (f 3)) (s (dy (f 0) 3 (f 4)) (s (dy (f 0) 4 (f 5)) (s (dy (f 0) 5 (u (j 0))) L))))))
noncomputable def On:bO:=(s (aR (.cK 21 (n (f 0) (n (f 1) (n (.V z) (n (u (j 0)) (n (f 2) z))))))) L)
noncomputable def Oq:bO:=(s (aR (.cK 21 (n (f 0) (n (f 1) (n (f 2) (n (u (j 0)) (n (f 3) z))))))) L)
noncomputable def OE:bO:=(s (kr (aJ bL (aH (f 0) 0) (u (j 33))) (s (ba 0 (as (aH (f 0) 2) (u (j 0)))) L)) (s (aR (f 0)) L))
noncomputable def OF:bO:=(s (ba 1 (.V z)) (s (ba 2 (.V (n (f 0) z))) (s (kr (f 2) (s (ba 3 (b1 58 (f 2) z)) (s (du (b1 57 (f 1) (n (f 3) z))) (s (ba 4 (bR eE (cT bo (n (aH (f 3) 2) z)) (u (j 1)))) (s (kr (aJ mv (f 4) (u (j 0))) (s (ba 5 (as (aH (f 3) 2) (f 4))) (s (bc (aJ ry (f 5) (u bI)) (s (du (b1 57 (f 2) (n (f 5) z))) L) L) (s (q5 4 eE (u (j 1))) L)))) L))))) (s (aR (f 1)) L))))
noncomputable def OG:bO:=(s (ba 2 (f 1)) (s (el dC 3 (bh 25 (n (f 0) z)) (s (dy (f 3) 5 (f 2)) (s (q5 2 c9 (u (j 1))) L))) (s (aR (f 2)) L)))
noncomputable def OK:bO:=(s (ba 0 (bh 24 (n (f 0) z))) (s (bc (aJ bL (aH (f 0) 0) (u (j 2))) (s (aR (aH (f 0) 1)) L) L) (s (bc (aJ bL (aH (f 0) 0) (u (j 1))) (s (aR (cT .bW (n (aH (f 0) 1) z))) L) L) (s (bc (fD (aJ bL (aH (f 0) 0) (u (j 3))) (it (aH (f 0) 2))) (s (aR (as (aH (f 0) 1) (u (j 0)))) L) L) (s (aR (u bI)) L)))))
noncomputable def OL:bO:=(s (bc (aJ bL (aH (f 0) 0) (u (j 16))) (s (aR (aH (f 0) 1)) L) L) (s (aR (bh 27 (n (as (aH (f 0) 2) (u (j 1))) z))) L))
noncomputable def OM:bO:=(s (bc (aJ bL (aH (f 0) 0) (u (j 9))) (s (aR (u (aV "this"))) L) L) (s (bc (fD (aJ d8 (aH (f 0) 0) (u (j 8))) (aJ d8 (aH (f 0) 0) (u (j 14)))) (s (aR (u (aV ""))) L) L) (s (ba 2 (b1 59 (f 1) (n (aH (f 0) 5) (n (u (j 0)) z)))) (s (bc (aJ bL (f 2) (u (j 0))) (s (aR (u (aV ""))) L) L) (s (aR (bR c9 (u (aV "s")) (cT .bW (n (f 2) z)))) L)))))
noncomputable def ON:bO:=(s (ba 2 (u (aV ""))) (s (kr (u (aK true)) (s (bc (aJ e2 (aH (f 0) 0) (.S (n (u (j 33)) (n (u (j 32)) (n (u (j 20)) z))))) (s (ba 0 (as (aH (f 0) 2) (u (j 0)))) L) (s (bc (aJ e2 (aH (f 0) 0) (.S (n (u (j 16)) (n (u (j 17)) z)))) (s (ba 3 (bh 28 (n (f 0) z))) (s (bc (hh (aJ lj (f 3) (u bI)) (aJ e2 (u (aV ".")) (f 3))) (s (aR (u (aV ""))) L) L) (s (ba 2 (bR c9 (bR c9 (u (aV ".")) (f 3)) (f 2))) (s (ba 0 (as (aH (f 0) 2) (u (j 0)))) L)))) (s .go L)) L)) L)) (s (ba 4 (bh 29 (n (f 0) (n (f 1) z)))) (s (bc (aJ bL (f 4) (u (aV ""))) (s (aR (u (aV ""))) L) L) (s (aR (bR c9 (f 4) (f 2))) L)))))
noncomputable def Ol:bO:=(s (dy (f 0) 6 (.V z)) (s (dy (f 0) 7 (.aT z)) (s (dy (f 0) 8 (.V (n (u bI) z))) (s (dy (f 0) 9 (.V z)) (s (dy (f 0) 10 (.V z)) (s (dy (f 0) 11 (.V z)) (s (dy (f 0) 12 (.aT z)) (s (dy (f 0) 13 (.aT z)) (s (dy (f 0) 14 (u (j 0))) (s (dy (f 0) 15 (u (j 0))) (s (el dC 1 (u (S [(S [(j 1),(aV "any")]),(S [(j 1),(aV "unknown")]),(S [(j 1),(aV "never")]),(S [(j 1),(aV "void")]),(S [(j 1),(aV "undefined")]),(S [(j 1),(aV "null")]),(S [(j 1),(aV "string")]),(S [(j 1),(aV "number")]),(S [(j 2),(j 0),(j 0)]),(S [(j 2),(j 1),(j 0)]),(S [(j 1),(aV "object")]),(S [(j 8),(S []),(S []),(S []),(S []),(S []),(j 0)]),(S [(j 6),(S [(j 8),(j 9)])]),(S [(j 1),(aV "error")]),(S [(j 2),(j 0),(j 1)]),(S [(j 2),(j 1),(j 1)])])) (s (du (b1 45 (f 0) (n (f 1) z))) L)) L)))))))))))
noncomputable def Om:bO:=(s (bc (aJ e2 (f 1) (aH (f 0) 7)) (s (aR (as (aH (f 0) 7) (f 1))) L) L) (s (ba 2 (cT bo (n (aH (f 0) 6) z))) (s (du (b1 57 (aH (f 0) 6) (n (f 1) z))) (s (es (aH (f 0) 7) (f 1) (f 2)) (s (aR (f 2)) L)))))
noncomputable def OO:bO:=(s (bc (aJ bL (f 1) (u (j 2))) (s (aR (.S z)) L) L) (s (ba 2 (as (aH (f 0) 6) (f 1))) (s (bc (aJ bL (as (f 2) (u (j 0))) (u (j 6))) (s (aR (as (f 2) (u (j 1)))) L) L) (s (aR (.S (n (f 1) z))) L))))
noncomputable def OP:bO:=(s (ba 1 (as (f 0) (u (j 0)))) (s (bc (hh (aJ bL (f 1) (u (j 3))) (aJ bL (f 1) (u (j 18)))) (s (aR (u (j 6))) L) L) (s (bc (aJ bL (f 1) (u (j 4))) (s (aR (u (j 7))) L) L) (s (bc (aJ bL (f 1) (u (j 5))) (s (aR (.bc oQ (u (j 6)) (u (j 7)))) L) L) (s (aR (u (j (-1)))) L)))))
noncomputable def OQ:bO:=(s (ba 2 (as (aH (f 0) 6) (f 1))) (s (bc (fD (aJ e2 (as (f 2) (u (j 0))) (u (S [(j 2),(j 3),(j 4),(j 5),(j 8)]))) (aJ bL (as (f 2) (u (j (-1)))) (u (j 1)))) (s (aR (b1 59 (aH (f 0) 7) (n (bR c9 (j0 (f 2) (u bI) (u (j (-1)))) (.S (n (u (j 0)) z))) (n (u (j (-1))) z)))) L) L) (s (aR (u (j (-1)))) L)))
noncomputable def OR:bO:=(s (bc (fD (hh (aJ e2 (u (j 8)) (f 0)) (aJ e2 (u (j 14)) (f 0))) (hh (aJ e2 (u (j 9)) (f 0)) (aJ e2 (u (j 15)) (f 0)))) (s (es (f 0) (u (j 8)) (u (j 1))) (s (es (f 0) (u (j 9)) (u (j 1))) L)) L) L)
noncomputable def OS:bO:=(s (bc (aJ e2 (bh 60 (n (f 0) (n (f 2) z))) (f 1)) (s (aR (u (aK false))) L) L) (s (aR (aJ n5 (bh 59 (n (as (aH (f 0) 6) (f 2)) z)) (f 1))) L))
noncomputable def OT:bO:=(s (el dC 1 (.S (n (u (j 0)) (n (u (j 13)) (n (u (j 1)) z)))) (s (bc (aJ e2 (f 1) (f 0)) (s (aR (f 1)) L) L) L)) (s (aR (u (j (-1)))) L))
noncomputable def OU:bO:=(s (ba 2 (.aT z)) (s (el dC 3 (f 1) (s (el dC 4 (bh 58 (n (f 0) (n (f 3) z))) (s (es (f 2) (f 4) (u (j 1))) L)) L)) (s (ba 5 (bh 63 (n (f 2) z))) (s (bc (aJ mv (f 5) (u (j 0))) (s (aR (f 5)) L) L) (s (du (bh 61 (n (f 2) z))) (s (ba 6 (fx dC (f 7) 7 (cT oc (n (f 2) z)) (bh 62 (n (f 0) (n (f 2) (n (f 7) z)))))) (s (bc (it (f 6)) (s (aR (u (j 2))) L) L) (s (bc (aJ bL (cT bo (n (f 6) z)) (u (j 1))) (s (aR (as (f 6) (u (j 0)))) L) L) (s (bc (aJ i8 (cT bo (n (f 6) z)) (u (j 400))) (s .oQ L) L) (s (aR (b1 45 (f 0) (n (.S (n (u (j 6)) (n (cT rS (n (f 6) z)) z))) z))) L))))))))))
noncomputable def Oo:bO:=(s (dy (f 0) 16 (.V (n (u (j 0)) z))) (s (dy (f 0) 17 (.V (n (.V z) z))) (s (dy (f 0) 18 (.V (n (u bI) z))) (s (dy (f 0) 19 (.V (n (.S z) z))) (s (dy (f 0) 4 (.aT z)) (s (dy (f 0) 20 (.aT z)) (s (dy (f 0) 21 (.aT z)) (s (dy (f 0) 22 (.aT z)) (s (dy (f 0) 23 (.V z)) (s (dy (f 0) 24 (.aT z)) (s (dy (f 0) 25 (.aT z)) (s (dy (f 0) 26 (u (j 0))) (s (dy (f 0) 27 (u (j 0))) (s (dy (f 0) 28 (u (j 0))) L))))))))))))))
noncomputable def Op:bO:=(s (du (b1 57 (aH (f 0) 16) (n (f 1) z))) (s (du (b1 57 (aH (f 0) 17) (n (f 2) z))) (s (du (b1 57 (aH (f 0) 18) (n (f 3) z))) (s (du (b1 57 (aH (f 0) 19) (n (f 4) z))) (s (aR (bR eE (cT bo (n (aH (f 0) 16) z)) (u (j 1)))) L)))))
noncomputable def OV:bO:=(s (ba 1 (.V z)) (s (ba 2 (.V (n (f 0) z))) (s (kr (f 2) (s (ba 3 (b1 58 (f 2) z)) (s (bc (aJ e2 (aH (f 3) 0) (.S (n (u (j 36)) (n (u (j 33)) (n (u (j 32)) (n (u (j 20)) (n (u (j 29)) (n (u (j 31)) z)))))))) (s (du (b1 57 (f 2) (n (as (aH (f 3) 2) (u (j 0))) z))) L) (s (bc (aJ e2 (aH (f 3) 0) (.S (n (u (j 34)) (n (u (j 35)) z)))) (s (el fr 4 (aH (f 3) 2) (s (bc (aJ ry (f 4) (u bI)) (s (du (b1 57 (f 2) (n (f 4) z))) L) L) L)) L) (s (du (b1 57 (f 1) (n (f 3) z))) L)) L)) L))) (s (aR (f 1)) L))))
noncomputable def OW:bO:=(s (bc (aJ bL (aH (f 0) 0) (u (j 41))) (s (aR (bh 82 (n (as (aH (as (aH (f 0) 2) (u (j 0))) 2) (u (j 0))) z))) L) L) (s (aR (bh 82 (n (as (aH (f 0) 2) (u (j 0))) z))) L))
noncomputable def OX:bO:=(s (aR (fx dC (bh 30 (n (f 2) (n (f 1) z))) 2 (bh 83 (n (f 0) z)) (u (aK true)))) L)
noncomputable def Os:bO:=(s (dy (f 0) 29 (f 1)) (s (dy (f 0) 30 (f 2)) (s (dy (f 0) 31 (.aT z)) (s (dy (f 0) 32 (u (j 0))) (s (dy (f 0) 33 (u (j 0))) L)))))
noncomputable def Ot:bO:=(s (aR (f 5)) L)
noncomputable def Ou:bO:=(s (aR (aJ e2 (f 2) (bh 84 (n (f 1) (n (aH (f 0) 30) z))))) L)
noncomputable def Ov:bO:=(s (bc (it (b1 48 (f 0) (n (f 1) (n (f 2) z)))) (s (aR (u (j (-1)))) L) L) (s (aR (b1 59 (aH (f 0) 31) (n (aH (f 1) 5) (n (f 3) z)))) L))
noncomputable def Ow:bO:=(s (el dC 3 (bh 84 (n (f 1) (n (aH (f 0) 30) z))) (s (bc (fD (aJ d8 (f 3) (u (aV ""))) (b1 61 (f 2) (n (bR c9 (f 3) (u (aV "."))) z))) (s (aR (u (aK true))) L) L) L)) (s (aR (u (aK false))) L))
noncomputable def Ox:bO:=(s (aR (bh 64 (n (aH (f 0) 29) (n (f 1) z)))) L)
noncomputable def Oy:bO:=(s (aR (u (j (-1)))) L)
noncomputable def Oz:bO:=(s (aR (u (j 2))) L)
noncomputable def OA:bO:=(s L L)
noncomputable def OB:bO:=(s (aR (u (aK true))) L)
noncomputable def OC:bO:=(s (dy (f 0) 34 (f 1)) (s (dy (f 0) 35 (f 2)) (s (dy (f 0) 36 (f 3)) (s (dy (f 0) 37 (f 4)) (s (dy (f 0) 38 (f 5)) (s (dy (f 0) 39 (.aT z)) (s (dy (f 0) 40 (.aT z)) (s (dy (f 0) 41 (.V z)) (s (dy (f 0) 42 (.V z)) L)))))))))
noncomputable def OD:bO:=(s (es (aH (f 0) 40) (f 1) (f 2)) (s (aR (u (j 0))) L))
noncomputable def OY:bO:=(s (ba 2 (aH (f 0) 34)) (s (ba 3 (as (aH (f 2) 16) (f 1))) (s (bc (aJ bL (f 3) (u (j 0))) (s (aR (b1 55 (f 0) (n (f 1) (n (b1 52 (aH (f 0) 38) z) z)))) L) L) (s (bc (aJ bL (f 3) (u (j 1))) (s (aR (bh 89 (n (f 0) (n (f 1) z)))) L) L) (s (bc (aJ bL (f 3) (u (j 4))) (s (aR (bh 88 (n (f 0) (n (f 1) z)))) L) L) (s (bc (fD (aJ bL (f 3) (u (j 3))) (aJ e2 (.S (n (f 1) (n (aH (f 0) 35) z))) (aH (f 2) 22))) (s (kG (f 2) 27 c9 (u (j 1))) (s (aR (b1 55 (f 0) (n (f 1) (n (as (aH (f 2) 22) (.S (n (f 1) (n (aH (f 0) 35) z)))) z)))) L)) L) (s (aR (u (j 2))) L)))))))
noncomputable def OZ:bO:=(s (ba 2 (as (aH (aH (f 0) 34) 18) (f 1))) (s (ba 3 (b1 48 (aH (f 0) 38) (n (f 2) (n (aH (f 0) 35) z)))) (s (bc (fD (it (f 3)) (it (b1 49 (aH (f 0) 38) (n (f 2) (n (aH (f 0) 35) z))))) (s (aR (u (j 2))) L) L) (s (bc (it (b1 54 (aH (f 0) 38) (n (aH (f 0) 34) (n (f 1) z)))) (s (aR (b1 55 (f 0) (n (f 1) (n (b1 52 (aH (f 0) 38) z) z)))) L) L) (s (aR (.bc (f 3) (u (j 1)) (b1 55 (f 0) (n (f 1) (n (aH (f 0) 36) z))))) L)))))
noncomputable def O0:bO:=(s (bc (it (as (aH (aH (f 0) 34) 17) (f 1))) (s (aR (b1 55 (f 0) (n (f 1) (n (aH (f 0) 37) z)))) L) L) (s (ba 2 (as (aH (aH (f 0) 34) 18) (f 1))) (s (ba 3 (b1 51 (aH (f 0) 38) (n (f 2) (n (aH (f 0) 35) (n (aH (f 0) 36) z))))) (s (bc (aJ bL (f 3) (u (j (-2)))) (s (aR (u (j 2))) L) L) (s (bc (aJ bL (f 3) (u (j (-1)))) (s (ba 3 (aH (f 0) 36)) L) (s (bc (aJ bL (f 3) (u (j (-3)))) (s (ba 3 (aH (f 0) 37)) L) L) L)) (s (aR (b1 55 (f 0) (n (f 1) (n (f 3) z)))) L))))))
noncomputable def O1:bO:=(s (ba 3 (as (aH (aH (f 0) 34) 17) (f 2))) (s (bc (aJ bL (as (aH (aH (f 0) 34) 16) (f 2)) (u (j 3))) (s (du (b1 57 (aH (f 0) 42) (n (f 2) z))) (s (du (b1 57 (f 1) (n (.S (n (f 2) (n (u (j 2)) z))) z))) (s (du (b1 57 (f 1) (n (.S (n (f 2) (n (u (j 1)) z))) z))) (s (du (b1 57 (f 1) (n (.S (n (as (f 3) (u (j 0))) (n (u (j 0)) z))) z))) (s (aR (u bI)) L))))) L) (s (du (b1 57 (f 1) (n (.S (n (f 2) (n (u (j 1)) z))) z))) (s (el fr 4 (f 3) (s (du (b1 57 (f 1) (n (.S (n (f 4) (n (u (j 0)) z))) z))) L)) L))))
noncomputable def O2:bO:=(s (ba 2 (.V (n (.S (n (f 1) (n (u (j 0)) z))) z))) (s (kr (f 2) (s (jM [3,4] (b1 58 (f 2) z)) (s (bc (aJ bL (f 4) (u (j 1))) (s (du (b1 57 (aH (f 0) 41) (n (f 3) z))) L) (s (bc (aJ bL (f 4) (u (j 2))) (s (el fr 5 (j0 (as (aH (aH (f 0) 34) 17) (f 3)) (u (j 1)) (u bI)) (s (du (b1 57 (f 2) (n (.S (n (f 5) (n (u (j 0)) z))) z))) L)) L) (s (bc (aJ n5 (f 3) (aH (f 0) 39)) (s (ba 6 (bh 87 (n (f 0) (n (f 3) z)))) (s (es (aH (f 0) 39) (f 3) (f 6)) (s (bc (aJ bL (f 6) (u (j 1))) (s (du (b1 57 (aH (f 0) 41) (n (f 3) z))) L) (s (bc (aJ bL (f 6) (u (j 2))) (s (du (bh 90 (n (f 0) (n (f 2) (n (f 3) z))))) L) L) L)) L))) L) L)) L)) L))) L))
noncomputable def O3:bO:=(s (bc (aJ e2 (f 1) (aH (f 0) 40)) (s (aR (as (aH (f 0) 40) (f 1))) L) L) (s (aR (b1 52 (aH (f 0) 38) z)) L))
noncomputable def O4:bO:=(s (ba 2 (fx dC (bh 92 (n (f 0) (n (f 3) z))) 3 (as (aH (aH (f 0) 34) 17) (f 1)) (u (aK true)))) (s (bc (aJ bL (as (aH (aH (f 0) 34) 16) (f 1)) (u (j 3))) (s (du (b1 57 (f 2) (n (bh 92 (n (f 0) (n (f 1) z))) z))) L) L) (s (aR (b1 50 (aH (f 0) 38) (n (f 2) z))) L)))
noncomputable def O5:bO:=(s (bc (hh (aJ bL (f 1) (aH (f 0) 36)) (aJ e2 (aH (f 0) 36) (.S (n (u (j 0)) (n (u (j 1)) z))))) (s (aR (aJ d8 (f 1) (aH (f 0) 36))) L) L) (s (ba 2 (aH (aH (f 0) 38) 29)) (s (aR (hh (aJ n5 (u (j 4)) (bh 58 (n (f 2) (n (f 1) z)))) (aJ e2 (u (j 4)) (bh 58 (n (f 2) (n (aH (f 0) 36) z)))))) L)))
noncomputable def O6:bO:=(s (ba 2 (aH (f 0) 34)) (s (ba 3 (as (aH (f 2) 16) (f 1))) (s (bc (hh (aJ bL (f 3) (u (j 2))) (aJ bL (f 3) (u (j 3)))) (s (aR (bh 93 (n (f 0) (n (f 1) z)))) L) L) (s (ba 4 (as (aH (f 2) 18) (f 1))) (s (bc (aJ bL (as (aH (f 0) 39) (f 1)) (u (j 1))) (s (ba 5 (b1 23 (aH (f 0) 38) (n (f 4) (n (aH (f 0) 35) (n (aH (f 0) 36) z))))) (s (aR (.bc (aJ bL (f 5) (u (j (-1)))) (aH (f 0) 36) (f 5))) L)) L) (s (ba 5 (bh 92 (n (f 0) (n (as (as (aH (f 2) 17) (f 1)) (u (j 0))) z)))) (s (bc (hh (aJ bL (f 3) (u (j 1))) (aJ bL (f 5) (b1 52 (aH (f 0) 38) z))) (s (aR (f 5)) L) L) (s (bc (fD (hh (aJ bL (f 3) (u (j 4))) (aJ bL (f 3) (u (j 7)))) (bh 94 (n (f 0) (n (f 5) z)))) (s (du (b1 53 (aH (f 0) 38) (n (f 4) (n (aH (f 0) 35) z)))) L) L) (s (aR (b1 47 (aH (f 0) 38) (n (f 3) (n (f 4) (n (as (aH (f 2) 19) (f 1)) (n (aH (f 0) 35) (n (f 5) z))))))) L)))))))))
noncomputable def O7:bO:=(s (ba 1 (u (aK false))) (s (el dC 2 (aH (f 0) 41) (s (ba 3 (bh 95 (n (f 0) (n (f 2) z)))) (s (bc (aJ d8 (f 3) (bh 92 (n (f 0) (n (f 2) z)))) (s (ba 1 (u (aK true))) (s (es (aH (f 0) 40) (f 2) (f 3)) (s (bc (aJ bL (as (aH (aH (f 0) 34) 16) (f 2)) (u (j 3))) (s (es (aH (aH (f 0) 34) 22) (.S (n (f 2) (n (aH (f 0) 35) z))) (f 3)) (s (kG (aH (f 0) 34) 28 c9 (u (j 1))) L)) L) L))) L) L))) (s (aR (f 1)) L)))
noncomputable def O8:bO:=(s (ba 1 (aH (aH (f 0) 38) 33)) (s (ba 2 (u (j 0))) (s (kr (bh 96 (n (f 0) z)) (s (q5 2 c9 (u (j 1))) (s (bc (it (aH (f 0) 42)) (s (aR (u (aK true))) L) L) (s (bc (aJ mv (f 2) (u (j 40))) (s (aR (u (aK false))) L) L) (s (dy (aH (f 0) 38) 33 (f 1)) L))))) (s (aR (u (aK true))) L))))
noncomputable def O9:bO:=(s (el dC 2 (aH (f 0) 42) (s (es (aH (aH (f 0) 34) 22) (.S (n (f 2) (n (aH (f 0) 35) z))) (b1 52 (aH (f 0) 38) z)) (s (kG (aH (f 0) 34) 28 c9 (u (j 1))) L))) (s (ba 3 (aH (aH (f 0) 38) 33)) (s (ba 4 (bh 97 (n (f 0) z))) (s (bc (fD (f 1) (fD (f 4) (aJ d8 (aH (aH (f 0) 38) 33) (f 3)))) (s (dy (aH (f 0) 38) 32 (u (j 1))) (s (kG (aH (f 0) 34) 28 c9 (u (j 1))) (s (ba 4 (bh 97 (n (f 0) z))) L))) L) (s (aR (f 4)) L)))))
noncomputable def O':bO:=(s (el dC 2 (aH (f 0) 42) (s (du (b1 58 (aH (aH (f 0) 34) 22) (n (.S (n (f 2) (n (aH (f 0) 35) z))) (n (u bI) z)))) (s (kG (aH (f 0) 34) 28 c9 (u (j 1))) L))) (s (bc (f 1) (s (dy (aH (f 0) 38) 32 (u (j 0))) (s (dy (aH (f 0) 38) 33 (u (j 0))) L)) L) L))
noncomputable def NW:bO:=(s (ba 2 (fD (it (aH (aH (f 0) 34) 22)) (aJ bL (aH (aH (f 0) 38) 32) (u (j 0))))) (s (du (bh 91 (n (f 0) (n (f 1) z)))) (s (tw (s (ba 3 (bh 98 (n (f 0) (n (f 2) z)))) L) (s (du (bh 99 (n (f 0) (n (f 2) z)))) L)) (s (bc (f 3) (s (aR (bh 92 (n (f 0) (n (f 1) z)))) L) L) (s (bc (aJ bL (aH (f 0) 37) (aH (f 0) 36)) (s (aR (aH (f 0) 36)) L) L) (s (aR (b1 50 (aH (f 0) 38) (n (.V (n (aH (f 0) 36) (n (aH (f 0) 37) z))) z))) L))))))
noncomputable def NX:bO:=(s (jM [2,3] (b1 59 (aH (f 0) 25) (n (f 1) (n (.S (n (u (j (-1))) (n (u (j (-1))) z))) z)))) (s (bc (hh (aJ bL (f 3) (u (j (-1)))) (aJ bL (f 2) (u (j (-1))))) (s (aR (f 2)) L) L) (s (bc (aJ d8 (f 3) (aH (f 0) 28)) (s (aR (u (j (-1)))) L) L) (s (kG (f 0) 27 c9 (u (j 1))) (s (aR (f 2)) L)))))
noncomputable def NY:bO:=(s (bc (aJ bL (f 2) (u (aV ""))) (s (aR (f 3)) L) L) (s (ba 6 (.S (n (f 1) (n (f 2) (n (f 3) (n (f 4) z)))))) (s (ba 7 (bh 101 (n (f 0) (n (f 6) z)))) (s (bc (aJ d8 (f 7) (u (j (-1)))) (s (aR (f 7)) L) L) (s (ba 8 (aH (f 0) 27)) (s (kG (f 0) 26 c9 (u (j 1))) (s (tw (s (ba 7 (bh 100 (n (.cK 86 (n (f 0) (n (f 2) (n (f 3) (n (f 4) (n (f 5) z)))))) (n (f 1) z)))) (s (es (aH (f 0) 25) (f 6) (.S (n (f 7) (n (.bc (aJ bL (aH (f 0) 27) (f 8)) (u (j (-1))) (aH (f 0) 28)) z)))) L)) (s (kG (f 0) 26 eE (u (j 1))) (s (bc (aJ bL (aH (f 0) 26) (u (j 0))) (s (dy (f 0) 25 (.aT z)) L) L) L))) (s (aR (f 7)) L))))))))
noncomputable def OH:bO:=(s (dy (f 0) 43 (f 1)) (s (dy (f 0) 44 (f 2)) L))
noncomputable def OI:bO:=(s (aR (aJ e2 (aH (f 1) 5) (aH (f 0) 43))) L)
noncomputable def OJ:bO:=(s (aR (aJ e2 (.S (n (aH (f 1) 5) (n (f 2) (n (f 3) z)))) (aH (f 0) 44))) L)
noncomputable def NZ:bO:=(s (ba 3 (as (aH (f 0) 16) (f 1))) (s (bc (aJ bL (f 3) (u (j 7))) (s (aR (fD (aJ bL (as (aH (f 0) 19) (f 1)) (.S z)) (b1 20 (f 2) (n (as (aH (f 0) 18) (f 1)) z)))) L) L) (s (bc (aJ bL (f 3) (u (j 8))) (s (jM [4,5] (as (aH (f 0) 19) (f 1))) (s (aR (b1 56 (f 2) (n (as (aH (f 0) 18) (f 1)) (n (f 4) (n (f 5) z))))) L)) L) (s (aR (u (aK false))) L))))
noncomputable def N0:bO:=(s (ba 3 (.aT z)) (s (ba 4 (.V (n (f 1) z))) (s (kr (f 4) (s (ba 5 (b1 58 (f 4) z)) (s (bc (aJ e2 (f 5) (f 3)) (s .gp L) L) (s (es (f 3) (f 5) (u (j 1))) (s (bc (aJ bL (as (aH (f 0) 16) (f 5)) (u (j 1))) (s (aR (u (aK true))) L) L) (s (bc (it (bh 104 (n (f 0) (n (f 5) (n (f 2) z))))) (s (el dC 6 (as (aH (f 0) 17) (f 5)) (s (du (b1 57 (f 4) (n (f 6) z))) L)) L) L) L)))))) (s (aR (u (aK false))) L))))
noncomputable def N1:bO:=(s (bc (aJ bL (cT bo (n (f 0) z)) (u (j 0))) (s (aR (u (j 0))) L) L) (s (aR (bR ht (b1 58 (f 0) z) (f 1))) L))
noncomputable def N2:bO:=(s (aR (bh 64 (n (f 0) (n (fx dk (bR c9 (u (j 4)) (f 2)) 2 (n (u (j 6)) z) (aJ bL (bR ht (bR nn (f 1) (f 2)) (u (j 2))) (u (j 1)))) z)))) L)
noncomputable def N3:bO:=(s (ba 2 (u (j 0))) (s (el dC 3 (bh 58 (n (f 0) (n (f 1) z))) (s (bc (hh (aJ bj (f 3) (u (j 4))) (aJ i8 (f 3) (u (j 9)))) (s (aR (u (j (-1)))) L) L) (s (ba 2 (bR pY (f 2) (bR vj (u (j 1)) (bR eE (f 3) (u (j 4)))))) L))) (s (aR (f 2)) L)))
noncomputable def N4:bO:=(s (aR (.V (n (u (j 2)) (n (f 0) (n (.S z) (n (u (j 64)) (n (u (j 0)) z))))))) L)
noncomputable def D5:bO:=(s (ba 2 (.bc (aJ i8 (f 1) (u (j 1))) (bh 110 (n (f 0) (n (u (j 9)) z))) (u (j 8)))) (s (bc (aJ bL (f 2) (u (j 8))) (s (aR (.V (n (u (j 1)) (n (.V z) (n (.S z) (n (u (j 64)) (n (u (j 0)) z))))))) L) L) (s (ba 3 (cT o8 (n (u (j 0)) (n (bR eE (bR eE (f 1) (u (j 1))) (bh 110 (n (f 0) (n (u (j 3)) z)))) z)))) (s (bc (aJ bL (f 2) (u (j 0))) (s (aR (bh 113 (n (.V (n (f 3) (n (cT o8 (n (u (j 0)) (n (bR eE (bR eE (f 1) (u (j 1))) (bh 110 (n (f 0) (n (u (j 3)) z)))) z))) z))) z))) L) L) (s (bc (aJ bj (f 2) (u (j 3))) (s (aR (.V (n (u (j 3)) (n (.V (n (f 3) z)) (n (.S z) (n (u (j 64)) (n (u (j 0)) z))))))) L) L) (s (bc (aJ bj (f 2) (u (j 5))) (s (ba 4 (bh 110 (n (f 0) (n (u (j 5)) z)))) (s (ba 5 (bh 110 (n (f 0) (n (u (j 9)) z)))) (s (ba 6 (.bc (aJ bj (f 5) (u (j 5))) (.S (n (f 4) (n (f 5) z))) (.S (n (f 4) z)))) (s (aR (.V (n (u (j 4)) (n (.V (n (f 3) z)) (n (f 6) (n (bh 110 (n (f 0) (n (u (j 65)) z))) (n (u (j 0)) z))))))) L)))) L) (s (bc (aJ bL (f 2) (u (j 5))) (s (aR (.V (n (u (j 1)) (n (.V (n (f 3) z)) (n (.S z) (n (u (j 64)) (n (u (j 0)) z))))))) L) L) (s (bc (aJ bL (f 2) (u (j 6))) (s (aR (.V (n (u (j 7)) (n (.V (n (f 3) z)) (n (.S z) (n (u (j 64)) (n (bh 110 (n (f 0) (n (u (j 4)) z))) z))))))) L) L) (s (ba 7 (as (.S (n (u (j 8)) (n (u (j 8)) (n (u (j 5)) (n (u (j 6)) z))))) (bh 110 (n (f 0) (n (u (j 4)) z))))) (s (aR (.V (n (f 7) (n (.V (n (f 3) z)) (n (.S z) (n (u (j 64)) (n (bh 110 (n (f 0) (n (u (j 3)) z))) z))))))) L))))))))))
noncomputable def N5:bO:=(s (ba 3 (.V z)) (s (ba 4 (.V z)) (s (el dC 5 (f 0) (s (ba 6 (bh 22 (n (u (j 8)) (n (u (aV "n")) (n (u (j 0)) z))))) (s (du (b1 57 (f 4) (n (.S (n (f 6) (n (cT .j (n (as (as (u (S [(S [(aV "1")]),(S [(aV "1"),(aV "p")]),(S [(aV "1"),(aV "p"),(aV "q")]),(S [(aV "2")]),(S [(aV "2"),(aV "p")])])) (f 5)) (u (j 0))) z)) z))) z))) (s (el dC 7 (j0 (as (u (S [(S [(aV "1")]),(S [(aV "1"),(aV "p")]),(S [(aV "1"),(aV "p"),(aV "q")]),(S [(aV "2")]),(S [(aV "2"),(aV "p")])])) (f 5)) (u (j 1)) (u bI)) (s (ba 6 (bh 23 (n (u (j 16)) (n (f 7) (n (.V (n (f 6) z)) (n (u (j 0)) z)))))) L)) (s (du (b1 57 (f 3) (n (f 6) z))) L))))) (s (ba 8 (as (f 3) (u (j 0)))) (s (bc (aJ i8 (cT bo (n (f 3) z)) (u (j 1))) (s (ba 9 (fx dC (bh 23 (n (u (j 36)) (n (u (aV "")) (n (.V (n (f 12) (n (u bI) z))) (n (u (j 0)) z))))) 12 (f 3) (u (aK true)))) (s (ba 8 (bh 23 (n (u (j 35)) (n (u (aV "")) (n (f 9) (n (u (j 0)) z)))))) L)) L) (s (ba 6 (bh 23 (n (u (j 25)) (n (u (aV "=")) (n (.V (n (f 8) (n (bh 22 (n (u (j 8)) (n (u (aV "c")) (n (u (j 0)) z)))) z))) (n (u (j 0)) z)))))) (s (ba 2 (bh 26 (n (f 6) (n (f 2) z)))) (s (sY dC [10,11] (f 4) (s (es (f 1) (aH (f 10) 5) (f 11)) L)) (s (aR (.S (n (f 6) (n (f 2) z)))) L)))))))))
noncomputable def N6:bO:=(s (ba 3 (.cK 81 z)) (s (ba 4 (.cK 85 (n (as (f 0) (u (aV "tab"))) (n (.aT z) z)))) (s (ba 5 (bh 22 (n (u (j 50)) (n (u (aV "")) (n (u (j 0)) z))))) (s (ba 6 (bh 26 (n (f 5) (n (u (j 1)) z)))) (s (ba 7 (.aT z)) (s (ba 8 (.aT z)) (s (el dk 9 (n (u (j 3)) z) (s (bc (aJ bL (bR ht (bR nn (as (f 0) (u (aV "shut"))) (f 9)) (u (j 2))) (u (j 1))) (s (es (f 8) (.S (n (aH (f 5) 5) (n (as (as (u (S [(S [(j 0),(j 1)]),(S [(j 1),(j 2)]),(S [(j 2),(j 2)])])) (f 9)) (u (j 0))) (n (as (as (u (S [(S [(j 0),(j 1)]),(S [(j 1),(j 2)]),(S [(j 2),(j 2)])])) (f 9)) (u (j 1))) z)))) (u (j 1))) L) L) L)) (s (ba 10 (fx dC (u (j 0)) 20 (f 1) (u (aK true)))) (s (el dk 9 (n (cT bo (n (f 1) z)) z) (s (es (f 10) (as (f 2) (f 9)) (f 9)) L)) (s (ba 11 (u (aK true))) (s (el dk 12 (n (u (j 1)) (n (cT bo (n (f 1) z)) z)) (s (jM [13,14,15,16,17] (as (f 1) (as (f 10) (f 12)))) (s (ba 18 (f 5)) (s (ba 19 (.S z)) (s (bc (aJ bL (f 13) (u (j 4))) (s (jM [18,6] (bh 115 (n (f 15) (n (aH (f 4) 30) (n (f 6) z))))) (s (bc (aJ bj (f 16) (u (j 64))) (s (es (aH (f 4) 31) (aH (f 18) 5) (bh 111 (n (as (f 0) (u (aV "tab"))) (n (f 16) z)))) L) L) L)) (s (bc (aJ bL (f 13) (u (j 8))) (s (ba 19 (as (u (S [(S [(j 0),(j 1)]),(S [(j 1),(j 2)]),(S [(j 2),(j 2)])])) (f 17))) L) (s (bc (aJ bL (f 13) (u (j 7))) (s (ba 18 (bh 22 (n (u (j 18)) (n (u (aV "")) (n (u (j 0)) z))))) (s (ba 6 (bh 26 (n (f 18) (n (f 6) z)))) (s (bc (aJ i8 (f 17) (u (j 1))) (s (es (f 7) (aH (f 18) 5) (u (j 1))) L) L) (s (bc (aJ bL (bR ht (f 17) (u (j 3))) (u (j 0))) (s (ba 19 (.S (n (u (j 1)) z))) L) L) L)))) L) L)) L)) (s (bc (aJ d8 (b1 46 (f 3) (n (f 13) (n (fx dC (as (f 2) (f 20)) 20 (f 14) (u (aK true))) (n (f 18) (n (f 19) z))))) (f 12)) (s (ba 11 (u (aK false))) L) L) L)))))) (s (aR (.S (n (f 3) (n (f 4) (n (.cK 103 (n (f 7) (n (f 8) z))) (n (f 11) z)))))) L))))))))))))
noncomputable def N7:bO:=(s (jM [2,3,4,5,6] (f 0)) (s (bc (aJ bL (f 2) (u (j 0))) (s (aR (u (j 0))) L) L) (s (bc (aJ bL (f 2) (u (j 1))) (s (aR (.bc (f 3) (as (f 1) (u (aV "whole"))) (as (f 1) (u (aV "first"))))) L) L) (s (bc (aJ e2 (as (f 1) (u (aV "spot"))) (f 4)) (s (aR (.bc (aJ bj (f 5) (u (j 64))) (f 5) (as (f 1) (u (aV "whole"))))) L) L) (s (ba 7 (as (u (S [(S [(aV "1")]),(S [(aV "1"),(aV "p")]),(S [(aV "1"),(aV "p"),(aV "q")]),(S [(aV "2")]),(S [(aV "2"),(aV "p")])])) (as (f 1) (u (aV "spot"))))) (s (el dC 8 (f 4) (s (ba 9 (as (u (S [(S [(aV "1")]),(S [(aV "1"),(aV "p")]),(S [(aV "1"),(aV "p"),(aV "q")]),(S [(aV "2")]),(S [(aV "2"),(aV "p")])])) (f 8))) (s (bc (fD (aJ bj (cT bo (n (f 9) z)) (cT bo (n (f 7) z))) (aJ bL (j0 (f 7) (u bI) (cT bo (n (f 9) z))) (f 9))) (s (aR (as (f 1) (u (aV "whole")))) L) L) L))) (s (aR (u (j (-1)))) L)))))))
noncomputable def N8:bO:=(s (bc (aJ bL (as (f 0) (u (j 0))) (u (j 7))) (s (aR (aJ bL (as (f 0) (u (j 4))) (u (j 2)))) L) L) (s (aR (fD (aJ bL (as (f 0) (u (j 0))) (u (j 8))) (aJ bL (bR ht (bR nn (as (f 1) (u (aV "shut"))) (as (f 0) (u (j 4)))) (u (j 2))) (u (j 1))))) L))
noncomputable def N9:bO:=(s (ba 3 (.aT z)) (s (ba 4 (f 1)) (s (kr (f 4) (s (ba 5 (.V z)) (s (el dC 6 (f 4) (s (bc (aJ n5 (f 6) (f 3)) (s (es (f 3) (f 6) (u (j 1))) (s (el dk 7 (n (cT bo (n (f 0) z)) z) (s (bc (fD (as (f 2) (f 7)) (aJ e2 (as (f 6) (u (j 0))) (as (as (f 0) (f 7)) (u (j 1))))) (s (du (b1 57 (f 5) (n (.S (n (f 7) (n (as (f 6) (u (j 1))) z))) z))) L) L) L)) L)) L) L)) (s (ba 4 (f 5)) L)))) (s (aR (f 3)) L))))
noncomputable def N':bO:=(s (ba 2 (fx dC (bh 117 (n (f 7) (n (f 1) z))) 7 (f 0) (u (aK true)))) (s (ba 4 (fx dk (.S (n (f 7) (n (as (f 2) (f 7)) z))) 7 (n (cT bo (n (f 0) z)) z) (aJ mv (as (f 2) (f 7)) (u (j 0))))) (s (ba 5 (fx dC (u (j 0)) 7 (f 0) (u (aK true)))) (s (sY dC [3,6] (bh 119 (n (f 0) (n (f 4) (n (fx dC (aJ bj (f 7) (u (j 0))) 7 (f 2) (u (aK true))) z)))) (s (es (f 5) (f 3) (bR pY (as (f 5) (f 3)) (f 6))) L)) (s (aR (f 5)) L)))))
noncomputable def Oa:bO:=(s (ba 2 (fx dC (fD (aJ d8 (as (f 5) (u (j 0))) (u (j 1))) (it (bh 118 (n (f 5) (n (f 1) z))))) 5 (f 0) (u (aK true)))) (s (ba 3 (fx dk (.S (n (f 5) (n (u (j 0)) z))) 5 (n (cT bo (n (f 0) z)) z) (aJ bL (as (as (f 0) (f 5)) (u (j 0))) (u (j 1))))) (s (ba 4 (bh 119 (n (f 0) (n (f 3) (n (f 2) z))))) (s (aR (fx dk (aJ e2 (.S (n (f 5) (n (u (j 0)) z))) (f 4)) 5 (n (cT bo (n (f 0) z)) z) (u (aK true)))) L))))
noncomputable def Ob:bO:=(s (el dk 4 (n (bR eE (cT bo (n (f 0) z)) (u (j 1))) z) (s (ba 5 (bR c9 (u (j 1)) (bR ht (bR c9 (f 1) (f 4)) (bR eE (cT bo (n (f 0) z)) (u (j 1)))))) (s (bc (fD (aJ e2 (as (as (f 0) (f 5)) (u (j 0))) (f 2)) (aJ mv (cT bo (n (as (as (f 0) (f 5)) (u (j 1))) z)) (f 3))) (s (aR (f 5)) L) L) L))) (s (aR (u (j 0))) L))
noncomputable def Oc:bO:=(s (ba 2 (.aT z)) (s (ba 3 (fx dC (f 5) 5 (as (as (f 0) (f 1)) (u (j 1))) (u (aK true)))) (s (kr (f 3) (s (ba 4 (b1 58 (f 3) z)) (s (bc (aJ n5 (f 4) (f 2)) (s (es (f 2) (f 4) (u (j 1))) (s (du (b1 60 (f 3) (n (as (as (f 0) (f 4)) (u (j 1))) z))) L)) L) L))) (s (aR (f 2)) L))))
noncomputable def Od:bO:=(s (ba 2 (as (as (as (f 0) (f 1)) (u (j 1))) (u (j 0)))) (s (ba 3 (bh 123 (n (f 0) (n (f 1) z)))) (s (ba 5 (fx dC (f 7) 7 (cT oc (n (f 3) z)) (fD (aJ d8 (f 7) (f 1)) (aJ e2 (f 1) (bh 123 (n (f 0) (n (f 7) z))))))) (s (ba 6 (.aT z)) (s (es (f 6) (f 1) (cT bo (n (f 0) z))) (s (du (b1 57 (f 0) (n (bh 113 (n (.V (n (f 2) z)) z)) z))) (s (el dC 4 (f 5) (s (es (f 6) (f 4) (cT bo (n (f 0) z))) (s (du (b1 57 (f 0) (n (fx dC (f 7) 7 (as (f 0) (f 4)) (u (aK true))) z))) L))) (s (el dC 4 (f 5) (s (es (as (f 0) (as (f 6) (f 4))) (u (j 1)) (fx dC (b1 59 (f 6) (n (f 7) (n (f 7) z))) 7 (as (as (f 0) (f 4)) (u (j 1))) (u (aK true)))) L)) (s (du (b1 57 (f 0) (n (bh 113 (n (bR c9 (.V (n (f 2) z)) (fx dC (b1 59 (f 6) (n (f 7) (n (f 7) z))) 7 (j0 (as (as (f 0) (f 1)) (u (j 1))) (u (j 1)) (u bI)) (u (aK true)))) z)) z))) (s (es (as (as (f 0) (f 1)) (u (j 1))) (u (j 0)) (bR eE (cT bo (n (f 0) z)) (u (j 1)))) L))))))))))
noncomputable def Oe:bO:=(s (ba 2 (as (as (as (f 0) (f 1)) (u (j 1))) (u (j 0)))) (s (ba 3 (.V (n (f 2) (n (f 2) z)))) (s (bc (fD (aJ bL (as (as (f 0) (f 2)) (u (j 0))) (u (j 2))) (aJ i8 (cT bo (n (as (as (f 0) (f 2)) (u (j 1))) z)) (u (j 1)))) (s (du (b1 57 (f 0) (n (bh 113 (n (j0 (as (as (f 0) (f 2)) (u (j 1))) (u (j 1)) (u bI)) z)) z))) (s (ba 3 (.V (n (as (as (as (f 0) (f 2)) (u (j 1))) (u (j 0))) (n (bR eE (cT bo (n (f 0) z)) (u (j 1))) z)))) L)) L) (s (el dC 4 (f 3) (s (du (b1 57 (f 0) (n (.V (n (u (j 4)) (n (.V (n (f 4) z)) (n (as (as (f 0) (f 1)) (u (j 2))) (n (as (as (f 0) (f 1)) (u (j 3))) (n (u (j 0)) z)))))) z))) L)) (s (es (f 0) (f 1) (bh 113 (n (.V (n (bR eE (cT bo (n (f 0) z)) (u (j 2))) (n (bR eE (cT bo (n (f 0) z)) (u (j 1))) z))) z))) L)))))
noncomputable def Of:bO:=(s (ba 2 (bh 110 (n (f 0) (n (u (j 6)) z)))) (s (ba 3 (bh 110 (n (f 0) (n (u (j 60)) z)))) (s (ba 4 (bh 110 (n (f 0) (n (u (j 60)) z)))) (s (bc (aJ bL (f 2) (u (j 0))) (s (ba 5 (bh 122 (n (f 1) (n (f 3) (n (.S (n (u (j 3)) z)) (n (u (j 1)) z)))))) (s (bc (fD (aJ i8 (f 5) (u (j 0))) (aJ bj (cT bo (n (f 1) z)) (u (j 11)))) (s (du (bh 124 (n (f 1) (n (f 5) z)))) L) L) L)) (s (bc (aJ bL (f 2) (u (j 1))) (s (ba 5 (bh 122 (n (f 1) (n (f 3) (n (.S (n (u (j 2)) (n (u (j 3)) (n (u (j 4)) (n (u (j 5)) (n (u (j 6)) (n (u (j 7)) (n (u (j 8)) z)))))))) (n (u (j 1)) z)))))) (s (bc (aJ i8 (f 5) (u (j 0))) (s (ba 6 (bR ht (f 4) (cT bo (n (as (as (f 1) (f 5)) (u (j 1))) z)))) (s (du (b1 57 (f 1) (n (bh 113 (n (.V (n (as (as (as (f 1) (f 5)) (u (j 1))) (f 6)) z)) z)) z))) (s (es (as (as (f 1) (f 5)) (u (j 1))) (f 6) (bR eE (cT bo (n (f 1) z)) (u (j 1)))) L))) L) L)) (s (bc (aJ bL (f 2) (u (j 2))) (s (ba 5 (bh 122 (n (f 1) (n (f 3) (n (.S (n (u (j 2)) (n (u (j 3)) z))) (n (u (j 2)) z)))))) (s (bc (aJ i8 (f 5) (u (j 0))) (s (ba 6 (bR c9 (u (j 1)) (bR ht (f 4) (bR eE (cT bo (n (as (as (f 1) (f 5)) (u (j 1))) z)) (u (j 1)))))) (s (du (b1 57 (f 1) (n (bh 113 (n (j0 (as (as (f 1) (f 5)) (u (j 1))) (f 6) (u bI)) z)) z))) (s (es (as (f 1) (f 5)) (u (j 1)) (bR c9 (j0 (as (as (f 1) (f 5)) (u (j 1))) (u bI) (f 6)) (.V (n (bR eE (cT bo (n (f 1) z)) (u (j 1))) z)))) L))) L) L)) (s (bc (aJ bL (f 2) (u (j 3))) (s (ba 5 (bh 122 (n (f 1) (n (f 3) (n (.S (n (u (j 4)) z)) (n (u (j 1)) z)))))) (s (bc (aJ i8 (f 5) (u (j 0))) (s (du (bh 125 (n (f 1) (n (f 5) z)))) L) L) L)) (s (ba 5 (bh 122 (n (f 1) (n (f 3) (n (.bc (aJ bL (f 2) (u (j 5))) (.S (n (u (j 2)) z)) (.S (n (u (j 2)) (n (u (j 3)) z)))) (n (u (j 1)) z)))))) (s (bc (fD (aJ i8 (f 5) (u (j 0))) (aJ bL (f 2) (u (j 5)))) (s (es (as (f 1) (f 5)) (u (j 1)) (bR c9 (fx fr (f 7) 7 (as (as (f 1) (f 5)) (u (j 1))) (u (aK true))) (as (as (f 1) (f 5)) (u (j 1))))) L) (s (bc (aJ i8 (f 5) (u (j 0))) (s (du (b1 57 (f 1) (n (bh 113 (n (.V z) z)) z))) (s (es (as (f 1) (f 5)) (u (j 1)) (bR c9 (as (as (f 1) (f 5)) (u (j 1))) (.V (n (bR eE (cT bo (n (f 1) z)) (u (j 1))) (n (u (j 0)) z))))) L)) L) L)) L))) L)) L)) L)) L))))
noncomputable def Og:bO:=(s (ba 2 (bh 110 (n (f 0) (n (u (j 9973)) z)))) (s (ba 3 (rD (n (u (j 1)) (n (f 1) z)))) (s (ba 4 (.V (n (u (j 0)) z))) (s (kr (f 3) (s (du (b1 57 (f 4) (n (b1 58 (f 3) (n (bR ht (f 2) (cT bo (n (f 3) z))) z)) z))) (s (ba 2 (bR ht (bR c9 (bR rF (f 2) (u (j 7))) (u (j 3))) (u (j 9973)))) L))) (s (aR (f 4)) L)))))
noncomputable def Oh:bO:=(s (ba 1 (.V (n (.V (n (u (j 0)) (n (.V z) (n (.S z) (n (u (j 64)) (n (u (j 0)) z)))))) z))) (s (ba 2 (bR c9 (u (j 4)) (bh 110 (n (f 0) (n (u (j 4)) z))))) (s (ba 3 (.aT (n (u (aV "tab")) (n (.cK 57 z) (n (u (aV "shut")) (n (bh 110 (n (f 0) (n (u (j 8)) z))) z)))))) (s (es (f 3) (u (aV "whole")) (bh 110 (n (f 0) (n (u (j 64)) z)))) (s (es (f 3) (u (aV "first")) (bh 110 (n (f 0) (n (u (j 64)) z)))) (s (el dk 4 (n (u (j 1)) (n (bR c9 (f 2) (u (j 1))) z)) (s (du (b1 57 (f 1) (n (bh 114 (n (f 0) (n (f 4) z))) z))) L)) (s (el dk 4 (n (u (j 1)) (n (bR c9 (f 2) (u (j 1))) z)) (s (bc (aJ bL (as (as (f 1) (f 4)) (u (j 0))) (u (j 3))) (s (el dk 5 (n (bR c9 (u (j 1)) (bh 110 (n (f 0) (n (u (j 2)) z)))) z) (s (du (b1 57 (as (as (f 1) (f 4)) (u (j 1))) (n (bR eE (f 2) (bh 110 (n (f 0) (n (bR c9 (f 2) (u (j 1))) z)))) z))) L)) L) L) L)) (s (es (f 3) (u (aV "rows")) (f 1)) (s (es (f 3) (u (aV "spot")) (bh 110 (n (f 0) (n (u (j 5)) z)))) (s (aR (f 3)) L))))))))))
noncomputable def Oi:bO:=(s (ba 4 (as (f 0) (u (aV "tab")))) (s (ba 5 (bR c9 (u (aV "s")) (b1 50 (u (aV ".")) (n (as (u (S [(S [(aV "1")]),(S [(aV "1"),(aV "p")]),(S [(aV "1"),(aV "p"),(aV "q")]),(S [(aV "2")]),(S [(aV "2"),(aV "p")])])) (as (f 0) (u (aV "spot")))) z)))) (s (ba 6 (bh 111 (n (f 4) (n (as (f 0) (u (aV "whole"))) z)))) (s (ba 7 (bh 111 (n (f 4) (n (as (f 0) (u (aV "first"))) z)))) (s (aR (bh 112 (n (f 4) (n (bh 102 (n (f 1) (n (f 3) (n (f 5) (n (f 6) (n (f 7) (n (f 2) z))))))) z)))) L)))))
noncomputable def Oj:bO:=(s (ba 8 (cT bo (n (aH (f 1) 16) z))) (s (du (b1 57 (as (aH (f 1) 17) (f 4)) (n (bR ht (bR c9 (f 4) (f 5)) (f 8)) z))) (s (ba 9 (bh 129 (n (f 0) (n (f 1) (n (f 2) (n (f 5) z)))))) (s (bc (hh (aJ bj (f 9) (u (j 0))) (aJ d8 (bR pY (f 9) (f 6)) (f 9))) (s (aR (u (aK false))) L) L) (s (aR (hh (bh 105 (n (f 1) (n (f 5) (n (f 3) z)))) (it (f 7)))) L)))))
noncomputable def vp:r (e×r e×bO):=[(1336,[0,1,2,3,4,5],Ok),(22,[0,1,2],On),(23,[0,1,2,3],Oq),(24,[0],OE),(25,[0],OF),(26,[0,1],OG),(27,[0],OK),(28,[0],OL),(29,[0,1],OM),(30,[0,1],ON),(1912,[0],Ol),(1914,[0,1],Om),(58,[0,1],OO),(59,[0],OP),(60,[0,1],OQ),(61,[0],OR),(62,[0,1,2],OS),(63,[0],OT),(64,[0,1],OU),(2296,[0],Oo),(2297,[0,1,2,3,4],Op),(82,[0],OV),(83,[0],OW),(84,[0,1],OX),(2360,[0,1,2],Os),(2361,[0,1,2,3,4,5],Ot),(2362,[0,1,2],Ou),(2363,[0,1,2,3],Ov),(2364,[0,1,2],Ow),(2365,[0,1],Ox),(2366,[0,1,2,3],Oy),(2367,[0],Oz),(2368,[0,1,2],OA),(2369,[0,1,2],OB),(2376,[0,1,2,3,4,5],OC),(2377,[0,1,2],OD),(87,[0,1],OY),(88,[0,1],OZ),(89,[0,1],O0),(90,[0,1,2],O1),(91,[0,1],O2),(92,[0,1],O3),(93,[0,1],O4),(94,[0,1],O5),(95,[0,1],O6),(96,[0],O7),(97,[0],O8),(98,[0,1],O9),(99,[0,1],O'),(100,[0,1],NW),(101,[0,1],NX),(102,[0,1,2,3,4,5],NY),(2648,[0,1,2],OH),(2649,[0,1],OI),(2650,[0,1,2,3],OJ),(104,[0,1,2],NZ),(105,[0,1,2],N0),(110,[0,1],N1),(111,[0,1],N2),(112,[0,1],N3),(113,[0],N4),(114,[0,1],D5),(115,[0,1,2],N5),(116,[0,1,2],N6),(117,[0,1],N7),(118,[0,1],N8),(119,[0,1,2],N9),(120,[0,1],N'),(121,[0,1],Oa),(122,[0,1,2,3],Ob),(123,[0,1],Oc),(124,[0,1],Od),(125,[0,1],Oe),(126,[0,1],Of),(127,[0,1],Og),(128,[0],Oh),(129,[0,1,2,3],Oi),(130,[0,1,2,3,4,5,6,7],Oj)]
def cv (C:e->a6 (r e×bO)):Prop:=vp.map (λQ=>C Q.1)=vp.map λQ=>g Q.2
theorem cv.cy {C:e->a6 (r e×bO)} (M:cv C) (v:e) {W:r e×bO} (T:vp[v]? =g (a,W)):C a=g W:=by have F:=cS (λX=>X[v]?) M;rw[dp,dp,T] at F;exact bm F
section
set_option maxHeartbeats 0
theorem Xl (m:bZ):cv (w7 m):=by refine(?_:vp.map (λQ=>w7 m Q.1)=vp.map λQ=>g Q.2);kernel_rfl
end
namespace P
noncomputable abbrev aaA:=e->a6 (r e×bO)
variable {aO:aaA}
noncomputable abbrev x1 (G:q->K->Prop):gZ:=λU _ T=>match U with|cr=>G bI T|.aR J=>G J T|_=>bK
theorem cz (F:aO d=g (Q,aC)) (i:lr Q ai (λ_=>R)=g h) (Z:a7 (bC aO a) aC h b (x1 an)):bC aO (a+1) d ai b an:=by
 refine(?_:dj (aO d) λk=>dj (lr k.1 ai λ_=>R) λh=>a7 (bC aO a) k.2 h b (x1 an));refine c F<|(?_:dj (lr Q ai λ_=>R) _)
 exact c i<|Z
theorem abD:(b.cK bN).i=b.i+1:=rfl
theorem abT:(b.eM a bN).i=b.i:=rfl
theorem Fs:(b.cK bN).c6 b.i=bN:=aZ rfl
theorem aaz (F:a=b.i):(b.cK bN).c6 a=bN:=aZ F
theorem Ft (F:a<b.i):(b.cK bN).c6 a=b.c6 a:=ay (iX F)
theorem abu (F:a≠b.i):(b.cK bN).c6 a=b.c6 a:=ay F
theorem Ak:(b.eM a bN).c6 a=bN:=aZ rfl
theorem Fu (F:a≠d):(b.eM d bN).c6 a=b.c6 a:=ay F
theorem abB:dj (g dH) fd=fd dH:=rfl
theorem ul {G:dY->Prop} (U:a<b.i) (F:b.c6 a=bN) (Z:G bN):dh b a G:=⟨U,F▸Z⟩
structure M (b:K) (a:e) (bN:dY):Prop where
 bj:a<b.i
 bL:b.c6 a=bN
theorem c4 {U:dY->Prop} (v:M b a bN) (Z:U bN):dh b a U:=⟨v.bj,v.bL▸Z⟩
theorem fa (F:hj=g dH) (Z:fd dH):dj hj fd:=by exact c F<|Z
theorem ii:h.aP a C a=g C:=aZ rfl
theorem abK (F:(d==a)=false):h.aP a C d=h d:=ay (by simpa using F)
structure aE (t:e->Prop) (b aj:K):Prop where
 cq:b.i<=aj.i
 n9:∀y,y<b.i->¬t y->aj.c6 y=b.c6 y
abbrev ca:e->Prop:=λ_=>bK
theorem aE.dO:aE c7 b b:=⟨bv _,λ_ _ _=>rfl⟩
theorem aE.az (W:aE c7 b aj) (A:aE c7 aj cs):aE c7 b cs:=⟨ej W.cq A.cq,λy U Y=>(A.n9 y (gy U W.cq) Y).trans (W.n9 y U Y)⟩
theorem aE.cK (W:aE c7 b aj) (I:dY):aE c7 b (aj.cK I):=⟨Y5 W.cq,λy U Y=>(Ft (gy U W.cq)).trans (W.n9 y U Y)⟩
theorem aE.eM (W:aE c7 b aj) (I:dY) (E:c7 a\/b.i<=a):aE c7 b (aj.eM a I):=⟨W.cq,λy U Y=>(Fu λF=>by subst F;refine bi E (λE=>?_) λE=>?_;{exact Y E};{exact aS (t U E)}).trans (W.n9 y U Y)⟩
theorem aE.a0 (W:aE c7 b aj) (Y:∀y,y<b.i->c7 y->vJ y):aE vJ b aj:=⟨W.cq,λy U a=>W.n9 y U λm=>a (Y y U m)⟩
theorem aE.cb {a:e->Prop} (W:aE c7 b aj) (A:aE vJ aj cs) (k:∀y,y<b.i->c7 y->a y) (p:∀y,y<b.i->vJ y->a y):aE a b cs:=⟨ej W.cq A.cq,λy U Y=>(A.n9 y (gy U W.cq) λm=>Y (p y U m)).trans (W.n9 y U λm=>Y (k y U m))⟩
structure hb (b aj:K) (bN:dY):Prop where
 o:aE ca b aj
 aF:M aj b.i bN
 i:aj.i=b.i+1
structure e8 (b aj:K) (a:e) (bN:dY):Prop where
 o:aE (λP=>P=a) b aj
 aF:M aj a bN
 i:aj.i=b.i
theorem cJ (Z:∀H,hb b H bN->an (x b.i) H):gG b bN an:=⟨Z _ ⟨aE.dO.cK _,⟨fp _,Fs⟩,rfl⟩⟩
theorem hJ (v:M b a lz) (Z:∀H,e8 b H a bN->pp H):pk b a bN pp:=⟨Z _ ⟨aE.dO.eM _ (ap rfl),⟨v.bj,Ak⟩,rfl⟩⟩
theorem Gp (a:am<bx) (Z:l6 (g (j am,.dk (am+1) bx))):kL (.dk am bx) b l6:=c (show kL (.dk am bx) b l6=_ from aZ a) Z
theorem EY (a:¬am<bx) (Z:l6 R):kL (.dk am bx) b l6:=c (show kL (.dk am bx) b l6=_ from ay a) Z
theorem uA (v:e->ha) (G:e->q) (M:e) (Q:e->bu->K->Prop) (X:∀w h b (A:a6 (q×ha)->Prop),w<M->Q w h b->A (g (G w,v (w+1)))->kL (v w) b A) (c:∀h b (A:a6 (q×ha)->Prop),Q M h b->A R->kL (v M) b A) (a:Q 0 h b) (T:∀w h b (F:gZ),w<M->Q w h b->(∀I p,Q (w+1) I p->F cr I p/\F gp I p)->(∀I p,aA cr I p->F go I p)->(∀J I p,aA (.aR J) I p->F (.aR J) I p)->jk (G w) h b λd=>j6 d b F) (y:∀h b,Q M h b->aA cr h b):∃C,ip j6 jk C (v 0) h b aA:=by
 have i:∀Y w h b,w+Y=M->Q w h b->ip j6 jk (Y+1) (v w) h b aA:=by
  intro Y
  induction Y with
  |zero=>intro w h b W P;obtain rfl:w=M:=d4 (ab W) (D W);exact c h b _ P (y h b P)
  |succ Y t=>intro w h b W P;refine X w h b _ (wk W) P<|T w h b _ (wk W) P (λI p l=>⟨t (w+1) I p (wl W) l,t (w+1) I p (wl W) l⟩) (λI p l=>l) λJ I p l=>l
 exact⟨M+1,i M 0 h b (C2) a⟩
theorem Af (Q:e->bu->K->Prop) (a:Q 0 h b) (T:∀(w:e) h b (F:gZ),am+w<bx->Q w h b->(∀I p,Q (w+1) I p->F cr I p/\F gp I p)->(∀I p,aA cr I p->F go I p)->(∀J I p,aA (.aR J) I p->F (.aR J) I p)->jk (j (am+w)) h b λX=>j6 X b F) (y:∀h b,Q (bx- am).toNat h b->aA cr h b):∃C,ip j6 jk C (.dk am bx) h b aA:=by have:=uA (j6:=j6) (jk:=jk) (aA:=aA) (h:=h) (b:=b) (λw=>.dk (am+w) bx) (λw=>j (am+w)) (bx- am).toNat Q (λw h b A W _ Z=>Gp (C3 W) (c (show am+((w:e):B)+1=am+((w+1:e):B) from Kp) Z)) (λh b A _ Z=>EY Kq Z) a (λw h b F W=>T w h b F (C3 W)) y;simpa using this
theorem Ae (X:r q) (Q:e->bu->K->Prop) (D:X.length<aa) (P:∀w h b,Q w h b->a<b.i/\b.c6 a=V X) (c:Q 0 h b) (T:∀(w:e) J h b (F:gZ),X[w]? =g J->Q w h b->(∀I p,Q (w+1) I p->F cr I p/\F gp I p)->(∀I p,aA cr I p->F go I p)->(∀J I p,aA (.aR J) I p->F (.aR J) I p)->jk J h b λd=>j6 d b F) (y:∀h b,Q X.length h b->aA cr h b):∃C,ip j6 jk C (f3 a 0) h b aA:=by
 refine uA (λw=>f3 a w) (λw=>(X[w]?).getD bI) X.length Q (λw h b A W o Z=>?_) (λh b A o Z=>?_) c (λw h b F W o=>?_) y
 ·refine bl (P w h b o) λk p=>ul k p ⟨D,?_⟩;simp only[cY W,Zk] at Z⊢;exact Z
 ·refine bl (P _ h b o) λk p=>ul k p ⟨D,?_⟩;simp only[r6 (bv X.length)];exact Z
 refine T w _ h b F ?_ o;exact uB W
theorem Ag (X:r q) (Q:e->bu->K->Prop) (a:Q 0 h b) (T:∀(w:e) J h b (F:gZ),X[w]? =g J->Q w h b->(∀I p,Q (w+1) I p->F cr I p/\F gp I p)->(∀I p,aA cr I p->F go I p)->(∀J I p,aA (.aR J) I p->F (.aR J) I p)->jk J h b λd=>j6 d b F) (y:∀h b,Q X.length h b->aA cr h b):∃C,ip j6 jk C (.S X) h b aA:=by
 refine uA (λw=>.S (X.drop w)) (λw=>(X[w]?).getD bI) X.length Q (λw h b A W o Z=>?_) (λh b A o Z=>c (yl ..) Z) a (λw h b F W o=>?_) y
 ·refine c (tH W) ?_;rw[cY W] at Z;exact Z
 refine T w _ h b F ?_ o;exact uB W
theorem Fi (X:r q) (Q:e->bu->K->Prop) (P:∀w h b,Q w h b->a<b.i/\b.c6 a=V X) (d:Q 0 h b) (T:∀(w:e) J h b (F:gZ),X.reverse[w]? =g J->Q w h b->(∀I p,Q (w+1) I p->F cr I p/\F gp I p)->(∀I p,aA cr I p->F go I p)->(∀J I p,aA (.aR J) I p->F (.aR J) I p)->jk J h b λl=>j6 l b F) (y:∀h b,Q X.length h b->aA cr h b):∃C,ip j6 jk C (.fr a X.length) h b aA:=by
 have:=uA (j6:=j6) (jk:=jk) (aA:=aA) (h:=h) (b:=b) (λw=>.fr a (X.length- w)) (λw=>(X[X.length- 1- w]?).getD bI) X.length Q (λw h b A W o Z=>?_) (λh b A o Z=>?_) d (λw h b F W o=>?_) y
 ·simpa using this
 ·refine bl (P w h b o) λk p=>c (St W)<|ul k p ?_
  have E:X.length- 1- w<X.length:=by exact y' W
  refine(?_:dj X[X.length- 1- w]? _);rw[cY E] at Z⊢;rw[show X.length- (w+1)=X.length- 1- w by exact Dm] at Z;exact Z
 ·exact c (pA ..) Z
 refine T w _ h b F ?_ o;refine c (YH W ..) ?_;have E:X.length- 1- w<X.length:=y' W;exact uB E
theorem HI (Q:e->bu->K->Prop) (C:e) (a:Q C h b) (T:∀C h b (F:gZ),Q C h b->(∀M I p,M<C->Q M I p->F cr I p/\F gp I p)->(∀I p,aA cr I p->F go I p)->(∀J I p,aA (.aR J) I p->F (.aR J) I p)->j5 h b λJ k=>dj (fc J k) fun|false=>aA cr h k|true=>j6 h k F):∃C,qp j5 j6 C h b aA:=by
 have i:∀o C h b,C<o->Q C h b->qp j5 j6 o h b aA:=by
  intro o
  induction o with
  |zero=>intro C h b y;exact(fn (E 1 (c8 _) y) rfl).elim
  |succ o t=>intro C h b y P;exact T C h b _ P (λM I p N l=>⟨t M I p (ep 1 (E 1 N y)) l,t M I p (ep 1 (E 1 N y)) l⟩) (λI p l=>l) λJ I p l=>l
 exact⟨C+1,i (C+1) C h b (fp C) a⟩
theorem wT (v:e->ha) (G:e->q) (M:e) (Q:e->r q->K->Prop) (X:∀w d b (A:a6 (q×ha)->Prop),w<M->Q w d b->A (g (G w,v (w+1)))->kL (v w) b A) (c:∀d b (A:a6 (q×ha)->Prop),Q M d b->A R->kL (v M) b A) (H:Q 0 [] b) (T:∀w d b (m:q->K->Prop) (I:K->Prop),w<M->Q w d b->(∀o p,d.length<aa->Q (w+1) (d++[o]) p->m o p)->(∀p,Q (w+1) d p->I p)->ly (h.aP a (G w)) b λU k=>dj (fc U k) fun|true=>j5 (h.aP a (G w)) k m|false=>I k) (y:∀d b,Q M d b->lx d b) (N:M<aa) (J:∀w d b,Q w d b->d.length<=w):∃C,hS j5 ly h a C (v 0) [] b lx:=by
 have Y:∀i w d b,w+i=M->Q w d b->hS j5 ly h a (i+1) (v w) d b lx:=by
  intro i
  induction i with
  |zero=>intro w d b W P;obtain rfl:w=M:=d4 (ab W) (D W);exact c d b _ P (y d b P)
  |succ i F=>intro w d b W P;refine X w d b _ (wk W) P ?_;have Z:d.length<aa:=kB (J w d b P) (E 1 (t (bX _ _) (ab W)) N);refine T w d b (λo p=>d.length<aa/\hS j5 ly h a (i+1) (v (w+1)) (d++[o]) p lx) (λk=>hS j5 ly h a (i+1) (v (w+1)) d k lx) (wk W) P (λo p _ l=>⟨Z,F (w+1) _ p (wl W) l⟩) λp l=>F (w+1) d p (wl W) l
 exact⟨M+1,Y M 0 [] b (C2) H⟩
theorem abO [Q:vL bd]:(bd->de)->(¬bd->ff)->(match decide bd with|true=>de|false=>ff):=by
 intro k p;by_cases T:bd
 ·exact c (oF T)<|k T
 exact c (jE T)<|p T
theorem abN:(bt=true->bd)->(bt=false->de)->(match bt with|true=>bd|false=>de):=by
 intro k p;cases bt
 ·exact p rfl
 exact k rfl
theorem abV:(b.eM a bN).eM a lz=b.eM a lz:=by
 unfold K.eM
 congr 1
 funext W
 by_cases F:W=a<;>simp[F]
theorem Gh:(b.cK bN).eM b.i lz=b.cK lz:=by
 unfold K.cK K.eM
 congr 1
 funext W
 by_cases F:W=b.i<;>simp[F]
theorem abU (F:b.c6 a=bN):b.eM a bN=b:=by
 unfold K.eM
 cases b
 congr 1
 funext W
 by_cases Z:W=a
 ·exact c Z<|c (aZ rfl)<|F.symm
 ·exact c (ay Z) rfl
theorem M.G (v:M b a bN) (W:aE c7 b aj) (Y:¬c7 a):M aj a bN:=⟨gy v.bj W.cq,(W.n9 a v.bj Y).trans v.bL⟩
theorem M.eM:a<b.i->M (b.eM a bN) a bN:=λX=>⟨X,Ak⟩
theorem M.abS (v:M b a bN) (F:a≠d):M (b.eM d lz) a bN:=⟨v.bj,(Fu F).trans v.bL⟩
theorem M.cK:M (b.cK bN) b.i bN:=⟨fp _,Fs⟩
theorem M.abC (v:M b a bN):M (b.cK lz) a bN:=⟨Is v.bj,(Ft v.bj).trans v.bL⟩
theorem M.cm (v:M b a bN) (w:M b a lz):bN=lz:=v.bL.symm.trans w.bL
theorem u8 (F:h a=g C):h.aP a C=h:=by
 funext w;by_cases Z:w=a
 ·exact c Z<|c (ii ..) (c F rfl)
 exact ay Z
theorem mB (v:M b a (V ai)) (K:0<a) (q:d=57\/d=58\/d=60):s' d (x a) b:=⟨v.bj,by exact c v.bL<|⟨K,q⟩⟩
theorem F9 (v:M b a (aT a1)) (q:d=59\/d=58):s' d (x a) b:=⟨v.bj,by exact c v.bL<|q⟩
theorem F' (v:M b a (cw d fB)) (q:(iN d w).isSome=true):s' w (x a) b:=⟨v.bj,by exact c v.bL<|q⟩
noncomputable abbrev I (C:e):q:=j (C:B)
noncomputable abbrev bg (X:r e):r q:=X.map I
noncomputable abbrev ey (X:r e):r q:=X.map x
theorem g6 (y P:e) (F:I y=I P):y=P:=by injection F with F;exact wn F
theorem is:∀{C:e} {X:r e},X.Nodup->(∀W∈X,W<C)->X.length<=C:=by
 intro C;induction C with
 |zero=>
  intro X _ T
  cases X with
  |nil=>exact bv _
  |cons y X=>exact absurd (T y ky) (yu _)
 |succ C d=>
  intro X c T;have:=d (c.erase C) λW q=>by
   have k:=T W (YR q);have p:W≠C:=λF=>by subst F;exact(c.not_mem_erase) q
   exact qr (ep 1 k) p
  have b:=List.length_erase (a:=C) (l:=X);split at b<;>first|exact bJ 1 (t (D b) this)|exact Y3 (t (D b) this)
section
variable [DecidableEq eG]
noncomputable def d3 (F:eG->q) (A:r eG) (o:eG->q):r (q×q):=A.map λC=>(F C,o C)
noncomputable def i' (A:r eG) (C:eG):r eG:=if C∈A then A else A++[C]
noncomputable def hF (o:eG->q) (C:eG) (J:q):eG->q:=λM=>if M=C then J else o M
theorem ld:(d3 eA dA hV).length=dA.length:=au ..
theorem uJ (T:dA.Nodup):(i' dA dH).Nodup:=by
 unfold i';split
 ·exact T
 rw[iA];exact⟨T,il _ _,λy U P E eA=>by rw[e6] at E;subst E;subst eA;contradiction⟩
theorem lo:l5∈i' dA dH↔l5∈dA\/l5=dH:=by
 unfold i';split
 ·exact⟨ap,λT=>T.elim id λF=>F▸‹_›⟩
 simp
theorem aby:(i' dA dH).length<=dA.length+1:=by unfold i';split<;>simp
theorem s4 (T:dH∉dA):i' dA dH=dA++[dH]:=ay T
theorem FK (T:dH∈dA):i' dA dH=dA:=aZ T
theorem iH (o:∀y P,eA y=eA P->y=P):b9 (eA dH) (d3 eA dA hV)=if dH∈dA then g (hV dH) else R:=by
 induction dA with
 |nil=>rfl
 |cons M dA t=>
  refine(?_:(if q.d6 (eA M) (eA dH) then g (hV M) else b9 (eA dH) (d3 eA dA hV))=_);by_cases T:M=dH
  ·exact c T<|c (aZ (gE.mpr rfl)) (c (aZ ky) rfl)
  refine c (ay (λZ=>T (o _ _ (gE.mp Z)))) (c t ?_);simp only[eZ,Ne.symm T,false_or]
theorem Qb (T:∀M∈dA,eA M≠C):b9 C (d3 eA dA hV)=R:=by
 induction dA with
 |nil=>rfl
 |cons M dA t=>refine(?_:(if q.d6 (eA M) C then g (hV M) else b9 C (d3 eA dA hV))=_);exact c (ay (λZ=>T M ky (gE.mp Z))) (c (t λM N=>T M (jA _ N)) rfl)
theorem oU {b:eG->q} (T:∀M∈dA,eA M=b M):d3 hV dA eA=d3 hV dA b:=BS λM N=>by exact c (T M N) rfl
theorem mp (o:∀y P,eA y=eA P->y=P) (a:dA.Nodup):et (eA dH) C (d3 eA dA hV)=d3 eA (i' dA dH) (hF hV dH C):=by
 induction dA with
 |nil=>show [(eA dH,C)]=[(eA dH,hF hV dH C dH)];simp[hF]
 |cons M dA t=>
  refine(?_:(if q.d6 (eA M) (eA dH) then(eA M,C)::d3 eA dA hV else(eA M,hV M)::et (eA dH) C (d3 eA dA hV))=_);by_cases T:M=dH
  ·refine bp T<|c (aZ (gE.mpr rfl)) (c (FK ky) ?_)
   refine(?_:(eA M,C)::_=(eA M,hF hV M C M)::_);rw[oU (b:=hF hV M C) λW b=>(ay (c:=W=M) λZ=>(lE.mp a).1 (by exact bp (Z ..)<|b)).symm];rw[hF,aZ rfl];rfl
  refine c (ay (λZ=>T (o _ _ (gE.mp Z)))) (c (t (lE.mp a).2) ?_);have:i' (M::dA) dH=M::i' dA dH:=by unfold i';simp only[eZ,Ne.symm T,false_or];split<;>rfl
  refine c (this ..)<|(?_:_=(eA M,hF hV dH C M)::_)
  rw[hF,ay T];rfl
theorem P' (o:∀y P,eA y=eA P->y=P):lP (eA dH) (d3 eA dA hV)=d3 eA (dA.erase dH) hV:=by
 induction dA with
 |nil=>rfl
 |cons M dA t=>
  refine(?_:(if q.d6 (eA M) (eA dH) then d3 eA dA hV else(eA M,hV M)::lP (eA dH) (d3 eA dA hV))=_);by_cases T:M=dH
  ·exact c T<|c (aZ (gE.mpr rfl)) (c (List.erase_cons_head ..) rfl)
  refine c (ay (λZ=>T (o _ _ (gE.mp Z)))) (c t (c (List.erase_cons_tail (by simpa using T)) ?_));rfl
end
theorem zN (v:e->ha) (G:e->q) (M:e) (X:∀w (A:a6 (q×ha)->Prop),w<M->A (g (G w,v (w+1)))->kL (v w) b A) (p:∀(A:a6 (q×ha)->Prop),A R->kL (v M) b A) (U:e->ci) (o:e->q) (T:∀w (m:q->K->Prop) (I:K->Prop),w<M->(U w=true->m (o w) b)->(U w=false->I b)->ly (h.aP a (G w)) b λU k=>dj (fc U k) fun|true=>j5 (h.aP a (G w)) k m|false=>I k) (N:M<aa) (y:lx (((eQ M).filter U).map o) b):∃C,hS j5 ly h a C (v 0) [] b lx:=by
 refine wT v G M (λw d k=>k=b/\d=((eQ w).filter U).map o) (λw d k A W F Z=>by exact c F.1<|X w A W Z) (λd k A F Z=>by exact c F.1<|p A Z) ⟨rfl,rfl⟩ ?_ (λd k F=>by exact c F.1<|c F.2<|y) N λw d k F=>by exact c F.2<|c (au ..)<|ej (pu _ _) (by exact c (k7 ..)<|bv _)
 rintro w d k m I W ⟨rfl,rfl⟩ i D;refine T w m I W (λl=>i _ _ (c (au ..)<|kB (pu _ _) (by exact c (k7 ..)<|H 1 (E 1 W N))) ⟨rfl,?_⟩) λl=>D _ ⟨rfl,?_⟩
 ·refine c (BY ..) (c (BN ..) (c (eq ..) ?_));simp[l]
 refine c (BY ..) (c (BN ..) (c (eq ..) ?_));simp[l]
theorem wS (X:r q) (v:M b d (V X)) (D:X.length<aa) (U:e->ci) (o:e->q) (T:∀w J (m:q->K->Prop) (I:K->Prop),X[w]? =g J->w<X.length->(U w=true->m (o w) b)->(U w=false->I b)->ly (h.aP a J) b λU k=>dj (fc U k) fun|true=>j5 (h.aP a J) k m|false=>I k) (y:lx (((eQ X.length).filter U).map o) b):∃C,hS j5 ly h a C (f3 d 0) [] b lx:=by
 refine zN (λw=>f3 d w) (λw=>(X[w]?).getD bI) X.length (λw A W Z=>?_) (λA Z=>?_) U o (λw m I W k p=>T w _ m I (uB W) W k p) D y
 ·refine ul v.bj v.bL ⟨D,?_⟩;simp only[cY W,Zk] at Z⊢;exact Z
 refine ul v.bj v.bL ⟨D,?_⟩;simp only[r6 (bv X.length)];exact Z
theorem P3 (M:e) (l:M=am.toNat) (U:e->ci) (o:e->q) (T:∀(w:e) (m:q->K->Prop) (I:K->Prop),w<M->(U w=true->m (o w) b)->(U w=false->I b)->ly (h.aP a (j w)) b λU k=>dj (fc U k) fun|true=>j5 (h.aP a (j w)) k m|false=>I k) (N:M<aa) (y:lx (((eQ M).filter U).map o) b):∃C,hS j5 ly h a C (.dk 0 am) [] b lx:=by subst l;exact zN (λw=>.dk w am) (λw=>j w) am.toNat (λw A W Z=>Gp (Kr W) Z) (λA Z=>EY Ks Z) U o T N y
theorem P5 (X:r q) (D:X.length<aa) (U:e->ci) (o:e->q) (T:∀w J (m:q->K->Prop) (I:K->Prop),X[w]? =g J->w<X.length->(U w=true->m (o w) b)->(U w=false->I b)->ly (h.aP a J) b λU k=>dj (fc U k) fun|true=>j5 (h.aP a J) k m|false=>I k) (y:lx (((eQ X.length).filter U).map o) b):∃C,hS j5 ly h a C (.S X) [] b lx:=by refine zN (λw=>.S (X.drop w)) (λw=>(X[w]?).getD bI) X.length (λw A W Z=>?_) (λA Z=>c (yl ..) Z) U o (λw m I W k p=>T w _ m I (uB W) W k p) D y;refine c (tH W) ?_;rw[cY W] at Z;exact Z
def ag (D:b4) (h:bu) (T:K) (F:b0) (J:q):Prop:=∀G:q->K->Prop,G J T->aM D F h T G
def kf (D:b4) (h:bu) (T:K) (F:b0) (X:r q):Prop:=ag D h T F (S X)
noncomputable def FQ:q->ci
 |bI=>true
 |_=>false
theorem U:ag l h b (u C) C:=λG Z=>Z
theorem m (i:h a=g C):ag l h b (f a) C:=λG Z=>fa i Z
theorem bk (K:ag l h b A (x a)) (v:M b a (cw w fB)) (U:im d fB=g C):ag l h b (aH A d) C:=λG Z=>K _ (c4 v (fa U Z))
theorem jd (K:ag l h b A (S ai)) (o:ag l h b aw (j am)) (D:ai.length<aa) (Q:my ai am=g C):ag l h b (as A aw) C:=λG Z=>K _ (o _ ⟨D,fa Q Z⟩)
theorem e4 (K:ag l h b A (x a)) (o:ag l h b aw (I d)) (v:M b a (V ai)) (D:ai.length<aa) (Q:ai[d]? =g C):ag l h b (as A aw) C:=λG Z=>K _ (o _ (c4 v (ch (pt d) D (fa (show my ai (d:B)=g C from Q) Z))))
theorem u5 (K:ag l h b A (x a)) (o:ag l h b aw C) (v:M b a (aT a1)) (c:q.eK C=true) (Q:b9 C a1=g b2):ag l h b (as A aw) b2:=λG Z=>K _ (o _ (c4 v (by cases C<;>exact⟨c,fa Q Z⟩)))
theorem a5:kf l h b z []:=λG Z=>Z
theorem X (k:ag l h b A C) (p:kf l h b aw ai):kf l h b (n A aw) (C::ai):=λG Z=>k _ (p _ Z)
theorem ea (k:kf l h b A ai) (D:ai.length<aa):ag l h b (.S A) (S ai):=λG Z=>k _ ⟨D,Z⟩
theorem rK (k:ag l h b A (aK bt)):ag l h b (it A) (aK (!bt)):=λG Z=>k _ Z
theorem tf (k:ag l h b A C) (a:fc C b=g bt):ag l h b (it A) (aK (!bt)):=λG Z=>k _ (fa a Z)
theorem ko (k:ag l h b A (aK bt)) (p:bt=true->ag l h b aw (aK iT)):ag l h b (fD A aw) (aK (bt&&iT)):=λG Z=>k _ (by
 cases bt with
 |true=>exact p rfl _ Z
 |false=>exact Z)
theorem mF (k:ag l h b A (aK bt)) (p:bt=false->ag l h b aw (aK iT)):ag l h b (hh A aw) (aK (bt||iT)):=λG Z=>k _ (by
 cases bt with
 |true=>exact Z
 |false=>exact p rfl _ Z)
theorem xI (k:ag l h b A (aK bt)) (E:bt=false):ag l h b (fD A aw) (aK false):=λG Z=>k _ (by exact c E<|Z)
theorem abH (k:ag l h b A (aK bt)) (E:bt=true):ag l h b (hh A aw) (aK true):=λG Z=>k _ (by exact c E<|Z)
theorem u6 (k:ag l h b A (aK bt)) (p:bt=true->ag l h b aw C) (a:bt=false->ag l h b dI C):ag l h b (.bc A aw dI) C:=λG Z=>k _ (by
 cases bt with
 |true=>exact p rfl _ Z
 |false=>exact a rfl _ Z)
theorem u3 (k:ag l h b A (j bx)) (p:ag l h b aw (j gS)) (E:∀G:q->K->Prop,G (j am) b->mo gU (j bx) (j gS) b G):ag l h b (bR gU A aw) (j am):=λG Z=>k _ (p _ (E G Z))
theorem mE (k:ag l h b A (j am)) (p:ag l h b aw (j bx)):ag l h b (bR c9 A aw) (j (am+bx)):=λG Z=>k _ (p _ Z)
theorem pd (k:ag l h b A (j am)) (p:ag l h b aw (j bx)):ag l h b (bR eE A aw) (j (am- bx)):=λG Z=>k _ (p _ Z)
theorem pc (k:ag l h b A (j am)) (p:ag l h b aw (j bx)) (K:0<bx):ag l h b (bR ht A aw) (j (am%bx)):=λG Z=>k _ (p _ ⟨K,Z⟩)
theorem te (k:ag l h b A (bW ac)) (p:ag l h b aw (bW fu)) (a:ac.cps.size<aa) (c:fu.cps.size<aa):ag l h b (bR c9 A aw) (bW (ac++fu)):=λG Z=>k _ (p _ (ch a c Z))
theorem cx (k:ag l h b A (j am)) (p:ag l h b aw (j bx)):ag l h b (aJ bL A aw) (aK (decide (am=bx))):=λG Z=>k _ (p _ Z)
theorem Gw (k:ag l h b A (bW ac)) (p:ag l h b aw (bW fu)):ag l h b (aJ bL A aw) (aK (dV ac fu)):=λG Z=>k _ (p _ Z)
theorem abF (k:ag l h b A (aK bt)) (p:ag l h b aw (aK iT)):ag l h b (aJ bL A aw) (aK (bt==iT)):=λG Z=>k _ (p _ Z)
theorem Gx (k:ag l h b A (S ai)) (p:ag l h b aw (S d')) (M:(dJ 3 (S ai)&&dJ 3 (S d'))=true):ag l h b (aJ bL A aw) (aK (kh ai d')):=λG Z=>k _ (p _ (fa (show f' (dJ 3 (S ai)&&dJ 3 (S d')) (g (kh ai d'))=_ by refine c M ?_;rfl) Z))
theorem qf (k:ag l h b A (j am)) (p:ag l h b aw (j bx)):ag l h b (aJ d8 A aw) (aK (decide (am≠bx))):=λG Z=>k _ (p _ Z)
theorem Us (k:ag l h b A (bW ac)) (p:ag l h b aw (bW fu)):ag l h b (aJ d8 A aw) (aK (!dV ac fu)):=λG Z=>k _ (p _ Z)
theorem n6 (k:ag l h b A (j am)) (p:ag l h b aw (j bx)):ag l h b (aJ bj A aw) (aK (decide (am<bx))):=λG Z=>k _ (p _ Z)
theorem jc (k:ag l h b A (j am)) (p:ag l h b aw (j bx)):ag l h b (aJ i8 A aw) (aK (decide (bx<am))):=λG Z=>k _ (p _ Z)
theorem u4 (k:ag l h b A (j am)) (p:ag l h b aw (j bx)):ag l h b (aJ mv A aw) (aK (decide (bx<=am))):=λG Z=>k _ (p _ Z)
theorem xL (k:ag l h b A C):ag l h b (aJ ry A (u bI)) (aK (!FQ C)):=λG Z=>k _ (by cases C<;>exact Z)
theorem Uo (k:ag l h b A C):ag l h b (aJ lj A (u bI)) (aK (FQ C)):=λG Z=>k _ (by cases C<;>exact Z)
theorem ni (k:ag l h b A C) (p:ag l h b aw (x a)) (v:M b a (aT a1)) (c:q.eK C=true):ag l h b (aJ e2 A aw) (aK (b9 C a1).isSome):=λG Z=>k _ (p _ (c4 v ⟨c,Z⟩))
theorem xM (k:ag l h b A C) (p:ag l h b aw (x a)) (v:M b a (aT a1)) (c:q.eK C=true):ag l h b (aJ n5 A aw) (aK (!(b9 C a1).isSome)):=λG Z=>k _ (p _ (c4 v ⟨c,Z⟩))
theorem Ul (k:ag l h b A C) (p:ag l h b aw (x a)) (v:M b a (V ai)) (c:na C ai=g bt):ag l h b (aJ e2 A aw) (aK bt):=λG Z=>k _ (p _ (c4 v (fa c Z)))
theorem kP (k:ag l h b A C) (p:ag l h b aw (S ai)) (M:na C ai=g bt):ag l h b (aJ e2 A aw) (aK bt):=λG Z=>k _ (p _ (fa M Z))
theorem Um (k:ag l h b A (bW (ck "."))) (p:ag l h b aw (bW ac)) (a:ac=ck "p"\/ac=ck "q"):ag l h b (aJ e2 A aw) (aK false):=λG Z=>k _ (p _ (ch rfl a Z))
theorem kp (p:ag l h b A (x a)) (v:M b a (V ai)) (D:ai.length<aa):ag l h b (cT bo (n A z)) (I ai.length):=λG Z=>p _ (c4 v ⟨D,Z⟩)
theorem A2 (p:ag l h b A (S ai)) (D:ai.length<aa):ag l h b (cT bo (n A z)) (I ai.length):=λG Z=>p _ ⟨D,Z⟩
theorem Uw (p:ag l h b A (x a)) (v:M b a (V ai)) (D:ai.length<aa):ag l h b (cT rS (n A z)) (S ai):=λG Z=>p _ (c4 v ⟨D,Z⟩)
theorem abG (k:ag l h b A (j am)) (p:ag l h b aw (j bx)):ag l h b (cT o8 (n A (n aw z))) (j (if am<bx then bx else am)):=λG Z=>k _ (p _ Z)
theorem Un (k:ag l h b A (bW ac)) (a:sQ ac=g am):ag l h b (cT .j (n A z)) (j am):=λG Z=>k _ (fa a Z)
theorem xJ (k:ag l h b A (x a)) (p:ag l h b aw C) (c:ag l h b dI b2) (v:M b a (aT a1)) (d:q.eK C=true):ag l h b (b1 59 A (n aw (n dI z))) ((b9 C a1).getD b2):=λG Z=>k _ ⟨F9 v (ap rfl),p _ (c _ (c4 v ⟨d,Z⟩))⟩
theorem Uu (k:ag l h b A (S ai)) (p:ag l h b aw (I a)) (D:ai.length<aa) (c:1<=a) (v:a<=ai.length):ag l h b (j0 A aw (u bI)) (S (ai.drop a)):=λG Z=>k _ (p _ (iq D c v Z))
theorem JB (k:ag l h b A (S ai)) (p:ag l h b aw (I a)) (D:ai.length<aa):ag l h b (j0 A (u bI) aw) (S (ai.take a)):=λG Z=>k _ (p _ (ch D rfl Z))
noncomputable def gc (D:b4) (N:bO) (G:gZ):gZ:=λo h T=>match o with|cr=>a7 D N h T G|o=>G o h T
def DZ (D:b4) (Y:e) (N:bO) (h:bu) (G:gZ):q->K->Prop:=λJ T=>a7 D N (h.aP Y J) T G
def Aa (D:b4) (N:bO) (h:bu) (G:gZ):q->K->Prop:=λ_ T=>a7 D N h T G
abbrev GW (h:bu) (G:gZ):q->K->Prop:=λJ T=>G (.aR J) h T
theorem eV (Z:a7 l aC h b aA):a7 l L h b (gc l aC aA):=Z
theorem dL (Q:ag l h b A C) (Z:a7 l aC (h.aP a C) b aA):a7 l (s (ba a A) aC) h b aA:=Q _ Z
theorem fA (Z:aM l A h b (DZ l a aC h aA)):a7 l (s (ba a A) aC) h b aA:=Z
theorem kq (Z:aM l A h b (Aa l aC h aA)):a7 l (s (du A) aC) h b aA:=Z
theorem c3 (Q:ag l h b A C) (Z:aA (.aR C) h b):a7 l (s (aR A) aC) h b aA:=Q _ Z
theorem hu (Z:aM l A h b (GW h aA)):a7 l (s (aR A) aC) h b aA:=Z
theorem ec (G:ag l h b A (aK bt)) (k:bt=true->a7 l aC h b (gc l dd aA)) (p:bt=false->a7 l nv h b (gc l dd aA)):a7 l (s (bc A aC nv) dd) h b aA:=G _ (by
 cases bt with
 |true=>exact k rfl
 |false=>exact p rfl)
theorem abL (G:ag l h b A C) (a:fc C b=g bt) (k:bt=true->a7 l aC h b (gc l dd aA)) (p:bt=false->a7 l nv h b (gc l dd aA)):a7 l (s (bc A aC nv) dd) h b aA:=G _ (fa a (by
 cases bt with
 |true=>exact k rfl
 |false=>exact p rfl))
theorem g8 (G:ag l h b A (aK bt)) (E:bt=true) (k:a7 l aC h b (gc l dd aA)):a7 l (s (bc A aC nv) dd) h b aA:=G _ (by exact c E<|k)
theorem ex (G:ag l h b A (aK bt)) (E:bt=false) (k:a7 l aC h b aA):a7 l (s (bc A dd L) aC) h b aA:=G _ (by exact c E<|k)
theorem nD (G:ag l h b A (aK bt)) (E:bt=false) (k:a7 l aC h b (gc l dd aA)):a7 l (s (bc A nv aC) dd) h b aA:=G _ (by exact c E<|k)
theorem iP (Q:ag l h b A C) (c:ag l h b aw (x a)) (v:M b a (cw w fB)) (K:0<a) (D:mV fB.length 60=true) (N:iN w d=R) (Z:∀H,e8 b H a (cw w (kg d C fB))->a7 l aC h H aA):a7 l (s (dy aw d A) aC) h b aA:=Q _ (c _ (c4 v (iq K (by have:=qF D;exact ah (al 1 this) rfl) N (hJ v Z))))
theorem jg (Q:ag l h b A C) (w:ag l h b aw (x a)) (o:ag l h b dI b2) (v:M b a (aT a1)) (K:0<a) (c:q.eK b2=true) (D:a1.length<aa) (Z:∀H,e8 b H a (aT (et b2 C a1))->a7 l aC h H aA):a7 l (s (es aw dI A) aC) h b aA:=Q _ (w _ (o _ (c4 v (by cases b2<;>exact iq K c D (hJ v Z)))))
theorem xR (Q:ag l h b A C) (w:ag l h b aw (x a)) (o:ag l h b dI (I d)) (v:M b a (V ai)) (K:0<a) (y:d<ai.length) (D:ai.length<aa) (Z:∀H,e8 b H a (V (ai.set d C))->a7 l aC h H aA):a7 l (s (es aw dI A) aC) h b aA:=Q _ (w _ (o _ (c4 v (i9 K (pt d) y D (hJ v Z)))))
theorem jf (w:ag l h b A (x a)) (Q:ag l h b aw C) (v:M b a (V ai)) (K:0<a) (D:ai.length<aa) (Z:∀H,e8 b H a (V (ai++[C]))->a7 l aC h H aA):a7 l (s (du (b1 57 A (n aw z))) aC) h b aA:=w _ ⟨mB v K (ap rfl),Q _ (c4 v (ch K D (hJ v Z)))⟩
theorem xW (w:ag l h b A (x a)) (v:M b a (V ai)) (K:0<a) (D:ai.length<aa) (Q:ai.getLast?=g C) (Z:∀H,e8 b H a (V ai.dropLast)->a7 l aC (h.aP d C) H aA):a7 l (s (ba d (b1 58 A z)) aC) h b aA:=w _ ⟨mB v K (ar (ap rfl)),c4 v (ch K D (fa Q (hJ v Z)))⟩
theorem nl (Q:kf l h b A ai) (D:ai.length<aa) (Z:∀H,hb b H (V ai)->a7 l aC (h.aP a (x b.i)) H aA):a7 l (s (ba a (.V A)) aC) h b aA:=Q _ ⟨D,cJ Z⟩
theorem rM (Z:∀H,hb b H (aT [])->a7 l aC (h.aP a (x b.i)) H aA):a7 l (s (ba a (.aT z)) aC) h b aA:=⟨c8 _,cJ Z⟩
theorem xT (c:h a=g (j am)) (Q:ag l h b A (j bx)) (E:∀aA:q->K->Prop,aA (j gS) b->mo gU (j am) (j bx) b aA) (Z:a7 l aC (h.aP a (j gS)) b aA):a7 l (s (q5 a gU A) aC) h b aA:=fa c (Q _ (E _ Z))
theorem gP (Q:kf l h b A ai) (Z:l d ai b (DZ l a aC h aA)):a7 l (s (ba a (bh d A)) aC) h b aA:=Q _ Z
theorem tl (Q:kf l h b A ai) (Z:l a ai b (Aa l aC h aA)):a7 l (s (du (bh a A)) aC) h b aA:=Q _ Z
theorem tk (Q:kf l h b A ai) (Z:l a ai b (GW h aA)):a7 l (s (aR (bh a A)) aC) h b aA:=Q _ Z
theorem iJ (i:ag l h b A (x a)) (v:M b a (cw w fB)) (N:iN w d=g Z) (U:im d fB=R) (Q:kf l h b aw ai) (k:l Z (x a::ai) b an):aM l (b1 d A aw) h b an:=i _ ⟨F' v (by refine c N ?_;rfl),Q _ (c4 v ⟨U,fa N k⟩)⟩
theorem Uv (k:ag l h b A (bW ac)) (p:ag l h b aw (bW fu)):ag l h b (b1 61 A (n aw z)) (aK (fu.cps.toList.isPrefixOf ac.cps.toList)):=λG Z=>k _ ⟨ap rfl,p _ Z⟩
theorem z3 (Q:ag l h b A C) (Z:aM l aw h b λm k=>rc lA C m k an):aM l (aJ lA A aw) h b an:=Q _ Z
theorem g5 (Z:aM l A h b λW k=>aM l aw h k λa p=>(match a with|S X=>an (S (W::X)) p|_=>bK)):aM l (n A aw) h b an:=by refine(?_:aM l A h b _);exact Z
theorem m6 (Z:aM l A h b λW k=>(match W with|S X=>X.length<aa/\gG k (V X) an|_=>bK)):aM l (.V A) h b an:=Z
theorem QJ (Q:ag l h b A C) (Z:aM l aw h b λm k=>Av C m k an):aM l (as A aw) h b an:=Q _ Z
theorem sU (Z:aM l A h b λW k=>(match W with|S X=>l a X k an|_=>bK)):aM l (bh a A) h b an:=Z
theorem EQ (Q:ag l h b A C) (Z:aM l aw h b λm k=>l a [C,m] k an):aM l (bh a (n A (n aw z))) h b an:=Q _ Z
theorem mr (Z:aM l A h b λW k=>aM l aw h k λa p=>mo gU W a p an):aM l (bR gU A aw) h b an:=Z
theorem EU (w:ag l h b A (x a)) (v:M b a (V ai)) (K:0<a) (D:ai.length<aa) (Q:ai.getLast?=g C) (Z:∀H,e8 b H a (V ai.dropLast)->an C H):aM l (b1 58 A z) h b an:=w _ ⟨mB v K (ar (ap rfl)),c4 v (ch K D (fa Q (hJ v Z)))⟩
theorem fG (Q:kf l h b A ai) (Z:l a ai b an):aM l (bh a A) h b an:=Q _ Z
theorem hE (Q:ag l h b A C) (Z:an C b):aM l A h b an:=Q _ Z
structure lL (l:b4) (aC:bO) (aA F:gZ) (a:bu->K->Prop):Prop where
 dK:∀h T,a h T->F cr h T
 P7:∀h T,a h T->F gp h T
 Pq:∀h T,a7 l aC h T aA->F go h T
 vb:∀J h T,aA (.aR J) h T->F (.aR J) h T
theorem pe (X:r q) (Q:e->bu->K->Prop) (k:ag l h b A (x a)) (D:X.length<aa) (P:∀w h b,Q w h b->M b a (V X)) (c:Q 0 h b) (T:∀(w:e) J h b F,X[w]? =g J->Q w h b->lL l aC aA F (Q (w+1))->a7 l dd (h.aP d J) b F) (y:∀h b,Q X.length h b->a7 l aC h b aA):a7 l (s (el dC d A dd) aC) h b aA:=k _ (c4 (P 0 h b c) (Ae X Q D (λw h b v=>⟨(P w h b v).bj,(P w h b v).bL⟩) c (λw J h b F p o m E i=>T w J h b F p o ⟨λh b w=>(m h b w).1,λh b w=>(m h b w).2,E,i⟩) y))
theorem Vc (X:r q) (c:e->bu->K->Prop) (k:ag l h b A (x a)) (D:X.length<aa) (P:∀w h b,c w h b->M b a (V X)) (d:c 0 h b) (T:∀(w:e) J h b F,X[w]? =g J->c w h b->lL l aC aA F (c (w+1))->of Q J h b λp=>a7 l dd p b F) (y:∀h b,c X.length h b->a7 l aC h b aA):a7 l (s (sY dC Q A dd) aC) h b aA:=k _ (c4 (P 0 h b d) (Ae X c D (λw h b v=>⟨(P w h b v).bj,(P w h b v).bL⟩) d (λw J h b F t o m E i=>T w J h b F t o ⟨λh b w=>(m h b w).1,λh b w=>(m h b w).2,E,i⟩) y))
theorem FX (X:r q) (Q:e->bu->K->Prop) (D:X.length<aa) (P:∀w h b,Q w h b->M b a (V X)) (c:Q 0 h b) (T:∀(w:e) J h b F,X[w]? =g J->Q w h b->lL l aC aA F (Q (w+1))->a7 l dd (h.aP d J) b F) (y:∀h b,Q X.length h b->a7 l aC h b aA):g4 dC (x a) b λt k=>∃C,ip (λh b aA=>a7 l dd h b aA) (λJ h _ aA=>aA (h.aP d J)) C t h k (gc l aC aA):=c4 (P 0 h b c) (Ae X Q D (λw h b v=>⟨(P w h b v).bj,(P w h b v).bL⟩) c (λw J h b F p o m E i=>T w J h b F p o ⟨λh b w=>(m h b w).1,λh b w=>(m h b w).2,E,i⟩) y)
theorem AD (X:r q) (Q:e->bu->K->Prop) (c:Q 0 h b) (T:∀(w:e) J h b F,X[w]? =g J->Q w h b->lL l aC aA F (Q (w+1))->a7 l dd (h.aP a J) b F) (y:∀h b,Q X.length h b->a7 l aC h b aA):g4 dC (S X) b λt k=>∃C,ip (λh b aA=>a7 l dd h b aA) (λJ h _ aA=>aA (h.aP a J)) C t h k (gc l aC aA):=Ag X Q c (λw J h b F d o m E i=>T w J h b F d o ⟨λh b w=>(m h b w).1,λh b w=>(m h b w).2,E,i⟩) y
theorem Bb (X:r q) (Q:e->bu->K->Prop) (c:ag l h b A (S X)) (d:Q 0 h b) (T:∀(w:e) J h b F,X[w]? =g J->Q w h b->lL l aC aA F (Q (w+1))->a7 l dd (h.aP a J) b F) (y:∀h b,Q X.length h b->a7 l aC h b aA):a7 l (s (el dC a A dd) aC) h b aA:=c _ (AD X Q d T y)
theorem Ve (X:r q) (Q:e->bu->K->Prop) (k:ag l h b A (x a)) (D:X.length<aa) (P:∀w h b,Q w h b->M b a (V X)) (c:Q 0 h b) (T:∀(w:e) J h b F,X.reverse[w]? =g J->Q w h b->lL l aC aA F (Q (w+1))->a7 l dd (h.aP d J) b F) (y:∀h b,Q X.length h b->a7 l aC h b aA):a7 l (s (el fr d A dd) aC) h b aA:=k _ (c4 (P 0 h b c) ⟨D,Fi X Q (λw h b v=>⟨(P w h b v).bj,(P w h b v).bL⟩) c (λw J h b F p o m E i=>T w J h b F p o ⟨λh b w=>(m h b w).1,λh b w=>(m h b w).2,E,i⟩) y⟩)
theorem u9 (M:e) (N:M<2^40) (Q:e->bu->K->Prop) (d:ag l h b A (I M)) (k:Q 0 h b) (T:∀(w:e) h b F,w<M->Q w h b->lL l aC aA F (Q (w+1))->a7 l dd (h.aP a (I w)) b F) (y:∀h b,Q M h b->a7 l aC h b aA):a7 l (s (el dk a (n A z) dd) aC) h b aA:=d _ (ch (xm N) xn (Af Q k (λw h b F W o m E i=>by exact c (BJ ..)<|T w h b F (C5 W) o ⟨λh b w=>(m h b w).1,λh b w=>(m h b w).2,E,i⟩) λh b aw=>y h b (by rw[H6,qz] at aw;exact aw)))
theorem Ba (M:e) (N:M<2^40- 1) (Q:e->bu->K->Prop) (k:ag l h b A (j 1)) (d:ag l h b aw (j ((M:B)+1))) (p:Q 0 h b) (T:∀(w:e) h b F,w<M->Q w h b->lL l aC aA F (Q (w+1))->a7 l dd (h.aP a (I (w+1))) b F) (y:∀h b,Q M h b->a7 l aC h b aA):a7 l (s (el dk a (n A (n aw z)) dd) aC) h b aA:=k _ (d _ (i9 (aQ rfl) (aQ rfl) (xm (a:=M+1) (ah (al 1 N) rfl)) (xn (a:=M+1)) (Af Q p (λw h b F W o m E i=>by exact c (show(1:B)+(w:B)=((w+1:e):B) by exact K5)<|T w h b F (by exact K6 W) o ⟨λh b w=>(m h b w).1,λh b w=>(m h b w).2,E,i⟩) λh b dI=>y h b (by rw[show((M:B)+1- 1).toNat=M by exact K7] at dI;exact dI))))
theorem pf (Q:e->bu->K->Prop) (C:e) (a:Q C h b) (T:∀C h b,Q C h b->∃P,(∀H:q->K->Prop,(∀J,fc J b=g P->H J b)->aM l A h b H)/\(P=true->∀F,lL l aC aA F (λI p=>∃M,M<C/\Q M I p)->a7 l dd h b F)/\(P=false->a7 l aC h b aA)):a7 l (s (kr A dd) aC) h b aA:=HI Q C a λC h b F o m E i=>by
  refine eT (T C h b o) λP G k p=>G _ λJ c=>fa c ?_
  cases P with
  |true=>exact k rfl F ⟨λh b t=>ax t λM N w=>(m M h b N w).1,λh b t=>ax t λM N w=>(m M h b N w).2,E,i⟩
  |false=>exact p rfl
theorem tx (d:ag l h b A (x a)) (v:M b a (V ai)) (D:ai.length<aa) (E:(!ai.isEmpty)=bt) (H:q->K->Prop) (Z:∀J,fc J b=g bt->H J b):aM l A h b H:=d _ (Z _ (by
 refine bp E<|(?_:(if a<b.i then _ else _)=_)
 exact c (aZ v.bj)<|c (v.bL ..)<|if_pos D))
theorem HG (a:ag l h b A (aK iT)) (E:iT=bt) (H:q->K->Prop) (Z:∀J,fc J b=g bt->H J b):aM l A h b H:=a _ (Z _ (by refine c E ?_;rfl))
theorem p1 (X:r q) (o:e->q) (k:e->ci) (K:ag l h b A (x a)) (v:M b a (V X)) (D:X.length<aa) (T:∀w J,X[w]? =g J->w<X.length->ag l (h.aP d J) b aw (aK (k w))/\(k w=true->ag l (h.aP d J) b dI (o w))) (Z:∀H,hb b H (V (((eQ X.length).filter k).map o))->an (x b.i) H):aM l (fx dC dI d A aw) h b an:=K _ (c4 v (wS X v D k o (λw J m I Q W p t=>(T w J Q W).1 _ (by
  cases E:k w with
  |true=>exact(T w J Q W).2 E _ (p E)
  |false=>exact t E)) ⟨by exact c (au ..)<|kB (pu _ _) (by exact c (k7 ..)<|D),cJ Z⟩))
theorem abt (X:r q) (o:e->q) (k:e->ci) (K:ag l h b A (S X)) (D:X.length<aa) (T:∀w J,X[w]? =g J->w<X.length->ag l (h.aP a J) b aw (aK (k w))/\(k w=true->ag l (h.aP a J) b dI (o w))) (Z:∀H,hb b H (V (((eQ X.length).filter k).map o))->an (x b.i) H):aM l (fx dC dI a A aw) h b an:=K _ (P5 X D k o (λw J m I Q W d p=>(T w J Q W).1 _ (by
  cases E:k w with
  |true=>exact(T w J Q W).2 E _ (d E)
  |false=>exact p E)) ⟨by exact c (au ..)<|kB (pu _ _) (by exact c (k7 ..)<|D),cJ Z⟩)
theorem w0 (M:e) (N:M<aa) (o:e->q) (k:e->ci) (K:ag l h b A (I M)) (T:∀w,w<M->ag l (h.aP a (I w)) b aw (aK (k w))/\(k w=true->ag l (h.aP a (I w)) b dI (o w))) (Z:∀H,hb b H (V (((eQ M).filter k).map o))->an (x b.i) H):aM l (fx dk dI a (n A z) aw) h b an:=K _ ⟨xm (ah N rfl),xn,P3 M (by exact c (qz ..) rfl) k o (λw m t W d p=>(T w W).1 _ (by
  cases E:k w with
  |true=>exact(T w W).2 E _ (d E)
  |false=>exact p E)) N ⟨by exact c (au ..)<|kB (pu _ _) (by exact c (k7 ..)<|N),cJ Z⟩⟩
theorem m9 (M:e):(eQ M).filter (λ_=>true)=eQ M:=List.filter_eq_self.mpr λ_ _=>rfl
theorem p' (X:r eG) (Q:tB) (o:eG->tB):(eQ X.length).map (λw=>((X[w]?).map o).getD Q)=X.map o:=by refine H' (by simp) λv k p=>?_;simp at p;simp[cY p]
def MW (D:b4):Prop:=∀(Q:e) (X:r B) (a:B) (T:K) (G:q->K->Prop),M T Q (V (X.map j))->0<Q->X.length<aa->0<a->(∀(v:e) (k:r B) (H:K),(v:B)<a->k.length<=X.length->aE (λP=>P=Q) T H->H.i=T.i->M H Q (V (k.map j))->G (j v) H)->D 110 [x Q,j a] T G
theorem VH (t:cv aO):MW (bC aO (a+1)):=by
 intro Q X M T G J K D N Z;refine cz (t.cy 57 rfl) rfl ?_;have l:(X.map q.j).length<aa:=by exact c (au ..)<|D
 refine ec (cx (kp (m rfl) J l) U) (λ_=>c3 U (Z 0 X T N (bv _) .dO rfl J)) λF=>?_;have d:X≠[]:=λZ=>by subst Z;exact kW F
 have k:=Int.emod_nonneg (X.getLast d) (b:=M) (Ku N);have p:=Int.emod_lt_of_pos (X.getLast d) N;refine eV (hu (mr (EU (C:=j (X.getLast d)) (m rfl) J K l (by refine c (List.getLast?_map ..) (c (List.getLast?_eq_some_getLast d) ?_);rfl) λH h=>hE (m rfl) ⟨N,?_⟩)));have:=Z (X.getLast d%M).toNat X.dropLast H (Kv k p) (List.length_dropLast▸mW _ _) h.o h.i (by exact c (List.map_dropLast ..)<|h.aF);rw[H7 k] at this;exact this
noncomputable def n0 (X:r q):r (q×q):=X.zipIdx.map λQ=>(Q.1,j Q.2)
theorem Sv:(n0 ai).length=ai.length:=by simp[n0]
theorem X6:∀{X:r q} {a:e} {J:q},b9 C (((X.zipIdx a).map λQ=>(Q.1,q.j Q.2)))=g J->∃w,X[w]? =g C/\J=j ((a+w:e):B):=by
 intro X;induction X with
 |nil=>intro a J T;exact ce T
 |cons y X t=>
  intro a J T;simp only[Im,r8,b9] at T;split at T
  ·rename_i Z;exact a8 0 (by refine bp (gE.mp Z) ?_;rfl) (by refine bp (bm T) ?_;rfl)
  refine ax (t T) λw k p=>a8 (w+1) k (by refine c p ?_;congr 1;exact Kw)
theorem HN:∀{X:r q} {a:e},b9 C (((X.zipIdx a).map λQ=>(Q.1,q.j Q.2)))=R->C∉X:=by
 intro X;induction X with
 |nil=>intro a T;exact em
 |cons y X t=>
  intro a T;simp only[Im,r8,b9] at T;split at T
  ·exact fK T
  have:=t T;simp only[eZ,Jr];exact⟨λF=>‹¬_› (gE.mpr F.symm),this⟩
theorem X7:∀{X:r q} {a:e},C∉X->et C b2 (((X.zipIdx a).map λQ=>(Q.1,q.j Q.2)))=((X.zipIdx a).map λQ=>(Q.1,q.j Q.2))++[(C,b2)]:=by
 intro X;induction X with
 |nil=>intro a T;exact rfl
 |cons y X t=>intro a T;simp only[eZ,Jr] at T;simp only[Im,r8,et,Yx];exact c (ay λZ=>T.1 (gE.mp Z).symm) (c (t T.2) rfl)
def Nb (D:b4):Prop:=∀(k m Q:e) (Y:r (e×q)) (X:r q) (h:q) (T:K) (G:q->K->Prop),M T k (cw 57 ((6,x m)::(7,x Q)::Y))->M T m (V X)->M T Q (aT (n0 X))->q.eK h=true->X.length+1<aa->0<m->0<Q->k≠m->m≠Q->(∀w:e,X[w]? =g h->G (I w) T)->(h∉X->∀H,aE (λy=>y=m\/y=Q) T H->H.i=T.i->M H m (V (X++[h]))->M H Q (aT (n0 (X++[h])))->G (I X.length) H)->D 1914 [x k,h] T G
theorem G3 (F:cv aO):Nb (bC aO (a+1)):=by
 intro U Z Q ab y h T ae A W E M D K k C t d H
 refine cz (F.cy 11 rfl) rfl ?_
 have Y:y.length<aa:=py D
 cases P:b9 h (n0 y) with
 |some J=>refine ax (X6 P) λw p N=>?_;subst N;rw[tP] at P;exact g8 (ni (m rfl) (bk (m rfl) A rfl) E M) (by refine c P ?_;rfl) (c3 (u5 (bk (m rfl) A rfl) (m rfl) E M P) (d w p))
 |none=>refine ex (ni (m rfl) (bk (m rfl) A rfl) E M) (by refine c P ?_;rfl) (dL (kp (bk (m rfl) A rfl) W Y) (jf (bk (m rfl) A rfl) (m rfl) W K Y λp X=>?_));have q:=A.G X.o C;have v:=E.G X.o t.symm;refine jg (m rfl) (bk (m rfl) q rfl) (m rfl) v k M (by refine c (Sv ..) ?_;exact Y) λl b=>c3 (m rfl) ?_;refine H (HN P) l (X.o.cb b.o (λ_ _=>ap) λ_ _=>ar) (b.i.trans X.i) (X.aF.G b.o t) ?_;have:=b.aF;rw[show et h (I y.length) (n0 y)=_ from X7 (HN P)] at this;rw[n0,List.zipIdx_append,eq];simpa using this
noncomputable def lh:r q:=[(S [(j 1),(aV "any")]),(S [(j 1),(aV "unknown")]),(S [(j 1),(aV "never")]),(S [(j 1),(aV "void")]),(S [(j 1),(aV "undefined")]),(S [(j 1),(aV "null")]),(S [(j 1),(aV "string")]),(S [(j 1),(aV "number")]),(S [(j 2),(j 0),(j 0)]),(S [(j 2),(j 1),(j 0)]),(S [(j 1),(aV "object")]),(S [(j 8),(S []),(S []),(S []),(S []),(S []),(j 0)]),(S [(j 6),(S [(j 8),(j 9)])]),(S [(j 1),(aV "error")]),(S [(j 2),(j 0),(j 1)]),(S [(j 2),(j 1),(j 1)])]
noncomputable def hD (M:e):r e:=(eQ 6).filter λv=>M.testBit v
noncomputable def fz (M:e):r q:=(hD M).map λv=>j ((4+v:e):B)
noncomputable def n8 (M:e):q:=S [j 6,S (fz M)]
noncomputable def j1 (E:r e):r q:=lh++E.map n8
theorem TL:∀{X:r eG},(X.map mO).Nodup->X.Nodup:=by
 intro X;induction X with
 |nil=>intro _;exact kz
 |cons y X t=>intro T;rw[r8,lE] at T;exact lE.mpr ⟨λZ=>T.1 (r' Z),t T.2⟩
structure ev (T:K) (k m Q:e) (E:r e):Prop where
 lu:∃Y,im 45 Y=R/\M T k (cw 57 ((6,x m)::(7,x Q)::Y))
 a9:M T m (V (j1 E))
 aF:M T Q (aT (n0 (j1 E)))
 b7:(j1 E).Nodup
 bj:∀a∈E,a<64
 cI:0<m
 An:0<Q
theorem ev.d8 (N:ev b a d w Q):a≠d/\d≠w/\a≠w:=by
 refine ax N.lu λY U A=>ch (λF=>?_) (λF=>?_) (λF=>?_)
 ·rw[F] at A;exact dW (A.cm N.a9) rfl
 ·have:=N.a9;rw[F] at this;exact dW (this.cm N.aF) rfl
 rw[F] at A;exact dW (A.cm N.aF) rfl
theorem ev.bo (N:ev b a d w Q):(j1 Q).length<=80:=by have:=is (TL (iA.mp N.b7).2.1) N.bj;rw[j1,dw,au];refine(?_:16+_<=80);exact Kx this
theorem ev.G (N:ev b a d w Q) (W:aE c7 b aj) (k:¬c7 a) (p:¬c7 d) (l:¬c7 w):ev aj a d w Q:=by refine ax N.lu λY U A=>⟨(a8 Y U (A.G W k)),N.a9.G W p,N.aF.G W l,N.b7,N.bj,N.cI,N.An⟩
def fi (E:r e) (N:B) (M:e):Prop:=(N=2/\M=0)\/(∃v,v<6/\N=((4+v:e):B)/\M=2^v)\/∃w:e,N=w/\(j1 E)[w]? =g (n8 M)/\M<64/\2<=(hD M).length/\12<=w
theorem fi.bj (W:fi Q am a):a<64:=by
 rcases W with⟨_,rfl⟩|⟨v,T,_,rfl⟩|⟨w,_,_,T,_⟩
 ·decide
 ·exact B5 (a:=2) (n:=6) (aQ rfl) T
 exact T
theorem fi.mn (W:fi Q am a):fi (Q++aB) am a:=by refine bi W (λT=>ap T) λm=>bi m (λT=>ar (ap T)) λN=>eT N λw K k p=>?_;exact ar (ar (d7 w K (by rw[j1,eq,<-gx];exact(iz (co.mp k).1).trans k) p))
theorem w9 (T:∀W,dJ a (eA W)=true):(dA.map eA).all (dJ a)=true:=by rw[List.all_map,f2];exact λW _=>T W
theorem RE:q.eK (n8 a)=true:=by refine(?_:([q.j 6,q.S (fz a)].all (dJ 2))=true);exact dR.mpr ⟨rfl,dR.mpr ⟨(w9 λ_=>rfl:(fz a).all (dJ 1)=true),rfl⟩⟩
theorem zy:∀M:Fin 64,∀v:Fin 64,hD M.1=hD v.1->M=v:=by decide+kernel
theorem UB (T:fz a=fz d):hD a=hD d:=by
 unfold fz at T;refine List.map_inj_right (f:=λv:e=>q.j ((4+v:e):B)) (λW A F=>?_)|>.mp T
 injection F with F;exact C4 F
theorem Vz (U:a<64) (E:d<64) (T:n8 a=n8 d):a=d:=by
 have:fz a=fz d:=by unfold n8 at T;injection T with T;injection T with _ T;injection T with T;injection T
 exact cS HY (zy ⟨a,U⟩ ⟨d,E⟩ (UB this))
theorem Vy (N:d<64) (T:lh[a]? =g (n8 d)):a=12:=by have k:=(co.mp T).1;exact(by decide:∀a,a<16->((lh[a]?.bind x8).bind List.head?).bind ru=some 6->a=12) a k (by refine c T ?_;rfl)
theorem zz:∀v:Fin 6,hD (2^v.1)=[v.1]:=by decide+kernel
theorem fi.ct (M:ev b a d w Q) (W:fi Q am Z) (A:fi Q bx Z):am=bx:=by
 refine bi W (λm=>bl m λk p=>?_) λN=>bi N (λI=>eT I λo k p l=>?_) λq=>re q λy k p l v P=>?_<;>refine bi A (λm=>bl m λc X=>?_) λN=>bi N (λI=>eT I λT c X C=>?_) λq=>re q λU c X C h i=>?_
 ·exact Ky k m.1
 ·have:=ID T;exact(fn (t (t this (D C)) (ab p)) rfl).elim
 ·rw[p] at h;exact absurd h (aQ rfl)
 ·have:=ID o;exact(fn (t (t this (D l)) (ab X)) rfl).elim
 ·rw[l] at C;have:=(Nat.pow_right_inj (a:=2) (aQ rfl)).mp C;exact Kz p X this
 ·rw[l,zz ⟨o,k⟩] at h;simp at h
 ·rw[X] at v;exact absurd v (aQ rfl)
 ·rw[C,zz ⟨T,c⟩] at v;simp at v
 have:=(r7 (co.mp p).1 M.b7).mp (p.trans X.symm);exact KA k c this
theorem fi.cm (W:fi Q am a) (A:fi Q am d):a=d:=by
 refine bi W (λm=>bl m λk p=>?_) λN=>bi N (λI=>eT I λv k p l=>?_) λq=>re q λw k p l b P=>?_<;>refine bi A (λm=>bl m λD X=>?_) λN=>bi N (λI=>eT I λT D X C=>?_) λq=>re q λU D X C h i=>?_<;>first|lia-abstractProof|skip
 ·obtain rfl:v=T:=KE p X;exact c l (c C rfl)
 obtain rfl:w=U:=KF k D;exact Vz l C (bm (p.symm.trans X))
theorem abl:∀{Y:r (e×q)},(kg a C Y).length<=Y.length+1:=by
 intro Y;induction Y with
 |nil=>exact bv _
 |cons N h t=>
  obtain⟨y,m⟩:=N;unfold kg;split
  ·exact bX _ _
  dsimp only[hm];exact tO t
theorem n' (m:h 0=g (x d)) (v:M b d (cw w fB)) (K:0<d) (D:mV fB.length 60=true) (N:iN w a=R) (q:∀F,gG b bN F->aM l A h b F) (Z:∀H,aE (λP=>P=d) b H->M H b.i bN->H.i=b.i+1->M H d (cw w (kg a (x b.i) fB))->a7 l aC h H aA):a7 l (s (dy (f 0) a A) aC) h b aA:=q _ (cJ λk X=>fa m (c4 (v.G X.o id) (iq K (by have:=qF D;exact ah (al 1 this) rfl) N (hJ (v.G X.o id) λp c=>Z p (X.o.cb c.o (λ_ _=>ed) λ_ _ b=>b) (X.aF.G c.o (by refine(?_:¬_=_);have:=v.bj;exact a3 this)) (c.i.trans X.i) c.aF))))
theorem rP (i:h 0=g (x d)) (v:M b d (cw w fB)) (K:0<d) (D:mV fB.length 60=true) (N:iN w a=R) (Z:∀H,e8 b H d (cw w (kg a C fB))->a7 l aC h H aA):a7 l (s (dy (f 0) a (u C)) aC) h b aA:=iP U (m i) v K D N Z
theorem rH (Z:gG b (V []) an):aM l (.V z) h b an:=⟨aQ rfl,Z⟩
theorem gu (Z:gG b (aT []) an):aM l (.aT z) h b an:=⟨aQ rfl,Z⟩
theorem Fd:lh.Nodup:=by have:lh.Pairwise (λy P=>q.d6 y P=false):=aQ rfl;exact this.imp λE F=>by subst F;rw[gE.mpr rfl] at E;exact kW E
def Na (D:b4):Prop:=∀(k:e) (T:K) (G:q->K->Prop),M T k (cw 57 [])->0<k->(∀m Q H,aE (λy=>y=k) T H->T.i<=m->T.i<=Q->ev H k m Q []->G bI H)->D 1912 [x k] T G
theorem VY (aB:cv aO):Na (bC aO (a+2)):=by
 intro k T bD A K Z;refine cz (aB.cy 10 rfl) rfl ?_;have be:=G3 (a:=a) aB;have af:=A.bj;refine n' rfl A K rfl rfl (λ_=>rH) λaj aC aG ag h=>n' rfl h K rfl rfl (λ_=>gu) λp aq aI _ aL=>n' rfl aL K rfl rfl (bN:=V [bI]) (λ_ Z=>⟨aQ rfl,Z⟩) λl aM _ _ aP=>n' rfl aP K rfl rfl (λ_=>rH) λv b _ _ aV=>n' rfl aV K rfl rfl (λ_=>rH) λP C _ _ aW=>n' rfl aW K rfl rfl (λ_=>rH) λbg I _ _ aY=>n' rfl aY K rfl rfl (λ_=>gu) λau aZ _ _ a0=>n' rfl a0 K rfl rfl (λ_=>gu) λav a3 _ _ a7=>rP rfl a7 K rfl rfl λbE aw=>rP rfl aw.aF K rfl rfl λbG ax=>?_;have ao:=aM.az (b.az (C.az (I.az (aZ.az (a3.az (aw.o.az ax.o))))));have bk:=aG.G (aq.az ao) (B3 af);have bl:=aI.G ao (B3 h.bj);have F:=aC.az (aq.az ao);have bp:=ax.aF;clear aC aq aM b C I aZ a3 aw ax h aL aP aV aW aY a0 a7 aG aI ao;refine Ag lh (λw d ae=>d 0=g (x k)/\∃Y,aE (λy=>y=k) T ae/\im 45 Y=R/\M ae k (cw 57 ((6,x T.i)::(7,x aj.i)::Y))/\M ae T.i (V (lh.take w))/\M ae aj.i (aT (n0 (lh.take w)))) ⟨rfl,_,F,rfl,bp,bk,bl⟩ ?_ ?_
 ·refine λw J bq ae bJ Q ay br _ _=>EK ay λa9 Y W U l v P=>?_;have bt:∀J∈lh,q.eK J=true:=aQ rfl;have bu:lh.length=16:=rfl;have bw:J∉lh.take w:=λN=>by obtain⟨bM,bx,bz⟩:=Ii.mp N;refine aU (co.mp Q) λa' bA=>?_;have:=(YI Fd).mp (bz.trans bA.symm);exact aS (t (E 1 (D this) bx) (qG _ _))
  apply kq;apply iJ (a:=k) (ai:=[J]);exact m a9;assumption;exact rfl;exact U;exact X (m rfl) a5;refine be k T.i aj.i Y _ J ae _ l v P (bt J (bF Q)) (by refine c (lD ..) ?_;unfold aa;exact ah (al 2 (t (qH _ _) (ab bu))) rfl) (dr (E 1 K af) rfl) (E 1 (c8 _) (D ag)) (aD af) (aD (D ag)) (λbO a'=>absurd (bF a') bw) λ_ bg I _ au av=>?_;have A:lh.take w++[J]=lh.take (w+1):=by refine c (iB ..) (c Q ?_);rfl
  rw[A] at au av;refine(br _ _ ?_).1;exact⟨a9,Y,W.cb I (λ_ _ T=>T) λy bb bB=>(bB.elim (λaA=>aS (E 1 (D aA) bb)) λaA=>aS (H 1 (E 1 (t (D ag) (D aA)) bb)):bK).elim,U,l.G I (dm (aD af) (aD (H 1 (E 1 af (D ag))))),au,av⟩
 refine λbq ae ay=>EK ay λ_ Y W U l v P=>Z T.i aj.i ae W (bv _) (H 1 (D ag)) ⟨(a8 Y U l),v,P,Fd,λ_=>em,dr (E 1 K af) rfl,E 1 (c8 _) (D ag)⟩
theorem Ah (E:r e) (o:a<6):∃(Y:B) (h:r q),(j1 E)[4+a]? =g (S (j Y::h))/\(h.length<=2/\Y<3/\(Y=1\/Y=2/\∃F,h=[F,j 0])/\fz (2^a)=[j ((4+a:e):B)]):=by
 match a,o with
 |0,_|1,_|2,_|3,_=>exact⟨_,_,rfl,aQ rfl,aQ rfl,ap rfl,rfl⟩
 |4,_|5,_=>exact⟨_,_,rfl,aQ rfl,aQ rfl,ar ⟨rfl,_,rfl⟩,rfl⟩
def Nt (D:b4):Prop:=∀(k m Q:e) (E:r e) (N:B) (M:e) (T:K) (G:q->K->Prop),ev T k m Q E->fi E N M->G (S (fz M)) T->D 58 [x k,j N] T G
theorem Bj (M:cv aO):Nt (bC aO (a+1)):=by
 intro c l Q E N o T G t h Z;refine cz (M.cy 12 rfl) rfl<|ax t.lu λy _ A=>?_
 have D:=t.bo;have W:=t.a9;rcases h with⟨rfl,rfl⟩|⟨v,k,rfl,rfl⟩|⟨w,rfl,p,_,_,P⟩
 ·exact g8 (cx (m rfl) U) rfl (c3 (ea a5 (aQ rfl)) Z)
 ·refine ex (cx (m rfl) U) (jE (KG))<|iI (Ah E k) λY b K H=>dL (e4 (d:=4+v) (bk (m rfl) A rfl) (m rfl) W (ah (al 1 D) rfl) K) ?_
  have i:(q.j Y::b).length+1<=aa:=ah (al 2 H.1) rfl;refine ex (cx (jd (m rfl) U i rfl) U) (jE λF=>by rw[F] at H;exact absurd H.2.1 (aQ rfl)) ?_;rw[H.2.2.2] at Z;exact c3 (ea (X (m rfl) a5) (eF rfl)) Z
 refine ex (cx (m rfl) U) (jE (KH P))<|dL (e4 (d:=w) (bk (m rfl) A rfl) (m rfl) W (ah (al 1 D) rfl) p) (g8 (cx (jd (m rfl) U (eF rfl) rfl) U) rfl (c3 (jd (m rfl) U (eF rfl) rfl) Z))
noncomputable abbrev je (v:e):q:=j ((4+v:e):B)
theorem A5 (v w:e) (F:je v=je w):v=w:=by injection F with F;exact C4 F
noncomputable abbrev hT (A:r e):r (q×q):=d3 je A λ_=>j 1
theorem xk (K:∀v∈Q,v<6) (q:am<4\/9<am):b9 (j am) (hT Q)=R:=Qb λM N F=>by
 have:=K M N;injection F with F
 exact KI q this F
theorem xK (k:ag l h b A C) (p:ag l h b aw (x a)) (v:M b a (aT a1)) (c:q.eK C=true) (y:b9 C a1=R):ag l h b (aJ e2 A aw) (aK false):=by have:=ni k p v c;rw[y] at this;exact this
def Ny (D:b4):Prop:=∀(b:e) (A:r e) (T:K) (G:q->K->Prop),M T b (aT (hT A))->(∀v∈A,v<6)->G (j (-1)) T->D 63 [x b] T G
theorem Wh (M:cv aO):Ny (bC aO (a+1)):=by
 intro b A T G P K Z;refine cz (M.cy 17 rfl) rfl<|And.intro (show 3<aa by decide)<|Ag [j 0,j 13,j 1] (λ_ d H=>H=T/\d 0=g (x b)) ?_ ?_ ?_
 ·exact⟨rfl,rfl⟩
 ·refine λw J h H F Q k l E o=>bl k λN i=>?_;refine c N ?_;have:∃W,J=j W/\(W<4\/9<W):=by clear l E o;revert w J;exact nX (a8 0 rfl (by decide)) (nX (a8 13 rfl (by decide)) (nX (a8 1 rfl (aQ rfl)) xd))
  refine ax this λW k q=>?_;refine c k<|ex (xK (m rfl) (m i) P rfl (xk K q)) rfl (l _ _ ?_).1
  exact⟨rfl,i⟩
 refine λh H k=>bl k λN _=>?_;exact c N<|Z
def Nw (D:b4):Prop:=∀(b:e) (A:r e) (T:K) (G:q->K->Prop),0<b->M T b (aT (hT A))->(∀v∈A,v<6)->A.Nodup->(∀H,aE ca T H->H.i=T.i->M H b (aT (hT A))->G bI H)->D 61 [x b] T G
theorem Wf (M:cv aO):Nw (bC aO (a+1)):=by
 intro E A T J H P K C Z;refine cz (M.cy 15 rfl) rfl ?_;have D:(hT A).length<aa:=by refine c (ld ..) ?_;have:=is C K;unfold aa;exact ah (al 1 this) rfl
 have h:∀v:e,(b9 (je v) (hT A)).isSome=true->et (je v) (j 1) (hT A)=hT A:=λv w=>by
  rw[iH A5] at w;have N:v∈A:=by
   by_cases N:v∈A
   ·exact N
   rw[ay N] at w;exact eY w
  exact c (mp A5 C) (c (FK N) (c (oU (b:=λ_=>j 1) λQ _=>by unfold hF;split<;>rfl) rfl))
 have q:b9 (j 14) (hT A)=R:=xk K (ar (aQ rfl));have t:b9 (j 15) (hT A)=R:=xk K (ar (aQ rfl));have G:ag (bC aO a) (bu.aP (λ_=>R) 0 (x E)) T (fD (hh (aJ e2 (u (j 8)) (f 0)) (aJ e2 (u (j 14)) (f 0))) (hh (aJ e2 (u (j 9)) (f 0)) (aJ e2 (u (j 15)) (f 0)))) _:=ko (mF (ni U (m rfl) P rfl) λ_=>xK U (m rfl) P rfl q) λ_=>mF (ni U (m rfl) P rfl) λ_=>xK U (m rfl) P rfl t;refine ec G (λF=>?_) λ_=>Z T .dO rfl P;rw[BH,BH,ps] at F;refine jg U (m rfl) U P H rfl D λk X=>?_;have l:=X.aF;rw[show et (j 8) (j 1) (hT A)=hT A from h 4 F.1] at l;refine jg U (m rfl) U l H rfl D λp b=>?_;have d:=b.aF;rw[show et (j 9) (j 1) (hT A)=hT A from h 5 F.2] at d;refine Z p ⟨by exact c (b.i ..)<|c X.i<|bv _,λy I _=>?_⟩ (b.i.trans X.i) d;by_cases F:y=E
 ·exact c F<|c (d.bL ..) (c (P.bL ..) rfl)
 rw[b.o.n9 y (by exact c X.i<|I) F,X.o.n9 y I F]
def Nu (D:b4):Prop:=∀(Y:B) (X:r q) (T:K) (G:q->K->Prop),X.length<=2->Y=1\/Y=2->G (j (-1)) T->D 59 [S (j Y::X)] T G
theorem Wd (M:cv aO):Nu (bC aO (a+1)):=by
 intro Y X T G D K Z;have i:(q.j Y::X).length+1<=aa:=ah (al 2 D) rfl;refine cz (M.cy 13 rfl) rfl (dL (jd (m rfl) U i rfl) ?_);rcases K with rfl|rfl<;>
  exact ex (mF (cx (m rfl) U) λ_=>cx (m rfl) U) rfl (ex (cx (m rfl) U) rfl (ex (cx (m rfl) U) rfl (c3 U Z)))
def Nv (D:b4):Prop:=∀(k m Q:e) (E:r e) (v:e) (T:K) (G:q->K->Prop),ev T k m Q E->v<6->G (j (-1)) T->D 60 [x k,je v] T G
theorem We (M:cv aO):Nv (bC aO (a+1)):=by
 intro k b Q E v T G t o Z;refine cz (M.cy 14 rfl) rfl<|ax t.lu λY _ A=>iI (Ah E o) λc h K H=>dL (e4 (d:=4+v) (bk (m rfl) A rfl) (m rfl) t.a9 (ah (al 1 t.bo) rfl) K) ?_
 rcases H with⟨i,_,rfl|⟨rfl,F,rfl⟩,_⟩
 ·have i:(q.j 1::h).length+1<=aa:=ah (al 2 i) rfl;exact ex (xI (kP (jd (m rfl) U i rfl) U rfl) rfl) rfl (c3 U Z)
 exact ex (ko (kP (jd (m rfl) U (eF rfl) rfl) U rfl) λ_=>cx (jd (m rfl) U (eF rfl) rfl) U) rfl (c3 U Z)
def Nx (D:b4):Prop:=∀(k m Q b:e) (E A:r e) (v:e) (h:bu) (T:K),ev T k m Q E->M T b (aT (hT A))->(∀v∈A,v<6)->v<6->∀G:q->K->Prop,G (aK true) T->D 62 [x k,x b,je v] T G
theorem Wg (M:cv aO):Nx (bC aO (a+2)):=by intro k c Q b E I v h T t P K o J Z;refine cz (M.cy 16 rfl) rfl ?_;have q:=We (a:=a) M;have w:=Wd (a:=a) M;refine ax t.lu λN _ A=>?_;have D:=t.bo;have W:=t.a9;have y:=xk K (am:= -1) (ap (aQ rfl));refine iI (Ah E o) λY F p K=>ex (xK (C:=j (-1)) (a:=b) (λH i=>fG (X (m rfl) (X (m rfl) a5)) (q k c Q E v T _ t o i)) (m rfl) P rfl y) rfl ?_;have G:ag (bC aO (a+1)) (((bu.aP (λ_=>R) 0 (x k)).aP 1 (x b)).aP 2 (je v)) T (bh 59 (n (as (aH (f 0) 6) (f 2)) z)) (j (-1)):=λH i=>fG (X (e4 (d:=4+v) (bk (m rfl) A rfl) (m rfl) W (by unfold aa;exact ah (al 1 D) rfl) p) a5) (w Y F T _ K.1 (K.2.2.1.imp id And.left) i);have U:=xM (l:=bC aO (a+1)) (aw:=f 1) G (m rfl) P rfl;rw[y] at U;exact c3 U Z
theorem TB:∀(A:r e),(∀v∈A,v<6)->∃d,d<64/\∀v,d.testBit v=decide (v∈A):=by
 intro A;induction A with
 |nil=>intro _;exact a8 0 (aQ rfl) (λv=>by simp)
 |cons Y A t=>
  intro T;refine ax (t λv o=>T v (jA _ o)) λd k p=>a8 (d|||2^Y) (Iw (n:=6) k (B5 (aQ rfl) (T Y ky))) (λv=>?_);refine c (B9 ..) (c (p ..) (c (B' ..) ?_));simp only[eZ];by_cases F:Y=v
  ·refine c F ?_;simp
  simp[F,Ne.symm F]
theorem SG:∀A:r e,o3 ((hT A).map (·.1))=g (A.map λv=>((4+v:e):B)):=by
 intro A;induction A with
 |nil=>rfl
 |cons Y A t=>refine(?_:(o3 ((hT A).map (·.1))).map (((4+Y:e):B)::·)=_);refine c t ?_;rfl
theorem rR (v:M b a (V ai)) (D:ai.length<aa):fc (x a) b=g (!ai.isEmpty):=by refine(?_:(if a<b.i then _ else _)=_);exact c (aZ v.bj)<|c v.bL<|if_pos D
theorem Pm (d:e):(hD d).Nodup:=BX.filter _
theorem nb:d∈hD a↔d<6/\a.testBit d=true:=by unfold hD;rw[r9,mU]
theorem WW (C:Q.Nodup) (K:∀v∈Q,v<6) (J:∀v,a.testBit v=decide (v∈Q)):ob (Q.map λv=>((4+v:e):B))=(hD a).map λv=>((4+v:e):B):=by
 refine ab3 (le:=λy P:B=>y<=P) (λy P _ _ k p=>Int.le_antisymm k p) ?_ ?_ ?_
 ·exact(YT (le:=λy P:B=>decide (y<=P)) (by simp;lia-abstractProof) (by simp;lia-abstractProof) _).imp (by simp)
 ·rw[Ik];refine ab1 (R:=λy P=>y<P) (by intros;lia-abstractProof) ?_;exact List.pairwise_lt_range.filter _
 refine(Ij _ _).trans (List.Perm.map _ ?_);refine(List.perm_ext_iff_of_nodup C (Pm a)).mpr λv=>?_;rw[nb,J,hB];exact⟨λT=>⟨K v T,T⟩,λT=>T.2⟩
theorem D8 (J:a<64):(hD a=[]->a=0)/\(∀v,hD a=[v]->v<6/\a=2^v):=by refine⟨λF=>cS HY (zy ⟨a,J⟩ ⟨0,aQ rfl⟩ (show hD a=hD 0 from F)),λv F=>?_⟩;have o:v<6:=(nb.mp (F▸List.mem_singleton_self v)).1;exact⟨o,cS HY (zy ⟨a,J⟩ ⟨2^v,B5 (aQ rfl) o⟩ (F.trans (zz ⟨v,o⟩).symm))⟩
theorem Sa (C:Q.Nodup) (v:e):et (je v) (j 1) (hT Q)=hT (i' Q v):=by exact c (mp A5 C)<|oU λM _=>by unfold hF;split<;>rfl
theorem zx (T:a<64) (F:a.testBit d=true):d<6:=by refine bi (pz d 6) (λZ=>Z) λZ=>?_;rw[Nat.testBit_lt_two_pow (gy T (Ix (n:=2) (i:=6) (aQ rfl) Z))] at F;exact eY F
def Jw (D:b4):Prop:=∀(k m Q d:e) (E:r e) (T:K) (G:q->K->Prop),ev T k m Q E->d<64->2<=(hD d).length->(∀N l H,aE (λy=>y=m\/y=Q) T H->ev H k m Q (E++l)->fi (E++l) N d->G (j N) H)->D 1914 [x k,n8 d] T G
theorem JC (M:cv aO):Jw (bC aO (a+1)):=by
 intro I m Q d v T K t J p Z;refine ax t.lu λY U A=>gq t.d8 λX q h=>?_;have ae:=t.bo;refine G3 M I m Q Y (j1 v) (n8 d) T K A t.a9 t.aF RE (by unfold aa;exact ah (al 2 ae) rfl) t.cI t.An X q (λw W=>?_) λy H C _ i l=>?_
 ·have o:12<=w:=by
   refine bi (pz w 16) (λk=>?_) λk=>dr k rfl
   ·have b:=W;rw[j1,iz (show w<lh.length from k)] at b;have:=Vy J b;exact D this
  exact Z w [] T .dO (by refine c (eP ..) ?_;exact t) (by rw[eP];exact ar (ar ⟨w,rfl,W,J,p,o⟩))
 have F:j1 v++[n8 d]=j1 (v++[d]):=by rw[j1,j1,eq,gx];rfl
 rw[F] at i l;refine Z (j1 v).length [d] _ C ⟨(a8 Y U (A.G C (λF=>F.elim X h))),i,l,?_,?_,t.cI,t.An⟩ (ar (ar ⟨_,rfl,?_,J,p,?_⟩))
 ·rw[<-F,iA];exact ch t.b7 (il _ _) (λag U P p F=>by rw[e6] at p;subst p;subst F;exact y U)
 ·intro af N;refine bi (d2.mp N) (λN=>t.bj af N) λN=>?_;rw[e6] at N;exact E 1 (ab N) J
 ·rw[<-F,oq (bv _),pA];rfl
 rw[j1,dw];refine(?_:12<=16+_);exact dr (bX _ _) rfl
def qY (E:r e) (b:r B) (P:e):Prop:=∃N∈b,∃M,fi E N M/\M.testBit P=true
def Nz (D:b4):Prop:=∀(k m Q p:e) (E:r e) (b:r B) (T:K) (G:q->K->Prop),ev T k m Q E->M T p (V (b.map j))->b.length<aa->0<T.i->(∀N∈b,∃a,fi E N a)->(∀N d l H,aE (λy=>y=m\/y=Q) T H->ev H k m Q (E++l)->fi (E++l) N d->(∀P,d.testBit P=true↔qY E b P)->G (j N) H)->D 64 [x k,x p] T G
theorem G8 (ao:cv aO):Nz (bC aO (a+3)):=by
 intro aq aw ay cq ai b T cu t bE bG aA bJ aP;refine cz (ao.cy 18 rfl) rfl ?_;have bM:=Bj (a:=a+1) ao;have bN:=Wh (a:=a+1) ao;have bO:=Wf (a:=a+1) ao;have bP:=Wg (a:=a) ao;have bQ:=JC (a:=a+1) ao;refine rM λaj bk=>?_;have bT:(b.map q.j).length<aa:=by refine c (au ..) ?_;exact bG
 refine pe (b.map j) (λw ag H=>ag 0=g (x aq)/\ag 2=g (x T.i)/\aE ca T H/\∃A,M H T.i (aT (hT A))/\A.Nodup/\(∀v∈A,v<6)/\∀v,v∈A↔qY ai (b.take w) v) (m rfl) bT (λw ag H v=>bE.G v.2.2.1 id) (s1 rfl rfl bk.o ([]) bk.aF kz (λ_=>em) (by simp[qY])) ?_ ?_
 ·refine λw bq ag H F Q ae aQ=>sS ae λZ af W A P C K k=>hK Q λN br=>?_;have bU:=bF br;refine aU (bJ N bU) λaG h=>fG (X (m Z) (X (m rfl) a5)) (bM aq aw ay ai N aG _ _ (t.G W id id id) h ?_);refine AD (aC:=L) (fz aG) (λbt ag H=>ag 0=g (x aq)/\ag 2=g (x T.i)/\aE ca T H/\∃A,M H T.i (aT (hT A))/\A.Nodup/\(∀v∈A,v<6)/\∀v,v∈A↔qY ai (b.take w) v\/v∈(hD aG).take bt) ?_ ?_ ?_
  ·exact s1 Z af W A P C K (λv=>by simp[k])
  ·refine λbt bq ag H F Q ae aQ=>sS ae λZ af W A P C K k=>?_;rw[fz,dp,e7] at Q;refine ax Q λv aI ae=>?_;refine bp ae ?_;have aV:=is C K;refine jg U (m af) (m rfl) P aA rfl (by rw[ld];unfold aa;exact ah (al 1 aV) rfl) λp bu=>?_;have aB:=bu.aF;rw[show et (j ((4+v:e):B)) (j 1) (hT A)=hT (i' A v) from Sa C v] at aB;refine aQ.dK _ _ (s1 Z af (W.cb bu.o (λ_ _ T=>T) (λy bV bX=>aS (E 1 (D bX) bV))) _ aB (uJ C) (λbY b0=>?_) (λbY=>?_))
   ·rcases lo.mp b0 with aj|rfl
    ·exact K _ aj
    exact(nb.mp (bF aI)).1
   rw[lo,k,iB,aI,d2,Ca,e6,or_assoc]
  refine λag H ae=>sS ae λZ af W A P C K k=>aQ.dK _ _ (s1 Z af W A P C K (λv=>?_));rw[k,fz,au,jn,nb,iB,br];unfold qY;simp only[Ca,d2,e6];constructor
  ·refine λae=>bi ae (λb2=>ax b2 λaW aj p=>?_) λb3=>bl b3 λaj p=>?_
   ·exact a8 aW (ap aj) p
   exact⟨N,ar rfl,aG,h,p⟩
  rintro⟨aW,aj|rfl,b4,p,aL⟩
  ·exact ap ⟨aW,aj,b4,p,aL⟩
  have:=h.cm p;subst this;exact ar ⟨zx h.bj aL,aL⟩
 refine λag H ae=>sS ae λZ af W A P C K k=>?_;rw[au,jn] at k;refine ax (TB A K) λab aY bw=>?_;have aZ:∀a3,ab.testBit a3=true↔qY ai b a3:=λa3=>by rw[bw,hB,k]
 have aV:=is C K;refine gP (X (m af) a5) (bN T.i A _ _ P K ?_);refine ex (u4 (m rfl) U) (by decide)<|tl (X (m af) a5) (bO T.i A _ _ aA P K C λp b5 cA aB=>?_)
 have bx:=W.az b5;have b6:=t.G bx id id id;refine fa af (c4 aB (fa (SG A) ⟨by exact c (au ..)<|ah (al 1 aV) rfl,cJ λaL aM=>?_⟩));have a7:=aM.aF;rw[WW C K bw,show(((hD ab).map λv=>((4+v:e):B)).map q.j)=fz ab by refine c (l' ..) ?_;rfl] at a7;have bz:=b6.G aM.o id id id;have b7:=aB.G aM.o id;have a9:(fz ab).length<=6:=by unfold fz hD;exact c (au ..)<|ej (pu _ _) (by exact c (k7 ..)<|bv _)
 have a':(fz ab).length<aa:=by unfold aa;exact ah (al 1 a9) rfl
 refine c4 a7 (wS (fz ab) a7 a' (λ_=>true) (λw=>((fz ab)[w]?).getD bI) (λw bq cB cC Q cD h _=>?_) ⟨?_,cJ λaD I=>?_⟩)
 ·have bA:=Q;rw[fz,dp,e7] at bA;refine ax bA λv aI ae=>?_;subst ae;refine fG (X (m Z) (X (m af) (X (m rfl) a5))) (bP aq aw ay T.i ai A v (λ_=>R) _ bz b7 K (nb.mp (bF aI)).1 _ ?_);have:=h rfl;rw[Q] at this;exact this
 ·exact c (m9 ..)<|c (au ..)<|c (k7 ..)<|a'
 have l:=I.aF;have b8:(List.map (λw=>((fz ab)[w]?).getD bI) (vT (λ_=>true) (eQ (fz ab).length)))=fz ab:=by refine c (m9 ..) ?_;have:=p' (fz ab) q.bI id;simpa using this
 rw[b8] at l;have bb:=bz.G I.o id id id;have b9:=bx.az (aM.o.az I.o);have be:aE (λy=>y=aw\/y=ay) T aD:=b9.a0 λ_ _=>ed;have bB:ev aD aq aw ay (ai++[]):=by refine c (eP ..) ?_;exact bb
 rcases av:hD ab with _|⟨v,_|⟨bD,bg⟩⟩
 ·have J:fz ab=[]:=by rw[fz,av];rfl
  rw[J] at l;refine g8 (tf (m rfl) (rR l (by decide))) rfl<|c3 U (aP 2 ab [] aD be bB (ap ⟨rfl,(D8 aY).1 av⟩) aZ)
 ·have J:fz ab=[je v]:=by rw[fz,av];rfl
  rw[J] at l;refine ex (tf (m rfl) (rR l (show 1<aa by decide))) rfl<|g8 (cx (kp (m rfl) l (show 1<aa by decide)) U) rfl ?_
  have aA:=(D8 aY).2 v av;exact c3 (e4 (d:=0) (m rfl) U l (show 1<aa by decide) rfl) (aP _ ab [] aD be bB (ar (ap (d7 v aA.1 rfl aA.2))) aZ)
 have J:fz ab=je v::je bD::bg.map je:=by rw[fz,av];rfl
 have b':bg.length+2<=6:=by rw[J] at a9;simpa using a9
 have Y:(je v::je bD::bg.map je).length<aa:=by exact bp J<|a'
 rw[J] at l;refine ex (tf (m rfl) (rR l Y)) rfl<|ex (cx (kp (m rfl) l Y) U) (by simp;exact KK) ?_
 refine ex (jc (kp (m rfl) l Y) U) (by simp;exact KL b') ?_;refine ax bb.lu λcE cf cg=>hu (iJ (m Z) cg rfl cf (X (ea (X U (X (Uw (m rfl) l Y) a5)) (show 2<aa by decide)) a5) ?_);exact bp J<|bQ aq aw ay ab ai aD _ bb aY (by exact c av<|fS _ _) λN cj ck cn cp h=>aP N ab cj ck (be.az cn) cp h aZ
def zg (D:b4):Prop:=∀(k m Q M:e) (E:r e) (T:K) (G:q->K->Prop),ev T k m Q E->M<64->(∀N l H,aE (λy=>y=m\/y=Q) T H->ev H k m Q (E++l)->fi (E++l) N M->G (j N) H)->D 111 [x k,I M] T G
theorem GY (ah:cv aO):zg (bC aO (a+4)):=by
 intro af ao Q M E T aq t av Z;refine cz (ah.cy 58 rfl) rfl ?_;have K:=G8 (a:=a) ah;have D:(hD M).length<aa:=kB (pu _ _) (aQ rfl);refine hu (EQ (C:=x af) (m rfl) ?_);refine w0 6 (aQ rfl) (λw=>je w) (λw=>M.testBit w) U (λw W=>⟨?_,λ_=>by rw[show je w=j ((4:B)+(w:B)) from cS q.j (Int.natCast_add 4 w)];exact mE U (m rfl)⟩) λk X=>?_
 ·have F:(((M:B)/2^w)%2=1)↔M.testBit w=true:=by
   rw[Zi,hB]
   norm_cast
  have ai:=cx (l:=bC aO (a+3)) (h:=(((bu.aP (λ_=>R) 0 (x af)).aP 1 (I M)).aP 2 (I w))) (b:=T) (pc (u3 (gU:=nn) (A:=f 1) (aw:=f 2) (am:=(M:B)/2^w) (m rfl) (m rfl) λaq Z=>i9 pO (by lia) pO (KM W) Z) (U (C:=j 2)) (aQ rfl)) (U (C:=j 1))
  rw[show decide ((M:B)/2^w%2=1)=M.testBit w by rw[hN,hB];exact F] at ai
  exact ai
 have P:=X.aF;rw[show(List.map (λw=>je w) (vT (λw=>M.testBit w) (eQ 6)))=((hD M).map λv=>((4+v:e):B)).map q.j by rw[l'];rfl] at P;refine K af ao Q T.i E ((hD M).map λv=>((4+v:e):B)) _ _ (t.G X.o id id id) P (by exact c (au ..)<|D) (by exact c (X.i ..)<|fS _ _) (λN ag=>?_) λN d ay H az Y aA aB=>?_
 ·refine ax (e5.mp ag) λv ab ae=>?_;exact bp ae<|⟨_,ar (ap (d7 v ((nb.mp ab).1) rfl rfl))⟩
 have J:d=M:=by
  refine yr λaj=>?_;rw[hN,aB];constructor
  ·refine λae=>EN ae λN ag aC k p=>ax (e5.mp ag) λv ab ae=>?_;subst ae;have:=k.cm (ar (ap (d7 v ((nb.mp ab).1) rfl rfl)));subst this;rw[B',hB] at p;exact bp p<|(nb.mp ab).2
  ·intro k;have ab:=zx av k;exact⟨_,e5.mpr (a8 aj (nb.mpr ⟨ab,k⟩) rfl),_,ar (ap (d7 aj ab rfl rfl)),by exact c (B' ..)<|if_pos rfl⟩
 subst J;exact Z N ay H (X.o.cb az (λ_ _=>ed) λy _ T=>T) Y aA
def MX (D:b4):Prop:=∀(k m Q M:e) (N:B) (E:r e) (T:K) (G:q->K->Prop),ev T k m Q E->fi E N M->G (I M) T->D 112 [x k,j N] T G
theorem VI (l:cv aO):MX (bC aO (a+2)):=by
 intro k W aa M N ab T G t h Z;refine cz (l.cy 59 rfl) rfl ?_;have K:=Bj (a:=a) l;refine dL U (fG (X (m rfl) (X (m rfl) a5)) (K k W aa ab N M _ _ t h ?_));refine AD (fz M) (λw d H=>H=T/\∃y,d 2=g (I y)/\y<64/\∀P,y.testBit P=decide (P∈(hD M).take w)) ⟨rfl,0,rfl,aQ rfl,by simp⟩ ?_ ?_
 ·rintro w J d H F Q ⟨rfl,y,i,p,E⟩ Y;rw[fz,dp,e7] at Q;obtain⟨v,o,rfl⟩:=Q;have A:=(nb.mp (bF o)).1;refine ex (mF (n6 (m rfl) U) λ_=>jc (m rfl) U) (by rw[BE,t2,t2];exact KN A) ?_;have ae:(((4+v:e):B)- 4).toNat=v:=KO;have D:(1:B)*2^v=((2^v:e):B):=by rw[Int.one_mul];norm_cast
  have q:2^v<64:=B5 (a:=2) (n:=6) (aQ rfl) A;refine dL (C:=I (y|||2^v)) (u3 (m i) (u3 (am:=((2^v:e):B)) U (pd (m rfl) U) λG Z=>i9 (aQ rfl) (aQ rfl) KP (KQ A) (by exact c ae<|c D<|Z)) λG Z=>?_) ?_
  ·refine i9 (pt _) (by lia) (pt _) ?_ (by exact c (qz ..)<|c (qz ..)<|Z);exact_mod_cast nz q (aQ rfl)
  refine Y.dK _ _ ⟨rfl,y|||2^v,rfl,Iw (n:=6) p q,λP=>?_⟩;rw[B9,E,B',iB,o];simp only[Ca,d2,e6];rw[hN];simp only[BF,Jp];exact or_congr Iff.rfl eq_comm
 refine λd H af=>Qv af λb y i p E=>?_;refine c b ?_;have:y=M:=by refine yr λP=>?_;rw[E,fz,au,jn,hN,hB,nb];exact⟨λT=>T.2,λT=>⟨zx h.bj T,T⟩⟩
 subst this;exact c3 (m i) Z
noncomputable abbrev ga (Y:e) (J:q) (N:e) (l:e):dY:=cw 21 [(0,I Y),(1,J),(2,x N),(3,j 0),(4,j 0),(5,I l)]
structure sC (T H:K) (cp:r q) (I:dY):Prop where
 o:aE ca T H
 i:H.i=T.i+2
 cp:M H T.i (V cp)
 aF:M H (T.i+1) I
def M' (D:b4):Prop:=∀(C:e) (Y y d U E:q) (T:K) (G:q->K->Prop),M T C (cw 21 [])->0<C->(∀H,e8 T H C (cw 21 [(0,Y),(1,y),(2,d),(3,U),(4,E),(5,j 0)])->G bI H)->D 1336 [x C,Y,y,d,U,E] T G
theorem G2 (M:cv aO):M' (bC aO (a+1)):=by intro C Y w d D E T G y K Z;refine cz (M.cy 0 rfl) rfl<|iP (m rfl) (m rfl) y K rfl rfl λk h=>iP (m rfl) (m rfl) h.aF K rfl rfl λp b=>iP (m rfl) (m rfl) b.aF K rfl rfl λl N=>iP (m rfl) (m rfl) N.aF K rfl rfl λv I=>iP (m rfl) (m rfl) I.aF K rfl rfl λP q=>iP U (m rfl) q.aF K rfl rfl λA t=>Z A ⟨h.o.az (b.o.az (N.o.az (I.o.az (q.o.az t.o)))),t.aF,by exact c (t.i ..) (c (q.i ..) (c (I.i ..) (c (N.i ..) (c (b.i ..) (c (h.i ..) rfl)))))⟩
theorem hb.hJ (X:hb b aj bN) (J:e8 aj cs b.i lz):hb b cs lz:=⟨X.o.cb J.o (λ_ _ b=>b) (λy U F=>aS (t U (D F))),J.aF,J.i.trans X.i⟩
theorem hb.cJ (X:hb b aj (V ai)) (J:hb aj cs bN):sC b cs ai bN:=⟨X.o.az J.o,by exact c J.i (c X.i rfl),X.aF.G J.o id,by exact bp X.i<|J.aF⟩
def zj (D:b4):Prop:=∀(Y:e) (J:q) (T:K) (G:q->K->Prop),(∀H,sC T H [] (ga Y J T.i 0)->G (x (T.i+1)) H)->D 22 [I Y,J,j 0] T G
theorem G4 (M:cv aO):zj (bC aO (a+2)):=by intro Y J T G Z;refine cz (M.cy 1 rfl) rfl ?_;have U:=G2 (a:=a) M;refine ch rfl (show 0<aa by decide) (cJ λk X=>cJ λp b=>?_);refine U _ _ _ _ _ _ _ _ b.aF (by exact c X.i<|fS _ _) λl N=>?_;have:=X.cJ (b.hJ N);exact c X.i<|Z l this
def DO (D:b4):Prop:=∀(Y N:e) (J:q) (T:K) (G:q->K->Prop),0<T.i->(∀H,hb T H (ga Y J N 0)->G (x T.i) H)->D 23 [I Y,J,x N,j 0] T G
theorem V1 (M:cv aO):DO (bC aO (a+2)):=by intro Y c J T G K Z;refine cz (M.cy 2 rfl) rfl ?_;have U:=G2 (a:=a) M;refine⟨rfl,cJ λp b=>?_⟩;exact U _ _ _ _ _ _ _ _ b.aF K λl N=>Z l (b.hJ N)
theorem z7 (U:DO l) (k:ag l h b A (I a)) (p:ag l h b aw C) (d:kf l h b dI ai) (D:ai.length<aa) (Z:∀H,sC b H ai (ga a C b.i 0)->an (x (b.i+1)) H):aM l (bh 23 (n A (n aw (n (.V dI) (n (u (j 0)) z))))) h b an:=k _ (p _ (d _ ⟨D,cJ λk X=>U a b.i C k _ (by exact c X.i<|fS _ _) λp m=>by exact c X.i<|Z p (X.cJ m)⟩))
noncomputable def s9:a6 e->q
 |none=>bI
 |some y=>x y
noncomputable def gv:r (a6 e)->r e
 |[]=>[]
 |none::h=>gv h
 |some y::h=>y::gv h
inductive iF (T:K):r e->r e->Prop where
 |z:iF T [] []
 |n {y Y N l:e} {J:q} {A:r (a6 e)} {h t:r e}:M T y (ga Y J N l)->M T N (V (A.map s9))->A.length<100->iF T (gv A++h) t->iF T (y::h) (y::t)
theorem iF.G {c:e->Prop} (W:aE ca b aj) (a:iF b Q aB):iF aj Q aB:=by
 induction a with
 |z=>exact .z
 |n k p D _ t=>exact .n (k.G W id) (p.G W id) D t
theorem WS {A:r (a6 e)} (W:a<A.length):gv (A.drop a)=gv [A[a]]++gv (A.drop (a+1)):=by refine c (tH W) ?_;cases A[a]<;>rfl
theorem iF.bo (a:iF b Q aB):Q.length<=aB.length:=by
 induction a with
 |z=>exact bv _
 |n k p D _ c=>simp only[dw,hm] at*;exact al 1 (t (fS _ _) c)
theorem GO (y:eG) (X:r eG):((y::X).reverse).dropLast=X.reverse:=by exact c (vX ..) (c (List.dropLast_concat ..) rfl)
theorem GP (y:eG) (X:r eG):((y::X).reverse).getLast?=g y:=by exact c (vX ..) (c (List.getLast?_concat ..) rfl)
structure ME (T:K) (t:r e) (i:e) (d:bu) (H:K) (Y h A:r e):Prop where
 eI:d 1=g (x T.i)
 cD:d 2=g (x (T.i+1))
 o:aE ca T H
 i:i=A.length
 ng:t=Y++A
 lM:M H T.i (V (ey Y))
 i2:M H (T.i+1) (V (ey h).reverse)
 P:iF T h A
structure MM (T:K) (y:e) (A:r (a6 e)) (Y h:r e) (w:e) (d:bu) (H:K):Prop where
 eI:d 1=g (x T.i)
 cD:d 2=g (x (T.i+1))
 eD:d 3=g (x y)
 eW:d 4=g (j ((w:B)- 1))
 SQ:w<=A.length
 o:aE ca T H
 lM:M H T.i (V (ey Y))
 i2:M H (T.i+1) (V (ey (gv (A.drop w)++h)).reverse)
theorem Br (A:r (a6 e)):(gv A).length<=A.length:=by
 induction A with
 |nil=>exact bv _
 |cons I h t=>cases I<;>dsimp only[gv,hm]<;>first|exact bJ 1 t|exact al 1 t
theorem xw (T:Q.length<100000):(ey Q).reverse.length<aa:=by refine c (mQ ..) (c (au ..) ?_);unfold aa;exact ah T rfl
theorem wf (T:Q.length<100000):(ey Q).length<aa:=by refine c (au ..) ?_;unfold aa;exact ah T rfl
def Nl (D:b4):Prop:=∀(b:e) (t:r e) (T:K) (G:q->K->Prop),0<T.i->iF T [b] t->t.length<1000->(∀p H,aE ca T H->M H p (V (ey t))->G (x p) H)->D 25 [x b] T G
theorem V7 (M:cv aO):Nl (bC aO (a+1)):=by
 intro aY aq af a' aZ J ay Z;refine cz (M.cy 4 rfl) rfl<|nl a5 (by decide) λa0 av=>nl (X (m rfl) a5) (show 1<aa by decide) λp b=>pf (λaI aj ag=>∃Y h ai,ME af aq aI aj ag Y h ai) aq.length ⟨[],[aY],aq,rfl,by refine(?_:g (q.x a0.i)=_);rw[av.i],av.o.az b.o,rfl,rfl,av.aF.G b.o id,by rw[<-av.i];exact b.aF,J⟩ ?_
 refine λaI aj ag aA=>uw aA λY h ai Q=>?_;have aB:=Q.P.bo;have K:Y.length+ai.length=aq.length:=by exact c Q.ng (c (dw ..) rfl)
 have W:=Q.i2;have aL:(ey h).reverse.length<aa:=xw (ah (E 1 (t (t aB (fS _ _)) (ab K)) ay) rfl);refine d7 _ (tx (m Q.cD) W aL rfl) (λae bb a3=>?_) (λae=>?_)
 ·cases aM:Q.P with
  |z=>exact absurd ae (by decide)
  |n aP v aC aM=>
   rename_i y be bg bl bq A h ai a7;dsimp only[hm] at aB K;refine xW (m Q.cD) W (eH _) aL (GP (q.x y) (ey h)) λp b=>?_;rw[show(ey (y::h)).reverse.dropLast=(ey h).reverse from GO (q.x y) (ey h)] at b;have a8:aE ca af p:=Q.o.cb b.o (λ_ _ af=>af) λao ae F=>aS (H 1 (E 1 (D F) ae));refine jf (m Q.eI) (m rfl) (Q.lM.G b.o (iX (fp _))) aZ (wf (ah (E 1 (t (bX _ _) (ab K)) ay) rfl)) λl N=>?_;have aD:aE ca af l:=a8.cb N.o (λ_ _ af=>af) λao ae F=>aS (E 1 (D F) ae);refine dL (pd (kp (bk (m rfl) (aP.G aD id) rfl) (v.G aD id) (by refine c (au ..) ?_;unfold aa;exact ah aC rfl)) U) ?_;refine pf (λw aj ag=>MM af y A (Y++[y]) h w aj ag) A.length ⟨Q.eI,Q.cD,rfl,by refine bp (au (f:=s9)) ?_;rfl,bv _,aD,by exact c (show ey (Y++[y])=ey Y++[x y] from eq)<|N.aF,by exact c (yl ..)<|b.aF.G N.o (B8 _)⟩ ?_;intro w aj ag T;refine d7 _ (HG (u4 (m T.eW) U) rfl) (λae br aQ=>?_) (λae=>?_)
   ·have aG:=dq ae
    refine aU (⟨w- 1,by exact KR aG⟩:∃a9,w=a9+1) λw aA=>?_;subst aA
    have k:w<A.length:=T.SQ
    have aw:=T.eW
    rw[show(((w+1:e):B)- 1)=(w:B) by exact uc] at aw
    have ax:=WS k
    have W:=T.i2
    refine dL (C:=s9 A[w]) (e4 (d:=w) (bk (m T.eD) (aP.G T.o id) rfl) (m aw) (v.G T.o id) (by refine c (au ..) ?_;unfold aa;exact ah aC rfl) (by refine c (dp ..) (c (cY k) ?_);rfl)) ?_
    cases aV:A[w] with
    |none=>rw[aV] at ax;refine ex (xL (m rfl)) rfl (xT (gU:=eE) (gS:=(w:B)- 1) aw U (λ_ Z=>Z) ?_);exact aQ.dK _ _ ⟨w,fp _,T.eI,T.cD,T.eD,rfl,iC k,T.o,T.lM,by exact c ax<|W⟩
    |some ao=>rw[aV] at ax;have aW:=Br (A.drop (w+1));rw[Ig] at aW;refine g8 (xL (m rfl)) rfl (jf (m T.cD) (m rfl) W (eH _) (xw (by exact c (dw ..)<|ah (al 1 (t (d9 998 (d9 998 (cZ (ep 2 (E 1 (t (t aB (fS _ _)) (ab K)) ay)) _) aW) (mW _ _)) (al 997 aC))) rfl)) λbt I=>eV (xT (gU:=eE) (gS:=(w:B)- 1) aw U (λ_ Z=>Z) ?_));refine aQ.dK _ _ ⟨w,fp _,T.eI,T.cD,T.eD,rfl,iC k,T.o.cb I.o (λ_ _ af=>af) λao ae F=>aS (H 1 (E 1 (D F) ae)),T.lM.G I.o (iX (fp _)),?_⟩;exact c ax<|c (show(ey (gv [g ao]++gv (A.drop (w+1))++h)).reverse=(ey (gv (A.drop (w+1))++h)).reverse++[x ao] by simp[gv])<|I.aF
   have aG:=gg ae;obtain rfl:w=0:=KT aG;exact a3.dK _ _ ⟨ai.length,by exact c Q.i<|fp _,Y++[y],gv A++h,ai,T.eI,T.cD,T.o,rfl,by refine c Q.ng (c (gx ..) ?_);rfl,T.lM,T.i2,a7⟩
 ·cases aM:Q.P with
  |z=>refine c3 (m Q.eI) (Z af.i ag Q.o ?_);exact c Q.ng<|c (eP ..)<|Q.lM
  |n=>simp at ae
theorem iF.b7 (a:iF b Q aB):∀y∈aB,∃Y J N l,M b y (ga Y J N l):=by
 induction a with
 |z=>intro y U;exact em U
 |n k _ _ _ t=>
  intro P E;rcases eZ.mp E with rfl|E
  ·exact rt _ _ _ _ k
  exact t P E
structure sz (c:e) (b aj:K):Prop where
 b7:∀y Y J N l,c<=y->M b y (ga Y J N l)->∃h,M aj y (ga Y J N h)
 mA:∀y X,c<=y->M b y (V X)->M aj y (V X)
theorem aE.fy (W:aE c7 b aj) (Y:∀y,a<=y->¬c7 y):sz a b aj:=⟨λy _ _ _ l D v=>⟨l,v.G W (Y y D)⟩,λy _ D v=>v.G W (Y y D)⟩
inductive h5 (b:K) (c:e):e->e->r e->r a4->Prop where
 |e3 {y N l:e} {J:q}:c<=y->c<=N->M b y (ga 8 J N l)->M b N (V [])->h5 b c y y [y] []
 |n4 {y N l P A:e} {X:r e} {m:a4} {o:r a4}:c<=y->c<=N->M b y (ga 16 (bW m) N l)->M b N (V [x P])->h5 b c P A X o->h5 b c y A (y::X) (o++[m])
theorem h5.fy (U:h5 b a d w Q k3) (c:sz a b aj):h5 aj a d w Q k3:=by
 induction U with
 |e3 k p l v=>refine aU (c.b7 _ _ _ _ _ k l) λC l=>?_;exact .e3 k p l (c.mA _ _ p v)
 |n4 k p l v _ t=>refine aU (c.b7 _ _ _ _ _ k l) λC l=>?_;exact .n4 k p l (c.mA _ _ p v) t
theorem h5.A9 (U:h5 b a d w Q k3) (c:iF b aB c0):iF b (d::aB) (Q++c0):=by
 induction U with
 |e3 _ _ l v=>exact .n (A:=[]) l v (by decide) c
 |n4 _ _ l v _ t=>exact .n (A:=[g _]) l v (show 1<100 by decide) t
theorem h5.rG (U:h5 b a d w Q k3):w∈Q/\a<=w/\∃J N l,M b w (ga 8 J N l):=by
 induction U with
 |e3 k _ c _=>exact⟨ky,k,_,_,_,c⟩
 |n4 _ _ _ _ _ t=>exact⟨jA _ t.1,t.2⟩
inductive iE (b:K) (c:e):e->r e->r e->Prop where
 |z:iE b c 0 [] []
 |nd {C y Y N l:e} {J:q} {h t:r e}:c<=y->M b y (ga Y J N l)->Y=8\/Y=16->iE b c C h t->iE b c (C+1) (y::h) (y::t)
 |hq {C y N l P:e} {J:q} {a:r q} {h t:r e}:c<=y->c<=N->M b y (ga 36 J N l)->M b N (V (x P::a))->a.length<100->iE b c C (P::h) t->iE b c (C+1) (y::h) t
 |sI {C y N l:e} {J:q} {A:r (a6 e)} {h t:r e}:c<=y->c<=N->M b y (ga 35 J N l)->M b N (V (A.map s9))->A.length<100->iE b c C (gv A++h) t->iE b c (C+1) (y::h) t
theorem iE.fy (U:iE b a d Q aB) (c:sz a b aj):iE aj a d Q aB:=by
 induction U with
 |z=>exact .z
 |nd k l K _ t=>refine aU (c.b7 _ _ _ _ _ k l) λd l=>?_;exact .nd k l K t
 |hq k p l v D _ t=>refine aU (c.b7 _ _ _ _ _ k l) λd l=>?_;exact .hq k p l (c.mA _ _ p v) D t
 |sI k p l v D _ t=>refine aU (c.b7 _ _ _ _ _ k l) λd l=>?_;exact .sI k p l (c.mA _ _ p v) D t
open iE (nd)
theorem Bq (y P:r (a6 e)):gv (y++P)=gv y++gv P:=by
 induction y with
 |nil=>rfl
 |cons I h t=>cases I with
  |none=>exact t
  |some W=>exact cS (W::·) t
theorem WT (y:r (a6 e)):gv y.reverse=(gv y).reverse:=by
 induction y with
 |nil=>rfl
 |cons I h t=>refine c (vX ..) (c (Bq ..) (c t ?_));cases I<;>simp[gv]
noncomputable def rQ (E:e):a4:=if E=1 then ck "1" else ck "2"
noncomputable def p5 (E:e):a4:=ck "s"++rQ E
structure MF (T:K) (a:e) (t:r e) (mh w:e) (d:bu) (H:K):Prop where
 cD:d 2=g (I (a+w))
 o:aE (λy=>y∈t) T H
 mh:M H mh (V (ey t))
 h7:∀(v:e) y Y J N l,t[v]? =g y->M T y (ga Y J N l)->M H y (ga Y J N (if v<w then a+v else l))
def zk (D:b4):Prop:=∀(b a:e) (t:r e) (T:K) (G:q->K->Prop),0<T.i->(∀y∈t,0<y)->iF T [b] t->t.Nodup->t.length<1000->(∀H,aE (λy=>y∈t) T H->(∀(v:e) y Y J N l,t[v]? =g y->M T y (ga Y J N l)->M H y (ga Y J N (a+v)))->G (I (a+t.length)) H)->D 26 [x b,I a] T G
theorem TK (v:M b a (ga d C Z db)) (T:M b a (ga w b2 bA hi)):d=w/\C=b2/\Z=bA:=by
 have:=v.cm T;injection this with _ this
 injection this with h this;injection this with W this;injection this with c this;injection h with _ h;injection h with h;injection W with _ W;injection c with _ c;injection c with c;exact ch (wn h) W c
theorem G6 (M:cv aO):zk (bC aO (a+2)):=by
 intro b ab t T aQ K av aj C D Z;refine cz (M.cy 5 rfl) rfl ?_;have aw:=V7 (a:=a) M;refine dL (m rfl) (fG (X (m rfl) a5) (aw b t T _ K aj D λp k W ao=>?_));have ax:∀y∈t,y<T.i/\y≠p:=λy ae=>by refine rf (aj.b7 y ae) λY J N l aa=>⟨aa.bj,λF=>by subst F;exact dW ((aa.G W id).cm ao) rfl⟩
 refine FX (ey t) (MF T ab t p) (wf (ah D rfl)) (λw d H v=>v.mh) ⟨rfl,W.a0 λ_ _=>ed,ao,λv y Y J N l _ aa=>by exact c (ay (yu _))<|aa.G W id⟩ ?_ λd H Q=>?_
 ·intro w J d H aS aA Q Y;refine rU aA λy af aB=>?_;subst aB;have ag:=bF af;refine rf (aj.b7 y ag) λaC J N l aa=>?_;have aq:=Q.h7 w y aC J N l af aa;rw[ay (ys _)] at aq;refine iP (m Q.cD) (m rfl) aq (av y ag) rfl rfl λaU ai=>xT (gS:=((ab+w:e):B)+1) (gU:=c9) Q.cD U (λ_ Z=>Z)<|Y.dK _ _ ⟨rfl,Q.o.az (ai.o.a0 λP _ F=>by exact c F<|ag),Q.mh.G ai.o (ax y ag).2.symm,λv P aD aE aG h E A=>?_⟩
  by_cases F:v=w
  ·subst F;obtain rfl:=bm (af.symm.trans E);refine c (aZ (fp _))<|gq (TK aa A) λI q aI=>?_;refine bp I ?_;subst q;subst aI;exact ai.aF
  have aL:P≠y:=λaM=>F ((r7 (co.mp E).1 C).mp (by exact c E (c af (c aM rfl))));have:=(Q.h7 v P aD aE aG h E A).G ai.o aL;exact c (show(if v<w+1 then ab+v else h)=if v<w then ab+v else h from Sr F)<|this
 refine c3 (m Q.cD) ?_;have aP:(ey t).length=t.length:=au ..;rw[aP] at Q⊢;exact Z H Q.o λv y Y J N l ae aa=>by have:=Q.h7 v y Y J N l ae aa;rwa [aZ (co.mp ae).1] at this
def Np (D:b4):Prop:=∀(y N l:e) (m:a4) (T:K) (G:q->K->Prop),M T y (ga 16 (bW m) N l)->G (bW m) T->D 28 [x y] T G
theorem Wa (M:cv aO):Np (bC aO (a+1)):=by intro y N l b T G o Z;exact cz (M.cy 7 rfl) rfl (g8 (cx (bk (m rfl) o rfl) U) rfl (c3 (bk (m rfl) o rfl) Z))
def Nq (D:b4):Prop:=∀(y N l X E:e) (J:q) (w:r (q×q)) (T:K) (G:q->K->Prop),M T y (ga 8 J N l)->M T X (aT w)->b9 (I l) w=g (I E)->E=1\/E=2->G (bW (p5 E)) T->D 29 [x y,x X] T G
theorem Wb (M:cv aO):Nq (bC aO (a+1)):=by
 intro y N l X E J w T G o I P h Z;refine cz (M.cy 8 rfl) rfl<|ex (cx (bk (m rfl) o rfl) U) rfl<|ex (xI (qf (bk (m rfl) o rfl) U) rfl) rfl<|dL (xJ (m rfl) (bk (m rfl) o rfl) U I rfl)<|c P ?_
 rcases h with rfl|rfl
 ·exact ex (cx (m rfl) U) rfl (c3 (te U (λH i=>ap ⟨rfl,i⟩) (aQ rfl) (aQ rfl)) Z)
 exact ex (cx (m rfl) U) rfl (c3 (te U (λH i=>ar ⟨rfl,i⟩) (aQ rfl) (aQ rfl)) Z)
noncomputable def rz:r a4->a4->a4
 |[],N=>N
 |m::o,N=>(ck "."++m)++rz o N
theorem SY (y P:r a4) (N:a4):rz (y++P) N=rz y (rz P N):=by
 induction y with
 |nil=>rfl
 |cons W y t=>exact cS (λF=>(ck "."++W)++F) t
def A8 (m:a4):Prop:=m=ck "p"\/m=ck "q"
def Dy (w:r (q×q)) (T:K) (c y:e) (Z:a4):Prop:=∃A X o J N l E,h5 T c y A X o/\M T A (ga 8 J N l)/\b9 (I l) w=g (I E)/\(E=1\/E=2)/\(∀m∈o,A8 m)/\o.length<100/\Z=p5 E++rz o (ck "")
theorem Hi (y P:a4):(y++P).cps.size=y.cps.size+P.cps.size:=HQ
theorem So:(p5 a).cps.size=2:=by unfold p5 rQ;split<;>decide
theorem Sn:dV (p5 a) (ck "")=false:=by unfold p5 rQ;split<;>decide
structure MG (T:K) (c A X E:e) (Z:a4) (i:e) (d:bu) (H:K) (y:e) (a:r e) (o:r a4) (N:a4):Prop where
 p6:H=T
 eI:d 1=g (x X)
 i:i=o.length
 cI:d 0=g (x y)
 eC:h5 T c y A a o
 bU:∀bU∈o,A8 bU
 cD:d 2=g (bW N)
 Hw:N.cps.size+2*o.length<=1000
 aL:Z=p5 E++rz o N
def Nr (D:b4):Prop:=∀(y X c:e) (w:r (q×q)) (Z:a4) (T:K) (G:q->K->Prop),M T X (aT w)->Dy w T c y Z->G (bW Z) T->D 30 [x y,x X] T G
theorem Wc (M:cv aO):Nr (bC aO (a+2)):=by
 intro y ai aw w ax ay aS I az Z
 refine wY az λA ae o J aA aB E G aC P aj=>oX aj λh Y T W=>?_
 clear aj
 refine cz (M.cy 9 rfl) rfl ?_
 have aD:=Wa (a:=a) M
 have aE:=Wb (a:=a) M
 have aF:(ck "").cps.size=0:=by decide
 have q:(ck ".").cps.size=1:=by decide
 refine dL U (pf (λC ao H=>∃y ae o N,MG ay aw A ai E ax C ao H y ae o N) o.length ⟨y,ae,o,ck "",rfl,rfl,rfl,rfl,G,Y,rfl,KU T aF,W⟩ ?_)
 clear Y T W G
 refine λC ao H aG=>rf aG λy ae o N Q=>c Q.p6<|d7 true (HG U rfl) (λ_ aU aq=>?_) (λF=>kW F)
 cases Q.eC with
 |e3 k p l v=>
  refine nD (kP (bk (m Q.cI) l rfl) (ea (X U (X U (X U a5))) (show 3<aa by decide)) rfl) rfl<|nD (kP (bk (m Q.cI) l rfl) (ea (X U (X U a5)) (show 2<aa by decide)) rfl) rfl<|aq.Pq _ _<|gP (X (m Q.cI) (X (m Q.eI) a5)) (aE A aA aB ai E J w _ _ aC I P h ?_)
  refine ex (Gw (m rfl) U) Sn ?_;have aI:=So (a:=E);have:=Q.Hw;have K:=Q.aL;exact c3 (te (m rfl) (m Q.cD) (by refine c aI ?_;decide) (by unfold aa;exact ah (al 1 (t (bX _ _) this)) rfl)) (by rw[K] at Z;exact Z)
 |n4 k p l v G=>
  rename_i aV aW aM ae af o;have au:=Q.bU af (by simp);have ag:af.cps.size=1:=by rcases au with rfl|rfl<;>decide
  have av:=Hi (ck ".") af;have D:=Hi (ck "."++af) N;have b:=Q.Hw;simp only[dw,hm,BR] at b;refine nD (kP (bk (m Q.cI) l rfl) (ea (X U (X U (X U a5))) (show 3<aa by decide)) rfl) rfl<|g8 (kP (bk (m Q.cI) l rfl) (ea (X U (X U a5)) (show 2<aa by decide)) rfl) rfl<|gP (X (m Q.cI) a5) (aD _ _ _ af _ _ l ?_)
  refine ex (mF (Uo (m rfl)) λ_=>Um U (m rfl) au) rfl<|dL (te (te U (m rfl) (by refine c q ?_;decide) (by refine c ag ?_;decide)) (m Q.cD) (by unfold aa;exact ah (al 1 (d9 1 (t (ab av) (cZ (ab ag) _)) (ab q))) rfl) (by unfold aa;exact ah (al 1 (t (bX _ _) b)) rfl)) ?_
  refine dL (e4 (d:=0) (bk (m Q.cI) l rfl) U v (show 1<aa by decide) rfl)<|aq.dK _ _ ⟨o.length,by refine c Q.i ?_;simp,aM,ae,o,_,rfl,Q.eI,rfl,rfl,G,λaP aQ=>Q.bU aP (jm _ aQ),rfl,KV q ag av D b,?_⟩
  refine c Q.aL (c (SY ..) ?_);rfl
structure MH (T:K) (c:e) (t:r e) (C:e) (d:bu) (H:K) (Y h A:r e):Prop where
 eI:d 1=g (x T.i)
 cD:d 2=g (x (T.i+1))
 o:aE ca T H
 ng:t=Y++A
 lM:M H T.i (V (ey Y))
 i2:M H (T.i+1) (V (ey h).reverse)
 cp:h.length+100*C<=99900
 P:iE T c C h A
structure MN (T:K) (A:r (a6 e)) (Y h:r e) (w:e) (d:bu) (H:K):Prop where
 eI:d 1=g (x T.i)
 cD:d 2=g (x (T.i+1))
 o:aE ca T H
 lM:M H T.i (V (ey Y))
 i2:M H (T.i+1) (V ((ey h).reverse++ey (gv (A.reverse.take w))))
def NA (D:b4):Prop:=∀(C c b:e) (t:r e) (T:K) (G:q->K->Prop),0<T.i->iE T c C [b] t->t.length<1000->C<990->(∀p H,aE ca T H->M H p (V (ey t))->G (x p) H)->D 82 [x b] T G
theorem Wi (M:cv aO):NA (bC aO (a+1)):=by
 intro a8 a9 a' aI ae bu bb be bg bl Z;refine cz (M.cy 21 rfl) rfl<|nl a5 (by decide) λbq aC=>nl (X (m rfl) a5) (show 1<aa by decide) λp b=>pf (λC ay aq=>∃Y h aL,MH ae a9 aI C ay aq Y h aL) a8 ⟨[],[a'],aI,rfl,by refine(?_:g (q.x bq.i)=_);rw[aC.i],aC.o.az b.o,rfl,aC.aF.G b.o id,by rw[<-aC.i];exact b.aF,by simp;exact KW bl,be⟩ ?_
 refine λC ay aq I=>uw I λY h aL Q=>?_;have K:Y.length+aL.length=aI.length:=by exact c Q.ng (c (dw ..) rfl)
 have W:=Q.i2;have aj:=Q.cp;have av:(ey h).reverse.length<aa:=xw (ah (al 1 (t (bX _ _) aj)) rfl);refine d7 _ (tx (m Q.cD) W av rfl) (λaf bw aM=>?_) (λaf=>?_)
 ·rcases h with _|⟨y,h⟩
  ·exact absurd af (by decide)
  dsimp only[hm] at aj
  refine xW (m Q.cD) W (eH _) av (GP (q.x y) (ey h)) λp b=>?_
  rw[show(ey (y::h)).reverse.dropLast=(ey h).reverse from GO (q.x y) (ey h)] at b
  have ao:aE ca ae p:=Q.o.cb b.o (λ_ _ ae=>ae) λaw af F=>aS (H 1 (E 1 (D F) af))
  have aP:=Q.lM.G b.o (iX (fp _))
  have aA:=Q.ng
  have ag:=Q.P
  have aD:=Q.eI
  have aG:=Q.cD
  have aQ:=b.aF
  clear Q b
  cases ag with
  |nd aY aU br ag=>
   have ai:=aU.G ao id;dsimp only[hm] at K;rcases br with rfl|rfl
   all_goals
    refine nD (kP (bk (m rfl) ai rfl) (ea (X U (X U (X U (X U (X U (X U a5)))))) (show 6<aa by decide)) rfl) rfl<|nD (kP (bk (m rfl) ai rfl) (ea (X U (X U a5)) (show 2<aa by decide)) rfl) rfl<|jf (m aD) (m rfl) aP bb (wf (ah (E 1 (t (bX _ _) (ab K)) bg) rfl)) λl N=>aM.dK _ _ ⟨_,fp _,Y++[y],h,_,aD,aG,ao.cb N.o (λ_ _ ae=>ae) (λaw af F=>aS (E 1 (D F) af)),by refine c aA (c (gx ..) ?_);rfl,by exact c (show ey (Y++[y])=ey Y++[x y] from eq)<|N.aF,aQ.G N.o (B8 _),KX aj,ag⟩
  |hq aY aU aV aW aB ag=>
   have ai:=aV.G ao id;have v:=aW.G ao id;refine g8 (kP (bk (m rfl) ai rfl) (ea (X U (X U (X U (X U (X U (X U a5)))))) (show 6<aa by decide)) rfl) rfl<|jf (m aG) (e4 (d:=0) (bk (m rfl) ai rfl) U v (by dsimp only[hm];unfold aa;exact ah (al 1 aB) rfl) rfl) aQ (eH _) (xw (ah (t (bX _ _) aj) rfl)) λl N=>?_
   exact aM.dK _ _ ⟨_,fp _,Y,_,_,aD,aG,ao.cb N.o (λ_ _ ae=>ae) (λaw af F=>aS (H 1 (E 1 (D F) af))),aA,aP.G N.o (iX (fp _)),by exact c (show(ey (_::h)).reverse=(ey h).reverse++[x _] from vX)<|N.aF,by dsimp only[hm];exact KY aj,ag⟩
  |sI aY aU aV aW aB ag=>
   have ai:=aV.G ao id;rename_i C bx bz bt A;refine nD (kP (bk (m rfl) ai rfl) (ea (X U (X U (X U (X U (X U (X U a5)))))) (show 6<aa by decide)) rfl) rfl<|g8 (kP (bk (m rfl) ai rfl) (ea (X U (X U a5)) (show 2<aa by decide)) rfl) rfl<|Ve (A.map s9) (MN ae A Y h) (bk (m rfl) ai rfl) (by refine c (au ..) ?_;unfold aa;exact ah aB rfl) (λw ay aq T=>aW.G T.o id) ⟨aD,aG,ao,aP,by refine c (YX ..) ?_;simpa [gv] using aQ⟩ ?_ λay aq T=>?_
   ·intro w bt ay aq bA aZ T a0
    rw[<-BV,dp,e7] at aZ
    refine ax aZ λa3 a7 I=>?_;refine bp I ?_
    have k:=(co.mp a7).1
    rw[mQ] at k
    have J:A.reverse.take (w+1)=A.reverse.take w++[a3]:=by refine c (iB ..) (c a7 ?_);rfl
    have av:(gv (A.reverse.take w)).length<=w:=ej (Br _) (by exact c (lD ..)<|qG _ _)
    have W:=T.i2
    cases a3 with
    |none=>exact ex (xL (m rfl)) rfl (a0.dK _ _ ⟨T.eI,T.cD,T.o,T.lM,by refine c J (c (Bq ..) ?_);simpa [gv] using W⟩)
    |some aw=>refine g8 (xL (m rfl)) rfl (jf (m T.cD) (m rfl) W (eH _) (by refine c (dw ..) (c (mQ ..) (c (au ..) (c (au ..) ?_)));unfold aa;exact ah (al 1 (d9 97 (t (cZ (ep 2 (E 1 (E 1 av k) aB)) _) (al 97 (bX _ _))) aj)) rfl) λl N=>?_);exact a0.dK _ _ ⟨T.eI,T.cD,T.o.cb N.o (λ_ _ ae=>ae) (λaw af F=>aS (H 1 (E 1 (D F) af))),T.lM.G N.o (iX (fp _)),by exact c J<|c (Bq ..)<|c (show ey (gv (A.reverse.take w)++gv [g aw])=ey (gv (A.reverse.take w))++[x aw] from eq)<|bp (gx ..)<|N.aF⟩
   have av:=Br A;have W:=T.i2;refine aM.dK _ _ ⟨_,fp _,Y,_,_,T.eI,T.cD,T.o,aA,T.lM,?_,by exact c (dw ..)<|KZ aB aj av,ag⟩;rw[au,<-mQ,jn,WT] at W;exact c (show(ey (gv A++h)).reverse=(ey h).reverse++ey (gv A).reverse by simp)<|W
 rcases h with _|⟨y,h⟩
 ·have ag:=Q.P;have aA:=Q.ng;cases ag;refine c3 (m Q.eI) (Z ae.i aq Q.o ?_);exact c aA<|c (eP ..)<|Q.lM
 simp at af
noncomputable def ls (C:e):e:=if C<3 then 1 else 2
noncomputable def mM:e->r a4
 |1=>[ck "p"]
 |2=>[ck "p",ck "q"]
 |4=>[ck "p"]
 |_=>[]
noncomputable def gt (C:e):a4:=p5 (ls C)++rz (mM C) (ck "")
noncomputable def lq (I C:e):ci:=(I==0&&(C==1||C==2))||(I==1&&C==2)||(I==3&&C==4)
theorem Jy:∀y P:Fin 5,dV (gt y.1) (gt P.1)=decide (y.1=P.1):=by decide+kernel
theorem Jz:∀y P:Fin 5,((gt y.1++ck ".").cps.toList.isPrefixOf (gt P.1).cps.toList)=lq y.1 P.1:=by decide+kernel
theorem JA:∀y:Fin 5,(gt y.1).cps.size<=6:=by decide+kernel
theorem CS:∀y:Fin 5,dV (gt y.1) (ck "")=false:=by decide+kernel
theorem XF (C:e):∀m∈mM C,A8 m:=by intro m Y;unfold mM at Y;split at Y<;>simp at Y<;>first|exact ap Y|exact Y
theorem vt (C:e):(mM C).length<=2:=by unfold mM;split<;>decide
def mi (w:r (q×q)) (T:K) (c C l:e) (b:r e):Prop:=∃N P A a t J,c<=C/\c<=N/\M T C (ga 25 J N l)/\M T N (V (x P::A))/\A.length<100/\iE T c a [P] t/\a<990/\t.length=b.length/\t.length<1000/\∀(v y d:e),t[v]? =g y->b[v]? =g d->Dy w T c y (gt d)
theorem mi.G (U:mi a1 b a d w Q) (W:aE c7 b aj) (Y:∀y,a<=y->¬c7 y) (Z:∀M J,b9 (I M) a1=g J->b9 (I M) fQ=g J):mi fQ aj a d w Q:=by obtain⟨N,P,A,C,t,J,k,p,l,v,aa,ab,i,ae,F,m⟩:=U;have D:=W.fy Y;refine⟨N,P,A,C,t,J,k,p,l.G W (Y _ k),v.G W (Y _ p),aa,ab.fy D,i,ae,F,λaf y ag ah h=>?_⟩;refine wY (m af y ag ah h) λai X o c H ao E K T q aq=>As ai X o c H ao E (K.fy D) (T.G W (Y _ K.rG.2.1)) (Z _ _ q) aq
def NB (D:b4):Prop:=∀(C c a N l P:e) (J:q) (A:r q) (t:r e) (T:K) (G:q->K->Prop),0<T.i->M T a (ga 25 J N l)->M T N (V (x P::A))->A.length<100->iE T c C [P] t->t.length<1000->C<990->(∀p H,aE ca T H->M H p (V (ey t))->G (x p) H)->D 83 [x a] T G
theorem Wj (M:cv aO):NB (bC aO (a+2)):=by intro C c k N l P o A t T G K E v i J D y Z;have b:=Wi (a:=a) M;refine cz (M.cy 22 rfl) rfl (ex (cx (bk (m rfl) E rfl) U) rfl (tk (X (e4 (d:=0) (bk (m rfl) E rfl) U v (by dsimp only[hm];unfold aa;exact ah (al 1 i) rfl) rfl) a5) ?_));exact b C c P t T _ K J D y λp H W h=>Z p H W h
noncomputable abbrev uQ (X:r e):r q:=X.map λC=>bW (gt C)
def NC (D:b4):Prop:=∀(c C l X:e) (w:r (q×q)) (b:r e) (T:K) (G:q->K->Prop),0<T.i->M T X (aT w)->mi w T c C l b->(∀p H,aE ca T H->M H p (V (uQ b))->b.length<1000->G (x p) H)->D 84 [x C,x X] T G
theorem G9 (M:cv aO):NC (bC aO (a+3)):=by
 intro ag C l aq av b T a8 K I aw Z;refine cz (M.cy 23 rfl) rfl ?_;have ax:=Wj (a:=a) M;have ay:=Wc (a:=a) M;obtain⟨N,aA,A,aB,ae,J,k,p,aC,v,aD,aE,aG,af,F,aI⟩:=aw;refine hu (fG (X (m rfl) a5) (ax aB ag C N l aA J A ae T _ K aC v aD aE F aG λa9 H W P=>c4 P ?_));have Y:(ey ae).length<aa:=wf (ah F rfl);have aL:=I.G W id;refine wS (ey ae) P Y (λ_=>true) (λw=>((b[w]?).map λaM=>q.bW (gt aM)).getD bI) (λw J a' bb Q ai h _=>?_) ⟨by exact c (m9 ..)<|c (au ..)<|c (k7 ..)<|Y,cJ λp aj=>?_⟩
 ·refine hK Q λy U=>?_;have d:w<b.length:=by rw[au] at ai;exact t ai (ab af)
  have h:=h rfl;rw[cY d] at h;refine fG (X (m rfl) (X (m rfl) a5)) (ay y aq ag av _ H _ aL ?_ h);refine wY (aI w y _ U (cY d)) λaP aQ aS aU aV aW aY aZ a0 a3 a7=>?_;exact As aP aQ aS aU aV aW aY (aZ.fy (W.fy λ_ _=>id)) (a0.G W id) a3 a7
 have ao:=aj.aF;rw[m9,au,af,p'] at ao;exact Z H.i _ (W.az aj.o) ao (E 1 (D af) F)
noncomputable abbrev pW (k X J:e):dY:=cw 85 [(29,x k),(30,x X),(31,x J),(32,j 0),(33,j 0)]
theorem Sz (J:∀a∈Q,a<5) (h:a<5):na (bW (gt a)) (uQ Q)=g (decide (a∈Q)):=by
 unfold na
 refine c (aZ (show(q.eK (bW (gt a))&&w8 (uQ Q))=true from dR.mpr ⟨rfl,(w9 λ_=>rfl:(uQ Q).all (dJ 3)=true)⟩) ..) ?_
 congr 1
 rw[hN,Yu,vS,hB]
 constructor
 ·refine λm=>ax m λI w K=>?_;have k:=Jy ⟨I,J I w⟩ ⟨a,h⟩;have p:dV (gt I) (gt a)=true:=K;simp only[p] at k;rw[dq k.symm] at w;exact w
 ·intro N;exact a8 a N (gE.mpr rfl)
def Nf (D:b4):Prop:=∀(i k X J c a l C:e) (w:r (q×q)) (b:r e) (T:K) (G:q->K->Prop),M T i (pW k X J)->M T X (aT w)->mi w T c a l b->(∀C∈b,C<5)->C<5->(∀H,aE ca T H->G (aK (decide (C∈b))) H)->D 2362 [x i,x a,bW (gt C)] T G
theorem G5 (M:cv aO):Nf (bC aO (a+4)):=by intro i k o q c C l t w b T G d I y J h Z;have U:=G9 (a:=a) M;refine cz (M.cy 26 rfl) rfl (hu (z3 (m rfl) (fG (X (m rfl) (X (bk (m rfl) d rfl) a5)) (U c C l o w b T _ (by have:=d.bj;exact E 1 (c8 _) this) I y λp H W P D=>?_))));exact c4 P (fa (Sz J h) (Z H W))
def Ng (D:b4):Prop:=∀(i k X J c a l C:e) (o:q) (w d:r (q×q)) (b:r e) (T:K) (G:q->K->Prop),M T i (pW k X J)->M T X (aT w)->M T J (aT d)->mi w T c a l b->(∀C∈b,C<5)->C<5->C∈b->(∀H,aE ca T H->G ((b9 (I l) d).getD o) H)->D 2363 [x i,x a,bW (gt C),o] T G
theorem V3 (D:cv aO):Ng (bC aO (a+5)):=by intro i k E J F C l K o w d b T ab M I Q y Y h N Z;have U:=G5 (a:=a) D;have v:=y;refine rg v λae P A af t ag ah p aa _=>cz (D.cy 27 rfl) rfl (iJ (m rfl) M rfl rfl (X (m rfl) (X (m rfl) a5)) (U i k E J F C l K w b T _ M I y Y h λH W=>?_));refine c (oF N) ?_;have q:=M.G W id;exact c3 (aC:=L) (xJ (bk (m rfl) q rfl) (bk (m rfl) (aa.G W id) rfl) (m rfl) (Q.G W id) rfl) (Z H W)
def Nh (D:b4):Prop:=∀(i k X J c a l C:e) (w:r (q×q)) (b:r e) (T:K) (G:q->K->Prop),M T i (pW k X J)->M T X (aT w)->mi w T c a l b->(∀C∈b,C<5)->C<5->(∀H,aE ca T H->G (aK (b.any λI=>lq I C)) H)->D 2364 [x i,x a,bW (gt C)] T G
theorem V4 (M:cv aO):Nh (bC aO (a+4)):=by
 intro aB k ae J af ai l C aj b ao aC ab aq y av h Z;have aw:=G9 (a:=a) M;refine cz (M.cy 28 rfl) rfl (fG (X (m rfl) (X (bk (m rfl) ab rfl) a5)) (aw af ai l ae aj b ao _ (by have:=ab.bj;exact E 1 (c8 _) this) aq y λaD H W P D=>?_));refine FX (uQ b) (λK d p=>p=H/\d 2=g (bW (gt C))/\∀I∈b.take K,lq I C=false) (by refine c (au ..) ?_;unfold aa;exact ah D rfl) (λK d p v=>v.1▸P) (ch rfl rfl (λ_=>em)) ?_ ?_
 ·refine λK J d p aE Q t Y=>gq t λN i A=>?_;subst N;rw[dp,e7] at Q;refine ax Q λI w t=>?_;subst t;have o:=av I (bF w);have ay:dV (gt I) (ck "")=false:=CS ⟨I,o⟩;have az:((gt I++ck ".").cps.toList.isPrefixOf (gt C).cps.toList)=lq I C:=Jz ⟨I,o⟩ ⟨C,h⟩;have q:(gt I).cps.size<=6:=JA ⟨I,o⟩;have G:ag (bC aO (a+3)) (d.aP 3 (bW (gt I))) p (fD (aJ d8 (f 3) (u (aV ""))) (b1 61 (f 2) (n (bR c9 (f 3) (u (aV "."))) z))) (aK (!dV (gt I) (ck "")&&lq I C)):=ko (Us (m rfl) U) λ_=>by exact bp (az ..)<|Uv (m i) (te (m rfl) U (by unfold aa;exact ah (al 1 q) rfl) (by decide))
  rw[ay] at G;refine ec G (λF=>?_) λF=>eV (Y.dK _ _ (ch rfl i (λaA T=>?_)))
  ·refine c3 U (Y.vb _ _ _ ?_);have:(b.any λI=>lq I C)=true:=vS.mpr (a8 I (bF w) (by simpa using F));rw[this] at Z;exact Z _ W
  rw[iB,w,d2] at T;refine bi T (λT=>A aA T) λT=>?_;simp at T;refine c T ?_;simpa using F
 refine λd p t=>gq t λN i A=>?_;refine c N ?_;rw[au,jn] at A;have:(b.any λI=>lq I C)=false:=by rw[H9];intro I w;refine c (A I w) ?_;decide
 rw[this] at Z;exact c3 U (Z _ W)
structure nE where
 cW:e
 e3:e
 cp:r e
 eo:e
structure t' (T:K) (c:e) (b:r e) (l:r nE):Prop where
 od:l.map (·.eo)=b.take l.length
 rb:∀F∈l,h5 T c F.cW F.e3 F.cp (mM F.eo)
 b7:(l.flatMap (·.cp)).Nodup
 bj:∀W∈l.flatMap (·.cp),W<T.i/\c<=W
noncomputable def abJ:q:=S [(S [(aV "1")]),(S [(aV "1"),(aV "p")]),(S [(aV "1"),(aV "p"),(aV "q")]),(S [(aV "2")]),(S [(aV "2"),(aV "p")])]
theorem xN (h:a<5):my [(S [(aV "1")]),(S [(aV "1"),(aV "p")]),(S [(aV "1"),(aV "p"),(aV "q")]),(S [(aV "2")]),(S [(aV "2"),(aV "p")])] (a:B)=g (S (bW (rQ (ls a))::(mM a).map bW)):=by revert a;show ∀a,a<_->_;exact kk rfl (kk rfl (kk rfl (kk rfl (uU rfl))))
theorem Qp (C:e):sQ (rQ (ls C))=g ((ls C:e):B):=by unfold ls;split<;>decide
theorem h5.nd (U:h5 b a d w Q k3) (c:iE b a Z aB c0):iE b a (Z+1) (d::aB) (d::c0):=by
 cases U with
 |e3 k p l v=>exact .nd k l (ap rfl) c
 |n4 k p l v=>exact .nd k l (ar rfl) c
theorem h5.bo (U:h5 b a d w Q k3):Q.length=k3.length+1:=by
 induction U with
 |e3 _ _ _ _=>rfl
 |n4 _ _ _ _ _ t=>simp[t]
theorem RD:∀{l:r nE},(l.flatMap (·.cp)).Nodup->(∀F∈l,F.e3∈F.cp)->∀(v w:e) (y P:nE),l[v]? =g y->l[w]? =g P->y.e3=P.e3->v=w:=by
 intro l;induction l with
 |nil=>intro _ _ v w y P k _ _;exact ce k
 |cons F l t=>
  intro C N v w y P k p T
  rw[YC,iA] at C
  have a:∀(Y:e) (U:nE),l[Y]? =g U->F.e3≠U.e3:=λY U G=>C.2.2 _ (N F ky) _ (List.mem_flatMap.mpr (a8 U (bF G) (N U (jA _ (bF G)))))
  cases v with
  |zero=>
   obtain rfl:=bm k
   cases w with
   |zero=>rfl
   |succ w=>exact absurd T (a w P p)
  |succ v=>
   cases w with
   |zero=>obtain rfl:=bm p;exact absurd T.symm (a v y k)
   |succ w=>exact c (t C.2.1 (λF K=>N F (jA _ K)) v w y P k p T) rfl
theorem t'.fy {l:r nE} (F:t' b a Q l) (c:sz a b aj) (y:b.i<=aj.i):t' aj a Q l:=⟨F.od,λW q=>(F.rb W q).fy c,F.b7,λW q=>⟨gy (F.bj W q).1 y,(F.bj W q).2⟩⟩
structure MB (T:K) (b:r e) (X c w:e) (d:bu) (H:K) (l:r nE):Prop where
 cI:d 0=g (S (bg b))
 eI:d 1=g (x X)
 cD:d 2=g (I c)
 eD:d 3=g (x T.i)
 eW:d 4=g (x (T.i+1))
 cp:l.length=w
 gM:t' H (T.i+2) b l
 o:aE ca T H
 gm:M H T.i (V (ey (l.map (·.cW))))
 h7:M H (T.i+1) (V (l.map λF=>S [x F.e3,I (ls F.eo)]))
structure ML (T k p:K) (b:r e) (a c C h w:e) (d:bu) (H:K) (y:e) (X:r e):Prop where
 cI:d 0=g (S (bg b))
 eI:d 1=g (x a)
 cD:d 2=g (I c)
 eD:d 3=g (x T.i)
 eW:d 4=g (x (T.i+1))
 o:aE ca p H
 jY:d 6=g (x y)
 eC:h5 H (T.i+2) y (k.i+1) X ((mM C).take w)
 b7:X.Nodup
 sJ:∀o∈X,k.i<=o/\o<H.i
structure MO (T H:K) (b:r e) (X c:e) (l:r nE) (y:bu) (k:K) (N:e) (d:r e) (M:e):Prop where
 eI:y 1=g (x X)
 cD:y 2=g (I c)
 eW:y 4=g (x (T.i+1))
 o:aE ca H k
 mJ:y 8=g (x N)
 i:M<990
 P:iE k (T.i+2) M [N] (l.map (·.cW))
 ug:∀p,aE ca k p->∀h t,iF p h t->iF p (N::h) (d++t)
 b7:d.Nodup
 sJ:∀o∈d,T.i+2<=o/\o<k.i
 e3:∀F∈l,F.e3∈d
 cp:d.length<=15
structure MP (v:K) (X c:e) (A:r e) (b:e->q) (l:r nE) (t:r e) (b7 w:e) (d:bu) (P:K) (N:r e) (a:e->q):Prop where
 eI:d 1=g (x X)
 cD:d 2=g (I (c+t.length))
 jY:d 6=g (x b7)
 o:aE (λy=>y=X) v P
 DS:M P X (aT (d3 I N a))
 b7:N.Nodup
 bj:∀Y∈N,Y<c+t.length
 jv:∀Y∈A,Y∈N/\a Y=b Y
 cK:∀F∈l.take w,c+t.idxOf F.e3∈N/\a (c+t.idxOf F.e3)=I (ls F.eo)
theorem He (H:bu->K->Prop) (k:∀a:gZ,(∀X k,H X k->a cr X k)->a7 l aC h b a) (p:∀X k,H X k->a7 l dd X k aA):a7 l (s aC dd) h b aA:=k (gc l dd aA) p
theorem U' (G:ag l h b A (aK bt)) (E:bt=true) (Z:a7 l aC h b aA):a7 l (bc A aC dd) h b aA:=G _ (by exact c E<|Z)
theorem U9 (G:ag l h b A (aK bt)) (E:bt=false) (Z:aA cr h b):a7 l (bc A aC L) h b aA:=G _ (by exact c E<|Z)
def zi (D:b4):Prop:=∀(X c:e) (b:r e) (A:r e) (o:e->q) (T:K) (G:q->K->Prop),0<X->M T X (aT (d3 I A o))->A.Nodup->(∀Y∈A,Y<c)->c<1000->(∃P h,P<5/\h<5/\(b=[P]\/b=[P,h]))->(∀C d N a H,aE (λy=>y=X) T H->T.i<=C->M H X (aT (d3 I N a))->N.Nodup->(∀Y∈N,Y<d)->(∀Y∈A,Y∈N/\a Y=o Y)->c<d->d<=c+20->mi (d3 I N a) H (T.i+2) C c b->G (S [x C,I d]) H)->D 115 [S (bg b),x X,I c] T G
theorem VL (cj:cv aO):zi (bC aO (a+3)):=by
 intro bQ a' bt dg dh aq fe di dj d' dm eb ec Z;refine cz (cj.cy 62 rfl) rfl ?_;have dn:=G4 (a:=a) cj;have b0:=V1 (a:=a) cj;have ee:=G6 (a:=a) cj;have b2:=dj.bj;have dq:0<aq.i:=dr (E 1 di b2) rfl;have bA:bt.length<=2/\1<=bt.length/\∀aM∈bt,aM<5:=by
  obtain⟨ff,fg,bT,ck,rfl|rfl⟩:=ec
  ·exact ch (ge _) (bv _) (by simp[bT])
  exact ch (bv _) (ge _) (by simp[bT,ck])
 refine nl a5 (by decide) λk cn=>nl a5 (by decide) λp b=>Bb (bg bt) (λw a0 aw=>∃bl,MB aq bt bQ a' w a0 aw bl) (m rfl) ⟨[],rfl,rfl,rfl,rfl,by refine(?_:g (q.x k.i)=_);rw[cn.i],rfl,⟨rfl,by simp,by simp,by simp⟩,cn.o.az b.o,cn.aF.G b.o id,by rw[<-cn.i];exact b.aF⟩ ?_ ?_
 ·refine λw J a0 aw ef b3 aP Y=>aU aP λbl Q=>hK b3 λaM cQ=>?_;have dt:=bA.2.2 aM (bF cQ);have cu:w<2:=by have:=(co.mp cQ).1;exact t this bA.1
  have ax:=Q.cp;have eg:=vt aM;have ag:=Q.h7.bj;have dv:(q.bW (rQ (ls aM))::(mM aM).map q.bW).length<aa:=by simp only[hm,au];unfold aa;exact ah (al 2 eg) rfl
  refine gP (X U (X U (X U a5))) (dn 8 (aV "n") aw _ λk A=>?_);refine jf (m Q.eW) (ea (X (m rfl) (X (Un (jd (jd U (m rfl) (by decide) (xN dt)) U dv rfl) (Qp aM)) a5)) (show 2<aa by decide)) (Q.h7.G A.o id) (eH _) (by rw[au];unfold aa;exact ah (E 1 (ab ax) cu) rfl) λp b=>?_;have cx:p.i=aw.i+2:=by exact c (b.i ..) (c A.i rfl)
  have cA:aE (λy=>y=aq.i+1) aw p:=A.o.cb b.o (λ_ _=>ed) λ_ _ aq=>aq;have eh:aE ca aq p:=Q.o.cb cA (λ_ _ aq=>aq) λy ae F=>aS (H 1 (E 1 (D F) ae));have ei:h5 p (aq.i+2) (aw.i+1) (aw.i+1) [aw.i+1] []:=.e3 (bJ 1 ag) ag (A.aF.G b.o (by refine(?_:¬_=_);exact a3 (bJ 1 ag))) (A.cp.G b.o (by refine(?_:¬_=_);exact a3 ag));have ej:t' p (aq.i+2) bt bl:=Q.gM.fy (cA.fy λy ae F=>aS (ep 1 (t ae (ab F)))) cA.cq;refine Bb ((mM aM).map bW) (λdx a0 l=>∃y bB,ML aq aw p bt bQ a' aM 0 dx a0 l y bB) (Uu (a:=1) (jd U (m rfl) (by decide) (xN dt)) U dv (bv _) (eH _)) ⟨_,_,Q.cI,Q.eI,Q.cD,Q.eD,Q.eW,.dO,rfl,by exact c (YX ..)<|ei,il _ _,λW aQ=>by rw[e6] at aQ;exact⟨H 1 (D aQ),t (al 1 (ab aQ)) (D cx)⟩⟩ ?_ ?_
  ·refine λdx J a0 l fh b3 aP ek=>g3 aP λy bB T=>hK b3 λen bU=>?_;have cR:=T.o.cq;refine fA (z7 b0 (C:=bW en) U (m rfl) (X (m T.jY) a5) (show 1<aa by decide) λbD aW=>?_);have cB:=aW.i;refine ek.dK _ _ ⟨l.i+1,(l.i+1)::bB,T.cI,T.eI,T.cD,T.eD,T.eW,T.o.az aW.o,rfl,c (iB ..)<|c bU<|.n4 (bJ 1 (H 2 (t (E 2 ag (D cx)) cR))) (H 2 (t (E 2 ag (D cx)) cR)) aW.aF aW.cp (T.eC.fy (aW.o.fy λ_ _=>id)),?_,?_⟩
   ·exact lE.mpr ⟨λN=>by have:=(T.sJ _ N).2;exact aS (H 1 this),T.b7⟩
   intro W aQ;rcases eZ.mp aQ with rfl|aQ
   ·exact⟨bJ 1 (H 2 (t (D cx) cR)),D cB⟩
   have:=T.sJ W aQ;exact⟨this.1,H 2 (E 2 this.2 (D cB))⟩
  refine λa0 l aP=>g3 aP λy bB T=>?_;have bu:=T.eC;rw[au,jn] at bu;have eu:=(Q.gm.G cA (by refine(?_:¬_=_);exact aD (bv _))).G T.o id;refine jf (m T.eD) (m T.jY) eu dq (by refine c (au ..) (c (au ..) ?_);unfold aa;exact ah (E 1 (ab ax) cu) rfl) λbD bb=>?_;have dz:sz (aq.i+2) l bD:=bb.o.fy λaA ao F=>aS (H 1 (t ao (ab F)));have cC:=(ej.fy (T.o.fy λ_ _=>id) T.o.cq).fy dz bb.o.cq;have cB:=bb.i;refine Y.dK _ _ ⟨bl++[⟨y,aw.i+1,bB,aM⟩],T.cI,T.eI,T.cD,T.eD,T.eW,by refine c (dw ..) (c ax ?_);rfl,⟨?_,?_,?_,?_⟩,(eh.az T.o).cb bb.o (λ_ _ aq=>aq) (λaA ao F=>aS (E 1 (D F) ao)),?_,?_⟩
  ·refine c (eq ..) (c (Q.gM.od ..) (c (dw ..) (c (l9 ..) (c (iB ..) (c (ax ..) (c (cQ ..) ?_))))));rfl
  ·intro F K;exact bi (d2.mp K) (λK=>cC.rb F K) λK=>gR K<|bu.fy dz
  ·rw[YB,iA];refine ch Q.gM.b7 (by simpa using T.b7) (λaA ao dA bu F=>?_);have k:=(Q.gM.bj aA ao).1;simp at bu;have p:=(T.sJ dA bu).1;exact aS (E 1 (t p (D F)) k)
  ·intro aA ao;rw[YB,d2] at ao;refine bi ao (λao=>cC.bj aA ao) λao=>?_;simp at ao;have p:=T.sJ aA ao;exact⟨t p.2 (D cB),t ag p.1⟩
  ·have F:ey ((bl++[(⟨y,aw.i+1,bB,aM⟩:nE)]).map λW=>W.cW)=ey (bl.map λW=>W.cW)++[x y]:=by simp
   exact c F<|bb.aF
  exact c (eq ..)<|(b.aF.G T.o id).G bb.o (B8 _)
 refine λa0 aw aP=>aU aP λbl Q=>?_;have ax:=Q.cp;rw[au] at ax;have dB:=Q.gM.od;rw[ax,jn] at dB;have ag:=Q.h7.bj;obtain⟨av,aI,rfl⟩:∃av aI,bl=av::aI:=by
  cases bl with
  |nil=>simp at ax;exact(fn (t bA.2.1 (D ax)) rfl).elim
  |cons F ew=>exact js F ew rfl
 have bV:(ey ((av::aI).map (·.cW))).length<aa:=by refine c (au ..) (c (au ..) ?_);unfold aa;exact ah (al 1 (t (ab ax) bA.1)) rfl
 refine dL (e4 (d:=0) (m Q.eD) U Q.gm bV rfl)<|He (λdD k=>∃bY bq cS,MO aq aw bt bQ a' (av::aI) dD k bY bq cS) (λfi a7=>?_) ?_
 ·have b4:=Q.gM.rb av ky;have dE:=b4.bo;have dF:=vt av.eo;have b5:=Q.gM;rcases aI with _|⟨b6,_|⟨fj,aI⟩⟩
  ·refine U9 (jc (kp (m Q.eD) Q.gm bV) U) rfl (a7 _ _ ?_);refine⟨av.cW,av.cp,1,Q.eI,Q.cD,Q.eW,.dO,rfl,by decide,b4.nd .z,λp A ez aj cU=>(b4.fy (A.fy λ_ _=>id)).A9 cU,by simpa using b5.b7,λa8 bw=>(b5.bj a8 (jm _ bw)).symm,λF K=>?_,ah (d9 1 (ab dE) dF) rfl⟩;exact gR K<|b4.rG.1
  ·have dG:=b5.rb b6 (jA _ ky);have eA:=dG.bo;have eB:=vt b6.eo;have b8:=b5.b7;have b9:=b5.bj;simp only[YC,List.flatMap_nil,eP] at b8 b9;refine U' (jc (kp (m Q.eD) Q.gm bV) U) rfl<|fa Q.eD (c4 Q.gm ⟨3,c4 Q.gm ⟨bV,?_⟩⟩)
   refine z7 b0 (C:=aV "") U U (X (m rfl) (X U a5)) (show 2<aa by decide) λbT b'=>⟨show 0<aa by decide,?_⟩;have dH:=Q.gm.G b'.o id;refine c4 dH ⟨bV,?_⟩;refine z7 b0 (C:=aV "") U U (X (m rfl) (X U a5)) (show 2<aa by decide) λck a9=>⟨show 1<aa by decide,?_⟩;have eF:=dH.G a9.o id;refine c4 eF ⟨bV,⟨show 2<aa by decide,cJ λcV bx=>?_⟩⟩;refine gP (aC:=L) (ai:=[I 35,aV "",x ck.i,j 0]) (X U (X U (X (m rfl) (X U a5)))) (b0 35 ck.i (aV "") cV _ (by exact c (bx.i ..)<|fS _ _) λfk bb=>?_);have aB:=bx.cJ bb;have cX:=a9.o.az aB.o;have dI:=b'.aF.G cX id;have dJ:=b'.cp.G cX id;have dM:=a9.aF.G aB.o id;have dN:=a9.cp.G aB.o id;have bz:=b'.o.az cX;have c0:=b4.fy (bz.fy λ_ _=>id);have c2:=dG.fy (bz.fy λ_ _=>id);have aG:=b'.i;have h:=a9.i;have bE:=aB.i;have dP:=aB.aF;have dQ:=aB.cp;refine a7 _ _ ⟨cV.i,cV.i::(aw.i+1)::(av.cp++(bT.i+1)::b6.cp),5,Q.eI,Q.cD,Q.eW,bz,rfl,by decide,?_,?_,?_,?_,?_,?_⟩;all_goals refine c (bx.i ..) ?_
   ·exact .sI (A:=[g (aw.i+1),g (bT.i+1)]) (bJ 1 (H 4 (E 2 (E 2 ag (D aG)) (D h)))) (H 4 (E 2 (E 2 ag (D aG)) (D h))) dP dQ (show 2<100 by decide) (.hq (bJ 1 ag) ag dI dJ (show 1<100 by decide) (c0.nd (.hq (bJ 1 (H 2 (E 2 ag (D aG)))) (H 2 (E 2 ag (D aG))) dM dN (show 1<100 by decide) (c2.nd .z))))
   ·intro p a8 ez aj cU;have dR:=a8.fy (a:=aq.i+2) λ_ _=>id;have:=iF.n (A:=[g (aw.i+1),g (bT.i+1)]) (dP.G a8 id) (dQ.G a8 id) (show 2<100 by decide) (.n (A:=[g av.cW,R]) (dI.G a8 id) (dJ.G a8 id) (show 2<100 by decide) ((c0.fy dR).A9 (.n (A:=[g b6.cW,R]) (dM.G a8 id) (dN.G a8 id) (show 2<100 by decide) ((c2.fy dR).A9 cU))));simpa using this
   ·simp only[lE,iA,eZ,d2,Jr] at b8⊢;have c5:∀y∈av.cp,y<aw.i:=λy ae=>(b9 y (jm _ ae)).1;have c6:∀y∈b6.cp,y<aw.i:=λy ae=>(b9 y (mT _ ae)).1;refine i9 ⟨a3 (bJ 1 (H 2 (E 2 (D aG) (D h)))),λN=>by have:=c5 _ N;exact aS (H 5 (E 2 (E 2 (D aG) (D h)) this)),a3 (bJ 1 (D h)),λN=>by have:=c6 _ N;exact aS (H 5 (E 2 (E 2 (D aG) (D h)) this))⟩ ⟨λN=>by have:=c5 _ N;exact aS (H 1 this),aD (bJ 1 (D aG)),λN=>by have:=c6 _ N;exact aS (H 1 this)⟩ b8.1 ⟨λN=>by have:=c6 _ N;exact aS (H 3 (E 2 (D aG) this)),b8.2.1⟩ (λy ae aA ao F=>?_);rcases ao with rfl|ao
    ·have:=c5 _ ae;exact aS (H 3 (E 1 (E 1 (D aG) (D F)) this))
    exact b8.2.2 y ae aA ao F
   ·intro a8 bw;simp only[eZ,d2] at bw;rcases bw with rfl|rfl|bw|rfl|bw
    ·exact⟨bJ 1 (H 4 (E 2 (E 2 ag (D aG)) (D h))),D bE⟩
    ·exact⟨bJ 1 ag,H 4 (E 2 (E 2 (D aG) (D h)) (D bE))⟩
    ·have:=b9 a8 (jm _ bw);exact⟨this.2,H 6 (E 2 (E 2 (E 2 this.1 (D aG)) (D h)) (D bE))⟩
    ·exact⟨bJ 1 (H 2 (E 2 ag (D aG))),H 2 (E 2 (D h) (D bE))⟩
    have:=b9 a8 (mT _ bw);exact⟨this.2,H 6 (E 2 (E 2 (E 2 this.1 (D aG)) (D h)) (D bE))⟩
   ·intro F K;simp only[eZ,List.not_mem_nil,or_false] at K;rcases K with rfl|rfl
    ·exact jA _ (jA _ (jm _ c0.rG.1))
    exact jA _ (jA _ (mT _ (jA _ c2.rG.1)))
   simp only[hm,dw];exact K0 dE dF eA eB
  dsimp only[hm] at ax;exact(fn (t (E 3 (c8 _) (ab ax)) bA.1) rfl).elim
 refine λdD k aP=>uw aP λbY bq cS aL=>?_;have bG:=aL.o.cq;refine fA<|fa aL.mJ (g5 (fG (X U (X U (X U a5))) (dn 8 (aV "c") k _ λp a9=>⟨show 2<aa by decide,cJ λeG bx=>b0 25 p.i (aV "=") eG _ (by refine c (bx.i ..) ?_;exact fS _ _) λl bb=>?_⟩)))
 have aB:=bx.cJ bb;have h:=a9.i;have bE:=aB.i;have dS:=aB.aF;have c7:=aB.cp;have bz:=aL.o.az (a9.o.az aB.o);have da:=a9.o.az aB.o;have dT:aE ca aq l:=Q.o.az bz;have cE:=aL.sJ;have dU:iF l [bY,k.i+1] (bq++[k.i+1]):=aL.ug _ da _ _ (.n (A:=[]) (a9.aF.G aB.o id) (a9.cp.G aB.o id) (by decide) .z);have cF:iF l [p.i+1] ((p.i+1)::(bq++[k.i+1])):=.n (A:=[g bY,g (k.i+1)]) dS c7 (show 2<100 by decide) dU;have dV:((p.i+1)::(bq++[k.i+1])).Nodup:=by
  rw[lE,iA];refine iq (λN=>?_) aL.b7 (il _ _) (λaA ao dA bu F=>?_)
  ·refine bi (d2.mp N) (λN=>?_) λN=>?_
   ·have:=(cE _ N).2;exact aS (H 3 (E 2 (D h) this))
   rw[e6] at N;exact aS (H 1 (ep 1 (E 1 (D h) (ab N))))
  rw[e6] at bu;have:=(cE _ ao).2;exact aS (H 1 (E 1 (t (D bu) (D F)) this))
 have bM:∀y∈(p.i+1)::(bq++[k.i+1]),aq.i+2<=y:=by
  intro y ae;rcases eZ.mp ae with rfl|ae
  ·exact bJ 1 (H 2 (E 2 (t ag bG) (D h)))
  refine bi (d2.mp ae) (λae=>(cE _ ae).1) λae=>?_;rw[e6] at ae;exact H 1 (E 1 (t ag bG) (D ae))
 have cH:((p.i+1)::(bq++[k.i+1])).length<=17:=by have:=aL.cp;simp;exact this
 have bN:∀F∈av::aI,F.e3∈(p.i+1)::(bq++[k.i+1]):=λF K=>jA _ (jm _ (aL.e3 F K));have eJ:=aL.P.fy (da.fy λ_ _=>id);have cL:=Q.gM.fy (bz.fy λ_ _=>id) bz.cq;have eK:=Q.h7.G bz id;refine c (bx.i ..)<|aU (⟨_,rfl⟩:∃aj,aj=(p.i+1)::(bq++[k.i+1])) λaj cM=>?_
 rw[<-cM] at cF dV bM cH bN;have eL:=aL.eI;have eM:=aL.cD;have eN:=aL.eW;have eO:=aL.i;have dX:0<aj.length:=by exact c cM<|eH _
 have eQ:aj[0]? =g (p.i+1):=by refine c cM ?_;rfl
 clear dU aL cE da cM a9 bx bb aB;refine gP (X (m rfl) (X (m eM) a5)) (ee (p.i+1) a' aj l _ (dr (E 2 (c8 _) (D bE)) rfl) (λy ae=>by have:=bM y ae;exact dr (E 2 dq this) rfl) cF dV (ah (al 1 cH) rfl) λbD aW dc=>?_);have eR:=(dj.G dT id).G aW λN=>by have:=bM _ N;exact aS (H 2 (E 2 b2 this))
 have eS:=eK.G aW λN=>by have:=bM _ N;exact aS (ep 1 this)
 have eT:=dc 0 (p.i+1) 25 (aV "=") p.i 0 eQ dS;have cu:M bD p.i (V [x bY,x (k.i+1)]):=c7.G aW λN=>by refine rf (cF.b7 _ N) λY J be cf aY=>dW (aY.cm c7) rfl
 have dY:sz (aq.i+2) l bD:=⟨λy Y J be cf _ aY=>by
   by_cases N:y∈aj
   ·refine aU (j9.mp N) λv dd=>⟨_,dc v y Y J be cf dd aY⟩
   ·exact⟨cf,aY.G aW N⟩,λy bB _ aY=>aY.G aW λN=>by
   refine rf (cF.b7 _ N) λY J be cf dd=>dW (aY.cm dd) rfl⟩
 have eV:=eJ.fy dY;have cC:=cL.fy dY aW.cq;have de:∀y,y∈aj->aj[aj.idxOf y]? =g y:=λy ae=>by exact c (cY (vV ae)) (c (List.getElem_idxOf ..) rfl)
 have dZ:∀F∈av::aI,∃J be,M bD F.e3 (ga 8 J be (a'+aj.idxOf F.e3)):=λF K=>by refine uw ((cL.rb F K).rG.2.2) λJ be cf aY=>js J be (dc _ _ _ _ _ _ (de _ (bN F K)) aY)
 have eY:∀F∈av::aI,aj.idxOf F.e3<aj.length:=λF K=>vV (bN F K);have e0:∀(v w:e) (y aA:nE),(av::aI)[v]? =g y->(av::aI)[w]? =g aA->aj.idxOf y.e3=aj.idxOf aA.e3->v=w:=λv w y aA ae ao aQ=>by refine RD cL.b7 (λF K=>(cL.rb F K).rG.1) v w y aA ae ao ?_;have k:=de _ (bN y (bF ae));rw[aQ,de _ (bN aA (bF ao))] at k;exact(bm k).symm
 refine Vc ((av::aI).map λF=>q.S [x F.e3,I (ls F.eo)]) (λw a0 cg=>∃bO bP,MP bD bQ a' dg dh (av::aI) aj (p.i+1) w a0 cg bO bP) (m eN) (by refine c (au ..) ?_;unfold aa;exact ah (al 1 (t (ab ax) bA.1)) rfl) (λw a0 cg e1=>g3 e1 λbO bP af=>eS.G af.o (by refine(?_:¬_=_);exact a3 (bJ 1 b2))) ⟨dg,dh,eL,rfl,rfl,.dO,eR,d',λY a7=>by have:=dm Y a7;exact H 1 (E 1 this (cZ dX _)),λY a7=>⟨a7,rfl⟩,λ_=>em⟩ ?_ ?_
 ·refine λw J a0 cg ef b3 aP Y=>g3 aP λbO bP af=>hK b3 λF cN=>?_;have br:=bF cN;refine g3 (dZ F br) λJ be aY=>?_;have e5:=aY.G af.o (by refine(?_:¬_=_);have:=bM _ (bN F br);exact a3 (H 2 (E 2 b2 this)));have aQ:=eY F br;have e7:=is af.b7 af.bj;refine jg (m rfl) (m af.eI) (bk (m rfl) e5 rfl) af.DS di rfl (by refine c (ld ..) ?_;unfold aa;exact ah (al 1 (t (t e7 (cZ cH _)) (al 16 eb))) rfl) λfl d0=>?_;have d1:=d0.aF;rw[show et (I (a'+aj.idxOf F.e3)) (I (ls F.eo)) (d3 I bO bP)=_ from mp g6 af.b7] at d1;refine Y.dK _ _ ⟨i' bO (a'+aj.idxOf F.e3),hF bP (a'+aj.idxOf F.e3) (I (ls F.eo)),af.eI,af.cD,af.jY,af.o.az d0.o,d1,uJ af.b7,λY a7=>?_,λY a7=>⟨lo.mpr (ap (af.jv Y a7).1),?_⟩,λcO cP=>⟨lo.mpr ?_,?_⟩⟩
  ·rcases lo.mp a7 with k|rfl
   ·exact af.bj Y k
   exact cZ aQ _
  ·have:=dm Y a7;rw[hF,ay (aD (t this (bX _ _)))];exact(af.jv Y a7).2
  ·rw[iB,cN,d2] at cP;refine bi cP (λk=>ap (af.cK cO k).1) λk=>?_;simp at k;exact c k<|ar rfl
  rw[iB,cN,d2] at cP;refine bi cP (λk=>?_) λk=>?_
  ·obtain⟨v,e8,e'⟩:=Ii.mp k;have fb:aj.idxOf cO.e3≠aj.idxOf F.e3:=λaQ=>by have:=e0 v w cO F (by exact bp e'<|cY _) cN aQ;exact aS (t (t e8 (qG _ _)) (D this))
   rw[hF,ay (K2 fb)];exact(af.cK cO k).2
  simp at k;refine c k ?_;rw[hF,aZ rfl]
 refine λa0 cg aP=>g3 aP λbO bP af=>?_;have df:=af.cK;rw[au,jn] at df;have bU:∀y,aq.i+2<=y->¬y=bQ:=λy ae F=>aS (H 2 (t (E 2 b2 ae) (ab F)));have d4:=af.o.fy (a:=aq.i+2) bU;refine c3 (ea (X (m af.jY) (X (m af.cD) a5)) (show 2<aa by decide)) (Z (p.i+1) (a'+aj.length) bO bP cg ((dT.cb aW (a:=λy=>y=bQ) (λ_ _=>ed) λy ae N=>by have:=bM _ N;exact(aS (H 2 (E 1 this ae))).elim).az af.o) (bJ 1 (H 4 (E 2 (t ag bG) (D h)))) af.DS af.b7 af.bj af.jv (cZ dX _) (bJ 3 (cZ cH _)) ?_);refine⟨p.i,bY,[x (k.i+1)],cS,(av::aI).map (·.cW),aV "=",bJ 1 (H 2 (E 2 (t ag bG) (D h))),H 2 (E 2 (t ag bG) (D h)),eT.G af.o (bU _ (bJ 1 (H 2 (E 2 (t ag bG) (D h))))),cu.G af.o (bU _ (H 2 (E 2 (t ag bG) (D h)))),(show 1<100 by decide),eV.fy d4,eO,by exact c (au ..)<|ax,by exact c (au ..)<|c ax<|ah (al 1 bA.1) rfl,λv y aM ae d6=>?_⟩;refine hK ae λF d7=>?_;have br:=bF d7;have fc:F.eo=aM:=by rw[<-dB,dp,d7] at d6;exact bm d6
 refine bp fc<|g3 (dZ F br) λJ be aY=>⟨F.e3,F.cp,mM F.eo,J,be,a'+aj.idxOf F.e3,ls F.eo,(cC.rb F br).fy d4,aY.G af.o (bU _ (by have:=bM _ (bN F br);exact this)),?_,?_,XF _,by have:=vt F.eo;exact ah (al 1 this) rfl,rfl⟩
 ·exact c (iH g6) (c (aZ (df F br).1) (c ((df F br).2) rfl))
 unfold ls;split
 ·exact ap rfl
 exact ar rfl
structure dB where
 aL:e
 ao:r e
 eR:r e
 hG:e
 fO:e
variable {gI:dB} {eJ:r dB} {df:dB->a6 e} {af:dB} {ad:r dB}
noncomputable abbrev iS (N:dB) (m:e):dY:=V [I N.aL,x m,S (bg N.eR),I N.hG,I N.fO]
structure hc (C:e) (N:dB):Prop where
 uP:N.aL<=8
 bU:∀W∈N.ao,W<C
 s8:N.aL=0->N.ao=[]
 rE:N.aL=3->N.ao≠[]
 eL:4<=N.aL->∃W,N.ao=[W]
 cL:N.aL=4->∃P K,P<5/\K<5/\(N.eR=[P]\/N.eR=[P,K])
 bM:N.hG<=64
 qn:N.aL=7->N.fO<4
 qo:N.aL=8->N.fO<3
 lW:N.aL≠4->N.eR=[]
theorem hc.a0 (J:hc a af) (T:a<=d):hc d af:=⟨J.uP,λW q=>gy (J.bU W q) T,J.s8,J.rE,J.eL,J.cL,J.bM,J.qn,J.qo,J.lW⟩
structure gj (T:K) (Q:e):Prop where
 td:0<Q
 cp:∃cp:r B,M T Q (V (cp.map j))/\cp.length<1000
theorem gj.bj (U:gj b a):a<b.i:=by refine ax U.cp λX v _=>?_;exact v.bj
theorem gj.G (U:gj b a) (W:aE c7 b aj) (Y:¬c7 a):gj aj a:=by refine ax U.cp λX v D=>?_;exact⟨U.td,X,v.G W Y,D⟩
theorem ER (U:q->K->Prop) (N:∀J k,U J k->an J k) (Z:∀y:q->K->Prop,(∀J k,U J k->y J k)->aM l A h b y):aM l A h b an:=Z an N
structure ml (T H:K) (Q:e):Prop where
 o:aE (λa=>a=Q) T H
 i:H.i=T.i
 P:gj H Q
def oJ (D:b4):Prop:=∀(Q M:e) (T:K) (G:q->K->Prop),gj T Q->0<M->(∀(v:e) (H:K),v<M->ml T H Q->G (I v) H)->D 110 [x Q,I M] T G
theorem t7 (M:cv aO):oJ (bC aO (a+1)):=by intro Q b T G U N Z;refine ax U.cp λX v D=>VH M Q X b T G v U.td (by unfold aa;exact ah D rfl) (Dn N) λv k H o m W C c=>Z v H (C0 o) ⟨W,C,U.td,k,c,E 1 m D⟩
theorem z4 (k:ag l h b A (aK bt)) (p:bt=true->aM l aw h b an) (a:bt=false->aM l dI h b an):aM l (.bc A aw dI) h b an:=k _ (by
 cases bt with
 |true=>exact p rfl
 |false=>exact a rfl)
theorem nT (U:oJ l) (J:h 0=g (x a)) (c:gj b a) (N:0<d) (Z:∀(v:e) (H:K),v<d->ml b H a->an (I v) H):aM l (bh 110 (n (f 0) (n (u (j d)) z))) h b an:=fa J (U a d b an c N Z)
theorem ET (U:oJ l) (J:h 0=g (x a)) (o:h 1=g (I d)) (i:gj b a) (k:1<=d) (Z:∀(W:e) (H:K),W<d->ml b H a->an (I W) H):aM l (cT o8 (n (u (j 0)) (n (bR eE (bR eE (f 1) (u (j 1))) (bh 110 (n (f 0) (n (u (j 3)) z)))) z))) h b an:=by
 refine fa o<|(nT U (d:=3) J i (by decide) λW H _ M=>?_:aM l (bh 110 _) h b _)
 have:(if(0:B)<(d:B)- 1- (W:B) then(d:B)- 1- (W:B) else 0)=((d- 1- W:e):B):=Ss k;refine(?_:an (j (if(0:B)<(d:B)- 1- (W:B) then(d:B)- 1- (W:B) else 0)) H);exact c this<|Z _ H (K3 k) M
structure pM (b H:K) (Q h m:e) (N:dB):Prop where
 o:aE (λa=>a=Q) b H
 P:gj H Q
 F6:b.i<=h
 F7:b.i<=m
 FO:M H h (iS N m)
 FV:M H m (V (bg N.ao))
theorem ux {W:b0} (k:ag l h b A (I a)) (p:kf l h b W (bg Q)) (D:(bg Q).length<aa) (m:∀H,aE ca b H->ag l h H aw (S (bg aB))) (v:∀H,aE ca b H->ag l h H dI (I d)) (P:∀H,aE ca b H->ag l h H vH (I w)) (Z:∀H,sC b H (bg Q) (iS ⟨a,Q,aB,d,w⟩ b.i)->an (x (b.i+1)) H):aM l (.V (n A (n (.V W) (n aw (n dI (n vH z)))))) h b an:=k _ (p _ ⟨D,cJ λk X=>m k X.o _ (v k X.o _ (P k X.o _ ⟨show 5<aa by decide,cJ λp q=>by exact c X.i<|Z p (X.cJ q)⟩))⟩)
theorem EV (q:oJ l) (J:h 0=g (x a)) (U:gj b a) (t:0<d) (k:ag l h b A (I w)) (p:kf l h b vH (bg Q)) (D:(bg Q).length<aa) (m:∀H,ag l h H aw (S (bg aB))) (v:∀H,ag l h H dI (I Z)) (y:∀H C,C<d->pM b H a (b.i+1) b.i ⟨w,Q,aB,Z,C⟩->an (x (b.i+1)) H):aM l (.V (n A (n (.V vH) (n aw (n dI (n (bh 110 (n (f 0) (n (u (j d)) z))) z)))))) h b an:=k _ (p _ ⟨D,cJ λk X=>m k _ (v k _ (nT q J (U.G X.o id) t λC p E M=>⟨show 5<aa by decide,cJ λm N=>by refine c M.i (c X.i ?_);have F:=U.bj;refine y m C E ⟨(X.o.cb M.o (λ_ _=>ed) (λ_ _ b=>b)).az (N.o.a0 λ_ _=>ed),M.P.G N.o id,ge _,bv _,by exact bp X.i<|bp M.i<|N.aF,(X.aF.G M.o (by refine(?_:¬_=_);exact a3 F)).G N.o id⟩⟩))⟩)
theorem QS (t:oJ l) (J:h 0=g (x a)) (U:gj b a) (y:0<d) (k:ag l h b A (I w)) (p:kf l h b vH (bg Q)) (D:(bg Q).length<aa) (m:∀H,ag l h H aw (S (bg aB))) (v:∀H,ag l h H dI (I Z)) (C:∀H q,q<d->pM b H a (b.i+1) b.i ⟨w,Q,aB,q,Z⟩->an (x (b.i+1)) H):aM l (.V (n A (n (.V vH) (n aw (n (bh 110 (n (f 0) (n (u (j d)) z))) (n dI z)))))) h b an:=k _ (p _ ⟨D,cJ λk X=>m k _ (nT t J (U.G X.o id) y λZ p E M=>v p _ ⟨show 5<aa by decide,cJ λm N=>by refine c M.i (c X.i ?_);have F:=U.bj;refine C m Z E ⟨(X.o.cb M.o (λ_ _=>ed) (λ_ _ b=>b)).az (N.o.a0 λ_ _=>ed),M.P.G N.o id,ge _,bv _,by exact bp X.i<|bp M.i<|N.aF,(X.aF.G M.o (by refine(?_:¬_=_);exact a3 F)).G N.o id⟩⟩)⟩)
def zh (D:b4):Prop:=∀(m:e) (o:r e) (T:K) (G:q->K->Prop),(∀H,hb T H (iS ⟨2,o,[],64,0⟩ m)->G (x T.i) H)->D 113 [x m] T G
theorem x2 (M:cv aO):zh (bC aO (a+1)):=by intro m o T G Z;exact cz (M.cy 60 rfl) rfl (ch (by decide) (show 5<aa by decide) (cJ Z))
theorem ml.az (y:ml b aj a) (c:ml aj cs a):ml b cs a:=⟨y.o.az c.o,c.i.trans y.i,c.P⟩
theorem pM.mL (y:ml b aj a) (c:pM aj cs a d w af):pM b cs a d w af:=⟨y.o.az c.o,c.P,by exact bp y.i<|c.F6,by exact bp y.i<|c.F7,c.FO,c.FV⟩
theorem sC.jP (U:gj b a) (X:sC b aj (bg af.ao) (iS af b.i)):pM b aj a (b.i+1) b.i af:=⟨X.o.a0 λ_ _=>ed,U.G X.o id,ge _,bv _,X.aF,X.cp⟩
def DJ (D:b4):Prop:=∀(Q v:e) (T:K) (G:q->K->Prop),gj T Q->1<=v->(∀H h m N,pM T H Q h m N->hc v N->N.aL≠0->N.ao.length<=2->G (x h) H)->D 114 [x Q,I v] T G
theorem VK (af:oJ l) (a3:zh l) (aQ:gj b a) (aS:1<=d) (aj:∀H aU a9 N,pM b H a aU a9 N->hc d N->N.aL≠0->N.ao.length<=2->an (x aU) H):a7 l D5 ((bu.aP (λ_=>R) 0 (x a)).aP 1 (I d)) b (x1 an):=by
 refine fA (ER (λJ k=>∃av,J=I av/\av<9/\ml b k a) ?_ λa' C=>z4 (jc (m rfl) U) (λ_=>nT af rfl aQ (by decide) λav k bb aq=>C _ _ (d7 av rfl bb aq)) λ_=>C _ _ ⟨8,rfl,by decide,.dO,rfl,aQ⟩);refine λ_ k aD=>eT aD λav t _ aq=>?_;refine c t ?_;have ay:∀(p:e) (aE:r e),(∀W∈aE,W<d)->hc d ⟨1,aE,[],64,p⟩:=λp aE be=>⟨(show 1<=8 by decide),be,λb=>absurd b (by refine(?_:¬1=0);decide),λb=>absurd b (by refine(?_:¬1=3);decide),λb=>absurd b (by refine(?_:¬4<=1);decide),λb=>absurd b (by refine(?_:¬1=4);decide),bv _,λb=>absurd b (by refine(?_:¬1=7);decide),λb=>absurd b (by refine(?_:¬1=8);decide),λ_=>rfl⟩;have bk:∀H,ag l _ H (.S z) (S (bg [])):=λH=>ea (h:=bu.aP (λ_=>R) 0 (x a)) a5 (by decide);refine ec (cx (m rfl) U) (λ_=>hu (ux (Q:=[]) (aB:=[]) (a:=1) (d:=64) (w:=0) U a5 (by decide) (λ_ _=>ea a5 (by decide)) (λ_ _=>U) (λ_ _=>U) λai aw=>aj ai (k.i+1) k.i ⟨1,[],[],64,0⟩ (.mL aq (aw.jP aq.P)) (ay 0 [] (by simp)) (by refine(?_:¬1=0);decide) (c8 _))) λ_=>eV ?_;refine fA (ET af rfl rfl aq.P aS λW ai q aV=>?_);have M:=aq.az aV;clear aq aV bk;have T:∀F:e,(bg [F]).length<aa:=λ_=>show 1<aa by decide
 have aG:∀(Y p:e),Y≠4->Y≠0->Y<=8->(Y=7->p<4)->(Y=8->p<3)->hc d ⟨Y,[W],[],64,p⟩:=λY p v ay bl bp bq=>⟨bl,sH q,λb=>absurd b ay,λ_=>qA _ _,λ_=>⟨W,rfl⟩,λb=>absurd b v,bv _,bp,bq,λ_=>rfl⟩;refine ec (cx (m rfl) U) (λ_=>hu ?_) λ_=>eV ?_
 ·refine sU (g5 (m6 (g5 (hE (m rfl) (g5 (ET af rfl rfl M.P aS λaW ab br A=>⟨show 2<aa by decide,cJ λv aA=>?_⟩))))));refine a3 ab.i [W,aW] v _ λaI aC=>?_;have ae:=M.az A;have aY:=ae.i;refine aj aI v.i ab.i ⟨2,[W,aW],[],64,0⟩ ⟨ae.o.az ((aA.o.az aC.o).a0 λ_ _=>ed),(ae.P.G aA.o id).G aC.o id,by exact c (aA.i ..)<|bJ 1 (D aY),D aY,aC.aF,aA.aF.G aC.o id⟩ ⟨by refine(?_:2<=8);decide,DW q br,λb=>ei b rfl,λ_=>qA _ _,λb=>absurd b (by refine(?_:¬4<=2);decide),λb=>absurd b (by refine(?_:¬2=4);decide),bv _,λb=>absurd b (by refine(?_:¬2=7);decide),λb=>absurd b (by refine(?_:¬2=8);decide),λ_=>rfl⟩ (by refine(?_:¬2=0);decide) (bv _)
 refine ec (n6 (m rfl) U) (λ_=>hu (ux (Q:=[W]) (aB:=[]) (a:=3) (d:=64) (w:=0) U (X (m rfl) a5) (T W) (λ_ _=>ea a5 (by decide)) (λ_ _=>U) (λ_ _=>U) λab aw=>aj ab (ai.i+1) ai.i ⟨3,[W],[],64,0⟩ (.mL M (aw.jP M.P)) (aG 3 0 (by decide) (by decide) (by decide) (by decide) (by decide)) (by refine(?_:¬3=0);decide) (ge _))) λ_=>eV ?_;refine ec (n6 (m rfl) U) (λ_=>?_) λ_=>eV ?_
 ·refine fA (nT af rfl M.P (by decide) λah ab aM A=>fA (nT af rfl A.P (by decide) λK v _ ae=>?_));have bt:=M.az (A.az ae);refine fA (ER (λJ H=>∃au,J=S (bg au)/\(∃ah K,ah<5/\K<5/\(au=[ah]\/au=[ah,K]))/\H=v) ?_ λa' C=>z4 (n6 (m rfl) U) (λE=>hE (ea (X (m rfl) (X (m rfl) a5)) (show 2<aa by decide)) (C _ _ (d7 ([ah,K]) rfl ⟨ah,K,aM,by have:=dq E;exact K4 this,ar rfl⟩ rfl))) λ_=>hE (ea (X (m rfl) a5) (show 1<aa by decide)) (C _ _ (d7 ([ah]) rfl ⟨ah,ah,aM,aM,ap rfl⟩ rfl)));refine λ_ _ aD=>eT aD λau t bw bx=>?_;refine c t ?_;exact c bx<|hu (QS af (Q:=[W]) (aB:=au) (w:=4) (Z:=0) rfl ae.P (by decide) U (X (m rfl) a5) (T W) (λ_=>m rfl) (λ_=>U) λaI bz bA ax=>aj aI _ _ ⟨4,[W],au,bz,0⟩ (.mL bt ax) ⟨by refine(?_:4<=8);decide,sH q,λb=>ei b rfl,λ_=>qA _ _,λ_=>⟨W,rfl⟩,λ_=>bw,j' bA,λb=>absurd b (by refine(?_:¬4=7);decide),λb=>absurd b (by refine(?_:¬4=8);decide),λb=>absurd rfl b⟩ (by refine(?_:¬4=0);decide) (ge _))
 refine ec (cx (m rfl) U) (λ_=>hu (ux (Q:=[W]) (aB:=[]) (a:=1) (d:=64) (w:=0) U (X (m rfl) a5) (T W) (λ_ _=>ea a5 (by decide)) (λ_ _=>U) (λ_ _=>U) λab aw=>aj ab (ai.i+1) ai.i ⟨1,[W],[],64,0⟩ (.mL M (aw.jP M.P)) (ay 0 [W] (sH q)) (by refine(?_:¬1=0);decide) (ge _))) λ_=>eV ?_;refine ec (cx (m rfl) U) (λ_=>hu (EV af (Q:=[W]) (aB:=[]) (w:=7) (Z:=64) rfl M.P (by decide) U (X (m rfl) a5) (T W) (λ_=>ea a5 (by decide)) (λ_=>U) λab p aO ax=>aj ab (ai.i+1) ai.i ⟨7,[W],[],64,p⟩ (.mL M ax) (aG 7 p (by decide) (by decide) (by decide) (λ_=>aO) (λb=>absurd b (by decide))) (by refine(?_:¬7=0);decide) (ge _))) λ_=>eV ?_;refine fA (QJ (ea (X U (X U (X U (X U a5)))) (show 4<aa by decide)) (nT af rfl M.P (by decide) λF ab y A=>?_));have ae:=M.az A;have bB:∃Y:e,[I 8,I 8,I 5,I 6][F]? =g (I Y)/\Y≠4/\Y≠0/\Y<=8/\Y≠7:=by clear ae A;revert F;exact kk (a8 8 rfl (by decide)) (kk (a8 8 rfl (by decide)) (kk (a8 5 rfl (by decide)) (uU (a8 6 rfl (by decide)))))
 refine re bB λY bC bD aZ bE bF=>⟨show 4<aa by decide,fa (show my _ _=g (I Y) from bC) (hu (EV af (Q:=[W]) (aB:=[]) (w:=Y) (Z:=64) rfl ae.P (by decide) (m rfl) (X (m rfl) a5) (T W) (λ_=>ea a5 (by decide)) (λ_=>U) λv p aO ax=>aj v (ab.i+1) ab.i ⟨Y,[W],[],64,p⟩ (.mL ae ax) (aG Y p bD aZ bE (λb=>absurd b bF) (λ_=>aO)) aZ (ge _)))⟩
theorem VJ (M:cv aO):DJ (bC aO (a+2)):=λ_ _ _ _ U o Z=>cz (M.cy 61 rfl) rfl (VK (t7 M) (x2 M) U o Z)
structure cN where
 a9:e
 bU:e
 J:dB
variable {fX:r (e×cN)} {bD:cN} {a':r cN}
noncomputable def cN.cU (N:cN) (o:r e):cN:=⟨N.a9,N.bU,⟨N.J.aL,o,N.J.eR,N.J.hG,N.J.fO⟩⟩
structure cO (T:K) (c k:e) (b:r cN):Prop where
 cW:M T k (V (b.map λN=>x N.a9))
 a9:∀N∈b,M T N.a9 (iS N.J N.bU)/\M T N.bU (V (bg N.J.ao))
 cp:∀N∈b,c<=N.a9/\c<=N.bU
 dN:(b.map (·.a9)).Nodup
 cJ:(b.map (·.bU)).Nodup
 ic:c<=k
 jb:0<c
theorem cO.d8 (m:cO b a d a') {h:cN} (A:bD∈a') (p:h∈a'):d≠bD.a9/\d≠bD.bU/\bD.a9≠h.bU:=by
 have U:=m.cW;obtain⟨q,c,rfl⟩:∃q c,a'=q::c:=by
  cases a' with
  |nil=>exact em A
  |cons y P=>exact js y P rfl
 refine ch (λF=>?_) (λF=>?_) (λF=>?_)
 ·rw[F] at U;have:=U.cm (m.a9 bD A).1;injection this with this;injection this with this _;exact l1 this rfl
 ·rw[F] at U
  have:=U.cm (m.a9 bD A).2
  injection this with this
  cases Y:bD.J.ao with
  |nil=>rw[Y] at this;exact rW this
  |cons y P=>rw[Y] at this;injection this with this _;exact l1 this rfl
 ·have k:=(m.a9 bD A).1
  rw[F] at k
  have:=k.cm (m.a9 h p).2
  injection this with this
  cases Y:h.J.ao with
  |nil=>rw[Y] at this;exact rW this
  |cons y P=>
   rw[Y] at this;injection this with _ this
   cases P with
   |nil=>exact rW this
   |cons i P=>injection this with this _;exact l1 this rfl
theorem cO.G (m:cO b a d a') (W:aE c7 b aj) (Y:∀y,a<=y->¬c7 y):cO aj a d a':=⟨m.cW.G W (Y _ m.ic),λN A=>⟨(m.a9 N A).1.G W (Y _ (m.cp N A).1),(m.a9 N A).2.G W (Y _ (m.cp N A).2)⟩,m.cp,m.dN,m.cJ,m.ic,m.jb⟩
theorem cO.mn (m:cO b a d a') (X:e8 b aj d (V (a'.map (λaf=>x af.a9)++[x w]))) (C:a'≠[]) (Q:M b w (iS af Z)) (T:M b Z (V (bg af.ao))) (l:a<=w) (k:a<=Z) (i:∀af∈a',af.a9≠w) (Y:∀af∈a',af.bU≠Z) (v:w≠d) (D:Z≠d):cO aj a d (a'++[⟨w,Z,af⟩]):=by
 refine⟨by refine c (eq ..) ?_;exact X.aF,λh p=>?_,λh p=>?_,?_,?_,m.ic,m.jb⟩
 ·exact bi (d2.mp p) (λp=>⟨(m.a9 h p).1.G X.o (m.d8 p p).1.symm,(m.a9 h p).2.G X.o (m.d8 p p).2.1.symm⟩) λp=>gR p<|⟨Q.G X.o v,T.G X.o D⟩
 ·exact bi (d2.mp p) (λp=>m.cp h p) λp=>gR p<|⟨l,k⟩
 ·rw[eq,iA];refine ch m.dN (il _ _) (λy U P E F=>?_);refine ax (e5.mp U) λh p q=>?_;subst q;simp at E;subst E;exact i h p F
 rw[eq,iA];refine ch m.cJ (il _ _) (λy U P E F=>?_);refine ax (e5.mp U) λh p q=>?_;subst q;simp at E;subst E;exact Y h p F
theorem o9 (T:l5∈dA.set a dH):l5=dH\/∃w,w≠a/\dA[w]? =g l5:=by
 refine aU (j9.mp T) λw W=>?_;rw[tJ] at W;split at W
 ·split at W
  ·exact ap (bm W).symm
  exact ce W
 exact ar (a8 w (λF=>‹¬a=w› F.symm) W)
theorem vh (o:dA[a]? =g l5) (T:mO dH=mO l5):(dA.set a dH).map mO=dA.map mO:=by
 refine c (kx ..) (c T ?_);refine Ia λw=>c (tJ ..) ?_;split
 ·subst_vars;refine c (dp ..) (c o ?_);simp[(co.mp o).1]
 rfl
theorem cO.Bl (m:cO b a d a') (A:a'[w]? =g bD) (X:e8 b aj bD.bU (V (bg Q))):cO aj a d (a'.set w (bD.cU Q)):=by
 have N:=bF A;refine⟨by exact c (vh (dH:=bD.cU Q) A rfl)<|m.cW.G X.o (m.d8 N N).2.1,λh p=>?_,λh p=>?_,by exact c (vh (dH:=bD.cU Q) A rfl)<|m.dN,by exact c (vh (dH:=bD.cU Q) A rfl)<|m.cJ,m.ic,m.jb⟩
 ·rcases o9 p with rfl|⟨i,W,p⟩
  ·exact⟨(m.a9 bD N).1.G X.o (m.d8 N N).2.2,X.aF⟩
  have l:=bF p;refine⟨(m.a9 h l).1.G X.o (m.d8 l N).2.2,(m.a9 h l).2.G X.o λF=>W ?_⟩;have D:i<(a'.map (·.bU)).length:=by exact c (au ..)<|(co.mp p).1
  exact(r7 D m.cJ).mp (by exact c (dp ..)<|c (dp ..)<|c A<|c p<|congrArg g F)
 rcases o9 p with rfl|⟨i,_,p⟩
 ·exact m.cp bD N
 exact m.cp h (bF p)
theorem jX (m:cO b a d a') (D:a'.length<1000) (K:ag l h b A (x d)) (o:ag l h b aw (I w)) (i:a'[w]? =g bD):ag l h b (as A aw) (x bD.a9):=e4 K o m.cW (by refine c (au ..) ?_;unfold aa;exact ah D rfl) (by refine c (dp ..) (c i ?_);rfl)
theorem u7 (m:cO b a d a') (c:bD∈a') (K:ag l h b A (x bD.a9)):ag l h b (as A (u (j 0))) (I bD.J.aL):=e4 (d:=0) K U (m.a9 bD c).1 (show 5<aa by decide) rfl
theorem lX (m:cO b a d a') (c:bD∈a') (K:ag l h b A (x bD.a9)):ag l h b (as A (u (j 1))) (x bD.bU):=e4 (d:=1) K U (m.a9 bD c).1 (show 5<aa by decide) rfl
theorem Ut (m:cO b a d a') (c:bD∈a') (K:ag l h b A (x bD.a9)):ag l h b (as A (u (j 2))) (S (bg bD.J.eR)):=e4 (d:=2) K U (m.a9 bD c).1 (show 5<aa by decide) rfl
theorem Uk (m:cO b a d a') (c:bD∈a') (K:ag l h b A (x bD.a9)):ag l h b (as A (u (j 3))) (I bD.J.hG):=e4 (d:=3) K U (m.a9 bD c).1 (show 5<aa by decide) rfl
theorem abI (m:cO b a d a') (c:bD∈a') (K:ag l h b A (x bD.a9)):ag l h b (as A (u (j 4))) (I bD.J.fO):=e4 (d:=4) K U (m.a9 bD c).1 (show 5<aa by decide) rfl
theorem kQ (m:cO b a d a') (D:a'.length<1000) (K:ag l h b A (x d)):ag l h b (cT bo (n A z)) (I a'.length):=by have:=kp K m.cW (by refine c (au ..) ?_;unfold aa;exact ah D rfl);rw[au] at this;exact this
structure f0 where
 eh:e
 iD:e
 jZ:e
 j3:e
 nV:e
 eo:e
variable {b3:f0}
noncomputable def iw (t:f0):r (q×q):=[(aV "tab",x t.eh),(aV "shut",I t.jZ),(aV "whole",I t.j3),(aV "first",I t.nV),(aV "rows",x t.iD),(aV "spot",I t.eo)]
structure m4 (t:f0):Prop where
 jZ:t.jZ<8
 j3:t.j3<64
 nV:t.nV<64
 eo:t.eo<5
structure sF (y:e) (b:r cN):Prop where
 bo:b.length=y+1
 cI:∃N,b[0]? =g N/\N.J=⟨0,[],[],64,0⟩
 dD:∀N∈b,hc (y+1) N.J
 fV:∀(v:e) N,b[v]? =g N->N.J.aL≠3->∀W∈N.J.ao,W<v
 c:∀N∈b,N.J.ao.length<=4
structure zb (h t b:K) (Q k:e) (C:e) (a:r cN):Prop where
 o:aE (λd=>d=Q) h b
 l2:aE (λd=>d=Q\/d=k) t b
 f5:Q<h.i
 P:gj b Q
 ef:cO b h.i k a
 bo:a.length=C+1
 cI:∃N,a[0]? =g N/\N.J=⟨0,[],[],64,0⟩
 dD:∀(v:e) N,a[v]? =g N->0<v->hc v N.J
 c:∀N∈a,N.J.ao.length<=2
 gr:∀N∈a,N.J.aL=3->t.i<=N.bU
theorem VB (aQ:DJ l) (ag:bu->Prop) (J:∀h,ag h->h 0=g (x a)/\h 1=g (x d)/\h 2=g (I w)) (q:∀h aU,ag h->ag (h.aP 4 aU)) (W:ag h) (ay:w<=7) (H:zb b aj cs a d 0 a') (Z:∀h cs ae,ag h->zb b aj cs a d w ae->a7 l aC h cs aA):a7 l (s (el dk 4 (n (u (j 1)) (n (bR c9 (f 2) (u (j 1))) z)) (s (du (b1 57 (f 1) (n (bh 114 (n (f 0) (n (f 4) z))) z))) L)) aC) h cs aA:=by
 refine Ba w (ah (al 1 ay) rfl) (λai h cs=>ag h/\∃ae,zb b aj cs a d ai ae) U (mE (m (J h W).2.2) U) ⟨W,a',H⟩ ?_ λh cs aV=>wW aV λW ae Q=>Z h cs ae W Q;refine λai h cs bq aW aY Y=>wW aY λW ae Q=>?_;have aB:=J _ (q h (I (ai+1)) W);have aE:=Q.ef.cW.bj;have K:=Q.ef.ic;have aF:=Q.ef.jb;have T:=Q.bo;refine fa aB.2.1 ⟨mB Q.ef.cW (t aF K) (ap rfl),g5 (fG (X (m aB.1) (X (m rfl) a5)) (aQ a (ai+1) cs _ Q.P (eH _) λp y aG aZ af a0 br bb=>?_))⟩;have aI:=Q.f5;have be:a≠d:=aD (t aI K);have aq:=Q.ef.G af.o λbg av F=>aS (t (t aI av) (ab F));refine c4 aq.cW (ch (t aF K) (by refine c (au ..) ?_;unfold aa;exact ah (al 1 (t (t (ab T) aW) ay)) rfl) (hJ aq.cW λbt N=>?_));have C:ae≠[]:=λF=>by rw[F] at T;exact ei T rfl
 have aw:=af.F6;have k:=af.F7;have aL:∀aC∈ae,aC.a9<cs.i/\aC.bU<cs.i:=λaC A=>⟨(Q.ef.a9 aC A).1.bj,(Q.ef.a9 aC A).2.bj⟩;have aM:=Q.o.cq;have M:=aq.mn N C af.FO af.FV (t aM aw) (t aM k) (λaC A F=>by have:=(aL aC A).1;exact aS (E 1 (t aw (D F)) this)) (λaC A F=>by have:=(aL aC A).2;exact aS (E 1 (t k (D F)) this)) (a3 (t aE aw)) (a3 (t aE k));refine Y.dK _ _ ⟨q _ _ W,ae++[⟨y,aG,aZ⟩],(Q.o.az af.o).cb N.o (λ_ _ cs=>cs) (λbg av F=>(aS (t (E 1 (D F) av) K)).elim),(Q.l2.cb af.o (λ_ _ cs=>cs) λ_ _=>ap).cb N.o (λ_ _ cs=>cs) λ_ _=>ar,Q.f5,af.P.G N.o be,M,by refine c (dw ..) (c T ?_);rfl,?_,?_,?_,?_⟩
 ·refine ax Q.cI λbk bl p=>a8 bk (by exact c (iz (E 1 (c8 _) (D T)))<|bl) p
 ·intro v aC ao b;by_cases aO:v<ae.length
  ·rw[iz aO] at ao;exact Q.dD v aC ao b
  have:=(co.mp ao).1;simp only[dw,l9] at this;obtain rfl:v=ai+1:=d4 (ep 1 (d9 1 this (ab T))) (t (D T) (qq aO));rw[oq (ab T),T,pA] at ao;refine bp (bm ao)<|a0
 ·intro aC A;exact bi (d2.mp A) (λA=>Q.c aC A) λA=>gR A<|bb
 intro aC A;refine bi (d2.mp A) (λA=>Q.gr aC A) λA=>?_;refine gR A ?_;intro _;have:=Q.l2.cq;refine(?_:aj.i<=aG);exact t this k
theorem m7 (U:oJ l) (k:ag l h b A (x a)) (p:ag l h b aw (I d)) (c:gj b a) (N:0<d) (Z:∀(v:e) (H:K),v<d->ml b H a->an (I v) H):aM l (bh 110 (n A (n aw z))) h b an:=k _ (p _ (U a d b an c N Z))
theorem AC (N:d<2^40) (Q:e->bu->K->Prop) (p:Q 0 h b) (T:∀(w:e) h b F,w<d->Q w h b->lL l dd aA F (Q (w+1))->a7 l aC (h.aP a (I w)) b F) (y:∀h b,Q d h b->a7 l dd h b aA):g4 dk (S [I d]) b λt k=>∃C,ip (λh b aA=>a7 l aC h b aA) (λJ h _ aA=>aA (h.aP a J)) C t h k (gc l dd aA):=(ch (xm N) xn (Af Q p (λw h b F W o m E i=>by exact c (BJ ..)<|T w h b F (C5 W) o ⟨λh b w=>(m h b w).1,λh b w=>(m h b w).2,E,i⟩) λh b v=>y h b (by rw[H6,qz] at v;exact v)))
theorem ta (v:M b a (V ai)) (K:0<a) (D:ai.length<aa) (Z:∀H,e8 b H a (V (ai++[C]))->an bI H):o' l 57 (x a) [C] b an:=c4 v (ch K D (hJ v Z))
theorem rh (w:ag l h b A (x a)) (N:s' d (x a) b) (Z:aM l aw h b λJ k=>o' l d (x a) [J] k an):aM l (b1 d A (n aw z)) h b an:=w _ ⟨N,Z⟩
theorem wE (F:am+bx=a) (Z:an (I a) b):mo c9 (j am) (j bx) b an:=by refine(?_:an (j (am+bx)) b);exact c F<|Z
theorem D6 (F:am- bx=a) (Z:an (I a) b):mo eE (j am) (j bx) b an:=by refine(?_:an (j (am- bx)) b);exact c F<|Z
structure jG (h t b:K) (Q k y:e) (l:e->e) (a:r cN):Prop where
 o:aE (λd=>d=Q) h b
 l2:aE (λd=>d=Q\/d=k) t b
 f5:Q<h.i
 P:gj b Q
 ef:cO b h.i k a
 bo:a.length=y+1
 cI:∃N,a[0]? =g N/\N.J=⟨0,[],[],64,0⟩
 dD:∀(v:e) N,a[v]? =g N->0<v->hc (y+1) N.J
 fV:∀(v:e) N,a[v]? =g N->N.J.aL≠3->∀o∈N.J.ao,o<v
 c:∀(v:e) N,a[v]? =g N->N.J.ao.length<=l v
 gr:∀N∈a,N.J.aL=3->t.i<=N.bU
theorem jG.e' {H:K} (Q:jG b aj cs a d w dn a') (A:a'[Z]? =g bD) (T:bD.J.aL=3) (ae:bA<=w) (X:e8 cs H bD.bU (V (bg bD.J.ao++[I bA]))):jG b aj H a d w (λm=>if m=Z then dn Z+1 else dn m) (a'.set Z (bD.cU (bD.J.ao++[bA]))):=by
 have N:=bF A;have ai:=(co.mp A).1;have v:=(Q.ef.cp bD N).2;have i:=Q.gr bD N T;have F:bg bD.J.ao++[I bA]=bg (bD.J.ao++[bA]):=F4;rw[F] at X;have l:0<Z:=by
  rcases vY Z with rfl|cs
  ·refine ax Q.cI λq k p=>?_;rw[bm (A.symm.trans k),p] at T;exact ei T rfl
  exact cs
 have aa:∀{m:e} {h:cN},(a'.set Z (bD.cU (bD.J.ao++[bA])))[m]? =g h->(m=Z/\h=bD.cU (bD.J.ao++[bA]))\/(m≠Z/\a'[m]? =g h):=λ{m h} W=>by
  rw[tJ] at W;split at W
  ·rename_i F;exact ap ⟨F.symm,(bm W).symm⟩
  rename_i F;exact ar ⟨λaf=>F af.symm,W⟩
 have ag:=Q.f5;refine⟨Q.o.cb X.o (λ_ _ cs=>cs) (λy U F=>(aS (E 1 (t v (D F)) U)).elim),Q.l2.cb X.o (λ_ _ cs=>cs) (λy U F=>(aS (t (E 1 (D F) U) i)).elim),Q.f5,Q.P.G X.o (aD (t ag v)),Q.ef.Bl A X,by rw[mR];exact Q.bo,?_,?_,?_,?_,?_⟩
 ·refine ax Q.cI λq k p=>a8 q (by rw[qB (a3 l)];exact k) p
 ·intro m h W b;rcases aa W with⟨rfl,rfl⟩|⟨_,W⟩
  ·have M:=Q.dD m bD A l;exact⟨M.uP,λah Y=>by refine bi (d2.mp Y) (λY=>?_) λY=>?_;{exact M.bU ah Y};{rw[e6] at Y;exact al 1 (t (ab Y) ae)},λcs=>absurd (T.symm.trans cs) (aQ rfl),λ_=>BK _ (qA _ _),λcs=>absurd (T▸cs) (aQ rfl),M.cL,M.bM,M.qn,M.qo,M.lW⟩
  exact Q.dD m h W b
 ·intro m h W b;rcases aa W with⟨rfl,rfl⟩|⟨_,W⟩
  ·exact absurd T b
  exact Q.fV m h W b
 ·intro m h W;rcases aa W with⟨rfl,rfl⟩|⟨C,W⟩
  ·have:=Q.c m bD A;simp[cN.cU];exact this
  show _<=if m=Z then _ else _;rw[ay C];exact Q.c m h W
 intro h W;refine aU (j9.mp W) λm W=>?_;rcases aa W with⟨rfl,rfl⟩|⟨_,W⟩
 ·exact λ_=>i
 exact Q.gr h (bF W)
theorem jG.a0 (Q:jG b aj cs a d w dn a') (M:∀v,dn v<=iV v):jG b aj cs a d w iV a':=⟨Q.o,Q.l2,Q.f5,Q.P,Q.ef,Q.bo,Q.cI,Q.dD,Q.fV,λv N h=>ej (Q.c v N h) (M v),Q.gr⟩
theorem jG.mL {H:K} (Q:jG b aj cs a d w dn a') (M:ml cs H a):jG b aj H a d w dn a':=⟨Q.o.az M.o,Q.l2.cb M.o (λ_ _ cs=>cs) λ_ _=>ap,Q.f5,M.P,Q.ef.G M.o λy U F=>by have:=Q.f5;exact aS (E 1 (t U (ab F)) this),Q.bo,Q.cI,Q.dD,Q.fV,Q.c,Q.gr⟩
theorem VC (o:oJ l) (T:bu->Prop) (ag:∀h,T h->h 0=g (x a)/\h 1=g (x d)/\h 2=g (I w)) (q:∀h ax,T h->T (h.aP 4 ax)/\T (h.aP 5 ax)) (W:T h) (G:w<=7) (H:jG aj cs b a d w (λ_=>2) a') (Z:∀h b ae,T h->jG aj cs b a d w (λ_=>4) ae->a7 l aC h b aA):a7 l (s (el dk 4 (n (u (j 1)) (n (bR c9 (f 2) (u (j 1))) z)) (s (bc (aJ bL (as (as (f 1) (f 4)) (u (j 0))) (u (j 3))) (s (el dk 5 (n (bR c9 (u (j 1)) (bh 110 (n (f 0) (n (u (j 2)) z)))) z) (s (du (b1 57 (as (as (f 1) (f 4)) (u (j 1))) (n (bR eE (f 2) (bh 110 (n (f 0) (n (bR c9 (f 2) (u (j 1))) z)))) z))) L)) L) L) L)) aC) h b aA:=by
 refine Ba w (ah (al 1 G) rfl) (λaf h b=>T h/\∃ae,jG aj cs b a d w (λv=>if v<=af then 4 else 2) ae) U (mE (m (ag h W).2.2) U) ⟨W,a',H.a0 λv=>by(repeat' split)<;>exact eF rfl⟩ ?_ λh b ai=>wW ai λW ae Q=>Z h b ae W (Q.a0 λv=>by(repeat' split)<;>exact eF rfl);refine λaf h b a3 aG aq Y=>wW aq λW ae Q=>?_;have av:=(q h (I (af+1)) W).1;have i:=ag _ av;have aI:af+1<ae.length:=by exact c Q.bo<|al 1 aG
 have A:=cY aI;generalize a5:ae[af+1]=ay at A;have D:=Q.bo;have y:∀E,jG aj cs b a d w (λv=>if v<=af then 4 else 2) E->jG aj cs b a d w (λv=>if v<=af+1 then 4 else 2) E:=λE Q=>Q.a0 λv=>Vi;refine ec (cx (u7 Q.ef (bF A) (jX Q.ef (ah (al 1 (d9 1 (ab D) G)) rfl) (m i.2.1) (m rfl) A)) U) (λK=>?_) λ_=>eV (Y.dK _ _ ⟨av,ae,y ae Q⟩);have aO:ay.J.aL=3:=by have:=dq K;exact wp this
 have a8:∀F:e,F<2->(jG aj cs b a d w (λv=>if v<=af then 4 else 2) ae):=λ_ _=>Q;refine(mr (hE U (nT o (d:=2) i.1 Q.P (aQ rfl) λF k bb M=>?_)):aM l (bR _ _ _) _ _ _);refine wE (a:=1+F) (za) (?_:g4 dk (S [I (1+F)]) k λaS k=>∃C,ip _ _ C aS _ k _);refine AC (dd:=L) (by lia-abstractProof) (λX h b=>T h/\h 4=g (I (af+1))/\∃ae,jG aj cs b a d w (λv=>if v<=af then 4 else if v=af+1 then 2+X else 2) ae/\∃aC,ae[af+1]? =g aC/\aC.J.aL=3) ⟨av,rfl,ae,(Q.mL M).a0 λv=>by(repeat' split)<;>exact eF rfl,ay,A,aO⟩ ?_ λh b ai=>wV ai λW _ ae Q _=>Y.dK _ _ ⟨W,ae,Q.a0 λv=>by(repeat' split)<;>lia-abstractProof⟩;refine λX h b be bg aq aU=>Qu aq λW az ae Q aC A K=>?_;have aB:=(q h (I X) W).2;have i:=ag _ aB;have N:=bF A;have D:=Q.bo;have aV:=(Q.ef.a9 aC N).2;have aD:=(Q.ef.cp aC N).2;have aE:=Q.ef.jb;have aW:=Q.c _ _ A;refine kq (rh (lX Q.ef N (jX Q.ef (ah (al 1 (d9 1 (ab D) G)) rfl) (m i.2.1) (m az) A)) (mB aV (t aE aD) (ap rfl)) (mr (hE (m i.2.2) (m7 o (d:=w+1) (m i.1) (mE (m i.2.2) U) Q.P (eH _) λaw p aY M=>?_))));have aF:=Q.mL M;refine D6 (a:=w- aw) (Dp aY)<|ta (aF.ef.a9 aC N).2 (t aE aD) (by refine c (au ..) ?_;unfold aa;revert aW;(repeat' split)<;>lia-abstractProof) λbk aZ=>?_
 refine aU.dK _ _ ⟨aB,az,_,(aF.e' A K (bA:=w- aw) (mW _ _) aZ).a0 λv=>by(repeat' split)<;>lia-abstractProof,aC.cU (aC.J.ao++[w- aw]),by exact c (vU (co.mp A).1) rfl,K⟩
theorem cO.su (m:cO b a d a') (W:aE c7 b aj) (l:¬c7 d) (Y:∀N∈a',¬c7 N.a9/\¬c7 N.bU):cO aj a d a':=⟨m.cW.G W l,λN A=>⟨(m.a9 N A).1.G W (Y N A).1,(m.a9 N A).2.G W (Y N A).2⟩,m.cp,m.dN,m.cJ,m.ic,m.jb⟩
theorem cO.eh (m:cO b a d a') (p:ev b w Z bA Q):(d≠Z/\d≠bA/\d≠w)/\∀N∈a',(N.a9≠Z/\N.a9≠bA/\N.a9≠w)/\(N.bU≠Z/\N.bU≠bA/\N.bU≠w):=by
 refine ax p.lu λY _ c=>?_;have P:∀{y X},M b y (V X)->y≠bA/\y≠w:=λv=>⟨λF=>(by rw[F] at v;exact dW (v.cm p.aF) rfl),λF=>(by rw[F] at v;exact dW (v.cm c) rfl)⟩;have W:∀{y X},M b y (V X)->(∀i k,X=i::k->∀h,i≠S h)->y≠Z:=λv q F=>by
  rw[F] at v;injection v.cm p.a9 with F
  exact q _ _ F _ rfl
 refine⟨⟨W m.cW λi k F h l=>?_,P m.cW⟩,λN A=>ch ⟨W (m.a9 N A).1 λi k F h l=>?_,P (m.a9 N A).1⟩ (W (m.a9 N A).2 λi k F h l=>?_) (P (m.a9 N A).2)⟩
 ·cases a'<;>cases F;exact l1 l rfl
 ·cases F;exact l1 l rfl
 generalize N.J.ao=o at F;cases o<;>cases F;exact l1 l rfl
theorem QH (Z:aM l A h b λW k=>(match W with|S X=>X.length<=20/\dj (tg X) λU=>gG k (aT (U.foldl (λw Q=>et Q.1 Q.2 w) [])) an|_=>bK)):aM l (.aT A) h b an:=Z
theorem w1 (G:ll a=true) (Q:kf l h b A ai) (Z:∀k,hb b k (cw a [])->l (1000+16*a) (x b.i::ai) k λJ p=>(match J with|bI=>an (x b.i) p|_=>bK)):aM l (.cK a A) h b an:=⟨G,Q _ (cJ Z)⟩
theorem A' (Z:aM l A h b λJ k=>aM l aw h k λy p=>aM l dI h p λw a=>vf y w J a λv=>a7 l aC h v aA):a7 l (s (es aw dI A) aC) h b aA:=Z
theorem xy (v:M b a (aT a1)) (K:0<a) (c:q.eK C=true) (D:a1.length<aa) (Z:∀H,e8 b H a (aT (et C b2 a1))->pp H):vf (x a) C b2 b pp:=c4 v (by cases C<;>exact iq K c D (hJ v Z))
def M9 (D:b4):Prop:=∀(Q:e) (T:K) (G:q->K->Prop),gj T Q->(∀(t:f0) (w m a y:e) (b:r cN) (H:K),aE (λP=>P=Q) T H->gj H Q->m4 t->T.i<=w->T.i<=t.eh->T.i<=m->T.i<=a->ev H t.eh m a []->M H w (aT (iw t))->cO H T.i t.iD b->sF y b->4<=y->y<=7->G (x w) H)->D 128 [x Q] T G
theorem VW (aY:cv aO):M9 (bC aO (a+3)):=by
 intro au T cV bt Z;refine cz (aY.cy 75 rfl) rfl ?_;have aC:=t7 (a:=a+1) aY;have b7:=VJ (a:=a) aY;have b8:=VY (a:=a) aY;have X:=bt.bj;have b9:=bt.td;refine fA (m6 (g5 (ux (Q:=[]) (aB:=[]) (a:=0) (d:=64) (w:=0) U a5 (by decide) (λ_ _=>ea a5 (by decide)) (λ_ _=>U) (λ_ _=>U) λk aL=>⟨show 1<aa by decide,cJ λp b=>?_⟩)));have q:p.i=T.i+3:=by exact c (b.i ..) (c (aL.i ..) rfl)
 have bQ:aE ca T p:=aL.o.az b.o;refine fA (mr (hE U (m7 aC (d:=4) (m rfl) U (bt.G bQ id) (by decide) λaM l bu bw=>?_)));refine wE (a:=4+aM) (K8) ?_;have h:=bw.i;refine fA (QH (g5 (hE U (g5 (w1 rfl a5 λb' bx=>?_)))));refine b8 l.i b' _ bx.aF (dr (t (E 3 (c8 _) (D q)) (D h)) rfl) λcf cg bz bT aZ a7 aP=>?_;have W:=bx.i;have bV:aE ca l bz:=bx.o.cb bT (λ_ _ T=>T) λy ao F=>aS (E 1 (D F) ao);refine g5 (hE U (g5 (m7 aC (d:=8) (m rfl) U (bw.P.G bV id) (by decide) λC av cj a'=>?_)));refine⟨show 4<=20 by decide,cJ λck bb=>?_⟩;have bY:=bb.aF;have af:=a'.i;have ag:=bT.cq;have b0:=a'.P.G bb.o id;have cn:aE (λaw=>aw=au) bz ck:=a'.o.az (bb.o.a0 λ_ _=>ed);clear bb;have be:∀bA,bA<10->bA<aa:=λbA T=>by unfold aa;exact ah T rfl
 refine A' (m7 aC (d:=64) (m rfl) U b0 (by decide) λbB cX cu bg=>m rfl _ (U _ (xy (bY.G bg.o (a3 (H 4 (t (t (E 1 (t (E 3 X (D q)) (D h)) (D W)) ag) (D af))))) (t (t (E 1 (c8 _) (D W)) ag) (D af)) rfl (be 2 (by decide)) λcY bk=>?_)));refine A' (m7 aC (d:=64) (m rfl) U (bg.P.G bk.o (aD (H 4 (t (t (E 1 (t (E 3 X (D q)) (D h)) (D W)) ag) (D af))))) (by decide) λbD cZ cx bl=>m rfl _ (U _ (xy (bk.aF.G bl.o (a3 (H 4 (t (t (E 1 (t (E 3 X (D q)) (D h)) (D W)) ag) (D af))))) (t (t (E 1 (c8 _) (D W)) ag) (D af)) rfl (be 3 (aQ rfl)) λJ bp=>?_)));have cA:M J av.i (aT [(aV "tab",x l.i),(aV "shut",I C),(aV "whole",I bB),(aV "first",I bD)]):=bp.aF;have b2:aE (λaw=>aw=au) bz J:=(((cn.az bg.o).cb bk.o (λ_ _ T=>T) λy ao F=>(aS (t (E 1 (D F) ao) (D af))).elim).az bl.o).cb bp.o (λ_ _ T=>T) λy ao F=>(aS (t (E 1 (D F) ao) (D af))).elim;have cB:=bl.P.G bp.o (aD (H 4 (t (t (E 1 (t (E 3 X (D q)) (D h)) (D W)) ag) (D af))));clear bp bk bg bl bY b0 a';have bq:aE (λaw=>aw=au) p J:=(bw.o.az (bV.a0 λ_ _=>ed)).az b2;have bE:=aL.i;have b3:cO J T.i k.i [⟨T.i+1,T.i,⟨0,[],[],64,0⟩⟩]:=⟨b.aF.G bq (a3 (H 2 (E 2 X (D bE)))),λN A=>by
  exact gR A<|⟨(aL.aF.G b.o id).G bq (by refine(?_:¬_=_);exact a3 (bJ 1 X)),(aL.cp.G b.o id).G bq (by refine(?_:¬_=_);exact a3 X)⟩,λN A=>by
  exact gR A<|⟨ge _,bv _⟩,il _ _,il _ _,H 2 (D bE),dr (E 1 b9 X) rfl⟩
 have cC:aE (λaw=>aw=au) T J:=(bQ.a0 λ_ _=>ed).az bq;refine VB (aj:=J) b7 (λai=>ai 0=g (x au)/\ai 1=g (x k.i)/\ai 2=g (I (4+aM))/\ai 3=g (x av.i)) (λai T=>ch T.1 T.2.1 T.2.2.1) (λai _ T=>T) (iq rfl rfl rfl rfl) (y7 bu) ⟨cC,.dO,X,cB,b3,rfl,(a8 _ rfl rfl),λv N aq K=>by cases v;{cases K};{exact ce aq},λN A=>by exact gR A<|c8 _,λN A cD=>by rw[e6] at A;subst A;exact ei cD rfl⟩ λai cE bG ay ae=>?_;clear b3;refine VC aC (λai=>ai 0=g (x au)/\ai 1=g (x k.i)/\ai 2=g (I (4+aM))/\ai 3=g (x av.i)) (λai T=>ch T.1 T.2.1 T.2.2.1) (λai c0 T=>⟨T,T⟩) ay (y7 bu) (⟨ae.o,ae.l2,ae.f5,ae.P,ae.ef,ae.bo,ae.cI,λv N aq K=>(ae.dD v N aq K).a0 (H 1 (t (co.mp aq).1 (ab ae.bo))),λv N aq _=>?_,λv N aq=>ae.c N (bF aq),ae.gr⟩:jG T J cE au k.i (4+aM) (λ_=>2) bG) λai cF bG ay ae=>?_
 ·rcases vY v with rfl|K
  ·refine ax ae.cI λcH bM bN=>c (bm (aq.symm.trans bM))<|c bN<|λ_=>em
  exact(ae.dD v N aq K).bU
 have Y:∀y,l.i<=y->¬(y=au\/y=k.i):=λy ao F=>F.elim (λbO=>aS (H 3 (t (t (t (E 3 X (D q)) (D h)) ao) (ab bO)))) λbO=>aS (ep 2 (t (t (t (t (D q) (D h)) ao) (ab bO)) (ab bE)));have b4:=cA.G ae.l2 (Y _ (H 1 (t (t (D W) ag) (D af))));have cL:=(aP.G b2 (a3 (H 3 (t (E 3 X (D q)) (D h)))) (a3 (H 4 (t (E 1 (t (E 3 X (D q)) (D h)) (D W)) aZ))) (a3 (H 4 (t (E 1 (t (E 3 X (D q)) (D h)) (D W)) a7)))).G ae.l2 (Y _ (bv _)) (Y _ (H 1 (t (D W) aZ))) (Y _ (H 1 (t (D W) a7)));refine jg (m ay.2.1) (m ay.2.2.2) U b4 (t (t (E 1 (c8 _) (D W)) ag) (D af)) rfl (be 4 (aQ rfl)) λc2 aG=>?_;have cM:=cL.G aG.o (aD (t (t (D W) ag) (D af))) (by have:=aP.a9.bj;exact aD (t this (D af))) (by have:=aP.aF.bj;exact aD (t this (D af)));have aA:∀{y bP},M cF y (V bP)->y≠av.i:=λv F=>by rw[F] at v;exact dW (v.cm b4) rfl
 have cN:=ae.ef.su aG.o (aA ae.ef.cW) λN A=>⟨aA (ae.ef.a9 N A).1,aA (ae.ef.a9 N A).2⟩;refine A' (m7 aC (d:=5) (m ay.1) U (ae.P.G aG.o (aD (H 4 (t (t (E 1 (t (E 3 X (D q)) (D h)) (D W)) ag) (D af))))) (aQ rfl) λb5 cP cQ aI=>m ay.2.2.2 _ (U _ (xy (aG.aF.G aI.o (a3 (H 4 (t (t (E 1 (t (E 3 X (D q)) (D h)) (D W)) ag) (D af))))) (t (t (E 1 (c8 _) (D W)) ag) (D af)) rfl (be 5 (aQ rfl)) λb6 aW=>?_)));have cR:=(cM.G aI.o (a3 (H 3 (t (E 3 X (D q)) (D h)))) (a3 (H 4 (t (E 1 (t (E 3 X (D q)) (D h)) (D W)) aZ))) (a3 (H 4 (t (E 1 (t (E 3 X (D q)) (D h)) (D W)) a7)))).G aW.o (aD (t (t (D W) ag) (D af))) (by have:=aP.a9.bj;exact aD (t this (D af))) (by have:=aP.aF.bj;exact aD (t this (D af)));have br:=cN.G aI.o λy ao F=>aS (t (t X ao) (ab F));have aA:∀{y bP},M cP y (V bP)->y≠av.i:=λv F=>by rw[F] at v;exact dW (v.cm (aG.aF.G aI.o (a3 (H 4 (t (t (E 1 (t (E 3 X (D q)) (D h)) (D W)) ag) (D af)))))) rfl
 have cS:=br.su aW.o (aA br.cW) λN A=>⟨aA (br.a9 N A).1,aA (br.a9 N A).2⟩;have cU:M b6 av.i (aT (iw ⟨l.i,k.i,C,bB,bD,b5⟩)):=aW.aF;refine c3 (m ay.2.2.2) (Z ⟨l.i,k.i,C,bB,bD,b5⟩ av.i cf cg (4+aM) bG b6 ?_ (aI.P.G aW.o (by exact aD (H 4 (t (t (E 1 (t (E 3 X (D q)) (D h)) (D W)) ag) (D af))))) ⟨cj,cu,cx,cQ⟩ (by exact H 4 (t (t (E 1 (t (D q) (D h)) (D W)) ag) (D af))) (show T.i<=l.i by exact H 3 (t (D q) (D h))) (by exact H 4 (t (E 1 (t (D q) (D h)) (D W)) aZ)) (by exact H 4 (t (E 1 (t (D q) (D h)) (D W)) a7)) cR cU cS ⟨ae.bo,ae.cI,λN A=>?_,ae.fV,λN A=>?_⟩ (by exact bX _ _) (y7 bu))
 ·exact((ae.o.cb aG.o (λ_ _ T=>T) λy ao F=>(C6 q h W af ag ao F)).az aI.o).cb aW.o (λ_ _ T=>T) λy ao F=>C6 q h W af ag ao F
 ·refine aU (j9.mp A) λv aq=>?_;rcases vY v with rfl|K
  ·refine ax ae.cI λcH bM bN=>c (bm (aq.symm.trans bM))<|c bN<|⟨c8 _,λ_=>em,λ_=>rfl,λT=>(ei T rfl),λT=>absurd T (by refine(?_:¬4<=0);decide),λT=>(ei T rfl),bv _,λT=>(ei T rfl),λT=>(ei T rfl),λ_=>rfl⟩
  exact ae.dD v N aq K
 refine aU (j9.mp A) λv aq=>ae.c v N aq
noncomputable def cH (t:f0) (N:dB):a6 e:=if N.aL=0 then g 0 else if N.aL=1 then g (if N.ao=[] then t.nV else t.j3) else if t.eo∈N.eR then g (if N.hG<64 then N.hG else t.j3) else if N.eR.any (λI=>lq I t.eo) then g t.j3 else R
noncomputable def kV (t:f0) (N:dB):ci:=if N.aL=7 then N.fO==2 else N.aL==8&&t.jZ.testBit N.fO
noncomputable def i5 (t:f0) (N:dB):a6 e:=if N.aL=1 then g 1 else if kV t N then g 0 else R
inductive dU (Y:dB->a6 e) (b:r dB) (P:e):e->Prop where
 |eX {v M:e} {N:dB}:b[v]? =g N->Y N=g M->M.testBit P=true->dU Y b P v
 |c1 {v W:e} {N:dB}:b[v]? =g N->Y N=R->W∈N.ao->dU Y b P W->dU Y b P v
open dU (eX c1)
inductive mj (b:r dB) (a:r ci) (d:r (e×e)):e->e->Prop where
 |vd {v N:e}:(v,N)∈d->mj b a d v N
 |mK {v W N:e} {m:dB}:b[v]? =g m->a[v]? =g true->W∈m.ao->mj b a d W N->mj b a d v N
noncomputable def h' (Q:e×e):q:=S [I Q.1,I Q.2]
theorem z0 (y P:e×e) (F:h' y=h' P):y=P:=by injection F with F;injection F with M F;injection F with D _;exact Prod.ext (g6 _ _ M) (g6 _ _ D)
theorem Ax:na (I a) (bg Q)=g (decide (a∈Q)):=by
 unfold na
 refine c (aZ (show(q.eK (I a)&&w8 (bg Q))=true from dR.mpr ⟨rfl,(w9 λ_=>rfl:(bg Q).all (dJ 3)=true)⟩) ..) ?_
 congr 1
 rw[hN,Yu,vS,hB]
 exact⟨λt=>ax t λA h F=>g6 _ _ (gE.mp F)▸h,λT=>a8 a T (gE.mpr rfl)⟩
theorem Ux (C:ds.Nodup) (T:∀Q∈ds,Q.1<a/\Q.2<65):ds.length<=a*65:=by
 have:(ds.map λQ=>Q.1*65+Q.2).Nodup:=by rw[BW,Ik];refine(BW.mp C).imp_of_mem λ{y P} U E F Z=>F ?_;have:=T y U;have:=T P E;exact Prod.ext (FD (T y ‹_›).2 (T P ‹_›).2 Z).1 (FD (T y ‹_›).2 (T P ‹_›).2 Z).2
 have:=is this (C:=a*65) λW q=>by obtain⟨Q,J,rfl⟩:=e5.mp q;have:=T Q J;exact K' this.1 this.2
 rwa [au] at this
structure MC (b:r dB) (a:r ci) (c:r (e×e)) (T:K) (k l h:e) (d:bu) (H:K) (gM:e) (A D:r (e×e)):Prop where
 cI:d 0=g (x k)
 cD:d 2=g (x h)
 eD:d 3=g (x T.i)
 eW:d 4=g (x gM)
 o:aE ca T H
 gY:M H T.i (aT (d3 h' A λ_=>j 1))
 gM:M H gM (V (D.map h'))
 JE:D.length<=5000
 b7:A.Nodup
 nq:∀Q∈A,mj b a c Q.1 Q.2
 nr:∀Q∈D,mj b a c Q.1 Q.2
 tp:∀Q∈c,Q∈A\/Q∈D
 e0:∀Q∈A,∀(v:e) m,b[v]? =g m->a[v]? =g true->Q.1∈m.ao->(v,Q.2)∈A\/(v,Q.2)∈D
structure Dx (b:r dB) (a:r ci) (p:r (e×e)) (T:K) (k l h:e) (D:r (e×e)) (mh c q:e) (Z:e×e->e->Prop) (w:e) (d:bu) (H:K) (A y:r (e×e)):Prop where
 cI:d 0=g (x k)
 cD:d 2=g (x h)
 eD:d 3=g (x T.i)
 kT:d 5=g (x mh)
 o:aE ca T H
 Fx:T.i<mh
 gY:M H T.i (aT (d3 h' A λ_=>j 1))
 mh:M H mh (V (y.map h'))
 p8:c<=A.length
 sA:y.length+q<=8*(A.length- c)
 b7:A.Nodup
 nq:∀Q∈A,mj b a p Q.1 Q.2
 nr:∀Q∈y,mj b a p Q.1 Q.2
 tp:∀Q∈p,Q∈A\/Q∈D
 h9:∀Q∈D.take w,Q∈A
 e0:∀Q∈A,∀(v:e) m,b[v]? =g m->a[v]? =g true->Q.1∈m.ao->(v,Q.2)∈A\/(v,Q.2)∈D\/(v,Q.2)∈y\/Z Q v
def M1 (D:b4):Prop:=∀(k c l h:e) (b:r cN) (d:r (e×e)) (a:r ci) (T:K) (G:q->K->Prop),cO T c k b->M T l (V (d.map h'))->M T h (V (a.map aK))->a.length=b.length->b.length<=8->d.length<=8->(∀Q∈d,Q.1<b.length/\Q.2<65)->0<T.i->(∀U A H,T.i<=U->aE ca T H->M H U (aT (d3 h' A λ_=>j 1))->A.Nodup->A.length<=520->(∀v N,(v,N)∈A↔mj (b.map (·.J)) a d v N)->(∀Q∈A,Q.1<b.length/\Q.2<65)->G (x U) H)->D 119 [x k,x l,x h] T G
theorem GZ (ck:cv aO):M1 (bC aO (a+1)):=by
 intro bz cR be bA aG d aM ae cS bQ cn cp bT aW cq cu K Z;refine cz (ck.cy 66 rfl) rfl (rM λk bB=>dL (m rfl) ?_);have bU:∀v aI,mj (aG.map (·.J)) aM d v aI->v<aG.length/\aI<65:=λv aI aq=>by
  induction aq with
  |vd N=>exact cu _ N
  |mK Y _ _ _ bD=>have:=(co.mp Y).1;rw[au] at this;exact⟨this,bD.2⟩
 have aY:∀{av:r (e×e)},av.Nodup->(∀Q∈av,mj (aG.map (·.J)) aM d Q.1 Q.2)->av.length<=520:=λ{av} cx cA=>by have:=Ux cx λQ aq=>bU _ _ (cA Q aq);exact La aW this
 refine pf (λC a0 aB=>∃P av ax,MC (aG.map (·.J)) aM d ae bz be bA a0 aB P av ax/\C=2*(520- av.length)+(if ax=[] then 0 else 1)) _ ⟨be,[],d,⟨rfl,rfl,rfl,rfl,bB.o,bB.aF,cn.G bB.o id,ah cq rfl,kz,by simp,λQ aq=>.vd aq,λQ aq=>ar aq,by simp⟩,rfl⟩ ?_;rintro C a0 aB ⟨P,av,ax,af,cB⟩;have bV:(ax.map h').length<aa:=by have:=af.JE;refine c (au ..) ?_;unfold aa;exact ah (al 1 this) rfl
 refine d7 _ (tx (m af.eW) af.gM bV rfl) (λaL cU cC=>?_) (λaL=>?_)
 ·have cE:ax≠[]:=λF=>by subst F;exact eY aL
  refine nl a5 (by decide) λp bg=>?_;have a7:=af.gY.bj;refine pe (ax.map h') (λw a0 aj=>∃aA y,Dx (aG.map (·.J)) aM d ae bz be bA ax aB.i av.length 0 (λ_ _=>bK) w a0 aj aA y/\M aj P (V (ax.map h'))) (m af.eW) bV (λw a0 aj v=>v.elim λ_ v=>v.elim λ_ v=>v.2) (mx av ([]) ⟨af.cI,af.cD,af.eD,rfl,af.o.az bg.o,a7,af.gY.G bg.o id,bg.aF,bv _,by simp,af.b7,af.nq,by simp,af.tp,by simp,λQ aq v aC k p aj=>(af.e0 Q aq v aC k p aj).imp_right ap⟩ (af.gM.G bg.o id)) ?_ ?_
  ·rintro w cV bY aj cW cF ⟨aA,y,T,aQ⟩ b0;refine hK cF λQ aq=>?_;have b2:=bF aq;have aU:=xM (l:=bC aO a) (h:=bY.aP 6 (h' Q)) (b:=aj) (A:=f 6) (aw:=f 3) (m rfl) (m T.eD) T.gY rfl;rw[iH z0] at aU;have bk:=aY T.b7 T.nq;have b3:∀{av:r (e×e)},Q∈av->(∀W∈ax.take w,W∈av)->∀W∈ax.take (w+1),W∈av:=λN cH W q=>by rw[iB,aq,d2] at q;exact q.elim (cH W) λae=>by simp at ae;exact c ae<|N
   by_cases N:Q∈aA
   ·rw[aZ N] at aU;exact ex aU rfl (b0.dK _ _ (mx aA y ({T with h9:=b3 N T.h9}) aQ))
   rw[ay N] at aU;refine g8 aU rfl (jg U (m T.eD) (m rfl) T.gY K rfl (by refine c (ld ..) ?_;unfold aa;exact ah (al 1 bk) rfl) λcJ bp=>?_);have b4:=bp.aF;rw[mp z0 T.b7,s4 N,oU (b:=λ_=>j 1) λcX _=>by unfold hF;split<;>rfl] at b4;have b5:(aA++[Q]).Nodup:=iA.mpr (ch T.b7 (il _ _) (λb6 a8 bq aL F=>by rw[e6] at aL;subst aL;subst F;exact N a8));have b8:∀W∈aA++[Q],mj (aG.map (·.J)) aM d W.1 W.2:=λW q=>(d2.mp q).elim (T.nq W) λae=>by exact gR ae<|af.nr _ b2
   have bE:∀{W:e×e},W∈aA->W∈aA++[Q]:=λae=>jm _ ae;have cL:P≠ae.i:=λF=>by have:=F▸af.gM;exact dW (this.cm af.gY) rfl
   have b9:aE ca ae cJ:=T.o.cb bp.o (λ_ _ ae=>ae) λb6 a8 F=>aS (E 1 (D F) a8);have cM:=aY b5 b8;rw[dw,l9] at cM;have br:=T.sA;have bt:=T.p8;have cN:P≠aB.i:=by have:=af.gM.bj;exact aD this
   refine u9 aG.length (ah (al 1 aW) rfl) (λv a' bb=>∃y,Dx (aG.map (·.J)) aM d ae bz be bA ax aB.i av.length (8- v) (λW aV=>W=Q/\v<=aV) (w+1) a' bb (aA++[Q]) y/\M bb P (V (ax.map h'))/\a' 6=g (h' Q)) (kQ (bQ.G b9 λ_ _=>id) (ah (al 1 aW) rfl) (m T.cI)) (d7 y ⟨T.cI,T.cD,T.eD,T.kT,b9,T.Fx,b4,T.mh.G bp.o (a3 a7),by exact c (dw ..)<|bJ 1 bt,by exact c (dw ..)<|c (l9 ..)<|Lb br bt,b5,b8,T.nr,λW q=>(T.tp W q).imp_left bE,b3 (xx) λW q=>bE (T.h9 W q),λW q v aC k p aj=>?_⟩ (aQ.G bp.o cL) rfl) ?_ ?_
   ·rcases d2.mp q with q|q
    ·exact(T.e0 W q v aC k p aj).imp bE (ot (ot ed))
    rw[e6] at q;exact ar (ar (ar ⟨q,c8 _⟩))
   ·rintro v a' bb cZ bG ⟨y,T,aQ,bu⟩ b';obtain⟨aI,bw⟩:∃aI,aG[v]? =g aI:=⟨_,cY bG⟩;obtain⟨bq,aL⟩:∃bq,aM[v]? =g bq:=⟨_,cY (t bG (D bT))⟩;have bM:=bQ.G T.o λ_ _=>id;have cO:=cp.G T.o id;have bN:=T.sA;have aU:ag (bC aO a) (a'.aP 7 (I v)) bb (fD (as (f 2) (f 7)) (aJ e2 (as (f 6) (u (j 0))) (as (as (f 0) (f 7)) (u (j 1))))) (aK (bq&&decide (Q.1∈aI.J.ao))):=ko (e4 (m T.cD) (m rfl) cO (by refine c (au ..) ?_;unfold aa;exact ah (al 1 (t (ab bT) aW)) rfl) (by refine c (dp ..) (c aL ?_);rfl)) λ_=>Ul (jd (am:=0) (ai:=[I Q.1,I Q.2]) (m bu) U (show 2<aa by decide) rfl) (lX bM (bF bw) (jX bM (ah (al 1 aW) rfl) (m T.cI) (m rfl) bw)) (bM.a9 aI (bF bw)).2 Ax;have cf:(aG.map (·.J))[v]? =g aI.J:=by refine c (dp ..) (c bw ?_);rfl
    have cP:=aY T.b7 T.nq;refine ec aU (λF=>?_) λF=>eV (b'.dK _ _ (d7 y ({T with sA:=Lc bN,e0:=λW q aV aC k p aj=>(T.e0 W q aV aC k p aj).imp_right (ot (ot λbO=>bl bO λae aB=>⟨ae,?_⟩))}) aQ bu))
    ·rw[ps,hB] at F;obtain⟨rfl,F⟩:=F;refine jf (m T.kT) (ea (X (m rfl) (X (jd (am:=1) (ai:=[I Q.1,I Q.2]) (m bu) U (show 2<aa by decide) rfl) a5)) (show 2<aa by decide)) T.mh (dr (E 1 K a7) rfl) (by refine c (au ..) ?_;unfold aa;exact Ld bN cP) λc0 bx=>eV (b'.dK _ _ (d7 (y++[(v,Q.2)]) ⟨T.cI,T.cD,T.eD,T.kT,T.o.cb bx.o (λ_ _ ae=>ae) (λb6 a8 F=>aS (H 1 (E 1 (t a7 (D F)) a8))),T.Fx,T.gY.G bx.o (aD a7),by exact c (eq ..)<|bx.aF,T.p8,by exact c (dw ..)<|c (l9 ..)<|Le aW bG bN,T.b7,T.nq,λW q=>(d2.mp q).elim (T.nr W) λae=>?_,T.tp,T.h9,λW q aV aC k p aj=>?_⟩ (aQ.G bx.o cN) bu))
     ·exact gR ae<|.mK cf aL F (af.nr _ b2)
     rcases T.e0 W q aV aC k p aj with ae|ae|ae|⟨ae,aB⟩
     ·exact ap ae
     ·exact ar (ap ae)
     ·exact ar (ar (ap (jm _ ae)))
     refine c ae ?_;by_cases F:v=aV
     ·exact c F<|ar (ar (ap (xx)))
     exact ar (ar (ar ⟨rfl,qr aB F⟩))
    subst ae;by_cases cg:v=aV
    ·subst cg;rw[aL] at p;rw[cf] at k;obtain rfl:=bm p;obtain rfl:=bm k;rw[oF aj] at F;exact kW F
    exact qr aB cg
   rintro a' bb ⟨y,T,aQ,_⟩;refine b0.dK _ _ (mx (aA++[Q]) y ({T with sA:=by have:=T.sA;exact t (bX _ _) this,e0:=λW q v aC k p aj=>(T.e0 W q v aC k p aj).imp_right (ot (ot λbO=>bl bO λ_ ae=>?_))}) aQ);have:=(co.mp k).1;rw[au] at this;exact aS (E 1 ae this)
  rintro bY aj ⟨aA,y,T,_⟩;have bk:=aY T.b7 T.nq;have br:=T.sA;have bt:=T.p8;have bP:=T.h9;rw[au,jn] at bP;refine dL (m T.kT) (cC.dK _ _ ⟨_,?_,aB.i,aA,y,⟨T.cI,T.cD,T.eD,rfl,T.o,T.gY,T.mh,Lf bk br,T.b7,T.nq,T.nr,λQ aq=>(T.tp Q aq).elim ap λae=>ap (bP Q ae),λQ aq v aC k p aj=>?_⟩,rfl⟩)
  ·refine c cB (c (ay cE) ?_);split
   ·exact Lg bt
   have:y.length≠0:=λF=>by simp at F;contradiction
   exact Lh bk br this
  rcases T.e0 Q aq v aC k p aj with ae|ae|ae|ae
  ·exact ap ae
  ·exact ap (bP _ ae)
  ·exact ar ae
  exact ae.elim
 ·have cQ:ax=[]:=by cases ax;{rfl};{exact kW aL}
  subst cQ
  refine c3 (m af.eD) (Z ae.i av aB (bv _) af.o af.gY af.b7 (aY af.b7 af.nq) (λv aI=>⟨λN=>af.nq _ N,λN=>?_⟩) λQ aq=>bU _ _ (af.nq Q aq))
  have cj:∀{Q:e×e},Q∈av\/Q∈([]:r (e×e))->Q∈av:=λae=>ae.elim id (em)
  induction N with
  |vd N=>exact cj (af.tp _ N)
  |mK k p aj _ bD=>exact cj (af.e0 _ bD _ _ k p aj)
noncomputable def kH:a6 e->B
 |some M=>M
 |none=> -1
noncomputable abbrev nj (C:e):r q:=bW (rQ (ls C))::(mM C).map bW
theorem U2:∀y P:Fin 5,(decide (((nj y).length:B)<((nj P).length:B))&&kh ((nj P).take (nj y).length) (nj y))=lq y P:=by decide+kernel
theorem A3 (J:hc a af):∀C∈af.eR,C<5:=by
 by_cases T:af.aL=4
 ·refine fF (J.cL T) λP K k p m=>bi m (λF=>?_) λF=>?_<;>refine c F ?_<;>simp[k,p]
 exact c (J.lW T)<|λ_=>em
theorem GG (K:ag l h b A (x a)) (v:M b a (V ai)) (J:lr Q ai h=g jj) (Z:a7 l aC jj b aA):a7 l (s (jM Q A) aC) h b aA:=K _ (c4 v (fa J Z))
theorem GH (K:ag l h b A (S ai)) (J:lr Q ai h=g jj) (Z:a7 l aC jj b aA):a7 l (s (jM Q A) aC) h b aA:=K _ (fa J Z)
theorem Up (k:ag l h b aw C) (a:fc C b=g bt) (p:bt=true->ag l h b A b2) (c:bt=false->ag l h b dI b2):ag l h b (.bc aw A dI) b2:=λG Z=>k _ (fa a (by
 cases bt with
 |true=>exact p rfl _ Z
 |false=>exact c rfl _ Z))
theorem kR (v:M b a (aT (iw b3))) (K:ag l h b A (x a)) (c:q.eK (aV gw)=true) (Q:b9 (aV gw) (iw b3)=g C):ag l h b (as A (u (aV gw))) C:=u5 K U v c Q
def MZ (D:b4):Prop:=∀(y m w:e) (N:dB) (t:f0) (T:K) (G:q->K->Prop),M T y (iS N m)->M T m (V (bg N.ao))->N.ao.length<=4->N.eR.length<=2->M T w (aT (iw t))->(∀C∈N.eR,C<5)->t.eo<5->G (j (kH (cH t N))) T->D 117 [x y,x w] T G
theorem VN (M:cv aO):MZ (bC aO (a+1)):=by
 intro y aY aE N t b a0 i aF v aG af J av Z;refine cz (M.cy 64 rfl) rfl (GG (m rfl) i rfl ?_);have a5:(bg N.eR).length<aa:=by refine c (au ..) ?_;unfold aa;exact ah (al 1 aG) rfl
 refine ec (cx (m rfl) U) (λF=>c3 U ?_) λaI=>eV (ec (cx (m rfl) U) (λF=>c3 (C:=j (kH (cH t N))) (Up (m rfl) (rR aF (by refine c (au ..) ?_;unfold aa;exact ah (al 1 v) rfl)) (λE=>?_) λE=>?_) Z) λaM=>eV (ec (kP (kR af (m rfl) rfl rfl) (m rfl) Ax) (λF=>c3 (C:=j (kH (cH t N))) (u6 (n6 (m rfl) U) (λE=>?_) λE=>?_) Z) λaS=>eV ?_))
 ·have:N.aL=0:=by have:=dq F;exact Dr this
  rw[cH,aZ this] at Z;exact Z
 ·have k:N.aL=1:=by have:=dq F;exact sw this
  have p:N.ao≠[]:=λF=>by rw[F] at E;exact eY E
  rw[cH,ay (a3 (D k)),aZ k,ay p];exact kR af (m rfl) rfl rfl
 ·have k:N.aL=1:=by have:=dq F;exact sw this
  have p:N.ao=[]:=by generalize N.ao=aU at E;cases aU;{rfl};{exact kW E}
  rw[cH,ay (a3 (D k)),aZ k,aZ p];exact kR af (m rfl) rfl rfl
 all_goals
  have K:N.aL≠0:=by have:=gg aI;exact Ds this
  have k:N.aL≠1:=by have:=gg aM;exact wo this
 ·rw[cH,ay K,ay k,aZ (dq F),aZ (by have:=dq E;exact C7 this)];exact m rfl
 ·rw[cH,ay K,ay k,aZ (dq F),ay (by have:=gg E;exact Li this)];exact kR af (m rfl) rfl rfl
 rw[cH,ay K,ay k,ay (gg aS)] at Z;refine dL (jd U (kR af (m rfl) rfl rfl) (aQ rfl) (xN av))<|Bb (bg N.eR) (λaz d H=>H=b/\d 1=g (x aE)/\d 7=g (S (nj t.eo))/\∀ab∈N.eR.take az,lq ab t.eo=false) (m rfl) (iq rfl rfl rfl (λ_=>em)) ?_ ?_
 ·refine λaz a7 d H a9 Q ag Y=>oX ag λaj aq ai X=>?_;subst aj;rw[dp,e7] at Q;refine ax Q λab w ag=>?_;subst ag;have aA:=bF w;have o:=J ab aA;have aV:∀ae,(nj ae).length<=3:=λae=>by have:=vt ae;simp only[hm,au];exact al 1 this
  have P:∀ae,(nj ae).length<aa:=λae=>by have:=aV ae;unfold aa;exact ah (al 1 this) rfl
  have aB:∀ae aC,dJ 3 (S ((nj ae).take aC))=true:=λae aC=>by refine(?_:(List.all _ _)=true);rw[f2];intro W q;have q:=yn q;simp only[eZ,e5] at q;rcases q with rfl|⟨_,_,rfl⟩<;>rfl
  have aD:=aB ab (nj ab).length;rw[jn] at aD;have G:=ko (l:=bC aO a) (h:=(d.aP 8 (I ab)).aP 9 (S (nj ab))) (b:=H) (n6 (A2 (A:=f 9) (m rfl) (P ab)) (A2 (A:=f 7) (m ai) (P _))) λ_=>Gx (JB (A:=f 7) (aw:=cT bo (n (f 9) z)) (m ai) (A2 (m rfl) (P ab)) (P _)) (m rfl) (aw:=f 9) (by rw[aB,aD];rfl);rw[U2 ⟨ab,o⟩ ⟨_,av⟩] at G;refine dL (jd U (m rfl) (aQ rfl) (xN o)) (ec G (λF=>?_) λF=>eV (Y.dK _ _ (iq rfl aq ai (λaW T=>?_))))
  ·rw[aZ (vS.mpr (a8 ab aA F))] at Z;exact c3 (kR (l:=bC aO a) af (m aq) rfl rfl) (Y.vb _ _ _ Z)
  rw[iB,w,d2] at T;exact T.elim (X aW) λb=>by simp at b;exact c b<|F
 refine λd H ag=>oX ag λaj aq ai X=>?_;refine c aj ?_;rw[au,jn] at X;rw[ay (by rw[Bool.not_eq_true,H9];intro ab w;refine c (X ab w) ?_;decide)] at Z;exact c3 U Z
def M0 (D:b4):Prop:=∀(y m w:e) (N:dB) (t:f0) (T:K) (G:q->K->Prop),M T y (iS N m)->M T w (aT (iw t))->t.jZ<8->(N.aL=8->N.fO<3)->G (aK (kV t N)) T->D 118 [x y,x w] T G
theorem WI:decide ((a:B)/2^d%2=1)=a.testBit d:=by
 rw[Zi,hN,hB,hB]
 norm_cast
theorem Gt (k:ag l h b A (I a)) (p:ag l h b aw (I d)) (N:a<64) (o:d<64):ag l h b (aJ bL (bR ht (bR nn A aw) (u (j 2))) (u (j 1))) (aK (a.testBit d)):=by have:=cx (pc (u3 (gU:=nn) (am:=(a:B)/2^d) k p λG Z=>i9 pO (Aq (ah N rfl)) pO (Lj o) Z) (U (C:=j 2)) (aQ rfl)) (U (l:=l) (h:=h) (b:=b) (C:=j 1));rwa [WI] at this
theorem VO (M:cv aO):M0 (bC aO (a+1)):=by
 intro y k o N t T G i l h w Z;have P:(5:e)<aa:=aQ rfl;refine cz (M.cy 65 rfl) rfl (ec (cx (e4 (d:=0) (m rfl) U i P rfl) U) (λF=>c3 (cx (e4 (d:=4) (m rfl) U i P rfl) U) ?_) λF=>eV ?_)
 ·have:N.aL=7:=by have:=dq F;exact y8 this
  rw[kV,aZ this] at Z;rw[show decide ((N.fO:B)=2)=(N.fO==2) by refine(hN ..).mpr ?_;simp;exact Lk];exact Z
 have c:N.aL≠7:=by have:=gg F;exact C8 this
 rw[kV,ay c] at Z;refine c3 (ko (iT:=t.jZ.testBit N.fO) (cx (e4 (d:=0) (m rfl) U i P rfl) U) λb=>Gt (kR l (m rfl) rfl rfl) (e4 (d:=4) (m rfl) U i P rfl) (ah h rfl) (by have:=w (by have:=dq b;exact wm this);exact ah this rfl)) ?_;rw[show decide ((N.aL:B)=8)=(N.aL==8) by refine(hN ..).mpr ?_;simp;exact Ll];exact Z
theorem GM {b:r ci} (h:∀(v:e) m,ad[v]? =g m->(b[v]? =g true↔df m=R)) (k:∀v N,(v,N)∈ds->c7 N->∃m M,ad[v]? =g m/\df m=g M/\M.testBit a=true) (p:∀(v:e) m M,ad[v]? =g m->df m=g M->M.testBit a=true->∃N,(v,N)∈ds/\c7 N) (v:e):dU df ad a v↔∃N,mj ad b ds v N/\c7 N:=by
 constructor
 ·intro T
  induction T with
  |eX G I H=>refine ax (p _ _ _ G I H) λN d W=>?_;exact a8 N (.vd d) W
  |c1 G I H _ t=>refine ax t λN d W=>?_;exact a8 N (.mK G ((h _ _ G).mpr I) H d) W
 ·rintro⟨N,T,J⟩
  induction T with
  |vd i=>obtain⟨m,M,d,W,c⟩:=k _ _ i J;exact eX d W c
  |mK G I H _ t=>exact c1 G ((h _ _ G).mp I) H (t J)
theorem Qg (Y:m4 b3) (P:af.hG<=64) (T:cH b3 af=g a):a<64:=by
 unfold cH at T
 have:=Y.j3;have:=Y.nV
 repeat' split at T
 all_goals first|(injection T with T;exact bp T (by first|assumption|exact eF rfl))|exact ce T
theorem ST (d:r (q×q)) (v:M b a (aT d)) (H:d.length<aa) (p:d5->e->bu->K->Prop) (G:∀I w h b,p I w h b->M b a (ki I)) (N:∀I k,e8 b k a (ki I)->p I 0 h k) (T:∀I (w:e) J h b F,(d.map (·.1))[w]? =g J->p I w h b->lL l aC aA F (p I (w+1))->of Q J h b λX=>a7 l dd X b F) (y:∀I h b,p I d.length h b->a7 l aC h b aA):g4 dC (x a) b λU k=>∃C,ip (λh b aA=>a7 l dd h b aA) (λJ h b aA=>of Q J h b aA) C U h k (gc l aC aA):=by
 refine c4 v ⟨H,λI=>?_⟩;have P:(d.map (·.1)).length=d.length:=au ..;refine uA (aA:=gc l aC aA) (λw=>kI a I ((d.map (·.1)).drop w)) (λw=>((d.map (·.1))[w]?).getD bI) d.length (p I) (λw h b A W o Z=>?_) (λh b A o Z=>?_) (N I _ ⟨aE.dO.eM _ (ap rfl),⟨v.bj,Ak⟩,rfl⟩) (λw h b F W o m E i=>T I w _ h b F (by refine c (cY (t W (D P))) ?_;rfl) o ⟨λh b w=>(m h b w).1,λh b w=>(m h b w).2,E,i⟩) (y I)
 ·refine c4 (G I w h b o) ⟨rfl,?_⟩;refine c (tH (t W (D P))) ?_;rw[cY (t W (D P))] at Z;exact Z
 refine c4 (G I _ h b o) ⟨rfl,?_⟩;exact bp P<|c (yl ..)<|Z
theorem Vd (Z:aM l A h b λJ k=>g4 hM J k λt k=>∃C,ip (λh b aA=>a7 l aC h b aA) (λJ h b aA=>of Q J h b aA) C t h k (gc l dd aA)):a7 l (s (sY hM Q A aC) dd) h b aA:=Z
theorem z5 (Z:an (S []) b):aM l z h b an:=Z
theorem uv (X:r eG) (o:eG->q):(((eQ X.length).filter λ_=>true).map λw=>((X[w]?).map o).getD bI)=X.map o:=by exact c (m9 ..) (c (p' ..) rfl)
def M2 (D:b4):Prop:=∀(k c w y:e) (b:r cN) (t:f0) (T:K) (G:q->K->Prop),cO T c k b->sF y b->y<=7->M T w (aT (iw t))->m4 t->0<T.i->(∀p o H,T.i<=p->aE ca T H->M H p (V (bg o))->o.length=b.length->(∀(v P a:e),o[v]? =g a->(a.testBit P=true↔dU (cH t) (b.map (·.J)) P v))->(∀a∈o,a<128)->G (x p) H)->D 120 [x k,x w] T G
theorem VP (bw:cv aO):M2 (bC aO (a+2)):=by
 intro bV cx bX dg b aj T cA aI aM aB cB bY K Z;have cC:=VN (a:=a) bw;have cD:=GZ (a:=a) bw;have aD:=aM.bo;have b0:(b.map λN=>q.x N.a9).length<aa:=by refine c (au ..) ?_;unfold aa;exact ah (al 1 (d9 1 (ab aD) aB)) rfl
 have bb:∀bx,bx<100->bx<aa:=λbx T=>by unfold aa;exact ah T rfl
 let aV:=λN:cN=>q.j (kH (cH aj N.J));refine cz (bw.cy 67 rfl) rfl (fA (p1 (l:=bC aO (a+1)) (b.map λN=>x N.a9) (λw=>((b[w]?).map aV).getD bI) (λ_=>true) (m rfl) aI.cW b0 (λw aW aG ao=>⟨U,λ_ b2 Z=>?_⟩) λk bz=>?_))
 ·refine hK aG λN av=>?_;have af:=bF av;rw[av] at Z;refine fG (X (m rfl) (X (m rfl) a5)) (cC N.a9 N.bU bX N.J aj T b2 (aI.a9 N af).1 (aI.a9 N af).2 (aM.c N af) ?_ cB (A3 (aM.dD N af)) bY.eo Z);by_cases be:N.J.aL=4
  ·refine fF ((aM.dD N af).cL be) λdh di _ _ ag=>bi ag (λF=>?_) λF=>?_<;>refine c F ?_<;>simp
  refine c ((aM.dD N af).lW be) ?_;decide
 have bA:=bz.aF;rw[au,uv] at bA;have cE:=aI.G bz.o λ_ _=>id;have b3:(b.map aV).length<aa:=by exact c (au ..)<|bb _ (ah (al 1 (d9 1 (ab aD) aB)) rfl)
 have cF:∀(w:e) (N:cN),b[w]? =g N->(b.map aV)[w]? =g (j (kH (cH aj N.J))):=λw N T=>by refine c (dp ..) (c T ?_);rfl
 let W:=λw:e=>(b[w]?).bind λN=>cH aj N.J;refine fA (w0 b.length (bb _ (ah (al 1 (d9 1 (ab aD) aB)) rfl)) (λw=>S [I w,j (kH (W w))]) (λw=>decide (0<=kH (W w))) (kQ cE (ah (al 1 (d9 1 (ab aD) aB)) rfl) (m rfl)) (λw ao=>?_) λp bB=>?_)
 ·have av:=cY ao;have F:W w=cH aj b[w].J:=by refine(?_:(b[w]?).bind _=_);refine c av ?_;rfl
  refine c F ?_;have b4:=e4 (l:=bC aO (a+1)) (h:=((((bu.aP (λ_=>R) 0 (x bV)).aP 1 (x bX)).aP 2 (x T.i)).aP 7 (I w))) (A:=f 2) (aw:=f 7) (m rfl) (m rfl) bA b3 (cF w _ av);exact⟨u4 b4 U,λ_=>ea (X (m rfl) (X b4 a5)) (bb 2 (by decide))⟩
 let aQ:r (e×e):=((eQ b.length).filter λw=>decide (0<=kH (W w))).map λw=>(w,(W w).getD 0);have cI:M p k.i (V (aQ.map h')):=by
  have:=bB.aF
  rewrite [show List.map (λw=>q.S [I w,j (kH (W w))]) ((eQ b.length).filter λw=>decide (0<=kH (W w)))=aQ.map h' from ?_] at this
  ·exact this
  ·rw[l']
   refine BS λw ao=>?_
   have:=dq (r9.mp ao).2
   refine(?_:q.S [I w,j (kH (W w))]=q.S [I w,I ((W w).getD 0)])
   revert this
   cases W w with
   |none=>intro T;exact absurd T (by decide)
   |some ae=>intro _;rfl
 have bD:∀v N,(v,N)∈aQ↔W v=g N:=λv N=>by
  rw[e5];constructor
  ·refine λag=>ax ag λw ao F=>?_
   have ao:=dq (r9.mp ao).2
   injection F with cJ cM
   refine bp cJ ?_
   revert ao cM
   cases W w with
   |none=>intro T;exact absurd T (by decide)
   |some ae=>intro _ F;refine bp F ?_;rfl
  intro F;have:v<b.length:=by refine bi (pz v b.length) (λT=>T) λT=>?_;have aY:(b[v]?).bind (λN=>cH aj N.J)=g N:=F;rw[r6 T] at aY;exact ce aY
  exact a8 v (r9.mpr ⟨mU.mpr this,by exact c F<|decide_eq_true (pt N)⟩) (by refine c F ?_;rfl)
 have b5:∀v N,W v=g N->∃ay,b[v]? =g ay/\cH aj ay.J=g N:=λv N F=>by have aY:(b[v]?).bind (λN=>cH aj N.J)=g N:=F;rw[hz] at aY;exact aY
 have aZ:aE ca T p:=bz.o.az bB.o;have cO:=aI.G aZ λ_ _=>id;have cP:=bA.G bB.o id;refine fA (p1 (b.map λN=>x N.a9) (λw=>((b[w]?).map λ_=>I 0).getD bI) (λ_=>true) (m rfl) cO.cW b0 (λw aW aG ao=>⟨U,λ_=>?_⟩) λcQ bk=>?_)
 ·rw[au] at ao;exact c (cY ao)<|U
 have b6:=bk.aF;rw[au,uv] at b6;have cR:=aZ.az bk.o;have cU:=cP.G bk.o id;let aU:r ci:=b.map λN=>decide (kH (cH aj N.J)<0);have dj:∀(w:e),((b.map aV)[w]?).map (λaW=>match aW with|j cV=>q.aK (decide (cV<0))|_=>bI)=(aU.map q.aK)[w]? :=λw=>by refine c (dp ..) (c (dp ..) (c (dp ..) (c (Zl ..) (c (Zl ..) ?_))));rfl
 refine Vd (sU (g5 (hE (m rfl) (g5 (hE (m rfl) (g5 (p1 (b.map aV) (λw=>((aU[w]?).map aK).getD bI) (λ_=>true) (m rfl) cU b3 (λw aW aG ao=>⟨U,λ_=>?_⟩) λbe bq=>?_)))))))
 ·refine hK aG λN av=>?_;rw[show aU[w]? =g (decide (kH (cH aj N.J)<0)) by refine c (dp ..) (c av ?_);rfl];exact n6 (m rfl) U
 have b7:=bq.aF;rw[au,show b.length=aU.length from(au ..).symm,uv] at b7;have br:=cR.az bq.o;have cX:aQ.length<=8:=by exact c (au ..)<|ej (pu _ _) (by exact c (k7 ..)<|d9 1 (ab aD) aB)
 refine z5 ?_;dsimp only;refine cD bV cx k.i cQ.i b aQ aU be _ (aI.G br λ_ _=>id) ((cI.G bk.o id).G bq.o id) b7 (au ..) (d9 1 (ab aD) aB) cX (λQ bt=>?_) (by have:=br.cq;exact t K this) λb8 b9 dm cZ b' cf dn c0 c2 c4=>?_
 ·refine ax (b5 _ _ ((bD Q.1 Q.2).mp bt)) λay k p=>?_;have:=Qg bY (aM.dD ay (bF k)).bM p;exact⟨(co.mp k).1,ah this rfl⟩
 have c5:=br.az b';have bE:=(b6.G bq.o id).G b' id;have cg:p.i≠b8:=λF=>by rw[F] at bE;exact dW (bE.cm cf) rfl
 have c6:0<p.i:=by have:=aZ.cq;exact t K this
 refine ST (aC:=s (aR (f 5)) L) (d3 h' b9 λ_=>j 1) cf (by refine c (ld ..) ?_;unfold aa;exact ah (al 1 c0) rfl) (λa0 w bG H=>bG 5=g (x p.i)/\aE ca T H/\M H b8 (ki a0)/\∃aq:r e,M H p.i (V (bg aq))/\aq.length=b.length/\(∀ae∈aq,ae<128)/\∀(v P ae:e),aq[v]? =g ae->(ae.testBit P=true↔∃N,(v,N)∈b9.take w/\N.testBit P=true)) (λa0 w dr T v=>v.2.2.1) (λa0 dt bJ=>s1 rfl (c5.cb bJ.o (λ_ _ T=>T) (λy bN F=>?_)) bJ.aF (b.map λ_=>0) ?_ (by exact c (au ..) rfl) (by simp) ?_) ?_ ?_
 ·have:=br.cq;exact aS (E 1 (t (t this cZ) (D F)) bN)
 ·have:=bE.G bJ.o cg;exact c (show bg (b.map λ_=>0)=b.map λ_=>I 0 from l' ..)<|this
 ·intro v P ae ai;refine hK ai λ_ _=>?_;simp
 ·refine λa0 w aW bG H b2 aG ag c8=>sS ag λa3 bO cj aq ai Y aA a7=>?_;rw[d3,l',dp,e7] at aG;refine ax aG λQ bt ag=>?_;refine bp ag ?_;have da:=bF bt;refine bl (c4 Q da) λdc ck=>?_;have cn:(bg aq).length<aa:=by exact c (au ..)<|bb _ (ah (al 1 (d9 1 (t (ab Y) (ab aD)) aB)) rfl)
  have bP:Q.1<aq.length:=t dc (D Y);have af:=cY bP;generalize aq[Q.1]=a' at af;have cp:=aA a' (bF af);refine xR (a:=p.i) (d:=Q.1) (C:=I (a'|||Q.2)) (u3 (e4 (d:=Q.1) (C:=I a') (m a3) (m rfl) ai cn (by refine c (dp ..) (c af ?_);rfl)) (m (C:=I Q.2) rfl) λcA Z=>i9 pO (Aq (ah cp rfl)) pO (Aq (ah ck rfl)) (by exact c (qz ..)<|c (qz ..)<|Z)) (m a3) (m rfl) ai c6 (by exact c (au ..)<|bP) cn λdv bQ=>?_;have cu:=bQ.aF;rw[show(bg aq).set Q.1 (I (a'|||Q.2))=bg (aq.set Q.1 (a'|||Q.2)) from(kx ..).symm] at cu;refine c8.dK _ _ (s1 a3 (bO.cb bQ.o (λ_ _ T=>T) (λy bN F=>by have:=aZ.cq;exact aS (E 1 (t this (D F)) bN))) (cj.G bQ.o (Ne.symm cg)) _ cu (by exact c (mR ..)<|Y) (λae af=>?_) (λv P ae ai=>?_))
  ·rcases o9 af with rfl|⟨v,_,ai⟩
   ·exact Iw (n:=7) cp (ah ck rfl)
   exact aA ae (bF ai)
  refine c (iB ..) (c (bt ..) ?_);simp only[d2,Ca,e6];by_cases F:v=Q.1
  ·subst F;rw[vU bP] at ai;refine bp (bm ai) ?_;rw[B9,BF,a7 _ _ _ af];constructor
   ·exact λag=>bi ag (λbT=>ax bT λN k p=>a8 N (ap k) p) λk=>a8 Q.2 (ar rfl) k
   refine λag=>ax ag λN bT p=>bi bT (λk=>ap (a8 N k p)) λk=>?_;rw[show N=Q.2 from cS Prod.snd k] at p;exact ar p
  rw[qB (Ne.symm F)] at ai;rw[a7 _ _ _ ai];exact exists_congr λN=>aay λ_=>⟨ap,λT=>T.elim id λT=>absurd (cS Zm T) F⟩
 refine λa0 bG H ag=>sS ag λa3 bO cj aq ai Y aA a7=>?_;rw[ld,jn] at a7;refine c3 (m a3) (Z p.i aq H aZ.cq bO ai Y (λv P ae dd=>(a7 v P ae dd).trans ?_) aA);rw[GM (b:=aU) (ds:=aQ) (c7:=λN=>N.testBit P=true)]
 ·exact exists_congr λN=>aay λ_=>c2 v N
 ·intro v ay de
  refine hK de λN av=>c (dp ..) (c (av ..) ?_)
  refine(?_:g (decide (kH (cH aj N.J)<0))=g true↔_)
  cases dw:cH aj N.J with
  |none=>simp[kH]
  |some ae=>show g (decide ((ae:B)<0))=g true↔_;rw[jE (sx)];simp
 ·intro v N af aA;refine ax (b5 _ _ ((bD _ _).mp af)) λay k p=>hf ay.J N (by rw[dp,k];rfl) p aA
 intro v ay ae k p aA;refine rU k λN av df=>?_;subst df;exact a8 ae ((bD v ae).mpr (by refine(?_:(b[v]?).bind _=_);exact c av<|p)) aA
def M3 (D:b4):Prop:=∀(k c w y:e) (b:r cN) (t:f0) (T:K) (G:q->K->Prop),cO T c k b->sF y b->y<=7->M T w (aT (iw t))->m4 t->0<T.i->(∀p (o:r ci) H,T.i<=p->aE ca T H->M H p (V (o.map aK))->o.length=b.length->(∀(v:e) P,o[v]? =g P->(P=true↔dU (i5 t) (b.map (·.J)) 0 v))->G (x p) H)->D 121 [x k,x w] T G
theorem VQ (aD:cv aO):M3 (bC aO (a+2)):=by
 intro a0 bg a3 y b aq T b3 av a7 ai bk bl bp Z;have bq:=VO (a:=a) aD;have br:=GZ (a:=a) aD;have aj:=a7.bo;have E:∀aG,aG<100->aG<aa:=λaG T=>by unfold aa;exact ah T rfl
 have bt:(b.map λN=>q.x N.a9).length<aa:=by rw[au];exact E _ (ah (al 1 (d9 1 (ab aj) ai)) rfl)
 let ao:=λN:cN=>decide (N.J.aL≠1)&&!kV aq N.J;refine cz (aD.cy 68 rfl) rfl (fA (p1 (l:=bC aO (a+1)) (b.map λN=>x N.a9) (λw=>((b[w]?).map λN=>aK (ao N)).getD bI) (λ_=>true) (m rfl) av.cW bt (λw b4 bw W=>⟨U,λ_=>?_⟩) λk aI=>?_))
 ·refine hK bw λN ae=>?_;have af:=bF ae;rw[ae];refine(?_:ag _ _ _ _ (aK (ao N)));rw[show ao N=(decide ((N.J.aL:B)≠1)&&!kV aq N.J) by show(decide _&&_)=_;congr 1;rw[hN];simp;exact Ln];exact ko (qf (u7 av af (m rfl)) U) λ_=>rK λbx Z=>fG (X (m rfl) (X (m rfl) a5)) (bq N.a9 N.bU a3 N.J aq T bx (av.a9 N af).1 bk bl.jZ (a7.dD N af).qo Z)
 have a':=aI.aF;rw[au,uv,show(b.map λN=>q.aK (ao N))=(b.map ao).map aK from(l' ..).symm] at a';have H:=av.G aI.o λ_ _=>id;let aA:=λw:e=>((b[w]?).map λN=>N.J.aL).getD 0;have aM:∀(w:e) (N:cN),b[w]? =g N->aA w=N.J.aL:=λw N T=>by refine(?_:((b[w]?).map _).getD 0=_);rw[T];rfl
 refine fA (w0 b.length (E _ (ah (al 1 (d9 1 (ab aj) ai)) rfl)) (λw=>S [I w,j 0]) (λw=>decide ((aA w:B)=1)) (kQ H (ah (al 1 (d9 1 (ab aj) ai)) rfl) (m rfl)) (λw W=>?_) λp aS=>?_)
 ·have ae:=cY W;rw[aM w _ ae];exact⟨cx (u7 H (bF ae) (jX H (ah (al 1 (d9 1 (ab aj) ai)) rfl) (m rfl) (m rfl) ae)) U,λ_=>ea (X (m rfl) (X U a5)) (E 2 (aQ rfl))⟩
 let d:r (e×e):=((eQ b.length).filter λw=>decide ((aA w:B)=1)).map λw=>(w,0);have bz:M p k.i (V (d.map h')):=by rw[show d.map h'=_ from l' ..];exact aS.aF
 have bA:d.length<=8:=by rw[au];exact ej (pu _ _) (by rw[k7];exact d9 1 (ab aj) ai)
 have aU:∀v N,(v,N)∈d↔v<b.length/\aA v=1/\N=0:=λv N=>by
  rw[e5];constructor
  ·rintro⟨w,W,F⟩;have k:=r9.mp W;injection F with bB bD
   subst bB bD;exact ch (mU.mp k.1) (by have:=dq k.2;exact sw this) rfl
  refine λbE=>gq bE λk p bG=>?_;exact c bG<|a8 v (r9.mpr ⟨mU.mpr k,by rw[p];rfl⟩) rfl
 have aV:aE ca T p:=aI.o.az aS.o;have bJ:=av.G aV λ_ _=>id;refine gP (X (m rfl) (X (m rfl) (X (m rfl) a5))) (br a0 bg k.i T.i b d (b.map ao) p _ bJ bz (a'.G aS.o id) (au ..) (d9 1 (ab aj) ai) bA (λQ bM=>?_) (by have:=aV.cq;exact t bp this) λbN aB aC b5 bO bP b6 K bQ b7=>?_)
 ·refine gq ((aU Q.1 Q.2).mp bM) λk p aC=>⟨k,ah (al 1 (ab aC)) rfl⟩
 have aW:=aV.az bO;have bT:=av.G aW λ_ _=>id;refine hu (w0 b.length (E _ (ah (al 1 (d9 1 (ab aj) ai)) rfl)) (λw=>aK (decide ((w,0)∈aB))) (λ_=>true) (kQ bT (ah (al 1 (d9 1 (ab aj) ai)) rfl) (m rfl)) (λw W=>⟨U,λ_=>?_⟩) λbV bb=>?_)
 ·have:=ni (l:=bC aO (a+1)) (h:=(((((bu.aP (λ_=>R) 0 (x a0)).aP 1 (x a3)).aP 2 (x T.i)).aP 3 (x k.i)).aP 4 (x bN)).aP 5 (I w)) (aw:=f 4) (A:=.S (n (f 5) (n (u (j 0)) z))) (C:=h' (w,0)) (ea (X (m rfl) (X U a5)) (E 2 (aQ rfl))) (m rfl) bP rfl;rw[iH z0] at this;by_cases af:(w,0)∈aB
  ·rw[aZ af] at this;rw[oF af];exact this
  rw[ay af] at this;rw[jE af];exact this
 have be:=bb.aF;rw[m9,show((eQ b.length).map λw=>q.aK (decide ((w,0)∈aB)))=((eQ b.length).map λw=>decide ((w,0)∈aB)).map aK from(l' ..).symm] at be;refine Z aC.i _ bV aW.cq (aW.az bb.o) be (by simp) λv P aY=>hK aY λw W=>?_;obtain⟨bX,F⟩:=co.mp W;rw[List.getElem_range] at F;refine c F ?_;rw[k7] at bX;rw[hB,bQ,GM (b:=b.map ao) (ds:=d) (c7:=λN=>N=0)]
 ·exact⟨λT=>a8 0 T rfl,λbY=>ax bY λN T F=>F▸T⟩
 ·intro v b0 Y;refine hK Y λN ae=>?_;rw[dp,ae];refine(?_:g (decide (N.J.aL≠1)&&!kV aq N.J)=g true↔i5 aq N.J=R);unfold i5;by_cases k:N.J.aL=1
  ·simp[k]
  cases p:kV aq N.J<;>simp[k]
 ·intro v N af _;refine gq ((aU v N).mp af) λk p aC=>?_;have ae:=cY k;have K:=aM v _ ae;exact hf (b[v].J) 1 (by rw[dp,ae];rfl) (by unfold i5;rw[aZ (d4 (t (D K) (ab p)) (t (D p) (ab K)))]) rfl
 intro v b0 b8 k p aY;refine rU k λN ae b2=>?_;subst b2;unfold i5 at p;split at p
 ·rename_i T;exact a8 0 ((aU v 0).mpr ⟨(co.mp ae).1,by exact c (aM v _ ae)<|T,rfl⟩) rfl
 split at p
 ·injection p with p;subst p;exact eY aY
 exact ce p
noncomputable def vk:dY->ci
 |cw U _=>U !=21
 |V (j _::_)=>true
 |V _=>false
 |_=>true
def qZ (c:e) (T H:K):Prop:=∀y I,c<=y->M T y I->vk I=false->M H y I
theorem aE.gs (W:aE c7 b aj) (Y:∀y,c7 y->a<=y->∀I,M b y I->vk I=true):qZ a b aj:=λy I D v h=>v.G W λm=>by rw[Y y m D I v] at h;exact kW h
theorem WR (A:r (a6 e)):vk (V (A.map s9))=false:=by
 cases A with
 |nil=>rfl
 |cons y P=>cases y<;>rfl
theorem h5.gs (U:h5 b a w Z Q k3) (Y:qZ a b aj) (D:d<=a):h5 aj d w Z Q k3:=by
 induction U with
 |e3 k p l v=>exact .e3 (ej D k) (ej D p) (Y _ _ k l rfl) (Y _ _ p v rfl)
 |n4 k p l v _ t=>exact .n4 (ej D k) (ej D p) (Y _ _ k l rfl) (Y _ _ p v rfl) t
theorem iE.gs (U:iE b a w Q aB) (Y:qZ a b aj) (D:d<=a):iE aj d w Q aB:=by
 induction U with
 |z=>exact .z
 |nd k l K _ t=>exact nd (ej D k) (Y _ _ k l rfl) K t
 |hq k p l v i _ t=>exact .hq (ej D k) (ej D p) (Y _ _ k l rfl) (Y _ _ p v rfl) i t
 |sI k p l v i _ t=>exact .sI (ej D k) (ej D p) (Y _ _ k l rfl) (Y _ _ p v (WR _)) i t
theorem mi.gs (U:mi a1 b a w Z Q) (Y:qZ a b aj) (D:d<=a) (G:∀Y J,b9 (I Y) a1=g J->b9 (I Y) fQ=g J):mi fQ aj d w Z Q:=by obtain⟨N,P,A,C,t,J,k,p,l,v,M,W,i,aa,F,m⟩:=U;refine⟨N,P,A,C,t,J,ej D k,ej D p,Y _ _ k l rfl,Y _ _ p v rfl,M,W.gs Y D,i,aa,F,λab y ae af h=>?_⟩;refine wY (m ab y ae af h) λag X o c H ah E K T q ai=>As ag X o c H ah E (K.gs Y D) (Y _ _ K.rG.2.1 T rfl) (G _ _ q) ai
noncomputable def qk (v:e):r q:=[I v,I (if v<2 then v+1 else v)]
noncomputable def sX (v:e):q:=S (I 1::qk v)
theorem Fb (y P:e) (F:sX y=sX P):y=P:=by injection F with F;injection F with _ F;injection F with F _;exact g6 _ _ F
noncomputable def io (N:dB):q:=S (if N.aL=8 then qk N.fO else if N.aL=7/\N.fO%3=0 then [j 1] else [])
noncomputable def ih (a:r e) (W:e):e:=(a[W]?).getD 0
noncomputable def nf (a:r e) (N:dB):dB:=⟨N.aL,N.ao.map (ih a),N.eR,N.hG,N.fO⟩
noncomputable abbrev o2 (U d:e) (Z F A:B):dY:=cw 81 [(16,x (U+1)),(17,x (U+3)),(18,x (U+4)),(19,x (U+5)),(4,x (U+6)),(20,x (U+7)),(21,x (U+8)),(22,x (U+9)),(23,x (U+10)),(24,x (U+11)),(25,x d),(26,j Z),(27,j F),(28,j A)]
structure lN where
 cL:e
 J:dB
 lp:q
 b7:e
 g7:e
variable {dE:lN}
structure i1 where
 aq:e
 br:r lN
 iK:r (q×q)
 jx:r (q×q)
 ju:r (q×q)
 fM:e
 i7:e
variable {aW:i1}
structure q0 (E:r e) (T:K) (U:e) (w d a:r (q×q)) (h:dB) (C l:e):Prop where
 iu:h.aL=4->mi w T (U+16) C l h.eR/\(h.hG<64->∃N,b9 (I l) d=g (j N)/\fi E N h.hG)/\(64<=h.hG->b9 (I l) d=R)
 lg:h.aL=7->∃J b,M T C (ga 18 J b l)/\U<=C/\(b9 (I l) a).isSome=decide (1<h.fO)
 zJ:h.aL=8->C=U+17
structure sB (E:r e) (T:K) (U:e) (w d a:r (q×q)) (W:lN):Prop where
 cL:M T W.cL (V (bg W.J.ao))
 f5:W.cL=U+2\/U+17<W.cL
 b7:4<=W.J.aL->W.lp=x W.b7
 jw:q0 E T U w d a W.J W.b7 W.g7
noncomputable abbrev Fl (t:f0):r (q×q):=d3 sX ((eQ 3).filter λv=>t.jZ.testBit v) λ_=>j 1
structure lJ (t:f0) (A Q:e) (E:r e) (T:K) (b:i1) (d:e):Prop where
 kD:∃F a,M T b.aq (o2 b.aq d 0 F a)
 gL:M T (b.aq+9) (aT [])
 mC:M T d (aT [])
 jH:M T (b.aq+1) (V (b.br.map λW=>I W.J.aL))
 P:M T (b.aq+3) (V (b.br.map λW=>x W.cL))
 h7:M T (b.aq+4) (V (b.br.map (·.lp)))
 gM:M T (b.aq+5) (V (b.br.map λW=>io W.J))
 ij:M T (b.aq+13) (aT b.iK)
 fJ:M T (b.aq+15) (aT b.jx)
 cW:M T (b.aq+14) (pW t.eh (b.aq+13) (b.aq+15))
 eC:M T (b.aq+17) (ga 50 (aV "") (b.aq+16) 1)
 fM:M T b.fM (aT b.ju)
 i7:M T b.i7 (aT (Fl t))
 qb:b.aq+17<b.fM/\b.aq+17<b.i7/\b.fM≠b.i7
 dN:∀W∈b.br,sB E T b.aq b.iK b.jx b.ju W
 ti:(b.br.map (·.cL)).Nodup
 ef:A<b.aq/\Q<b.aq/\t.eh<b.aq
structure g0 (acW:f0) (acV acT:e) (acZ:r e) (acY:K) (acX:i1) (acU o h:e):Prop extends lJ acW acV acT acZ acY acX acU where
 ud:acU=acX.aq+12\/o<=acU
 lj:M acY h (cw 103 [(43,x acX.fM),(44,x acX.i7)])
 fV:acX.aq+17<h/\acX.fM<o/\acX.i7<o/\h<o
 th:∀W∈acX.br,W.cL<o/\(W.J.aL=7->W.b7<o)
 dD:∀W∈acX.br,hc acX.br.length W.J
 bo:acX.br.length<100
 c:∀W∈acX.br,W.J.ao.length<100
 od:acW.eo<5
section
variable {oG os:r (q×q)}
theorem q0.gs (C:q0 Q b a a1 fQ k2 af d w) (Y:qZ (a+16) b aj) (l:∀h,af.aL=7->M b d h->M aj d h) (k:∀Y J,b9 (I Y) a1=g J->b9 (I Y) qt=g J) (m:af.aL=4->b9 (I w) oG=b9 (I w) fQ) (o:af.aL=7->b9 (I w) os=b9 (I w) k2):q0 (Q++aB) aj a qt oG os af d w:=by
 refine⟨λv=>?_,λi=>?_,C.zJ⟩
 ·refine gq (C.iu v) λy P U=>c (m v)<|ch (y.gs Y (bv _) k) (λb=>(P b).imp λp b=>⟨b.1,b.2.mn⟩) U
 refine fF (C.lg i) λJ N y P U=>c (o i)<|hf J N (l _ i y) P U
theorem sB.gs (C:sB Q b a a1 fQ k2 dE) (Y:qZ (a+16) b aj) (h:∀c,M b dE.cL c->M aj dE.cL c) (l:∀c,dE.J.aL=7->M b dE.b7 c->M aj dE.b7 c) (i:∀Y d,b9 (I Y) a1=g d->b9 (I Y) qt=g d) (k:dE.J.aL=4->b9 (I dE.g7) oG=b9 (I dE.g7) fQ) (y:dE.J.aL=7->b9 (I dE.g7) os=b9 (I dE.g7) k2):sB (Q++aB) aj a qt oG os dE:=⟨h _ C.cL,C.f5,C.b7,C.jw.gs Y l i k y⟩
theorem g0.rp (Y:g0 b3 a d Q b aW w Z bA) (W:aE c7 b aj) (N:∀y,aW.aq<=y->y<Z->¬c7 y) (l:¬c7 w) (m:∀y,c7 y->Z<=y->∀I,M b y I->vk I=true):g0 b3 a d (Q++aB) aj aW w Z bA:=by
 have X:=Y.fV;have K:=Y.qb;have o:∀{y:e} {I:dY},aW.aq<=y->y<Z->M b y I->M aj y I:=λk p v=>v.G W (N _ k p);refine g3 Y.kD λF q t=>⟨⟨(js F q (o (bv _) (H 18 (E 1 K.1 X.2.1)) t)),o (bX _ _) (H 9 (E 1 K.1 X.2.1)) Y.gL,Y.mC.G W l,o (bX _ _) (H 17 (E 1 K.1 X.2.1)) Y.jH,o (bX _ _) (H 15 (E 1 K.1 X.2.1)) Y.P,o (bX _ _) (H 14 (E 1 K.1 X.2.1)) Y.h7,o (bX _ _) (H 13 (E 1 K.1 X.2.1)) Y.gM,o (bX _ _) (H 5 (E 1 K.1 X.2.1)) Y.ij,o (bX _ _) (H 3 (E 1 K.1 X.2.1)) Y.fJ,o (bX _ _) (H 4 (E 1 K.1 X.2.1)) Y.cW,o (bX _ _) (H 1 (E 1 K.1 X.2.1)) Y.eC,o (H 18 K.1) X.2.1 Y.fM,o (H 18 K.2.1) X.2.2.1 Y.i7,K,λA h=>(Y.dN A h).gs (W.gs λy U C I v=>?_) (λI v=>v.G W (N _ (by have:=(Y.dN A h).f5;exact this.elim (λJ=>H 2 (D J)) λJ=>H 18 J) (Y.th A h).1)) (λI i v=>?_) (λ_ _ b=>b) (λ_=>rfl) (λ_=>rfl),Y.ti,Y.ef⟩,Y.ud,o (H 18 X.1) X.2.2.2 Y.lj,X,Y.th,Y.dD,Y.bo,Y.c,Y.od⟩
 ·exact bi (pz y Z) (λb=>absurd U (N y (H 16 C) b)) λb=>m y U b I v
 refine fF ((Y.dN A h).jw.lg i) λ_ _ _ T _=>v.G W (N _ T ((Y.th A h).2 i))
theorem lJ.eM (Y:lJ b3 a d Q b aW w) (ah:w=aW.aq+12) (W:aE c7 b aj) (af:∀y,c7 y->y=a\/y=d\/y=aW.aq+13\/y=aW.aq+15\/y=aW.fM) (ai:M aj (aW.aq+13) (aT a1)) (ao:M aj (aW.aq+15) (aT oG)) (au:M aj aW.fM (aT os)) (av:∀Y ag,b9 (I Y) aW.iK=g ag->b9 (I Y) a1=g ag) (p:∀A∈aW.br,A.J.aL=4->b9 (I A.g7) oG=b9 (I A.g7) aW.jx) (aw:∀A∈aW.br,A.J.aL=7->b9 (I A.g7) os=b9 (I A.g7) aW.ju):lJ b3 a d (Q++aB) aj {aW with iK:=a1,jx:=oG,ju:=os} w:=by
 have K:=Y.qb;have E:=Y.ef;have o:∀{y:e} {q:dY},aW.aq<=y->y≠aW.aq+13->y≠aW.aq+15->y≠aW.fM->M b y q->M aj y q:=λk ax ay az v=>v.G W λaA=>by exact bi (af _ aA) (λF=>aS (t (t E.1 k) (ab F))) λm=>m.elim (λF=>aS (t (t E.2.1 k) (ab F))) λZ=>Z.elim ax λN=>N.elim ay az
 have C:∀{y:e} {q:dY},aW.aq<=y->M b y q->(∀X,q≠aT X)->M aj y q:=λk v l=>o k (λF=>by subst F;exact l _ (v.cm Y.ij)) (λF=>by subst F;exact l _ (v.cm Y.fJ)) (λF=>by subst F;exact l _ (v.cm Y.fM)) v;refine g3 Y.kD λaC aF aG=>?_;subst ah;refine⟨(js aC aF (C (bv _) aG (λX F=>dW F rfl))),o (y:=aW.aq+9) (bX _ _) (aD (dz rfl)) (aD (dz rfl)) (aD (H 8 K.1)) Y.gL,o (y:=aW.aq+12) (bX _ _) (aD (bv _)) (aD (dz rfl)) (aD (H 5 K.1)) Y.mC,C (y:=aW.aq+1) (bX _ _) Y.jH (λX F=>dW F rfl),C (y:=aW.aq+3) (bX _ _) Y.P (λX F=>dW F rfl),C (y:=aW.aq+4) (bX _ _) Y.h7 (λX F=>dW F rfl),C (y:=aW.aq+5) (bX _ _) Y.gM (λX F=>dW F rfl),ai,ao,C (y:=aW.aq+14) (bX _ _) Y.cW (λX F=>dW F rfl),C (y:=aW.aq+17) (bX _ _) Y.eC (λX F=>dW F rfl),au,o (y:=aW.i7) (H 18 K.2.1) (a3 (H 4 K.2.1)) (a3 (H 2 K.2.1)) (C9 K.2.2) Y.i7,K,λA h=>(Y.dN A h).gs (W.gs λy U aa q v=>?_) (λq v=>C (by have:=(Y.dN A h).f5;exact this.elim (λae=>H 2 (D ae)) λae=>H 18 ae) v λX F=>by rw[F] at v;exact dW (v.cm (Y.dN A h).cL) rfl) (λq i v=>?_) av (p A h) (aw A h),Y.ti,Y.ef⟩
 ·refine bi (af y U) (λF=>?_) λm=>bi m (λF=>?_) λZ=>bi Z (λF=>?_) λN=>bi N (λF=>?_) λF=>?_;all_goals first|exact(aS (t (t E.1 (H 16 aa)) (ab F))).elim|exact(aS (t (t E.2.1 (H 16 aa)) (ab F))).elim|exact absurd (t aa (ab F)) (Zb.mpr (qD (eF rfl) _))|(subst F;refine c (v.cm Y.fM) ?_;rfl)
 refine fF ((Y.dN A h).jw.lg i) λ_ _ T aI _=>C aI v λX F=>by rw[F] at v;exact dW (v.cm T) rfl
theorem lJ.n7 (Y:lJ b3 a d Q b aW w) (ag:w=aW.aq+12) (W:aE (λy=>y=aW.aq+1\/y=aW.aq+3\/y=aW.aq+4\/y=aW.aq+5) b aj) (C:M aj (aW.aq+1) (V ((aW.br.map λW=>I W.J.aL)++[I dE.J.aL]))) (N:M aj (aW.aq+3) (V ((aW.br.map λW=>x W.cL)++[x dE.cL]))) (ah:M aj (aW.aq+4) (V (aW.br.map (·.lp)++[dE.lp]))) (l:M aj (aW.aq+5) (V ((aW.br.map λW=>io W.J)++[io dE.J]))) (ai:sB Q aj aW.aq aW.iK aW.jx aW.ju dE) (h:∀F∈aW.br,F.cL≠dE.cL):lJ b3 a d Q aj {aW with br:=aW.br++[dE]} w:=by
 have K:=Y.qb;have o:∀{y:e} {aa:dY},aW.aq+5<y->M b y aa->M aj y aa:=λk v=>v.G W (dm (a3 (H 4 k)) (dm (a3 (H 2 k)) (dm (a3 (H 1 k)) (a3 k))));refine g3 Y.kD λF A ao=>?_;subst ag;refine⟨(js F A (ao.G W (dm (aD (fm rfl)) (dm (aD (fm rfl)) (dm (aD (fm rfl)) (aD (fm rfl))))))),o (y:=aW.aq+9) (dz rfl) Y.gL,o (y:=aW.aq+12) (dz rfl) Y.mC,by exact c (eq ..)<|C,by exact c (eq ..)<|N,by exact c (eq ..)<|ah,by refine c (eq ..) ?_;exact l,o (y:=aW.aq+13) (dz rfl) Y.ij,o (y:=aW.aq+15) (dz rfl) Y.fJ,o (y:=aW.aq+14) (dz rfl) Y.cW,o (y:=aW.aq+17) (dz rfl) Y.eC,o (y:=aW.fM) (H 12 K.1) Y.fM,o (y:=aW.i7) (H 12 K.2.1) Y.i7,K,λF X=>?_,?_,Y.ef⟩
 ·refine bi (d2.mp X) (λX=>?_) λX=>gR X<|ai
  have:=(Y.dN F X).gs (aB:=[]) (qt:=aW.iK) (oG:=aW.jx) (os:=aW.ju) (W.gs λy U ae=>(U.elim (λp=>aS (H 14 (ep 1 (t ae (ab p))))) λp=>p.elim (λq=>aS (H 12 (ep 3 (t ae (ab q))))) λq=>q.elim (λaf=>aS (H 11 (ep 4 (t ae (ab af))))) λaf=>aS (H 10 (ep 5 (t ae (ab af)))):bK).elim) (λaa v=>v.G W (by have:=(Y.dN F X).f5;exact this.elim (λp=>dm (a3 (D p)) (dm (aD (al 1 (ab p))) (dm (aD (bJ 1 (al 1 (ab p)))) (aD (bJ 2 (al 1 (ab p))))))) λp=>dm (a3 (H 16 p)) (dm (a3 (H 14 p)) (dm (a3 (H 13 p)) (a3 (H 12 p)))))) (λaa i v=>?_) (λ_ _ b=>b) (λ_=>rfl) (λ_=>rfl)
  ·rw[eP] at this;exact this
  refine iI ((Y.dN F X).jw.lg i) λ_ _ T _=>v.G W λZ=>bi Z (λZ=>?_) λm=>bi m (λZ=>?_) λau=>bi au (λZ=>?_) λZ=>?_<;>rw[Z] at T
  ·exact dW (T.cm Y.jH) rfl
  ·exact dW (T.cm Y.P) rfl
  ·exact dW (T.cm Y.h7) rfl
  exact dW (T.cm Y.gM) rfl
 rw[eq,iA];refine ch Y.ti (il _ _) (λy U av E Z=>?_);refine ax (e5.mp U) λF X m=>?_;subst m;simp at E;subst E;exact h F X Z
theorem lJ.G (Y:lJ b3 a d Q b aW w) (J:w=aW.aq+12) (W:aE ca b aj):lJ b3 a d Q aj aW w:=by have:=Y.eM (aB:=[]) J W (λ_=>ed) (Y.ij.G W id) (Y.fJ.G W id) (Y.fM.G W id) (λ_ _ b=>b) (λ_ _ _=>rfl) λ_ _ _=>rfl;rw[eP] at this;exact this
end
theorem kU (y:b.i=Z) (c:h 0=g (x d)) (v:M b d (cw w fB)) (K:0<d) (D:mV fB.length 60=true) (N:iN w a=R) (k:∀F,gG b bN F->aM l A h b F) (m:∀H,aE (λP=>P=d) b H->M H Z bN->H.i=Z+1->M H d (cw w (kg a (x Z) fB))->a7 l aC h H aA):a7 l (s (dy (f 0) a A) aC) h b aA:=by subst y;exact n' c v K D N k m
theorem Va (Z:aM l A h b λJ k=>aM l aw h k λy p=>ve y a J p λc=>a7 l aC h c aA):a7 l (s (dy aw a A) aC) h b aA:=Z
theorem AN (v:M b a (cw d fB)) (K:0<a) (D:mV fB.length 60=true) (N:iN d w=R) (Z:∀H,e8 b H a (cw d (kg w C fB))->pp H):ve (x a) w C b pp:=c4 v (iq K (by have:=qF D;exact ah (al 1 this) rfl) N (hJ v Z))
def Nc (D:b4):Prop:=∀(U:e) (T:K) (G:q->K->Prop),M T U (cw 81 [])->0<U->T.i=U+1->(∀H,aE (λy=>y=U) T H->H.i=U+13->M H U (o2 U (U+12) 0 0 0)->M H (U+1) (V [j 0])->M H (U+2) (V [])->M H (U+3) (V [x (U+2)])->M H (U+4) (V [bI])->M H (U+5) (V [S []])->M H (U+9) (aT [])->M H (U+12) (aT [])->G bI H)->D 2296 [x U] T G
theorem VZ (ax:cv aO):Nc (bC aO (a+1)):=by
 intro U T bD P K y Z;refine cz (ax.cy 19 rfl) rfl ?_;have ae:∀Y,Y≠0->¬U+Y=U:=λY ay=>a3 (cZ (tM ay) _);refine kU y rfl P K rfl rfl (bN:=V [j 0]) (λ_ Z=>⟨(aQ rfl),Z⟩) λk aA aB X aC=>Va ⟨by decide,cJ λp b=>⟨show 1<aa by decide,cJ λl N=>m rfl _ (AN ((aC.G b.o id).G N.o id) K rfl rfl λv I=>?_)⟩⟩;have q:=b.i;have h:=N.i;have W:=I.i;have aD:M v (U+2) (V []):=by exact c (show U+2=k.i by exact d4 (D X) (ab X))<|(b.aF.G N.o id).G I.o (by exact a3 (H 1 (D X)))
 have d:M v (U+3) (V [x (U+2)]):=by exact c (show U+3=p.i by exact d4 (E 1 (D X) (D q)) (d9 1 (ab q) (ab X)))<|c (show U+2=k.i by exact d4 (D X) (ab X))<|N.aF.G I.o (by exact a3 (H 2 (E 1 (D X) (D q))))
 have ao:=I.aF;rw[show p.i=U+3 by exact d4 (d9 1 (ab q) (ab X)) (E 1 (D X) (D q))] at ao;have aG:aE (λaI=>aI=U) k v:=((b.o.az N.o).a0 λ_ _=>ed).az I.o;clear b N I;refine kU (d4 (d9 2 (d9 1 (t (ab W) (ab h)) (ab q)) (ab X)) (t (E 1 (E 1 (D X) (D q)) (D h)) (D W)):v.i=U+4) rfl ao K rfl rfl (bN:=V [bI]) (λ_ Z=>⟨aQ rfl,Z⟩) λbE C aL aM aP=>kU aM rfl aP K rfl rfl (bN:=V [S []]) (λ_ Z=>ch (aQ rfl) (aQ rfl) Z) λA aq aS aU aV=>kU aU rfl aV K rfl rfl (λ_=>gu) λbF Q _ aW aY=>kU aW rfl aY K rfl rfl (λ_=>gu) λw aZ _ a5 a7=>kU a5 rfl a7 K rfl rfl (λ_=>gu) λF a8 _ a9 a'=>kU a9 rfl a' K rfl rfl (λ_=>gu) λbG bb be bg bk=>kU bg rfl bk K rfl rfl (λ_=>rH) λJ bl _ bp bq=>kU bp rfl bq K rfl rfl (λ_=>gu) λbJ br _ bt bu=>kU bt rfl bu K rfl rfl (λ_=>gu) λbM bw bx bz bA=>rP rfl bA K rfl rfl λbO af=>rP rfl af.aF K rfl rfl λbP ag=>rP rfl ag.aF K rfl rfl λbB ah=>?_;have au:=af.o.az (ag.o.az ah.o);have av:=bl.az (br.az (bw.az au));have ai:=Q.az (aZ.az (a8.az (bb.az av)));have aj:=C.az (aq.az ai);have aw:=aG.az aj;exact Z bB (aA.az aw) (by exact c (ah.i ..) (c (ag.i ..) (c (af.i ..) (c bz rfl)))) ah.aF (aB.G aw (ae 1 (aQ rfl))) (aD.G aj (ae 2 (aQ rfl))) (d.G aj (ae 3 (aQ rfl))) (aL.G (aq.az ai) (ae 4 (aQ rfl))) (aS.G ai (ae 5 (aQ rfl))) (be.G av (ae 9 (aQ rfl))) (bx.G au (ae 12 (aQ rfl)))
def DN (D:b4):Prop:=∀(U d:e) (Z b A:B) (Y Q C F:q) (N a o W:r q) (T:K) (G:q->K->Prop),M T U (o2 U d Z b A)->M T (U+1) (V N)->M T (U+3) (V a)->M T (U+4) (V o)->M T (U+5) (V W)->N.length<1000->a.length<1000->o.length<1000->W.length<1000->(∀H,aE (λy=>y=U+1\/y=U+3\/y=U+4\/y=U+5) T H->H.i=T.i->M H (U+1) (V (N++[Y]))->M H (U+3) (V (a++[Q]))->M H (U+4) (V (o++[C]))->M H (U+5) (V (W++[F]))->G (I N.length) H)->D 2297 [x U,Y,Q,C,F] T G
theorem V0 (M:cv aO):DN (bC aO (a+1)):=by
 intro ai d aj F A Y Q C ao ab aq au W T av P af t q w K J y ag Z;have E:∀C,C<2000->C<aa:=λC T=>by unfold aa;exact ah T rfl
 refine cz (M.cy 20 rfl) rfl<|jf (bk (m rfl) P rfl) (m rfl) af (eH _) (E _ (ah K rfl)) λk H=>?_
 have D:=P.G H.o (aD (bv _));refine jf (bk (m rfl) D rfl) (m rfl) (t.G H.o (a3 (dz rfl))) (eH _) (E _ (ah J rfl)) λp b=>?_;have X:=D.G b.o (aD (fm rfl));refine jf (bk (m rfl) X rfl) (m rfl) ((q.G H.o (a3 (dz rfl))).G b.o (a3 (bv _))) (eH _) (E _ (ah y rfl)) λl N=>?_;have ae:=X.G N.o (aD (fm rfl));refine jf (bk (m rfl) ae rfl) (m rfl) (((w.G H.o (a3 (dz rfl))).G b.o (a3 (dz rfl))).G N.o (a3 (bv _))) (eH _) (E _ (ah ag rfl)) λv I=>?_;have h:=((H.aF.G b.o (aD (dz rfl))).G N.o (aD (dz rfl))).G I.o (aD (dz rfl));refine c3 (pd (kp (bk (m rfl) (ae.G I.o (aD (fm rfl))) rfl) h (by exact c (dw ..)<|c (l9 ..)<|E _ (ah (al 1 K) rfl))) U)<|c (dw ..)<|c (l9 ..)<|c (show(((ab.length+1:e):B)- 1)=((ab.length:e):B) by exact uc)<|Z v (((H.o.cb b.o (λ_ _=>ap) λ_ _ T=>ar (ap T)).cb N.o (λ_ _ T=>T) λ_ _ T=>ar (ar (ap T))).cb I.o (λ_ _ T=>T) λ_ _ T=>ar (ar (ar T))) (by exact c (I.i ..) (c (N.i ..) (c (b.i ..) (c (H.i ..) rfl)))) h ((b.aF.G N.o (aD (bv _))).G I.o (aD (dz rfl))) (N.aF.G I.o (aD (bv _))) I.aF
def Nd (D:b4):Prop:=∀(y k X:e) (T:K) (G:q->K->Prop),M T y (cw 85 [])->0<y->(∀H,aE (λP=>P=y) T H->H.i=T.i+1->M H y (pW k X T.i)->M H T.i (aT [])->G bI H)->D 2360 [x y,x k,x X] T G
theorem V2 (M:cv aO):Nd (bC aO (a+1)):=by
 intro y k X T E U K Z;have D:=U.bj;refine cz (M.cy 24 rfl) rfl<|iP (m rfl) (m rfl) U K rfl rfl λH w=>iP (m rfl) (m rfl) w.aF K rfl rfl λp b=>?_
 have A:p.i=T.i:=b.i.trans w.i;refine kU A rfl b.aF K rfl rfl (λ_=>gu) λl t d h C=>rP rfl C K rfl rfl λv I=>rP rfl I.aF K rfl rfl λP q=>?_;have F:=I.o.az q.o;exact Z P ((w.o.az b.o).az (t.az F)) (by exact c (q.i ..) (c (I.i ..) (c h rfl))) q.aF (d.G F (a3 D))
def Nm (D:b4):Prop:=∀(y W A:e) (T:K) (G:q->K->Prop),M T y (cw 103 [])->0<y->(∀H,e8 T H y (cw 103 [(43,x W),(44,x A)])->G bI H)->D 2648 [x y,x W,x A] T G
theorem V8 (M:cv aO):Nm (bC aO (a+1)):=by intro y W A T G U K Z;refine cz (M.cy 52 rfl) rfl<|iP (m rfl) (m rfl) U K rfl rfl λk c=>iP (m rfl) (m rfl) c.aF K rfl rfl λp b=>Z p ⟨c.o.az b.o,b.aF,b.i.trans c.i⟩
def h6 (w:r (q×q)) (c:e):Prop:=∃A o,w=d3 I A o/\A.Nodup/\∀Y∈A,Y<c
theorem h6.iu (T:h6 a1 a) (N:a<d) (J:q):h6 (et (I a) J a1) d/\b9 (I a) (et (I a) J a1)=g J/\∀Y,Y<a->b9 (I Y) (et (I a) J a1)=b9 (I Y) a1:=by
 refine fF T λA o m C K=>?_;refine c m<|c (mp g6 C)<|ch ⟨_,_,rfl,uJ C,λY T=>(lo.mp T).elim (λT=>by have:=K Y T;exact H 1 (E 1 this N)) λT=>E 1 (ab T) N⟩ ?_ (λY T=>?_)
 ·rw[iH g6,aZ (lo.mpr (ar rfl)),hF,aZ rfl]
 refine c (iH g6) (c (iH g6) ?_);by_cases F:Y∈A
 ·rw[aZ F,aZ (lo.mpr (ap F)),hF,ay (aD T)]
 exact c (ay F) (c (ay λZ=>(lo.mp Z).elim F λZ=>aS (E 1 (D Z) T)) rfl)
theorem h6.bI (T:h6 a1 a) (K:a<=d):b9 (I d) a1=R:=by refine fF T λA o m C b=>?_;exact c m<|c (iH g6) (c (ay λZ=>by have:=b d Z;exact aS (E 1 K this)) rfl)
theorem h6.a0 (T:h6 a1 a) (N:a<=d):h6 a1 d:=by refine fF T λA o F C E=>hf A o F C (λY T=>gy (E Y T) N)
theorem h6.bo (T:h6 a1 a):a1.length<=a:=by refine fF T λA o m C E=>?_;exact c m<|c (ld ..)<|is C E
theorem hc.nf (J:hc a af) (b:∀W,W<a->ih Q W<a):hc a (nf Q af):=⟨J.uP,λW q=>by refine ax (e5.mp q) λA h m=>?_;exact bp m<|b A (J.bU A h),λT=>cS (List.map _) (J.s8 T),λT F=>J.rE T (ym.mp F),λT=>by refine aU (J.eL T) λW F=>?_;exact⟨_,cS (List.map _) F⟩,J.cL,J.bM,J.qn,J.qo,J.lW⟩
structure mf (t:f0) (A Q:e) (E:r e) (h:K) (m k p q:e) (a U:r e) (D:r cN) (C P:e) (d:bu) (H:K) (b:i1) (l:r e) (c:e):Prop where
 cI:d 0=g (x m)
 eI:d 1=g (x k)
 cD:d 2=g (x p)
 eD:d 3=g (x b.aq)
 eW:d 4=g (x (b.aq+14))
 kT:d 5=g (x (b.aq+17))
 jY:d 6=g (I c)
 mI:d 7=g (x b.fM)
 mJ:d 8=g (x b.i7)
 xX:d 10=g (x q)
 pg:d 11=g (aK true)
 o:aE (λy=>y=A\/y=Q) h H
 gm:ev H t.eh A Q (E++l)
 fU:lJ t A Q (E++l) H b (b.aq+12)
 jQ:h.i<=b.aq
 eu:M H q (V (bg U))
 Ab:b.aq+17<q
 xQ:b.br.length=C+1
 nk:∀(v:e) o,b.br[v]? =g o->∃(w:e) (N:cN),U[v]? =g w/\D[w]? =g N/\o.J=nf a N.J
 jP:2<=c/\c<=P
 zS:h6 b.iK c
 sR:h6 b.jx c
 h9:h6 b.ju c
 eg:∀o∈b.br,o.g7<c
theorem GE (U:K->Prop) (G:∀H:q->K->Prop,(∀k,U k->H (aK bt) k)->aM l A h b H) (k:bt=true->∀k,U k->a7 l aC h k (gc l dd aA)) (p:bt=false->∀k,U k->a7 l nv h k (gc l dd aA)):a7 l (s (bc A aC nv) dd) h b aA:=G _ λb Q=>by
 cases bt with
 |true=>exact k rfl b Q
 |false=>exact p rfl b Q
theorem QM (G:ll a=true) (Z:aM l A h b λW k=>(match W with|S X=>gG k (cw a []) λy k=>l (1000+16*a) (y::X) k λJ p=>(match J with|bI=>an y p|_=>bK)|_=>bK)):aM l (.cK a A) h b an:=⟨G,Z⟩
theorem QL (i:ag l h b A (x a)) (v:M b a (cw d fB)) (N:iN d Z=g w) (o:aM l aw h b λm k=>(match m with|S X=>o' l Z (x a) X k an|_=>bK)):aM l (b1 Z A aw) h b an:=i _ ⟨F' v (by refine c N ?_;rfl),o⟩
theorem Tx (v:M b a (cw d fB)) (N:iN d Z=g w) (U:im Z fB=R) (c:l w (x a::ai) b an):o' l Z (x a) ai b an:=c4 v ⟨U,fa N c⟩
def Mv (t:f0) (A Q:e) (E:r e) (T:K) (c:r cN) (a:r e) (G:q->K->Prop):Prop:=∀(b:i1) (o h:e) (l:r e) (H:K) (U:r e),aE (λy=>y=A\/y=Q) T H->ev H t.eh A Q (E++l)->g0 t A Q (E++l) H b (b.aq+12) o h->T.i<=b.aq->o=H.i->b.br.length=c.length->U.length=c.length->(∀(v W:e),a[v]? =g W->U[W]? =g v)->(∀(v:e) W,b.br[v]? =g W->∃(w:e) (N:cN),U[v]? =g w/\c[w]? =g N/\W.J=nf a N.J)->G (S [x b.aq,x (b.aq+14),x h,aK true]) H
structure sE (b:r cN) (a:r e):Prop where
 F2:1<=b.length
 F3:b.length<=40
 cI:∃N,b[0]? =g N/\N.J=⟨0,[],[],64,0⟩
 dD:∀N∈b,hc b.length N.J/\N.J.ao.length<100
 kN:a.length=b.length
 b7:a.Nodup
 bj:∀W∈a,W<b.length
 td:a[0]? =g 0
def MY (D:b4):Prop:=∀(w k p c A Q:e) (b:r cN) (a:r e) (t:f0) (E:r e) (T:K) (G:q->K->Prop),cO T c k b->M T w (aT (iw t))->M T p (V (bg a))->ev T t.eh A Q E->m4 t->sE b a->Mv t A Q E T b a G->D 116 [x w,x k,x p] T G
theorem Vf (G:ag l h b A (aK bt)) (k:bt=true->a7 l aC h b aA) (p:bt=false->a7 l dd h b aA):a7 l (bc A aC dd) h b aA:=G _ (by
 cases bt with
 |true=>exact k rfl
 |false=>exact p rfl)
theorem xS (Z:aM l A h b λJ k=>of Q J h k λX=>a7 l aC X k aA):a7 l (s (jM Q A) aC) h b aA:=Z
def Bk (D:b4) (I v:b0) (N:bO) (h:bu) (G:gZ):q->K->Prop:=λJ k=>aM D I h k λy p=>aM D v h p λw l=>vf y w J l λa=>a7 D N h a G
theorem tj (Z:aM l A h b (Bk l aw dI aC h aA)):a7 l (s (es aw dI A) aC) h b aA:=Z
theorem SW (w:ag l h b A (x a)) (o:ag l h b aw C) (v:M b a (aT a1)) (K:0<a) (c:q.eK C=true) (D:a1.length<aa) (Z:∀H,e8 b H a (aT (et C b2 a1))->a7 l aC h H aA):Bk l A aw aC h aA b2 b:=w _ (o _ (xy v K c D Z))
theorem GQ (h:a<3):my [(S [(j 0),(j 1)]),(S [(j 1),(j 2)]),(S [(j 2),(j 2)])] (a:B)=g (S (qk a)):=by revert a;show ∀a,a<_->_;exact kk rfl (kk rfl (uU rfl))
theorem x9 {H:bu->Prop} (F:lr Q ai h=g jj) (Z:H jj):of Q (S ai) h b H:=fa F Z
theorem ev.oi (h:ev b a d w Q) (v:M b Z (aT (iw b3))):Z≠d/\Z≠w/\Z≠a:=by
 refine ax h.lu λY _ c=>ch (λF=>(by rw[F] at v;exact dW (v.cm h.a9) rfl)) (λF=>?_) (λF=>(by rw[F] at v;exact dW (v.cm c) rfl));rw[F] at v;injection v.cm h.aF with F
 injection F with F _;injection F with F _;exact l1 F rfl
theorem ev.uZ (h:ev b a d w Q) (v:M b Z (V (bg aB))):Z≠d/\Z≠w/\Z≠a:=by
 refine ax h.lu λY _ c=>ch (λF=>?_) (λF=>(by rw[F] at v;exact dW (v.cm h.aF) rfl)) (λF=>(by rw[F] at v;exact dW (v.cm c) rfl))
 rw[F] at v
 injection v.cm h.a9 with F
 cases aB with
 |nil=>exact vu F
 |cons Z P=>injection F with F _;exact l1 F rfl
section
variable {Id:e} {sq:e}
theorem mf.eM (T:mf b3 a d Q b w Z bA db aB c0 a' hi hy h aj aW dT iy) (i:∀Y,Y<12->Y≠6->jj Y=h Y) (ai:jj 6=g (I sq)) (W:aE c7 aj cs) (N:∀y,c7 y->y=a\/y=d\/y=aW.aq+13\/y=aW.aq+15\/y=aW.fM) (ao:ev cs b3.eh a d (Q++(dT++nu))) (au:M cs (aW.aq+13) (aT a1)) (av:M cs (aW.aq+15) (aT fQ)) (aw:M cs aW.fM (aT k2)) (l:∀Y ag,b9 (I Y) aW.iK=g ag->b9 (I Y) a1=g ag) (p:∀A∈aW.br,A.J.aL=4->b9 (I A.g7) fQ=b9 (I A.g7) aW.jx) (c:∀A∈aW.br,A.J.aL=7->b9 (I A.g7) k2=b9 (I A.g7) aW.ju) (k:h6 a1 sq) (ax:h6 fQ sq) (ay:h6 k2 sq) (ah:iy<=sq) (q:sq<=Id):mf b3 a d Q b w Z bA db aB c0 a' hi Id jj cs {aW with iK:=a1,jx:=fQ,ju:=k2} (dT++nu) sq:=by have X:=T.fU.qb;have K:=T.fU.ef;have C:=T.jQ;have P:=T.fU.eM (aB:=nu) rfl W N au av aw l p c;rw[gx] at P;refine⟨(i 0 (aQ rfl) (aQ rfl)).trans T.cI,(i 1 (aQ rfl) (aQ rfl)).trans T.eI,(i 2 (aQ rfl) (aQ rfl)).trans T.cD,(i 3 (aQ rfl) (aQ rfl)).trans T.eD,(i 4 (aQ rfl) (aQ rfl)).trans T.eW,(i 5 (aQ rfl) (aQ rfl)).trans T.kT,ai,(i 7 (aQ rfl) (aQ rfl)).trans T.mI,(i 8 (aQ rfl) (aQ rfl)).trans T.mJ,(i 10 (aQ rfl) (aQ rfl)).trans T.xX,(i 11 (aQ rfl) (aQ rfl)).trans T.pg,T.o.cb W (λ_ _ aj=>aj) (λy U aa=>by refine bi (N y aa) (λF=>?_) λm=>bi m (λF=>?_) λae=>bi ae (λF=>?_) λaf=>bi af (λF=>?_) λF=>?_;{exact ap F};{exact ar F};all_goals first|exact(aS (t (t U (t C (bX _ _))) (D F))).elim|exact(aS (t (t U (t C (H 18 X.1))) (D F))).elim),ao,P,T.jQ,T.eu.G W λaa=>?_,T.Ab,T.xQ,T.nk,⟨ej T.jP.1 ah,q⟩,k,ax,ay,λA az=>gy (T.eg A az) ah⟩;have:=T.Ab;refine bi (N _ aa) (λF=>aS (H 18 (E 1 (t this (ab F)) K.1))) λm=>bi m (λF=>aS (H 18 (E 1 (t this (ab F)) K.2.1))) λae=>bi ae (λF=>aS (H 4 (ep 13 (t this (ab F))))) λaf=>bi af (λF=>aS (H 2 (ep 15 (t this (ab F))))) λF=>?_;have v:=T.eu;rw[F] at v;exact dW (v.cm T.fU.fM) rfl
end
structure DF (t:f0) (A Q:e) (E:r e) (i:K) (w o p q:e) (a U:r e) (v:r cN) (C P:e) (m:e) (h:dB) (X:bu) (k:K) (b:i1) (l:r e) (c d g7:e):Prop where
 MK:mf t A Q E i w o p q a U v C P X k b l c
 Vo:X 12=g (I (C+1))
 xY:X 13=g (I h.aL)
 tm:X 14=g (x m)
 Vp:X 18=g (x d)
 Vq:X 19=g (io h)
 jw:q0 (E++l) k b.aq b.iK b.jx b.ju h d g7
 g7:g7<c
theorem Sc (ck:zi l) (cm:zg l) (cn:zj l) (cq:zk l) {cu:e} (c4:m4 b3) (be:M aj w (aT (iw b3))) (cv:ev aj b3.eh a d Q) (bE:hc cu af) (bl:hi<40) (T:mf b3 a d Q aj w Z bA db c0 dT a' hi (2+20*hi) h b aW aB iy) (aQ:h 12=g (I (hi+1))) (ax:h 13=g (I af.aL)) (aU:h 14=g (x hy)) (cy:h 15=g (S (bg af.eR))) (bF:h 16=g (I af.hG)) (bp:h 17=g (I af.fO)) (cz:h 18=g (x (aW.aq+17))) (aY:h 19=g (S [])) (a8:∀ao k cA bq a9 C cB,DF b3 a d Q aj w Z bA db c0 dT a' hi (2+20*(hi+1)) hy af ao k cA bq a9 C cB->aA cr ao k):a7 l (bc (aJ bL (f 13) (u (j 4))) (s (jM [18,6] (bh 115 (n (f 15) (n (aH (f 4) 30) (n (f 6) z))))) (s (bc (aJ bj (f 16) (u (j 64))) (s (es (aH (f 4) 31) (aH (f 18) 5) (bh 111 (n (as (f 0) (u (aV "tab"))) (n (f 16) z)))) L) L) L)) (s (bc (aJ bL (f 13) (u (j 8))) (s (ba 19 (as (u (S [(S [(j 0),(j 1)]),(S [(j 1),(j 2)]),(S [(j 2),(j 2)])])) (f 17))) L) (s (bc (aJ bL (f 13) (u (j 7))) (s (ba 18 (bh 22 (n (u (j 18)) (n (u (aV "")) (n (u (j 0)) z))))) (s (ba 6 (bh 26 (n (f 18) (n (f 6) z)))) (s (bc (aJ i8 (f 17) (u (j 1))) (s (es (f 7) (aH (f 18) 5) (u (j 1))) L) L) (s (bc (aJ bL (bR ht (f 17) (u (j 3))) (u (j 0))) (s (ba 19 (.S (n (u (j 1)) z))) L) L) L)))) L) L)) L)) h b aA:=by
 have au:=T.fU.qb;have ae:=T.fU.ef;have cC:=T.jQ;have av:=T.jP;have cD:=be.bj;have v:=cv.oi be;have cE:M b w (aT (iw b3)):=be.G T.o λF=>F.elim v.1 v.2.1;refine Vf (cx (m ax) U) (λK=>?_) λK=>?_
 ·have K:af.aL=4:=by have:=dq K;exact Lo this
  refine fF T.zS λcF cH bG cJ cM=>?_;have bM:=T.fU.ij;rw[bG] at bM;refine xS (fG (X (m cy) (X (bk (m T.eW) T.fU.cW rfl) (X (m T.jY) a5))) (ck (aW.aq+13) iy af.eR cF cH b _ (eH _) bM cJ cM (Lp bl av.2) (bE.cL K) λC a9 br bt k W _ bN bO bP bQ aw bT bw=>x9 rfl ?_));have bU:∀Y J,b9 (I Y) aW.iK=g J->b9 (I Y) (d3 I br bt)=g J:=λY J F=>by
   rw[bG,iH g6] at F;split at F
   ·rename_i bV;exact c (iH g6)<|c (aZ (bQ Y bV).1)<|c ((bQ Y bV).2)<|F
   exact ce F
  have bX:=T.fU.fJ.G W (a3 (dz rfl));have bY:=T.fU.fM.G W (a3 (H 4 au.1));have b0:=T.gm.G W (aD (bJ 13 ae.2.2)) (aD (bJ 13 ae.1)) (aD (bJ 13 ae.2.1));have az:=T.fU.eC.bj;refine ec (n6 (m bF) U) (λP=>?_) λP=>eV ?_
  ·have P:af.hG<64:=by have:=dq P;exact C7 this
   refine tj (fG (X (kR (l:=l) (cE.G W (aD (bJ 13 (t cD cC)))) (m T.cI) rfl rfl) (X (m bF) a5)) (cm b3.eh a d af.hG (Q++aB) k _ b0 P λb2 bq p q b4 b5=>?_));have cN:=bw;refine rg cN λc5 c6 bx da dc J b6 dd cO _=>?_;have cP:=bX.G q (dm (a3 (bJ 15 ae.1)) (a3 (bJ 15 ae.2.1)));refine SW (bk (m T.eW) ((T.fU.cW.G W (a3 (bv _))).G q (dm (a3 (bJ 14 ae.1)) (a3 (bJ 14 ae.2.1)))) rfl) (bk (m rfl) (cO.G q (dm (a3 (H 20 (E 2 (E 18 ae.1 az) b6))) (a3 (H 20 (E 2 (E 18 ae.2.1 az) b6))))) rfl) cP (eH _) rfl (by have:=T.sR.bo;unfold aa;exact Da bl av.2 this) λag N=>?_;have aC:=T.sR.iu aw (j b2);have cQ:aE (λy=>y=a\/y=d\/y=aW.aq+13\/y=aW.aq+15\/y=aW.fM) b ag:=(W.cb q (λ_ _ F=>ar (ar (ap F))) λ_ _ F=>F.elim ap λF=>ar (ap F)).cb N.o (λ_ _ b=>b) λ_ _ F=>ar (ar (ar (ap F)));rw[gx] at b4 b5;refine a8 _ ag _ (aB++bq) a9 C iy ⟨T.eM (λY k p=>?_) rfl cQ (λ_ b=>b) (b4.G N.o (by exact aD (bJ 15 ae.2.2)) (by exact aD (bJ 15 ae.1)) (by exact aD (bJ 15 ae.2.1))) ((bN.G q (dm (a3 (bJ 13 ae.1)) (a3 (bJ 13 ae.2.1)))).G N.o (by refine(?_:¬_=_);exact aD (dz rfl))) N.aF ((bY.G q (dm (a3 (H 18 (E 18 ae.1 au.1))) (a3 (H 18 (E 18 ae.2.1 au.1))))).G N.o (by refine(?_:¬_=_);exact a3 (H 2 au.1))) bU (λA bz _=>aC.2.2 _ (T.eg A bz)) (λ_ _ _=>rfl) (hf br bt rfl bO bP) aC.1 (T.h9.a0 (by exact H 1 aw)) (by exact H 1 aw) (Db av.2 bT),aQ,ax,aU,rfl,?_,⟨λ_=>ch ((bw.gs (q.gs λy F bb=>(F.elim (λbB=>aS (H 20 (E 1 (t (E 2 az bb) (ab bB)) ae.1))) λbB=>aS (H 20 (E 1 (t (E 2 az bb) (ab bB)) ae.2.1)):bK).elim) (bv _) λ_ _ b=>b).gs (N.o.gs λy F bb=>by exact(aS (H 4 (ep 15 (t (E 2 az bb) (ab F))))).elim) (show aW.aq+16<=b.i+2 by exact bJ 2 (H 2 az)) λ_ _ b=>b) (λ_=>⟨b2,aC.2.1,b5⟩) (λb=>by exact(fn (E 1 b P) rfl).elim),λb=>by exact(fn (t (D b) (ab K)) rfl).elim,λb=>by exact(fn (t (D b) (ab K)) rfl).elim⟩,aw⟩
   ·refine(?_:(if Y=6 then _ else if Y=18 then _ else h Y)=_);exact c (ay p ..) (c (ay (aD (ah k rfl)) ..) rfl)
   rw[io,ay (aD (ah (al 1 (ab K)) rfl)),ay (Dc K)];exact aY
  have P:64<=af.hG:=by have:=gg P;exact Lq this
  refine a8 _ k _ (aB++[]) a9 C iy ⟨T.eM (λY k p=>?_) rfl (W.a0 λ_ _ F=>ar (ar (ap F))) (λ_ b=>b) (by exact c (eP ..)<|b0) bN bX bY bU (λ_ _ _=>rfl) (λ_ _ _=>rfl) (hf br bt rfl bO bP) (T.sR.a0 (by exact H 1 aw)) (T.h9.a0 (by exact H 1 aw)) (by exact H 1 aw) (Db av.2 bT),aQ,ax,aU,rfl,?_,⟨λ_=>ch (bw.gs (a:=b.i+2) (λ_ _ _ cR _=>cR) (show aW.aq+16<=b.i+2 by exact bJ 2 (H 2 az)) λ_ _ b=>b) (λb=>by exact(fn (E 1 P b) rfl).elim) (λ_=>T.sR.bI (bv _)),λb=>by exact(fn (t (D b) (ab K)) rfl).elim,λb=>by exact(fn (t (D b) (ab K)) rfl).elim⟩,aw⟩
  ·refine(?_:(if Y=6 then _ else if Y=18 then _ else h Y)=_);exact c (ay p ..) (c (ay (aD (ah k rfl)) ..) rfl)
  rw[io,ay (aD (ah (al 1 (ab K)) rfl)),ay (Dc K)];exact aY
 have bC:af.aL≠4:=by have:=gg K;exact Dt this
 have b7:∀{ao:bu},(∀Y,Y<19->ao Y=h Y)->ao 19=g (io af)->q0 (Q++aB) b aW.aq aW.iK aW.jx aW.ju af (aW.aq+17) 0->aA cr ao b:=λai bD aG=>a8 _ b _ (aB++[]) iy (aW.aq+17) 0 ⟨T.eM (c7:=ca) (λY k _=>ai Y (ah k rfl)) ((ai 6 (by decide)).trans T.jY) .dO (λ_=>ed) (by exact c (eP ..)<|T.gm) T.fU.ij T.fU.fJ T.fU.fM (λ_ _ b=>b) (λ_ _ _=>rfl) (λ_ _ _=>rfl) T.zS T.sR T.h9 (bv _) (Lr av.2),(ai 12 (by decide)).trans aQ,(ai 13 (by decide)).trans ax,(ai 14 (by decide)).trans aU,(ai 18 (by decide)).trans cz,bD,by refine c (eP ..) ?_;exact aG,dr av.1 rfl⟩
 refine ec (cx (m ax) U) (λK=>dL (jd U (m bp) (by decide) (GQ (bE.qo (by have:=dq K;exact wm this)))) (b7 (λY K=>ay (aD K)) ?_ ⟨λb=>absurd b bC,λb=>?_,λ_=>rfl⟩)) λb8=>ec (cx (m ax) U) (λK=>?_) λb'=>b7 (λ_ _=>rfl) ?_ ⟨λb=>absurd b bC,λb=>?_,λ_=>?_⟩
 ·rw[io,aZ (by have:=dq K;exact wm this)];rfl
 ·have:=dq K;exact(Ls b this).elim
 ·have K:af.aL=7:=by have:=dq K;exact y8 this
  have cS:=T.fU.eC.bj;refine gP (X U (X U (X U a5))) (cn 18 (aV "") b _ λk A=>gP (X (m rfl) (X (m T.jY) a5)) (cq (b.i+1) iy [b.i+1] k _ (by have:=A.i;exact dr (E 2 (c8 _) (D this)) rfl) (sH (eH _)) (.n (A:=[]) A.aF A.cp (by decide) .z) (il _ _) (show 1<1000 by decide) λp q cU=>?_));have cf:=cU 0 (b.i+1) 18 (aV "") b.i 0 rfl A.aF;have aI:aE ca b p:=A.o.cb q (λ_ _ b=>b) λy cV F=>by rw[e6] at F;exact aS (H 1 (E 1 (D F) cV))
  have cg:=T.fU.fM.G aI id;have bx:∀ag aM,aE (λy=>y=aW.fM) p ag->M ag aW.fM (aT aM)->h6 aM (iy+1)->(b9 (I iy) aM).isSome=decide (1<af.fO)->(∀Y,Y<iy->b9 (I Y) aM=b9 (I Y) aW.ju)->a7 l (s (bc (aJ bL (bR ht (f 17) (u (j 3))) (u (j 0))) (s (ba 19 (.S (n (u (j 1)) z))) L) L) L) ((h.aP 18 (x (b.i+1))).aP 6 (I (iy+1))) ag aA:=λag aM aO cX cY cZ c2=>by
   have c3:aE (λy=>y=a\/y=d\/y=aW.aq+13\/y=aW.aq+15\/y=aW.fM) b ag:=aI.cb aO (λ_ _=>ed) λ_ _ F=>ar (ar (ar (ar F)));have cj:∀ao:bu,(∀Y,Y<19->ao Y=((h.aP 18 (x (b.i+1))).aP 6 (I (iy+1))) Y)->ao 19=g (io af)->aA cr ao ag:=λao ai bD=>a8 _ ag _ (aB++[]) (iy+1) (b.i+1) iy ⟨T.eM (λY k p=>(ai Y (ah k rfl)).trans ?_) (ai 6 (by decide)) c3 (λ_ b=>b) (by refine c (eP ..) ?_;exact(T.gm.G aI id id id).G aO (aD (H 18 (E 18 ae.2.2 au.1))) (aD (H 18 (E 18 ae.1 au.1))) (aD (H 18 (E 18 ae.2.1 au.1)))) ((T.fU.ij.G aI id).G aO (aD (H 4 au.1))) ((T.fU.fJ.G aI id).G aO (aD (H 2 au.1))) cX (λ_ _ b=>b) (λ_ _ _=>rfl) (λA bz _=>c2 _ (T.eg A bz)) (T.zS.a0 (ge _)) (T.sR.a0 (ge _)) cY (ge _) (Lu av.2),(ai 12 (by decide)).trans aQ,(ai 13 (by decide)).trans ax,(ai 14 (by decide)).trans aU,ai 18 (by decide),bD,⟨λb=>absurd b bC,λ_=>hf _ _ (cf.G aO λF=>?_) (by refine(?_:aW.aq<=b.i+1);exact bJ 1 (H 18 cS)) cZ,λb=>(fn (t (D b) (ab K)) rfl).elim⟩,fp _⟩
   ·refine ec (cx (pc (m bp) U (by decide)) U) (λag=>dL (ea (X U a5) (show 1<aa by decide)) (cj _ (λY K=>ay (aD K)) ?_)) λag=>cj _ (λ_ _=>rfl) ?_
    ·rw[io,ay (aD (al 1 (ab K))),aZ ⟨K,by have:=dq ag;exact Lv this⟩];rfl
    rw[io,ay (aD (al 1 (ab K))),ay λb=>by have:=gg ag;exact Lw b.2 this];exact aY
   ·refine(?_:(if Y=6 then _ else if Y=18 then _ else h Y)=_);exact c (ay p) (c (ay (aD (ah k rfl))) rfl)
   have:=T.fU.fM.bj;exact aS (H 1 (E 1 this (ab F)))
  refine ec (jc (m bp) U) (λaG=>jg U (m T.mI) (bk (m rfl) cf rfl) cg (dr (E 18 (c8 _) au.1) rfl) rfl (by have:=T.h9.bo;unfold aa;exact Da bl av.2 this) λag N=>?_) λaG=>bx p _ .dO cg (T.h9.a0 (ge _)) ?_ λ_ _=>rfl
  ·have aC:=T.h9.iu (fp iy) (j 1);refine bx ag _ N.o N.aF aC.1 ?_ aC.2.2;refine c (yo ..)<|c (aC.2.1 ..) (c (oF (by have:=dq aG;exact Lx this)) ?_);rfl
  refine c (T.h9.bI (bv _) ..) (c (jE (by have:=gg aG;exact Ly this) ..) ?_);rfl
 ·rw[io,ay (by have:=gg b8;exact Lz this),ay λb=>by have:=gg b';exact Dd b.1 this];exact aY
 ·have:=gg b';exact(Dd b this).elim
 have:=gg b8;exact d4 (bv _) (bv _)
theorem QV (Z:aM l A h b λW k=>(match W with|S X=>X.length<aa/\an (S X) k|_=>bK)):aM l (.S A) h b an:=Z
theorem Pz (F:a=d) (Z:an (aK false) b):rc d8 (I a) (I d) b an:=by
 refine bp F ?_;have:an (aK (decide ((a:B)≠(a:B)))) b:=by exact c (jE (λb=>b rfl))<|Z
 exact this
theorem mf.uT (T:mf b3 a d Q aj w Z bA db c0 dT a' hi hy h b aW aB iy) (i:∀Y,Y<12->jj Y=h Y):mf b3 a d Q aj w Z bA db c0 dT a' hi hy jj b aW aB iy:={T with cI:=(i 0 (aQ rfl)).trans T.cI,eI:=(i 1 (aQ rfl)).trans T.eI,cD:=(i 2 (aQ rfl)).trans T.cD,eD:=(i 3 (aQ rfl)).trans T.eD,eW:=(i 4 (aQ rfl)).trans T.eW,kT:=(i 5 (aQ rfl)).trans T.kT,jY:=(i 6 (aQ rfl)).trans T.jY,mI:=(i 7 (aQ rfl)).trans T.mI,mJ:=(i 8 (aQ rfl)).trans T.mJ,xX:=(i 10 (aQ rfl)).trans T.xX,pg:=(i 11 (aQ rfl)).trans T.pg}
theorem Sb (cx:zi l) (cy:zg l) (cz:zj l) (cA:zk l) (cB:DN l) (cC:m4 b3) (cE:M aj w (aT (iw b3))) (b8:cO aj hi Z a') (b9:M aj bA (V (bg aB))) (bP:ev aj b3.eh a d Q) (bu:sE a' aB) (b':c0.length=a'.length) (cF:∀W∈c0,W<a'.length) (T:mf b3 a d Q aj w Z bA db aB c0 a' 0 2 h b aW [] hy) (cH:∀h b aW ag hy cI,mf b3 a d Q aj w Z bA db aB c0 a' (a'.length- 1) cI h b aW ag hy->a7 l aC h b aA):a7 l (s (el dk 12 (n (u (j 1)) (n (cT bo (n (f 1) z)) z)) (s (jM [13,14,15,16,17] (as (f 1) (as (f 10) (f 12)))) (s (ba 18 (f 5)) (s (ba 19 (.S z)) (s (bc (aJ bL (f 13) (u (j 4))) (s (jM [18,6] (bh 115 (n (f 15) (n (aH (f 4) 30) (n (f 6) z))))) (s (bc (aJ bj (f 16) (u (j 64))) (s (es (aH (f 4) 31) (aH (f 18) 5) (bh 111 (n (as (f 0) (u (aV "tab"))) (n (f 16) z)))) L) L) L)) (s (bc (aJ bL (f 13) (u (j 8))) (s (ba 19 (as (u (S [(S [(j 0),(j 1)]),(S [(j 1),(j 2)]),(S [(j 2),(j 2)])])) (f 17))) L) (s (bc (aJ bL (f 13) (u (j 7))) (s (ba 18 (bh 22 (n (u (j 18)) (n (u (aV "")) (n (u (j 0)) z))))) (s (ba 6 (bh 26 (n (f 18) (n (f 6) z)))) (s (bc (aJ i8 (f 17) (u (j 1))) (s (es (f 7) (aH (f 18) 5) (u (j 1))) L) L) (s (bc (aJ bL (bR ht (f 17) (u (j 3))) (u (j 0))) (s (ba 19 (.S (n (u (j 1)) z))) L) L) L)))) L) L)) L)) (s (bc (aJ d8 (b1 46 (f 3) (n (f 13) (n (fx dC (as (f 2) (f 20)) 20 (f 14) (u (aK true))) (n (f 18) (n (f 19) z))))) (f 12)) (s (ba 11 (u (aK false))) L) L) L)))))) aC) h b aA:=by
 have bG:=bu.F2;have aG:=bu.F3;have be:=b8.eh bP;have cf:=bP.uZ b9;have bQ:∀{cg},aE (λy=>y=a\/y=d) aj cg->cO cg hi Z a':=λW=>b8.su W (λF=>F.elim be.1.1 be.1.2.1) λaC A=>⟨λF=>F.elim (be.2 aC A).1.1 (be.2 aC A).1.2.1,λF=>F.elim (be.2 aC A).2.1 (be.2 aC A).2.2.1⟩;have cj:=kQ (bQ T.o) (ah (al 1 aG) rfl) (m (l:=l) T.eI);rw[show I a'.length=j (((a'.length- 1:e):B)+1) from cS q.j (LA bG)] at cj;refine Ba (a'.length- 1) (ah (al 1 (t (mW _ _) aG)) rfl) (λai h b=>∃aW ag hy,mf b3 a d Q aj w Z bA db aB c0 a' ai (2+20*ai) h b aW ag hy) U cj ⟨aW,[],hy,T⟩ ?_ λh b ⟨aW,ag,hy,T⟩=>cH h b aW ag hy _ T;refine λai h b de bT bw Y=>uw bw λaW ag hy T=>aU (⟨_,cY (t (E 1 bT (pm bG)) (D b'))⟩:∃p,c0[ai+1]? =g p) λp bV=>?_;have cJ:=cF p (bF bV);refine aU (⟨_,cY cJ⟩:∃aC,a'[p]? =g aC) λaC A=>?_;have bX:=bF A;refine bl (bu.dD aC bX) λck cM=>?_;have bx:=bQ T.o;have bY:∀b0,b0<1000->b0<aa:=λb0 b=>by unfold aa;exact ah b rfl
 refine GG (jX bx (ah (al 1 aG) rfl) (m T.eI) (e4 (d:=ai+1) (m T.xX) (m rfl) T.eu (by exact c (au ..)<|bY _ (ah (al 1 (t (ab b') aG)) rfl)) (by refine c (dp ..) (c bV ?_);rfl)) A) (bx.a9 aC bX).1 rfl ?_;refine dL (m T.kT) (dL (ea a5 (aQ rfl)) (He (λbk k=>∃aI b2 b4 C aO,DF b3 a d Q aj w Z bA db aB c0 a' ai (2+20*(ai+1)) aC.bU aC.J bk k aI b2 b4 C aO) (λcN K=>?_) ?_))
 ·refine Sc cx cy cz cA (aB:=ag) (aW:=aW) (iy:=hy) cC cE bP ck (H 1 (t (E 1 bT (pm bG)) aG)) (T.uT λY K=>?_) rfl rfl rfl rfl rfl rfl rfl rfl λbk k aI b2 b4 C aO av=>K bk k ⟨aI,b2,b4,C,aO,av⟩;refine(?_:(if Y=19 then _ else if Y=18 then _ else if Y=17 then _ else if Y=16 then _ else if Y=15 then _ else if Y=14 then _ else if Y=13 then _ else if Y=12 then _ else h Y)=_);exact c (ay (aD (ah K rfl))) (c (ay (aD (ah K rfl))) (c (ay (aD (ah K rfl))) (c (ay (aD (ah K rfl))) (c (ay (aD (ah K rfl))) (c (ay (aD (ah K rfl))) (c (ay (aD (ah K rfl))) (c (ay (aD K)) rfl)))))))
 clear T bx;refine λbk k bw=>zZ bw λaW ag hy C aO av=>?_;have T:=av.MK;have bx:=bQ T.o;have cP:=(bx.a9 aC bX).2;refine g3 T.fU.kD λbz cQ b5=>?_;have aP:=T.xQ;have bM:=T.jQ;have bB:=T.fU.eC.bj;have cR:=b9.G T.o λF=>F.elim cf.1 cf.2.1;refine GE (bt:=false) (λbq=>∃aI,mf b3 a d Q aj w Z bA db aB c0 a' (ai+1) (2+20*(ai+1)) bk bq aI ag hy) (λcN cU=>?_) (λF=>eY F) λ_ bq ⟨aI,T⟩=>Y.dK _ _ ⟨aI,ag,hy,T⟩;refine(QL (m T.eD) b5 rfl (g5 (hE (m av.xY) (g5 (p1 (bg aC.J.ao) (λv=>((aC.J.ao[v]?).map λW=>I (ih aB W)).getD bI) (λ_=>true) (m av.tm) cP (by exact c (au ..)<|bY _ (ah cM rfl)) (λv df cV _=>⟨U,λ_=>?_⟩) λb6 bC=>?_)))):aM l (b1 46 _ _) bk k _)
 ·refine hK cV λW ae=>c ae ?_;have cW:=ck.bU W (bF ae);have cX:aB[W]? =g (ih aB W):=by unfold ih;rw[cY (by exact c (bu.kN ..)<|cW)];rfl
  exact e4 (d:=W) (m T.cD) (m rfl) cR (by exact c (au ..)<|c (bu.kN ..)<|bY _ (ah (al 1 aG) rfl)) (by refine c (dp ..) (c cX ?_);rfl)
 have cn:=bC.aF;rw[m9,au,p',show(aC.J.ao.map λW=>I (ih aB W))=bg (aC.J.ao.map (ih aB)) by simp[H0]] at cn;refine(X (m av.Vp) (X (m av.Vq) a5)) _ ?_;dsimp only;have aw:=T.fU.G rfl bC.o;have bN:∀{cZ:Type} (cp:lN->cZ),(aW.br.map cp).length<1000:=λcp=>by exact c (au ..)<|ah (t (E 1 (t (ab aP) bT) (pm bG)) aG) rfl
 refine Tx (b5.G bC.o id) rfl rfl (cB aW.aq (aW.aq+12) 0 bz cQ (I aC.J.aL) (x k.i) (x C) (io aC.J) _ _ _ _ b6 _ (b5.G bC.o id) aw.jH aw.P aw.h7 aw.gM (bN _) (bN _) (bN _) (bN _) λbq aY _ c2 c3 c4 c5=>?_);refine m av.Vo _ (Pz (by exact c (au ..)<|aP) (cU bq ?_));have bD:aE ca k b6:=bC.o;have c6:qZ (aW.aq+16) b6 bq:=aY.gs λy ax bO=>(ax.elim (λaZ=>aS (H 14 (ep 1 (t bO (ab aZ))))) λaZ=>aZ.elim (λa8=>aS (H 12 (ep 3 (t bO (ab a8))))) λa8=>a8.elim (λbb=>aS (H 11 (ep 4 (t bO (ab bb))))) λbb=>aS (H 10 (ep 5 (t bO (ab bb)))):bK).elim;have b7:q0 (Q++ag) bq aW.aq aW.iK aW.jx aW.ju aC.J C aO:=by
  have cq:=av.jw.gs (aB:=[]) (qt:=aW.iK) (oG:=aW.jx) (os:=aW.ju) (bD.gs λy ax=>ax.elim) (λc7 _ v=>v.G bD id) (λ_ _ b=>b) (λ_=>rfl) λ_=>rfl;have cu:=cq.gs (aB:=[]) (qt:=aW.iK) (oG:=aW.jx) (os:=aW.ju) c6 (λc7 c8 v=>?_) (λ_ _ b=>b) (λ_=>rfl) λ_=>rfl
  ·rw[eP,eP] at cu;exact cu
  refine iI (cq.lg c8) λ_ _ bE _=>v.G aY λF=>bi F (λF=>?_) λbw=>bi bw (λF=>?_) λN=>bi N (λF=>?_) λF=>?_<;>rw[F] at bE
  ·exact dW (bE.cm aw.jH) rfl
  ·exact dW (bE.cm aw.P) rfl
  ·exact dW (bE.cm aw.h7) rfl
  exact dW (bE.cm aw.gM) rfl
 have da:∀bz∈aW.br,bz.cL≠k.i:=λbz dc F=>by have:=(T.fU.dN bz dc).cL.bj;exact aS (E 1 (D F) this)
 have dd:=aw.n7 rfl aY (dE:=⟨k.i,nf aB aC.J,x C,C,aO⟩) c2 c3 c4 c5 ⟨cn.G aY (dm (a3 (H 16 bB)) (dm (a3 (H 14 bB)) (dm (a3 (H 13 bB)) (a3 (H 12 bB))))),ar (by refine(?_:aW.aq+17<k.i);exact bB),λ_=>rfl,⟨b7.iu,b7.lg,b7.zJ⟩⟩ da;have af:=T.fU.ef;refine⟨{aW with br:=aW.br++[⟨k.i,nf aB aC.J,x C,C,aO⟩]},{T with o:=(T.o.az (bD.a0 λ_ _=>ed)).cb aY (λ_ _ b=>b) (λy ax F=>(F.elim (λaZ=>aS (H 1 (t (E 1 (D aZ) ax) bM))) λaZ=>aZ.elim (λa8=>aS (H 3 (t (E 1 (D a8) ax) bM))) λa8=>a8.elim (λbb=>aS (H 4 (t (E 1 (D bb) ax) bM))) λbb=>aS (H 5 (t (E 1 (D bb) ax) bM)):bK).elim),gm:=(T.gm.G bD id id id).G aY (dm (aD (bJ 1 af.2.2)) (dm (aD (bJ 3 af.2.2)) (dm (aD (bJ 4 af.2.2)) (aD (bJ 5 af.2.2))))) (dm (aD (bJ 1 af.1)) (dm (aD (bJ 3 af.1)) (dm (aD (bJ 4 af.1)) (aD (bJ 5 af.1))))) (dm (aD (bJ 1 af.2.1)) (dm (aD (bJ 3 af.2.1)) (dm (aD (bJ 4 af.2.1)) (aD (bJ 5 af.2.1))))),fU:=dd,eu:=(T.eu.G bD id).G aY (by have:=T.Ab;exact dm (a3 (H 16 this)) (dm (a3 (H 14 this)) (dm (a3 (H 13 this)) (a3 (H 12 this))))),xQ:=by refine(?_:(aW.br++[_]).length=_);refine c (dw ..) (c aP ?_);rfl,nk:=λv W ae=>?_,eg:=λW ae=>?_}⟩
 ·by_cases cv:v<aW.br.length
  ·rw[show(aW.br++[_])[v]? =aW.br[v]? from iz cv] at ae;exact T.nk v W ae
  have:=(co.mp ae).1;simp only[dw,l9] at this;obtain rfl:v=ai+1:=d4 (ep 1 (d9 1 this (ab aP))) (t (D aP) (qq cv));rw[show(aW.br++[_])[ai+1]? =_ from oq (ab aP),aP,pA] at ae;refine bp (bm ae)<|hf p aC bV A rfl
 exact bi (d2.mp ae) (λae=>T.eg W ae) λae=>gR ae<|av.g7
theorem GR (y:d=0\/d=1) (K:ag l h b A (S (qk a))):ag l h b (as A (u (j d))) ((qk a)[d]?.getD bI):=by
 rcases y with rfl|rfl
 ·exact jd (am:=0) K U (show 2<aa by decide) rfl
 exact jd (am:=1) K U (show 2<aa by decide) rfl
theorem RN (k:m4 b3) (T:bu->Prop) (av:∀h,T h->h 0=g (x a)/\h 5=g (x d)/\h 8=g (x w)) (J:∀h C,T h->T (h.aP 9 C)) (ae:T h) (ax:M b a (aT (iw b3))) (af:M b d (ga 50 C Z 1)) (ai:M b w (aT [])) (ay:0<w) (K:a≠w) (aB:∀h H,T h->aE (λy=>y=w) b H->H.i=b.i->M H w (aT (Fl b3))->a7 l aC h H aA):a7 l (s (el dk 9 (n (u (j 3)) z) (s (bc (aJ bL (bR ht (bR nn (as (f 0) (u (aV "shut"))) (f 9)) (u (j 2))) (u (j 1))) (s (es (f 8) (.S (n (aH (f 5) 5) (n (as (as (u (S [(S [(j 0),(j 1)]),(S [(j 1),(j 2)]),(S [(j 2),(j 2)])])) (f 9)) (u (j 0))) (n (as (as (u (S [(S [(j 0),(j 1)]),(S [(j 1),(j 2)]),(S [(j 2),(j 2)])])) (f 9)) (u (j 1))) z)))) (u (j 1))) L) L) L)) aC) h b aA:=by
 have aD:d≠w:=λF=>by rw[F] at af;exact dW (af.cm ai) rfl
 refine u9 3 (by decide) (λab h H=>T h/\aE (λy=>y=w) b H/\H.i=b.i/\M H w (aT (d3 sX ((eQ ab).filter λv=>b3.jZ.testBit v) λ_=>j 1))) U (iq ae .dO rfl ai) ?_ λh H t=>oX t λy P aG F=>aB h H y P aG F;refine λab h H aO Q aI Y=>oX aI λae W aj ao=>?_;have D:=J h (I ab) ae;have N:=av _ D;have aL:=k.jZ;have aq:=jd (l:=l) (h:=h.aP 9 (I ab)) (b:=H) (aw:=f 9) (U (C:=S [(S [(j 0),(j 1)]),(S [(j 1),(j 2)]),(S [(j 2),(j 2)])])) (m rfl) (by decide) (GQ Q);have au:(eQ (ab+1)).filter (λv=>b3.jZ.testBit v)=(eQ ab).filter (λv=>b3.jZ.testBit v)++if b3.jZ.testBit ab then [ab] else []:=by refine c (BY ..) (c (BN ..) ?_);cases E:b3.jZ.testBit ab<;>simp[E]
 refine ec (Gt (kR (ax.G W K) (m N.1) rfl rfl) (m rfl) (ah aL rfl) (ah Q rfl)) (λE=>jg U (m N.2.2) (ea (X (bk (m N.2.1) (af.G W aD) rfl) (X (GR (d:=0) (ap rfl) aq) (X (GR (d:=1) (ar rfl) aq) a5))) (show 3<aa by decide)) ao ay rfl (by exact c (ld ..)<|kB (pu _ _) (by refine c (k7 ..) ?_;unfold aa;exact ah Q rfl)) λp ag=>?_) λE=>eV (Y.dK _ _ (iq D W aj (by refine c au (c E ?_);simpa using ao)));have A:=ag.aF;have aM:((eQ ab).filter λv=>b3.jZ.testBit v).Nodup:=BX.filter _;rw[show q.S [I 1,(qk ab)[0]?.getD bI,(qk ab)[1]?.getD bI]=sX ab from rfl,mp Fb aM,s4 (by simp),oU (b:=λ_=>j 1) λaQ _=>by unfold hF;split<;>rfl] at A;exact Y.dK _ _ (iq D (W.az ag.o) (ag.i.trans aj) (by exact c au<|c (aZ E)<|A))
theorem VM (aZ:cv aO):MY (bC aO (a+5)):=by
 intro b8 cF b9 dh ej ek b b' di en T et cH bT cf bw k aG cg;have dj:=VL (a:=a+1) aZ;have dn:=GY (a:=a) aZ;have cM:=G4 (a:=a+2) aZ;have cN:=G6 (a:=a+2) aZ;have dq:=VZ (a:=a+3) aZ;have dt:=V0 (a:=a+3) aZ;have dv:=V2 (a:=a+3) aZ;have dw:=V8 (a:=a+3) aZ;have bx:=aG.F2;have bk:=aG.F3;have cO:=bT.bj;refine cz (aZ.cy 63 rfl) rfl (fA (w1 rfl a5 λdx cj=>dq T.i dx _ cj.aF (E 1 (c8 _) cO) cj.i λp dz ag dA dB dE dF dG dH dI dJ=>?_));have cP:aE ca T p:=cj.o.cb dz (λ_ _ T=>T) λy aw F=>aS (E 1 (D F) aw);refine fA (QM rfl (g5 (hE (kR (l:=bC aO (a+4)) (bT.G cP id) (m rfl) rfl rfl) (g5 (gu (cJ λbU bV=>z5 (an:=λA p=>_) ?_))))));dsimp only;refine cJ λck bX=>dv bU.i di.eh p.i ck _ bX.aF (by have:=bV.i;exact E 1 (c8 _) (D this)) λP cQ bl cR cS=>?_;have aq:=bV.i;have aY:=bX.i;have dM:aE ca p P:=(bV.o.az bX.o).cb cQ (λ_ _ T=>T) λy aw F=>aS (H 1 (E 1 (t (D aq) (D F)) aw));have cU:=(bV.aF.G bX.o id).G cQ (aD (D aq));rw[show ck.i=T.i+15 by exact d4 (d9 2 (d9 1 (ab aY) (ab aq)) (ab ag)) (E 1 (E 1 (D ag) (D aq)) (D aY)),show bU.i=T.i+14 by exact d4 (d9 1 (ab aq) (ab ag)) (E 1 (D ag) (D aq)),show p.i=T.i+13 by exact d4 (ab ag) (D ag)] at cR;rw[show ck.i=T.i+15 by exact d4 (d9 2 (d9 1 (ab aY) (ab aq)) (ab ag)) (E 1 (E 1 (D ag) (D aq)) (D aY))] at cS;rw[show p.i=T.i+13 by exact d4 (ab ag) (D ag)] at cU;refine gP (X U (X U (X U a5))) (cM 50 (aV "") P _ λdP A=>gP (X (m rfl) (X U a5)) (cN (P.i+1) 1 [P.i+1] dP _ (by have:=A.i;exact dr (E 2 (c8 _) (D this)) rfl) (sH (eH _)) (.n (A:=[]) A.aF A.cp (by decide) .z) (il _ _) (show 1<1000 by decide) λa3 dQ dR=>?_));have cm:=dR 0 (P.i+1) 50 (aV "") P.i 0 rfl A.aF;have dS:aE ca P a3:=A.o.cb dQ (λ_ _ T=>T) λy aw F=>by rw[e6] at F;exact aS (H 1 (E 1 (D F) aw))
 rw[show P.i+1=T.i+17 by exact d4 (al 1 (d9 3 (d9 2 (d9 1 (ab bl) (ab aY)) (ab aq)) (ab ag))) (al 1 (E 1 (E 1 (E 1 (D ag) (D aq)) (D aY)) (D bl))),show P.i=T.i+16 by exact d4 (d9 3 (d9 2 (d9 1 (ab bl) (ab aY)) (ab aq)) (ab ag)) (E 1 (E 1 (E 1 (D ag) (D aq)) (D aY)) (D bl))] at cm;have ai:=cm.bj;refine rM λaI cn=>rM λbz bY=>?_;have ae:=cn.i;have bB:=bY.i;have cV:aE ca a3 bz:=cn.o.az bY.o;have b0:=dS.az cV;have cX:=dM.az b0;have cZ:=cP.az cX;have c2:M bz (T.i+17) (ga 50 (aV "") (T.i+16) 1):=cm.G cV id;refine RN k (a:=b8) (d:=T.i+17) (w:=aI.i) (λh=>h 0=g (x b8)/\h 1=g (x cF)/\h 2=g (x b9)/\h 3=g (x T.i)/\h 4=g (x (T.i+14))/\h 5=g (x (T.i+17))/\h 6=g (I 2)/\h 7=g (x a3.i)/\h 8=g (x aI.i)) (λh T=>ch T.1 T.2.2.2.2.2.1 T.2.2.2.2.2.2.2.2) (λh _ T=>T) ⟨rfl,rfl,rfl,rfl,by refine(?_:g (q.x bU.i)=_);exact c (show bU.i=T.i+14 by exact d4 (d9 1 (ab aq) (ab ag)) (E 1 (D ag) (D aq))) rfl,by refine(?_:g (q.x (P.i+1))=_);exact c (show P.i+1=T.i+17 by exact d4 (al 1 (d9 3 (d9 2 (d9 1 (ab bl) (ab aY)) (ab aq)) (ab ag))) (al 1 (E 1 (E 1 (E 1 (D ag) (D aq)) (D aY)) (D bl)))) rfl,rfl,rfl,rfl⟩ (bT.G cZ id) c2 bY.aF (by exact E 1 (c8 _) (D ae)) (by exact aD (H 19 (E 1 (E 18 cO ai) (D ae)))) λh aL aA c3 bD dT=>?_;have b2:aE ca T aL:=cZ.cb c3 (λ_ _ T=>T) λy aw F=>aS (H 19 (E 1 (t (E 1 ai (D ae)) (D F)) aw));have cu:∀cx,cx<1000->cx<aa:=λcx T=>by unfold aa;exact ah T rfl
 have c4:=cH.G b2 λ_ _=>id;refine fA (p1 (b.map λN=>x N.a9) (λav=>((b[av]?).map λ_=>I 0).getD bI) (λ_=>true) (m aA.2.1) c4.cW (by exact c (au ..)<|cu _ (ah (al 1 bk) rfl)) (λav bq _ bE=>⟨U,λ_=>?_⟩) λc5 bt=>?_)
 ·rw[au] at bE;exact c (cY bE)<|U
 have c6:=bt.aF;rw[au,uv] at c6;have b3:=aG.kN;have dU:=(cf.G b2 id).G bt.o id;have dV:aE (λy=>y=aI.i) bz c5:=c3.az (bt.o.a0 λ_ _=>ed);refine u9 b.length (ah (al 1 bk) rfl) (λav a7 cA=>(∃bq,a7=((h.aP 10 (x aL.i)).aP 9 bq)\/a7=(h.aP 10 (x aL.i)))/\aE (λy=>y=aL.i) c5 cA/\∃aM:r e,M cA aL.i (V (bg aM))/\aM.length=b.length/\(∀W∈aM,W<b.length)/\∀(v W:e),v<av->b'[v]? =g W->aM[W]? =g v) (kQ (c4.G bt.o λ_ _=>id) (ah (al 1 bk) rfl) (m aA.2.1)) ⟨⟨bI,ar rfl⟩,.dO,b.map λ_=>0,c (show bg (b.map λ_=>0)=b.map λ_=>I 0 from l' ..)<|c6,au ..,?_,λv W aQ=>absurd aQ (yu _)⟩ ?_ ?_
 ·intro W aj;refine ax (e5.mp aj) λ_ _ bG=>?_;refine bp bG<|bx
 ·refine λav a7 cA eu bE bG Y=>EI bG λbJ W aM aQ bb cB b4=>aU (⟨_,cY (t bE (D b3))⟩:∃Q,b'[av]? =g Q) λQ bM=>?_;have c7:=aG.bj Q (bF bM);have aC:a7 2=g (x b9)/\a7 10=g (x aL.i):=by
   obtain⟨bq,rfl|rfl⟩:=bJ
   ·exact⟨aA.2.2.1,rfl⟩
   exact⟨aA.2.2.1,rfl⟩
  have dW:=cf.bj;refine xR (d:=Q) (C:=I av) (m rfl) (m aC.2) (e4 (d:=av) (m aC.1) (m rfl) (dU.G W (aD (H 20 (t (E 1 (E 1 (E 18 dW ai) (D ae)) (D bB)) (D bD))))) (by exact c (au ..)<|cu _ (ah (al 1 (t (ab b3) bk)) rfl)) (by refine c (dp ..) (c bM ?_);rfl)) aQ (t (E 1 (c8 _) (D bB)) (D bD)) (by exact c (au ..)<|t c7 (D bb)) (by exact c (au ..)<|cu _ (ah (al 1 (t (ab bb) bk)) rfl)) λp da=>?_;have dc:=da.aF;rw[show(bg aM).set Q (I av)=bg (aM.set Q av) from(kx ..).symm] at dc;refine Y.dK _ _ ⟨⟨I av,ap ?_⟩,W.az da.o,aM.set Q av,dc,by exact c (mR ..)<|bb,λA be=>?_,λv A dX be=>?_⟩
  ·obtain⟨bq,rfl|rfl⟩:=bJ
   ·funext cC;refine(?_:(if cC=9 then _ else if cC=9 then _ else _)=(if cC=9 then _ else _));split<;>rfl
   rfl
  ·rcases o9 be with rfl|⟨v,_,aQ⟩
   ·exact bE
   exact cB A (bF aQ)
  by_cases F:v=av
  ·subst F;obtain rfl:=bm (bM.symm.trans be);exact vU (t c7 (D bb))
  have dZ:Q≠A:=λcg=>F (((r7 (co.mp bM).1 aG.b7).mp (by exact c bM (c be (c cg rfl)))).symm);exact c (qB dZ)<|b4 v A (qr (ep 1 dX) F) be
 refine λa7 b5 bG=>EI bG λbJ cD aM aQ bb cB b4=>?_;have aC:∀Y,Y<9->a7 Y=h Y:=λY K=>by
  obtain⟨bq,rfl|rfl⟩:=bJ
  ·refine(?_:(if Y=9 then _ else if Y=10 then _ else h Y)=_);exact c (ay (aD K)) (c (ay (aD (ah K rfl))) rfl)
  refine(?_:(if Y=10 then _ else h Y)=_);exact c (ay (aD (ah K rfl))) rfl
 have d0:a7 10=g (x aL.i):=by obtain⟨bq,rfl|rfl⟩:=bJ<;>rfl
 refine dL U ?_;have d1:aE (λy=>y=aI.i\/y=aL.i) bz b5:=dV.cb cD (λ_ _=>ap) λ_ _=>ar;have bu:∀{y:e} {bN:dY},y<aI.i->M bz y bN->M b5 y bN:=λaw v=>v.G d1 (dm (aD aw) (aD (H 1 (t (E 1 aw (D bB)) (D bD)))));have dd:aE ca T b5:=(b2.az bt.o).cb cD (λ_ _ T=>T) λy aw F=>by have:=b2.cq;exact aS (E 1 (t this (D F)) aw)
 have a8:∀{y:e} {bN:dY},y<aI.i->M p y bN->M b5 y bN:=λaw v=>bu aw (v.G cX id);refine ax aG.cI λd2 d3 d6=>?_;have d7:=bw.a9.bj;have d':=bw.aF.bj;have ea:=bw.lu.elim λ_ T=>T.2.bj;refine Sb dj dn cM cN dt (hi:=dh) (w:=b8) (Z:=cF) (bA:=b9) (db:=aL.i) (c0:=aM) (aB:=b') (a':=b) (aW:=⟨T.i,[⟨T.i+2,⟨0,[],[],64,0⟩,bI,T.i+17,0⟩],[],[],[],a3.i,aI.i⟩) (hy:=2) k bT cH cf bw aG bb cB ⟨(aC 0 (by decide)).trans aA.1,(aC 1 (by decide)).trans aA.2.1,(aC 2 (by decide)).trans aA.2.2.1,(aC 3 (by decide)).trans aA.2.2.2.1,(aC 4 (by decide)).trans aA.2.2.2.2.1,(aC 5 (by decide)).trans aA.2.2.2.2.2.1,(aC 6 (by decide)).trans aA.2.2.2.2.2.2.1,(aC 7 (by decide)).trans aA.2.2.2.2.2.2.2.1,(aC 8 (by decide)).trans aA.2.2.2.2.2.2.2.2,d0,rfl,dd.a0 λ_ _=>ed,by exact c (eP ..)<|bw.G dd id id id,⟨(js 0 0 (a8 (y:=T.i) (H 18 (E 1 ai (D ae))) dA)),a8 (y:=T.i+9) (H 9 (E 1 ai (D ae))) dI,a8 (y:=T.i+12) (H 6 (E 1 ai (D ae))) dJ,a8 (y:=T.i+1) (H 17 (E 1 ai (D ae))) dB,a8 (y:=T.i+3) (H 15 (E 1 ai (D ae))) dF,a8 (y:=T.i+4) (H 14 (E 1 ai (D ae))) dG,a8 (y:=T.i+5) (H 13 (E 1 ai (D ae))) dH,bu (y:=T.i+13) (H 5 (E 1 ai (D ae))) (cU.G b0 id),bu (y:=T.i+15) (H 3 (E 1 ai (D ae))) (cS.G b0 id),bu (y:=T.i+14) (H 4 (E 1 ai (D ae))) (cR.G b0 id),bu (y:=T.i+17) (H 1 (E 1 ai (D ae))) c2,bu (y:=a3.i) (D ae) (cn.aF.G bY.o id),?_,(ch (by refine(?_:T.i+17<a3.i);exact ai) (by refine(?_:T.i+17<aI.i);exact H 1 (E 1 ai (D ae))) (by refine(?_:a3.i≠aI.i);exact aD (D ae))),?_,il _ _,(ch d7 d' ea)⟩,bv _,aQ,by refine(?_:T.i+17<aL.i);exact H 2 (t (E 1 (E 1 ai (D ae)) (D bB)) (D bD)),rfl,?_,⟨bv _,bv _⟩,(hf ([]) (λ_=>bI) rfl kz (λ_=>em)),(hf ([]) (λ_=>bI) rfl kz (λ_=>em)),(hf ([]) (λ_=>bI) rfl kz (λ_=>em)),λW aj=>by exact gR aj<|Nat.zero_lt_two⟩ ?_
 ·exact(dT.G bt.o id).G cD (by refine(?_:¬aI.i=aL.i);exact aD (t (D bB) (D bD)))
 ·intro W aj;exact gR aj<|⟨a8 (by refine(?_:T.i+2<aI.i);exact H 16 (E 1 ai (D ae))) dE,ap rfl,λT=>absurd T (by refine(?_:¬4<=0);decide),λT=>absurd T (by refine(?_:¬0=4);decide),λT=>absurd T (by refine(?_:¬0=7);decide),λT=>absurd T (by refine(?_:¬0=8);decide)⟩
 ·intro v W aj
  cases v with
  |succ v=>exact ce aj
  |zero=>refine bp (bm aj)<|hf 0 d2 (b4 0 0 bx aG.td) d3 (by refine c d6 ?_;rfl)
 intro h de b6 eb ew ey af;refine hu (QV (g5 (hE (m af.eD) (g5 (hE (m af.eW) (g5 (w1 rfl (X (m af.mI) (X (m af.mJ) a5)) λec df=>dw de.i b6.fM b6.i7 ec _ df.aF (by have:=af.fU.eC.bj;exact dr (E 18 (c8 _) this) rfl) λdg ee=>X (m af.pg) a5 _ ⟨show 4<aa by decide,?_⟩)))))));have bO:=df.hJ ee;have bP:=bO.i;have ef:=af.fU.eC.bj;have bQ:=af.xQ;have eg:=af.fU.fM.bj;have ei:=af.fU.i7.bj;refine cg b6 dg.i de.i eb dg aM (af.o.az (bO.o.a0 λ_ _=>ed)) (af.gm.G bO.o id id id) ⟨af.fU.G rfl bO.o,ap rfl,bO.aF,(iq ef (H 1 (E 1 eg (D bP))) (H 1 (E 1 ei (D bP))) (D bP)),λW aj=>⟨by have:=(af.fU.dN W aj).cL.bj;exact H 1 (E 1 this (D bP)),λa3=>by refine iI ((af.fU.dN W aj).jw.lg a3) λ_ _ v _=>?_;have:=v.bj;exact H 1 (E 1 this (D bP))⟩,λW aj=>?_,ah (al 1 (t (t (ab bQ) (pm bx)) bk)) rfl,λW aj=>?_,k.eo⟩ af.jQ rfl (d4 (t (ab bQ) (pm bx)) (t vv (D bQ))) bb (λv W aj=>b4 v W (by have:=(co.mp aj).1;exact t this (ab b3)) aj) af.nk
 ·refine aU (j9.mp aj) λv aQ=>fF (af.nk v W aQ) λav N _ cE F=>c F (c (show b6.br.length=b.length by exact d4 (t (ab bQ) (pm bx)) (t vv (D bQ))) ?_);refine(aG.dD N (bF cE)).1.nf λA be=>?_;unfold ih;exact c (cY (t be (D b3)))<|aG.bj _ (tK ..)
 refine aU (j9.mp aj) λv aQ=>fF (af.nk v W aQ) λav N _ cE F=>c F<|(?_:(N.J.ao.map _).length<100)
 exact c (au ..)<|(aG.dD N (bF cE)).2
theorem g0.dh (Y:g0 b3 a d Q b aW w Z bA) {o:lN->q} (v:M b hi (V (aW.br.map o))) (c:aW.br[db]? =g dE) (K:ag l h b A (x hi)) (Z:ag l h b aw (I db)):ag l h b (as A aw) (o dE):=e4 K Z v (by rw[au];have:=Y.bo;unfold aa;exact ah this rfl) (by rw[dp,c];rfl)
def Nn (D:b4):Prop:=∀(i d b C Y N l:e) (J:q) (w:r (q×q)) (T:K) (G:q->K->Prop),M T i (cw 103 [(43,x d),(44,x b)])->M T d (aT w)->M T C (ga Y J N l)->G (aK (b9 (I l) w).isSome) T->D 2649 [x i,x C] T G
theorem V9 (M:cv aO):Nn (bC aO (a+1)):=λi d b C Y N c J w T G h y l Z=>cz (M.cy 53 rfl) rfl (c3 (ni (bk (m rfl) l rfl) (bk (m rfl) h rfl) y rfl) Z)
def No (D:b4):Prop:=∀(i d b C Y N l:e) (J:q) (c o:e) (w:r (q×q)) (T:K) (G:q->K->Prop),M T i (cw 103 [(43,x d),(44,x b)])->M T b (aT w)->M T C (ga Y J N l)->G (aK (b9 (S [I l,I c,I o]) w).isSome) T->D 2650 [x i,x C,I c,I o] T G
theorem V' (M:cv aO):No (bC aO (a+1)):=λi d b C Y N k J c o w T G h y l Z=>cz (M.cy 54 rfl) rfl (c3 (ni (ea (X (bk (m rfl) l rfl) (X (m rfl) (X (m rfl) a5))) (show 3<aa by decide)) (bk (m rfl) h rfl) y rfl) Z)
def MV (D:b4):Prop:=∀(t:f0) (A Q d o h C:e) (E:r e) (b:i1) (W:lN) (T:K) (G:q->K->Prop),g0 t A Q E T b d o h->b.br[C]? =g W->G (aK (kV t W.J)) T->D 104 [x b.aq,I C,x h] T G
theorem VG (M:cv aO):MV (bC aO (a+2)):=by
 intro t aB Q d o af C aC b W T G Y ah Z;have au:=V9 (a:=a) M;have av:=V' (a:=a) M;have N:=bF ah;have P:=Y.dN W N;refine g3 Y.kD λF aE ai=>?_;have y:∀{aa:b4} {h:bu},h 0=g (x b.aq)->h 1=g (I C)->4<=W.J.aL->ag aa h T (as (aH (f 0) 18) (f 1)) (x W.b7):=λK k v=>by exact bp (P.b7 v ..)<|Y.dh (o:=λA=>A.lp) Y.h7 ah (bk (m K) ai rfl) (m k)
 have l:∀{aa:b4} {h:bu},h 0=g (x b.aq)->h 1=g (I C)->ag aa h T (as (aH (f 0) 19) (f 1)) (io W.J):=λK k=>Y.dh (o:=λA=>io A.J) Y.gM ah (bk (m K) ai rfl) (m k);refine cz (M.cy 55 rfl) rfl (dL (Y.dh Y.jH ah (bk (m rfl) ai rfl) (m rfl)) (ec (cx (m rfl) U) (λi=>?_) λi=>eV (ec (cx (m rfl) U) (λw=>?_) λw=>eV (c3 U ?_))))
 ·have i:W.J.aL=7:=by have:=dq i;exact y8 this
  refine fF (P.jw.lg i) λaw ax az _ aA=>?_
  have aj:=(Y.dD W N).qn i
  have ao:io W.J=S (if W.J.fO%3=0 then [j 1] else []):=by rw[io,ay (aD (al 1 (ab i)))];simp[i]
  have ae:=l (aa:=bC aO (a+1)) (h:=(((bu.aP (λ_=>R) 0 (x b.aq)).aP 1 (I C)).aP 2 (x af)).aP 3 (I W.J.aL)) rfl rfl
  rw[ao] at ae
  refine c3 (ko (iT:=(b9 (I W.g7) b.ju).isSome) (Gx ae (ea a5 (aQ rfl)) (by split<;>rfl)) λ_ H Z=>iJ (m rfl) Y.lj rfl rfl (X (y rfl rfl (dr (D i) rfl)) a5) (au af b.fM b.i7 W.b7 18 ax W.g7 aw b.ju T H Y.lj Y.fM az Z))<|c (aA ..) ?_
  rw[kV,aZ i] at Z
  rewrite [show(kh (if W.J.fO%3=0 then [q.j 1] else []) []&&decide (1<W.J.fO))=(W.J.fO==2) from ?_]
  ·exact Z
  ·generalize W.J.fO=p at aj;revert p;exact kk rfl (kk rfl (kk rfl (uU rfl)))
 ·have w:W.J.aL=8:=by have:=dq w;exact wm this
  have aj:=(Y.dD W N).qo w;have ao:io W.J=S (qk W.J.fO):=by rw[io,aZ w]
  have ae:=l (aa:=bC aO (a+1)) (h:=(((bu.aP (λ_=>R) 0 (x b.aq)).aP 1 (I C)).aP 2 (x af)).aP 3 (I W.J.aL)) rfl rfl;rw[ao] at ae;refine GH ae rfl (hu (iJ (m rfl) Y.lj rfl rfl (X (y rfl rfl (dr (D w) rfl)) (X (m rfl) (X (m rfl) a5))) (av af b.fM b.i7 W.b7 50 (b.aq+16) 1 (aV "") _ _ _ T _ Y.lj Y.i7 (by exact c (P.jw.zJ w)<|Y.eC) ?_)));refine c (show q.S [I 1,I W.J.fO,I (if W.J.fO<2 then W.J.fO+1 else W.J.fO)]=sX W.J.fO from rfl) (c (iH Fb) ?_);rw[kV,ay (a3 (D w)),show(W.J.aL==8)=true by refine c w ?_;rfl,HU] at Z;by_cases E:t.jZ.testBit W.J.fO=true
  ·refine c (aZ (r9.mpr ⟨mU.mpr aj,E⟩)) ?_;rw[E] at Z;exact Z
  refine c (ay λT=>E (r9.mp T).2) ?_;rw[show t.jZ.testBit W.J.fO=false by simpa using E] at Z;exact Z
 rw[kV,ay (by have:=gg i;exact LB this),show(W.J.aL==8)=false by refine(pH ..).mpr ?_;have:=gg w;exact LC this] at Z;exact Z
structure MA (b3:f0) (aW:i1) (b:K) (a c d:e) (h:bu) (H:K) (A k:r e):Prop where
 cI:h 0=g (x aW.aq)
 cD:h 2=g (x a)
 eD:h 3=g (x b.i)
 eW:h 4=g (x (b.i+1))
 o:aE ca b H
 gY:M H b.i (aT (d3 I A λ_=>j 1))
 i2:M H (b.i+1) (V (bg k))
 b7:A.Nodup
 p8:∀Y∈A,Y<aW.br.length
 nr:∀Y∈k,Y<aW.br.length
 gr:c∈A\/c∈k
 e0:∀Y∈A,∀l,aW.br[Y]? =g l->l.J.aL≠1/\(i5 b3 l.J=R->∀o∈l.J.ao,o∈A\/o∈k)
 hI:∀Y∈k,dU (i5 b3) (aW.br.map (·.J)) 0 Y->dU (i5 b3) (aW.br.map (·.J)) 0 c
 AM:d=k.length+101*(aW.br.length- A.length)
 Wy:k.length<=1+100*A.length
def DI (D:b4):Prop:=∀(t:f0) (A Q d o h c:e) (E:r e) (b:i1) (T:K) (G:q->K->Prop),g0 t A Q E T b d o h->c<b.br.length->(∀(P:ci) H,aE ca T H->(P=true↔dU (i5 t) (b.br.map (·.J)) 0 c)->G (aK P) H)->D 105 [x b.aq,I c,x h] T G
theorem GX (cm:cv aO):DI (bC aO (a+3)):=by
 intro t cn Q cp bu bQ bw cq av b di Y cR cu;have cS:=VG (a:=a) cm;have bT:=Y.bo;have cU:=Y.eC.bj;have cA:∀{aY},aE ca b aY->g0 t cn Q cq aY av cp bu bQ:=λW=>by have:=Y.rp (aB:=[]) W (λ_ _ _=>id) id λ_=>ed;rw[eP] at this;exact this
 refine cz (cm.cy 56 rfl) rfl (rM λa' bV=>nl (X (m rfl) a5) (show 1<aa by decide) λp bX=>?_);have cB:=bV.i;refine pf (λcC aC aY=>∃ai k,MA t av b bQ bw cC aC aY ai k) (1+101*av.br.length) ⟨[],[bw],rfl,rfl,rfl,by refine(?_:g (q.x a'.i)=_);exact c cB rfl,bV.o.az bX.o,bV.aF.G bX.o id,by exact bp cB<|bX.aF,kz,by simp,by simp[cR],ar (by simp),by simp,by simp,rfl,by simp⟩ ?_;refine λcC aC aY aI=>g3 aI λai k T=>?_;have K:=is T.b7 T.p8;have a0:=T.Wy;have cE:(bg k).length<aa:=by refine c (au ..) ?_;unfold aa;exact LE bT K a0
 have cV:=cA T.o;refine g3 cV.kD λF cW bY=>?_;have cF:∀{v:e} {ae:lN},av.br[v]? =g ae->(av.br.map (·.J))[v]? =g ae.J:=λb=>by refine c (dp ..) (c b ?_);rfl
 refine d7 _ (tx (m T.eW) T.i2 cE rfl) (λa7 dj bx=>?_) (λa7=>?_)
 ·rcases Yy k with rfl|⟨N,ag,rfl⟩
  ·exact eY a7
  have b0:=T.nr ag (by simp);refine aU (⟨_,cY b0⟩:∃ae,av.br[ag]? =g ae) λae aj=>?_;refine xW (C:=I ag) (m T.eW) T.i2 (eH _) cE (by simp) λcH b2=>?_;have b3:=b2.aF;rw[show(bg (N.concat ag)).dropLast=bg N by simp] at b3;have aG:=T.AM;simp only[YL] at aG a0;have cJ:aE ca b cH:=T.o.cb b2.o (λ_ _ b=>b) λbb aq A=>aS (H 1 (E 1 (D A) aq));have b4:=T.gY.G b2.o (aD (bv _));have be:=ni (l:=bC aO (a+2)) (h:=aC.aP 5 (I ag)) (b:=cH) (A:=f 5) (aw:=f 3) (C:=I ag) (m rfl) (m T.eD) b4 rfl;rw[iH g6] at be;have b5:∀{W:e},W∈N.concat ag->W∈N\/W=ag:=λb=>by simpa using b
  by_cases aM:ag∈ai
  ·rw[aZ aM] at be;refine g8 be rfl (bx.P7 _ _ ⟨N.length+101*(av.br.length- ai.length),De aG,ai,N,T.cI,T.cD,T.eD,T.eW,cJ,b4,b3,T.b7,T.p8,λW af=>T.nr W (by simp[af]),?_,λW af ae aj=>⟨(T.e0 W af ae aj).1,λaq F y=>?_⟩,λW af=>T.hI W (by simp[af]),rfl,H 1 a0⟩)
   ·refine bi T.gr (λb=>ap b) λb=>?_;rcases b5 b with b|rfl
    ·exact ar b
    exact ap aM
   refine bi ((T.e0 W af ae aj).2 aq F y) (λb=>ap b) λb=>?_;rcases b5 b with b|rfl
   ·exact ar b
   exact ap aM
  rw[ay aM] at be;have b6:ai.length+1<=av.br.length:=by
   have:=is (lE.mpr ⟨aM,T.b7⟩) (C:=av.br.length) λW af=>by
    rcases eZ.mp af with rfl|af
    ·exact b0
    exact T.p8 W af
   simpa using this
  refine ex be rfl (jg U (m T.eD) (m rfl) b4 (dr (E 18 (c8 _) cU) rfl) rfl (by refine c (ld ..) ?_;unfold aa;exact bJ 1048476 (H 1 (E 1 b6 bT))) λbz b8=>?_);have b9:=b8.aF;rw[mp g6 T.b7,s4 aM,oU (b:=λ_=>j 1) λdm _=>by unfold hF;split<;>rfl] at b9;have bA:aE ca b bz:=cJ.cb b8.o (λ_ _ b=>b) λbb aq A=>aS (E 1 (D A) aq);have aV:=cA bA;refine g3 aV.kD λF cW bY=>?_;have cX:=aV.dN ae (bF aj);refine ec (cx (aV.dh (l:=bC aO (a+2)) (h:=aC.aP 5 (I ag)) aV.jH aj (bk (A:=f 0) (m T.cI) bY rfl) (m (a:=5) rfl)) U) (λa'=>c3 U (bx.vb _ _ _ (cu true bz bA ⟨λ_=>T.hI ag (by simp) (eX (cF aj) (M:=1) ?_ rfl),λ_=>rfl⟩))) λa'=>eV ?_
  ·unfold i5;exact c (aZ (by have:=dq a';exact sw this)) rfl
  have bB:ae.J.aL≠1:=by have:=gg a';exact wo this
  have cM:=b3.G b8.o (a3 (bv _));have cN:(ai++[ag]).Nodup:=iA.mpr (ch T.b7 (il _ _) (λbb aq dn a7 A=>by rw[e6] at a7;subst a7;subst A;exact aM aq));have cO:∀W∈ai++[ag],W<av.br.length:=λW af=>(d2.mp af).elim (T.p8 W) λb=>by rw[e6] at b;exact E 1 (ab b) b0
  have Z:∀{W:e} {cZ:r e},W∈ai\/W∈N.concat ag->W∈ai++[ag]\/W∈N++cZ:=λb=>by
   refine bi b (λb=>ap (jm _ b)) λb=>?_;rcases b5 b with b|rfl
   ·exact ar (jm _ b)
   exact ap (by simp)
  refine ec (rK (bt:=kV t ae.J) λc0 c2=>fG (X (m T.cI) (X (m rfl) (X (m T.cD) a5))) (cS t cn Q cp bu bQ ag cq av ae bz c0 aV aj c2)) (λb'=>?_) λb'=>?_
  ·have c4:i5 t ae.J=R:=by
    unfold i5;exact c (ay bB) (c (ay (by simpa using b')) rfl)
   have bD:=Y.c ae (bF aj)
   have c5:ae.cL≠b.i+1:=by have:=(Y.dN ae (bF aj)).cL.bj;exact aD (bJ 1 this)
   have c6:=aV.dh (l:=bC aO (a+2)) (h:=aC.aP 5 (I ag)) (o:=λae=>x ae.cL) aV.P aj (bk (A:=f 0) (d:=17) (m T.cI) bY rfl) (m (a:=5) rfl)
   refine pe (bg ae.J.ao) (λw a8 bE=>(∃bl,a8=aC.aP 5 (I ag)\/a8=(aC.aP 5 (I ag)).aP 6 bl)/\aE (λbb=>bb=b.i+1) bz bE/\M bE (b.i+1) (V (bg (N++ae.J.ao.take w)))) c6 (by refine c (au ..) ?_;unfold aa;exact ah bD rfl) (λw dt b v=>cX.cL.G v.2.1 c5) (ch ⟨bI,ap rfl⟩ .dO (by simpa using cM)) ?_ ?_
   ·refine λw bl a8 bE dv c7 aI da=>gq aI λbG bM bN=>rU c7 λcf dc cg=>?_;subst cg;have dd:a8 4=g (x (b.i+1)):=by obtain⟨bl,rfl|rfl⟩:=bG<;>exact T.eW
    refine jf (m dd) (m rfl) bN (eH _) (by refine c (au ..) (c (dw ..) ?_);have:=List.length_take_le' w ae.J.ao;unfold aa;exact LF bT a0 b6 bD this) λdx cP=>da.dK _ _ (ch ⟨I cf,ar ?_⟩ (bM.az cP.o) ?_)
    ·obtain⟨bl,rfl|rfl⟩:=bG
     ·rfl
     funext F;refine(?_:(if F=6 then _ else if F=6 then _ else _)=(if F=6 then _ else _));split<;>rfl
    refine c (iB ..) (c dc (bp (gx ..) ?_));have:=cP.aF;rw[show bg (N++ae.J.ao.take w)++[I cf]=bg (N++ae.J.ao.take w++[cf]) by simp] at this;exact this
   ·refine λa8 bE aI=>gq aI λbG bM bN=>?_;rw[au,jn] at bN;have bO:∀w,w<5->a8 w=aC w:=λw cj=>by
     obtain⟨bl,rfl|rfl⟩:=bG
     ·exact ay (aD cj)
     refine(?_:(if w=6 then _ else if w=5 then _ else _)=_);exact c (ay (aD (ah cj rfl))) (c (ay (aD cj)) rfl)
    refine bx.dK _ _ ⟨(N++ae.J.ao).length+101*(av.br.length- (ai++[ag]).length),?_,ai++[ag],N++ae.J.ao,(bO 0 (by decide)).trans T.cI,(bO 2 (by decide)).trans T.cD,(bO 3 (aQ rfl)).trans T.eD,(bO 4 (aQ rfl)).trans T.eW,bA.cb bM (λ_ _ b=>b) (λbb aq A=>aS (H 1 (E 1 (D A) aq))),b9.G bM (aD (bv _)),bN,cN,cO,λW af=>?_,Z T.gr,λW af bq aW=>?_,λW af a9=>?_,rfl,?_⟩
    ·simp only[dw,l9];exact LG aG b6 bD
    ·exact bi (d2.mp af) (λb=>T.nr W (by simp[b])) λb=>(Y.dD ae (bF aj)).bU W b
    ·refine bi (d2.mp af) (λb=>⟨(T.e0 W b bq aW).1,λaq F y=>Z ((T.e0 W b bq aW).2 aq F y)⟩) λb=>?_;rw[e6] at b;subst b;obtain rfl:=bm (aj.symm.trans aW);exact⟨bB,λ_ F y=>ar (mT _ y)⟩
    ·exact bi (d2.mp af) (λb=>T.hI W (by simp[b]) a9) λb=>T.hI ag (by simp) (c1 (cF aj) c4 b a9)
    simp only[dw,l9];exact LH a0 bD
  refine bx.dK _ _ ⟨(N++[]).length+101*(av.br.length- (ai++[ag]).length),?_,ai++[ag],N++[],T.cI,T.cD,T.eD,T.eW,bA,b9,by exact c (eP ..)<|cM,cN,cO,λW af=>T.nr W (by simp at af;simp[af]),Z T.gr,λW af bq aW=>?_,λW af a9=>T.hI W (by simp at af;simp[af]) a9,rfl,?_⟩
  ·simp only[dw,l9,BR];exact LI aG
  ·refine bi (d2.mp af) (λb=>⟨(T.e0 W b bq aW).1,λaq F y=>Z ((T.e0 W b bq aW).2 aq F y)⟩) λb=>?_;rw[e6] at b;subst b;obtain rfl:=bm (aj.symm.trans aW);refine⟨bB,λaq=>?_⟩;unfold i5 at aq;rw[ay bB,aZ (by simpa using b')] at aq;exact fK aq
  simp only[dw,l9,BR];exact LJ a0
 have de:k=[]:=by cases k;{rfl};{exact kW a7}
 subst de;refine c3 U (cu false aY T.o ⟨λb=>(eY b),λa9=>?_⟩);have cQ:∀{W},W∈ai\/W∈([]:r e)->W∈ai:=λb=>b.elim id (by simp);have df:bw∈ai:=cQ T.gr;exfalso;have Z:∀v,dU (i5 t) (av.br.map (·.J)) 0 v->v∈ai->bK:=λv bu=>by
  induction bu with
  |eX bP aA ck=>
   intro aG;refine rU bP λae aj cg=>?_;subst cg;unfold i5 at aA;rw[ay (T.e0 _ aG ae aj).1] at aA;split at aA
   ·injection aA with aA;subst aA;exact eY ck
   exact ce aA
  |c1 bP aA ck _ dg=>intro aG;rw[dp,e7] at bP;refine ax bP λae aj aI=>?_;subst aI;exact dg (cQ ((T.e0 _ aG ae aj).2 aA _ ck))
 exact Z bw a9 df
inductive hd (Y:dB->a6 e) (b:r dB) (P:e):e->e->Prop where
 |eX {Q v M:e} {N:dB}:b[v]? =g N->Y N=g M->M.testBit P=true->hd Y b P (Q+1) v
 |c1 {Q v W:e} {N:dB}:b[v]? =g N->Y N=R->W∈N.ao->hd Y b P Q W->hd Y b P (Q+1) v
theorem hd.hJ (T:hd df ad a d w):hd df ad a (d+1) w:=by
 induction T with
 |eX G I H=>exact .eX G I H
 |c1 G I H _ t=>exact .c1 G I H t
theorem hd.cq (T:hd df ad a d w) (X:d<=Z):hd df ad a Z w:=by
 induction Z with
 |zero=>obtain rfl:d=0:=(by omega);exact T
 |succ Z t=>
  by_cases b:d=Z+1
  ·exact bp b<|T
  exact(t (by omega)).hJ
theorem hd.PM:∀{Q v:e},hd df ad a Q v->(∀F,Q=F+1->¬hd df ad a F v)->∃X:r e,X.Nodup/\X.length=Q/\∀F∈X,F<ad.length/\hd df ad a Q F:=by
 intro Q;induction Q with
 |zero=>intro v T;cases T
 |succ Q t=>
  intro v T y
  have y:=y Q rfl
  have b:=T
  cases T with
  |eX G I H=>
   cases Q with
   |zero=>exact d7 ([v]) (il _ _) rfl (λF K=>by exact gR K<|⟨(co.mp G).1,b⟩)
   |succ Q=>exact absurd (.eX G I H) y
  |c1 G I H q=>
   refine eT (t q λF K A=>by subst K;exact y (.c1 G I H A)) λX k p l=>?_;refine d7 (v::X) (lE.mpr ⟨λN=>y (l v N).2,k⟩) (by exact c (hm ..) (c p rfl)) (λF K=>?_);rcases eZ.mp K with rfl|K
   ·exact⟨(co.mp G).1,b⟩
   exact⟨(l F K).1,(l F K).2.hJ⟩
theorem hd.S7 (T:hd df ad a d w):∃b,hd df ad a b w/\∀F,b=F+1->¬hd df ad a F w:=by
 induction d with
 |zero=>exact a8 0 T (λF K=>by omega)
 |succ d t=>
  by_cases Z:hd df ad a d w
  ·exact t Z
  exact⟨d+1,T,λF K=>by obtain rfl:F=d:=(by omega);exact Z⟩
theorem dU.Qi (T:dU df ad a d) (y:ad.length<=w):hd df ad a w d:=by
 have:∃Q,hd df ad a Q d:=by
  induction T with
  |eX G I H=>exact⟨1,.eX G I H⟩
  |c1 G I H _ t=>refine aU t λQ T=>?_;exact⟨Q+1,.c1 G I H T⟩
 refine aU this λQ l=>ax l.S7 λQ l N=>eT (l.PM N) λX k p b=>?_;have:=is k λW q=>(b W q).1;exact l.cq (by omega)
theorem hd.hI (T:hd df ad a d w):dU df ad a w:=by
 induction T with
 |eX G I H=>exact .eX G I H
 |c1 G I H _ t=>exact .c1 G I H t
theorem dU.Qf (T:dU df ad a d) (A:ad[d]? =g af) (l:df af=g w):w.testBit a=true:=by
 cases T with
 |eX G I H=>rw[A] at G;obtain rfl:=bm G;rw[l] at I;refine c (bm I) ?_;exact H
 |c1 G I _ _=>rw[A] at G;obtain rfl:=bm G;rw[l] at I;exact fK I
noncomputable def dG (t:f0) (N:dB):e:=if N.aL=4/\t.eo∈N.eR then 1 else if(cH t N).isSome then 0 else 2
theorem ph:dG b3 af=2↔cH b3 af=R:=by
 unfold dG;constructor
 ·intro T;split at T
  ·exact ei T rfl
  split at T
  ·exact ei T rfl
  rename_i Z;simpa using Z
 intro T;rw[ay,T];{rfl};refine λm=>bl m λv h=>?_;unfold cH at T;rw[ay (by omega),ay (by omega),aZ h] at T;exact fK T
def lb (b:r dB):(e->Prop)->r (e×e)->Prop
 |_,[]=>sp
 |H,Q::h=>(Q.2=1->∀N,b[Q.1]? =g N->∀W∈N.ao,H W)/\lb b (λW=>H W\/(Q.2=0/\W=Q.1)) h
theorem lb.a0:∀{h:r (e×e)} {H b:e->Prop},lb ad H h->(∀W,H W->b W)->lb ad b h:=by
 intro h;induction h with
 |nil=>exact λ_ _=>trivial
 |cons Q h t=>exact λT M=>⟨λF N A W q=>M W (T.1 F N A W q),t T.2 λW q=>q.imp_left (M W)⟩
theorem lb.X5:∀{o:r e} {H:e->Prop},lb ad (λW=>H W\/W∈o) ds->lb ad H (o.map (λm=>(m,0))++ds):=by
 intro o;induction o with
 |nil=>intro H T;exact T.a0 λW q=>q.elim id (em)
 |cons m o t=>
  intro H T;exact⟨λF=>(ei F rfl),t (T.a0 λW q=>by
  refine bi q (λT=>ap (ap T)) λT=>?_;rcases eZ.mp T with rfl|T
  ·exact ap (ar ⟨rfl,rfl⟩)
  exact ar T)⟩
def zm (t:f0) (b:r dB) (o:r e):Prop:=∀(Q C:e) N,o[Q]? =g C->b[C]? =g N->cH t N=R->∀W∈N.ao,∃m,b[W]? =g m/\(dG t m=0\/W∈o.take Q)
structure fg (t:f0) (b:r dB) (m:e->e) (c:e) (d o v:r e) (Z:r (e×e)):Prop where
 wB:c∈d\/(c,0)∈Z
 uj:∀C∈d,∀N,b[C]? =g N->cH t N=R->∀W∈N.ao,W∈d\/(W,0)∈Z\/((C,2)∈Z/\W∈N.ao.tail)
 zo:∀C∈d,∀N,b[C]? =g N->dG t N≠0->C∈o\/(C,1)∈Z
 oP:∀C∈o,C∈d/\∀N,b[C]? =g N->dG t N≠0
 q2:∀Q∈Z,Q.1<b.length/\(Q.2≠0->Q.1∈d/\(∀N,b[Q.1]? =g N->cH t N=R))/\(Q.2=0\/Q.2=1\/(Q.2=2/\∀N,b[Q.1]? =g N->N.aL=3))
 f9:∀C∈d,C<b.length/\∀N,b[C]? =g N->cH t N=R->N.aL=3->C∈v
 q3:∀C∈v,C∈d/\∀N,b[C]? =g N->N.aL=3
 b7:d.Nodup
 oT:(Z.filter λQ=>Q.2==1).length+o.length<=d.length
 e0:v.length<=d.length
 tu:v=[]->lb b (λW=>W∈d) Z/\Z.Pairwise (λy P=>P.2=1->m y.1<m P.1)/\zm t b o
theorem kF (T:∀M∈Q,c7 M) (y:c7 a):∀M∈Q++[a],c7 M:=λM N=>(d2.mp N).elim (T M) λT=>e6.mp T▸y
theorem hg (T:d∈Q):d∈Q++[a]:=jm _ T
theorem jV:a∈Q++[a]:=mT _ (fC _)
theorem qi (y:a∈Q) (T:(d,0)∈(a,0)::ds):d∈Q\/(d,0)∈ds:=(eZ.mp T).imp (λF:(d,0)=(a,0)=>(yz F).1▸y) λT=>T
theorem kS (K:w≠Z) (T:(d,w)∈(a,Z)::ds):(d,w)∈ds:=(eZ.mp T).resolve_left λF=>K (yz F).2
section
variable (cV:fg b3 ad dn a Q aB c0 ds) (sr:∀{W},W∈Q->W∈dT) (acS:∀{W},(W,0)∈ds->W∈dT\/(W,0)∈po)
include cV sr
theorem fg.q6 (K:∀{W},(W,0)∈ds->W∈dT\/(W,0)∈po):a∈dT\/(a,0)∈po:=cV.wB.elim (λT=>ap (sr T)) K
theorem fg.q7 (K:∀{W},(W,0)∈ds->W∈dT\/(W,0)∈po) (p:∀{M N W},(M,2)∈ds->ad[M]? =g N->W∈N.ao.tail->(M,2)∈po\/(W,0)∈po):∀M∈Q,∀N,ad[M]? =g N->cH b3 N=R->∀W∈N.ao,W∈dT\/(W,0)∈po\/((M,2)∈po/\W∈N.ao.tail):=λM a N A l W q=>(cV.uj M a N A l W q).elim (λT=>ap (sr T)) λT=>T.elim (λT=>(K T).imp_right ap) λT=>ar ((p T.1 A T.2).symm.imp_right λH=>⟨H,T.2⟩)
omit sr in
theorem fg.q8 (k:∀{M},M∈aB\/(M,1)∈ds->M∈nu\/(M,1)∈po):∀M∈Q,∀N,ad[M]? =g N->dG b3 N≠0->M∈nu\/(M,1)∈po:=λM a N A i=>k (cV.zo M a N A i)
theorem fg.wF:∀M∈aB,M∈dT/\∀N,ad[M]? =g N->dG b3 N≠0:=λM a=>⟨sr (cV.oP M a).1,(cV.oP M a).2⟩
theorem fg.wG {Q:e×e} (J:Q∈ds):Q.1<ad.length/\(Q.2≠0->Q.1∈dT/\(∀N,ad[Q.1]? =g N->cH b3 N=R))/\(Q.2=0\/Q.2=1\/(Q.2=2/\∀N,ad[Q.1]? =g N->N.aL=3)):=
 have T:=cV.q2 Q J;(ch T.1 (λF=>⟨sr (T.2.1 F).1,(T.2.1 F).2⟩) T.2.2)
theorem fg.wH:∀M∈c0,M∈dT/\∀N,ad[M]? =g N->N.aL=3:=λM a=>⟨sr (cV.q3 M a).1,(cV.q3 M a).2⟩
end
section
variable (cV:fg b3 ad dn a Q aB c0 ((d,0)::ds)) (oI:d∉Q)
include cV
omit cV in
include oI in
theorem xD (C:Q.Nodup):(Q++[d]).Nodup:=iA.mpr (ch C (il _ _) (λy U P E F=>oI (e6.mp E▸F▸U)))
omit cV in
theorem xv (T:acT<=Q.length):acT<=(Q++[d]).length:=ej T (by exact c (dw ..)<|bX _ _)
theorem fg.jv (y:d∈Q):fg b3 ad dn a Q aB c0 ds:=⟨cV.q6 id (qi y),cV.q7 id (qi y) λT _ _=>ap (kS (aQ rfl) T),cV.q8 (ot (kS (aQ rfl))),cV.oP,λb J=>cV.q2 b (hl _ J),cV.f9,cV.q3,cV.b7,cV.oT,cV.e0,λF=>have N:=cV.tu F;(ch (N.1.2.a0 λW T=>T.elim id λT=>T.2▸y) ((vW.mp N.2.1).2) N.2.2)⟩
include oI in
theorem fg.RC (A:ad[d]? =g af) (i:dG b3 af=0):fg b3 ad dn a (Q++[d]) aB c0 ds:=
 have l:∀{U:Prop} h,ad[d]? =g h->cH b3 h=R->U:=λh T H=>absurd (i.symm.trans (ph.mpr (bm (T.symm.trans A)▸H))) (aQ rfl)
 ⟨cV.q6 hg (qi jV),kF (cV.q7 hg (qi jV) λT _ _=>ap (kS (aQ rfl) T)) λh T H=>l h T H,kF (cV.q8 (ot (kS (aQ rfl)))) λh T H=>absurd (bm (T.symm.trans A)▸i) H,cV.wF hg,λb J=>cV.wG hg (hl _ J),kF cV.f9 ⟨(co.mp A).1,λh T H=>l h T H⟩,cV.wH hg,xD oI cV.b7,xv cV.oT,xv cV.e0,λF=>have af:=cV.tu F;(ch (af.1.2.a0 λW T=>T.elim hg λT=>T.2▸jV) ((vW.mp af.2.1).2) af.2.2)⟩
omit cV in
theorem Hy (a:zm b3 ad aB) (T:∀m,ad[d]? =g m->cH b3 m=R->∀W∈m.ao,∃b,ad[W]? =g b/\(dG b3 b=0\/W∈aB)):zm b3 ad (aB++[d]):=λQ M m J Y l W q=>by
 by_cases X:Q<aB.length
 ·rw[iz X] at J;exact c (YV (iC X))<|a Q M m J Y l W q
 have k:=(co.mp J).1;rw[dw] at k;obtain rfl:Q=aB.length:=B1 (j' k) (yt.mp X);rw[oq (bv _),pA] at J;obtain rfl:d=M:=bm J;exact c (YV (bv _))<|c (jn ..)<|T m Y l W q
include oI in
theorem fg.bw (A:ad[d]? =g af) (i:dG b3 af=1):fg b3 ad dn a (Q++[d]) (aB++[d]) c0 ds:=
 have l:∀{U:Prop} h,ad[d]? =g h->cH b3 h=R->U:=λh T H=>absurd (i.symm.trans (ph.mpr (bm (T.symm.trans A)▸H))) (aQ rfl)
 ⟨cV.q6 hg (qi jV),kF (cV.q7 hg (qi jV) λT _ _=>ap (kS (aQ rfl) T)) λh T H=>l h T H,kF (cV.q8 (Or.imp hg (kS (aQ rfl)))) λh T H=>ap jV,kF (cV.wF hg) ⟨jV,λh T H=>absurd (i.symm.trans (bm (T.symm.trans A)▸H)) (aQ rfl)⟩,λb J=>cV.wG hg (hl _ J),kF cV.f9 ⟨(co.mp A).1,λh T H=>l h T H⟩,cV.wH hg,xD oI cV.b7,by exact c (dw ..)<|c (dw ..)<|tO cV.oT,xv cV.e0,λF=>have af:=cV.tu F;(ch (af.1.2.a0 λW T=>T.elim hg λT=>T.2▸jV) ((vW.mp af.2.1).2) (Hy af.2.2 λm T H=>l m T H))⟩
omit cV in
theorem HM:((dT.map λm=>(m,0))++ds).filter (λQ=>Q.2==1)=ds.filter λQ=>Q.2==1:=by refine c (BN ..) (c (Ib.mpr λy U=>(e5.mp U).elim λW q=>q.2▸fR) ?_);rfl
omit cV in
theorem Ga (T:w∈dT):(w,0)∈(dT.map λm=>(m,0))++ds:=jm _ (e5.mpr (a8 w T rfl))
include oI in
theorem fg.c1 (A:ad[d]? =g af) (i:cH b3 af=R) (l:af.aL≠3) (N:∀W∈af.ao,dn W<dn d) (Y:∀W∈af.ao,W<ad.length):fg b3 ad dn a (Q++[d]) aB c0 (af.ao.map (λm=>(m,0))++(d,1)::ds):=
 have o:∀{h},ad[d]? =g h->af=h:=λT=>bm (A.symm.trans T)
 have b:∀{k:e×e},k∈ds->k∈af.ao.map (λm=>(m,0))++(d,1)::ds:=λT=>mT _ (hl _ T)
 have K:∀{W},(W,0)∈(d,0)::ds->W∈Q++[d]\/(W,0)∈af.ao.map (λm=>(m,0))++(d,1)::ds:=λT=>(qi jV T).imp_right b
 have D:=(co.mp A).1
 ⟨cV.q6 hg K,kF (cV.q7 hg K λT _ _=>ap (b (kS (aQ rfl) T))) λh T _ W q=>ar (ap (Ga (o T▸q))),kF (cV.q8 (ot λT=>b (kS (aQ rfl) T))) λ_ _ _=>ar (mT _ (fC _)),cV.wF hg,λk J=>(d2.mp J).elim (λT=>(e5.mp T).elim λW q=>q.2▸(ch (Y W q.1) (λT=>absurd rfl T) (ap rfl))) λT=>(eZ.mp T).elim (λT=>T▸(ch D (λ_=>⟨jV,λh T=>o T▸i⟩) (ar (ap rfl)))) λT=>cV.wG hg (hl _ T),kF cV.f9 ⟨D,λh T _ H=>absurd (o T▸H) l⟩,cV.wH hg,xD oI cV.b7,by refine c (HM ..) (c (dw ..) (c (show vT (λk:e×e=>k.2==1) ((d,1)::ds)=(d,1)::vT (λk=>k.2==1) ds from rfl) (c (hm ..) (c (Zf ..) ?_))));exact tO cV.oT,xv cV.e0,λF=>have h:=cV.tu F;have I:=vW.mp h.2.1;⟨lb.X5 ⟨λ_ m Y W q=>ar (o Y▸q),h.1.2.a0 λW T=>ap (ap (T.elim hg λT=>T.2▸jV))⟩,List.pairwise_append.mpr ⟨by rw[Ik];exact List.pairwise_of_forall λ_ _ T=>(ei T rfl),vW.mpr I,λy U P E C=>(e5.mp U).elim λW q=>q.2▸(eZ.mp E).elim (λT=>T▸N W q.1) λT=>nz (N W q.1) (I.1 P T C)⟩,h.2.2⟩⟩
include oI in
theorem fg.AJ (A:ad[d]? =g af) (i:cH b3 af=R) (K:af.aL=3) (m:af.ao=w::dT) (Y:∀W∈af.ao,W<ad.length):fg b3 ad dn a (Q++[d]) aB (c0++[d]) ((w,0)::(d,1)::(d,2)::ds):=
 have o:∀{h},ad[d]? =g h->af=h:=λT=>bm (A.symm.trans T)
 have b:∀{t:e×e},t∈ds->t∈(w,0)::(d,1)::(d,2)::ds:=λT=>hl _ (hl _ (hl _ T))
 have v:∀{W},(W,0)∈(d,0)::ds->W∈Q++[d]\/(W,0)∈(w,0)::(d,1)::(d,2)::ds:=λT=>(qi jV T).imp_right b
 have D:=(co.mp A).1
 ⟨cV.q6 hg v,kF (cV.q7 hg v λT _ _=>ap (b (kS (aQ rfl) T))) λh T _ W q=>ar ((eZ.mp (m▸(o T).symm▸q:W∈w::dT)).elim (λT=>ap (by exact c T<|fC _)) λH=>ar ⟨hl _ (hl _ (fC _)),by exact bp (o T)<|c m<|H⟩),kF (cV.q8 (ot λT=>b (kS (aQ rfl) T))) λ_ _ _=>ar (hl _ (fC _)),cV.wF hg,λt J=>(eZ.mp J).elim (λT=>T▸(ch (Y w (m▸fC _)) (λT=>absurd rfl T) (ap rfl))) λT=>(eZ.mp T).elim (λT=>T▸(ch D (λ_=>⟨jV,λh T=>o T▸i⟩) (ar (ap rfl)))) λT=>(eZ.mp T).elim (λT=>T▸(ch D (λ_=>⟨jV,λh T=>o T▸i⟩) (ar (ar ⟨rfl,λh T=>o T▸K⟩)))) λT=>cV.wG hg (hl _ T),kF (λM N=>⟨(cV.f9 M N).1,λh k p l=>hg ((cV.f9 M N).2 h k p l)⟩) ⟨D,λ_ _ _ _=>jV⟩,kF (cV.wH hg) ⟨jV,λh T=>o T▸K⟩,xD oI cV.b7,by exact c (dw ..)<|c (show vT (λt:e×e=>t.2==1) ((w,0)::(d,1)::(d,2)::ds)=(d,1)::vT (λt=>t.2==1) ds from rfl)<|c (hm ..)<|c (Zf ..)<|tO cV.oT,by exact c (dw ..)<|c (dw ..)<|tO cV.e0,λF=>absurd F (BK _ (qA _ _))⟩
end
theorem fg.eL (h:fg b3 ad dn a Q aB c0 ((d,1)::ds)) (i:∀N,ad[d]? =g N->N.aL≠3->∀W∈N.ao,dn W<dn d):fg b3 ad dn a Q (aB++[d]) c0 ds:=
 have P:=(h.q2 (d,1) (fC _)).2.1 B4
 have H:∀{M:e},M∈aB\/(M,1)∈(d,1)::ds->M∈aB++[d]\/(M,1)∈ds:=λT=>T.elim (λT=>ap (hg T)) λT=>(eZ.mp T).imp (λF=>by exact c ((yz F).1)<|jV) λT=>T
 ⟨h.q6 id λT=>ar (kS (aQ rfl) T),h.q7 id (λT=>ar (kS (aQ rfl) T)) λT _ _=>ap (kS (aQ rfl) T),h.q8 H,kF h.oP ⟨P.1,λN k=>by refine c (ph.mpr (P.2 N k)) ?_;decide⟩,λo J=>h.q2 o (hl _ J),h.f9,h.q3,h.b7,by exact c (dw ..)<|ej (px (hO _ 1 _).symm) h.oT,h.e0,λF=>have N:=h.tu F;have I:=vW.mp N.2.1;⟨N.1.2.a0 λW T=>T.elim id λT=>(ei T.1 rfl),I.2,Hy N.2.2 λm Y l W q=>by
    have b:=N.1.1 rfl m Y W q;have A:=h.f9 W b;refine a8 (ad[W]'A.1) (cY A.1) ?_;by_cases K:dG b3 (ad[W]'A.1)=0
    ·exact ap K
    refine ar ((h.zo W b _ (cY A.1) K).elim id λT=>?_);have E:=i m Y (λT=>by have:=(h.f9 d P.1).2 m Y l T;rw[F] at this;exact em this) W q;exact absurd E ((eZ.mp T).elim (λT=>(yz T).1▸ys _) λT=>Nat.lt_asymm (I.1 _ T rfl))⟩⟩
theorem fg.og (h:fg b3 ad dn a Q aB c0 ((d,2)::ds)) (A:ad[d]? =g af) (Y:∀W∈af.ao,W<ad.length):fg b3 ad dn a Q aB c0 (af.ao.tail.map (λm=>(m,0))++ds):=
 have P:=h.q2 (d,2) (fC _)
 have T:=P.2.1 (λF=>ei F rfl)
 have b:∀{i:e×e},i∈ds->i∈af.ao.tail.map (λm=>(m,0))++ds:=λT=>mT _ T
 have K:∀{W},(W,0)∈(d,2)::ds->W∈Q\/(W,0)∈af.ao.tail.map (λm=>(m,0))++ds:=λT=>ar (b (kS (aQ rfl) T))
 ⟨h.q6 id K,h.q7 id K λT p q=>(eZ.mp T).elim (λF=>ar (Ga (by rw[(yz F).1] at p;exact bm (p.symm.trans A)▸q))) λT=>ap (b T),h.q8 (ot λT=>b (kS (aQ rfl) T)),h.oP,λi J=>(d2.mp J).elim (λT=>(e5.mp T).elim λW q=>q.2▸(ch (Y W (List.mem_of_mem_tail q.1)) (λT=>absurd rfl T) (ap rfl))) λT=>h.q2 i (hl _ T),h.f9,h.q3,h.b7,by exact c (HM ..)<|h.oT,h.e0,λF=>by have:=(h.f9 d T.1).2 af A (T.2 af A) (P.2.2.elim (λT=>ei T rfl) λT=>T.elim (λT=>ei T rfl) λT=>T.2 af A);rw[F] at this;exact em this⟩
structure Du (E:r e) (T:K) (b:i1):Prop where
 jH:M T (b.aq+1) (V (b.br.map λW=>I W.J.aL))
 P:M T (b.aq+3) (V (b.br.map λW=>x W.cL))
 h7:M T (b.aq+4) (V (b.br.map (·.lp)))
 gM:M T (b.aq+5) (V (b.br.map λW=>io W.J))
 ij:M T (b.aq+13) (aT b.iK)
 fJ:M T (b.aq+15) (aT b.jx)
 dN:∀W∈b.br,sB E T b.aq b.iK b.jx b.ju W
def gl (U A Q:e) (y:e):Prop:=y=U\/y=U+9\/y=U+14\/y=A\/y=Q
theorem gl.en (m:gl a d w Z) (W:d<a) (P:w<a) (k:a+15<=bA) (p:bA<=Z):bK:=by unfold gl at m;exact Mn m W P k p
theorem gl.uZ (m:gl a d w Z) (T:Z<a) (W:Z≠d) (P:Z≠w):bK:=by unfold gl at m;exact Mo m T W P
theorem gl.e3 (m:gl a d w Z) (k:bA<=Z) (W:d<bA) (P:w<bA) (p:Z<db) (l:db<=a):bK:=m.uZ (gy p l) (λF=>aS (t W (t k (ab F)))) λF=>aS (t P (t k (ab F)))
theorem lJ.lS (Y:lJ b3 a d Q b aW w) (W:aE (gl aW.aq a d) b aj):Du (Q++aB) aj aW:=by
 have C:=Y.ef;refine g3 Y.kD λav aw ah=>?_;have o:∀{y:e} {I:dY},aW.aq<y->y≠aW.aq+9->y≠aW.aq+14->M b y I->M aj y I:=λk p l v=>v.G W λaa=>by unfold gl at aa;exact aa.elim (λJ=>aS (t k (ab J))) λJ=>J.elim (λq=>p (d4 (ab q) (D q))) λq=>q.elim (λc=>l (d4 (ab c) (D c))) λc=>c.elim (λh=>aS (H 1 (E 1 (t k (ab h)) C.1))) λh=>aS (H 1 (E 1 (t k (ab h)) C.2.1))
 have ae:∀{y:e} {I:dY},aW.aq<=y->M b y I->(∀X,I≠aT X)->(∀U X,I=cw U X->U=21)->M aj y I:=λk v ai af=>v.G W λaa=>by
  refine bi aa (λF=>?_) λm=>bi m (λF=>?_) λao=>bi ao (λF=>?_) λN=>bi N (λF=>aS (E 1 (t k (ab F)) C.1)) λF=>aS (E 1 (t k (ab F)) C.2.1)
  ·subst F;have:=af _ _ (v.cm ah);exact ei this rfl
  ·subst F;exact ai _ (v.cm Y.gL)
  subst F;have:=af _ _ (v.cm Y.cW);exact ei this rfl
 refine⟨o (bv _) (aD (dz rfl)) (aD (dz rfl)) Y.jH,o (fm rfl) (aD (dz rfl)) (aD (dz rfl)) Y.P,o (fm rfl) (aD (dz rfl)) (aD (dz rfl)) Y.h7,o (fm rfl) (aD (dz rfl)) (aD (dz rfl)) Y.gM,o (fm rfl) (a3 (dz rfl)) (aD (bv _)) Y.ij,o (fm rfl) (a3 (dz rfl)) (a3 (bv _)) Y.fJ,λA K=>(Y.dN A K).gs (W.gs λy ag Z I _=>by unfold gl at ag;exact(ag.elim (λJ=>aS (H 15 (t Z (ab J)))) λJ=>J.elim (λq=>aS (H 6 (ep 9 (t Z (ab q))))) λq=>q.elim (λc=>aS (H 1 (ep 14 (t Z (ab c))))) λc=>c.elim (λh=>aS (H 16 (E 1 (t Z (ab h)) C.1))) λh=>aS (H 16 (E 1 (t Z (ab h)) C.2.1)):bK).elim) (λI v=>?_) (λI i v=>?_) (λ_ _ b=>b) (λ_=>rfl) λ_=>rfl⟩
 ·exact ae (by have:=(Y.dN A K).f5;exact this.elim (λJ=>H 2 (D J)) λJ=>H 18 J) v (λX F=>by rw[F] at v;exact dW (v.cm (Y.dN A K).cL) rfl) λU X F=>by rw[F] at v;exact dW (v.cm (Y.dN A K).cL) rfl
 refine fF ((Y.dN A K).jw.lg i) λ_ _ T au _=>ae au v (λX F=>by rw[F] at v;exact dW (v.cm T) rfl) λU X F=>by rw[F] at v;injection v.cm T
noncomputable abbrev By (U C:e) (X h:B) (a:e):dY:=cw 86 [(34,x U),(35,bW (gt C)),(36,j X),(37,j h),(38,x (U+14)),(39,x (a+1)),(40,x (a+2)),(41,x (a+3)),(42,x (a+4))]
structure fZ where
 bq:f0
 bM:i1
 wq:e
 gk:e
 gh:e
 oV:B
 mK:B
 da:K
 ig:r e
 Sp:e
 Ww:e
variable {bb:fZ}
structure dc (Q:fZ) (E:r e) (T:K) (F A:B) (t:r (q×q)) (d:r e) (c:e->q) (w:r (q×q)) (a v:r e):Prop where
 o:aE (gl Q.bM.aq Q.gk Q.gh) Q.da T
 cp:Q.da.i+5<=T.i
 aL:g0 Q.bq Q.gk Q.gh Q.ig Q.da Q.bM Q.wq Q.Sp Q.Ww
 gm:ev T Q.bq.eh Q.gk Q.gh (Q.ig++E)
 cA:M T Q.da.i (By Q.bM.aq Q.bq.eo Q.oV Q.mK Q.da.i)
 aq:M T Q.bM.aq (o2 Q.bM.aq Q.wq 1 F A)
 hp:M T (Q.bM.aq+14) (pW Q.bq.eh (Q.bM.aq+13) (Q.bM.aq+15))
 gL:M T (Q.bM.aq+9) (aT t)
 oO:M T (Q.da.i+1) (aT (d3 I d c))
 nJ:M T (Q.da.i+2) (aT w)
 oL:M T (Q.da.i+3) (V (bg a))
 nH:M T (Q.da.i+4) (V (bg v))
 ts:fi (Q.ig++E) Q.oV Q.bq.j3
 Bv:fi (Q.ig++E) Q.mK Q.bq.nV
section
variable {y0:B} {t4 t6 t5:r e}
theorem dc.fV (Y:dc bb Q b am bx a1 aB hx fQ c0 dT):bb.gk<bb.bM.aq/\bb.gh<bb.bM.aq/\bb.bq.eh<bb.bM.aq/\bb.bM.aq+17<bb.da.i:=iq Y.aL.ef.1 Y.aL.ef.2.1 Y.aL.ef.2.2 Y.aL.eC.bj
theorem dc.lS (Y:dc bb Q b am bx a1 aB hx fQ c0 dT):Du (bb.ig++Q) b bb.bM:=Y.aL.tolJ.lS Y.o
theorem dc.ez (Y:dc bb Q b am bx a1 aB hx fQ c0 dT) (W:aE c7 b aj) (N:∀y,c7 y->gl bb.bM.aq bb.gk bb.gh y/\y≠bb.bM.aq+14\/bb.da.i<y) (a:ev aj bb.bq.eh bb.gk bb.gh (bb.ig++(Q++nu))) (U:M aj bb.bM.aq (o2 bb.bM.aq bb.wq 1 gS y0)) (d:M aj (bb.bM.aq+9) (aT k2)) (k:M aj (bb.da.i+1) (aT (d3 I t4 vI))) (l:M aj (bb.da.i+2) (aT qt)) (m:M aj (bb.da.i+3) (V (bg t6))) (p:M aj (bb.da.i+4) (V (bg t5))):dc bb (Q++nu) aj gS y0 k2 t4 vI qt t6 t5:=by have X:=Y.fV;exact⟨Y.o.cb W (λ_ _ b=>b) λy t Z=>(N y Z).elim And.left λb=>(aS (H 1 (E 1 b t))).elim,ej Y.cp W.cq,Y.aL,a,Y.cA.G W λZ=>(N _ Z).elim (λb=>by unfold gl at b;exact b.1.elim (λJ=>b.2 (d4 (bJ 14 (ab J)) (H 4 X.2.2.2))) λJ=>J.elim (λq=>b.2 (d4 (bJ 5 (ab q)) (H 4 X.2.2.2))) λq=>q.elim (λc=>b.2 (d4 (ab c) (H 4 X.2.2.2))) λc=>c.elim (λh=>b.2 (d4 (bJ 14 (H 1 (E 1 (ab h) X.1))) (H 4 X.2.2.2))) λh=>b.2 (d4 (bJ 14 (H 1 (E 1 (ab h) X.2.1))) (H 4 X.2.2.2))) (ys _),U,Y.hp.G W λZ=>(N _ Z).elim (λb=>b.2 rfl) λb=>aS (H 4 (ep 14 (E 1 X.2.2.2 b))),d,k,l,m,p,by exact bp (gx ..)<|Y.ts.mn,by exact bp (gx ..)<|Y.Bv.mn⟩
theorem dc.bw (Y:dc bb Q b am bx a1 aB hx fQ c0 dT) (h:e8 b aj a bN) (d:bb.da.i<a) (k:M aj (bb.da.i+1) (aT (d3 I t4 vI))) (l:M aj (bb.da.i+2) (aT k2)) (m:M aj (bb.da.i+3) (V (bg t6))) (p:M aj (bb.da.i+4) (V (bg t5))):dc bb Q aj am bx a1 t4 vI k2 t6 t5:=by have X:=Y.fV;have:=Y.ez (nu:=[]) h.o (λy F=>ar (by exact c F<|d)) (by exact c (eP ..)<|Y.gm.G h.o (aD (H 19 (E 1 (E 18 X.2.2.1 X.2.2.2) d))) (aD (H 19 (E 1 (E 18 X.1 X.2.2.2) d))) (aD (H 19 (E 1 (E 18 X.2.1 X.2.2.2) d)))) (Y.aq.G h.o (aD (H 18 (E 1 X.2.2.2 d)))) (Y.gL.G h.o (aD (H 9 (E 1 X.2.2.2 d)))) k l m p;rw[eP] at this;exact this
theorem dc.HF (Y:dc bb Q b am bx a1 aB hx fQ c0 dT) (X:e8 b aj (bb.da.i+2) (aT k2)):dc bb Q aj am bx a1 aB hx k2 c0 dT:=Y.bw X (fm rfl) (Y.oO.G X.o (aD (bv _))) X.aF (Y.oL.G X.o (a3 (bv _))) (Y.nH.G X.o (a3 (dz rfl)))
theorem dc.Vx (Y:dc bb Q b am bx a1 aB hx fQ c0 dT) (X:e8 b aj (bb.da.i+1) (aT (d3 I t4 vI))):dc bb Q aj am bx a1 t4 vI fQ c0 dT:=Y.bw X (bv _) X.aF (Y.nJ.G X.o (a3 (bv _))) (Y.oL.G X.o (a3 (dz rfl))) (Y.nH.G X.o (a3 (dz rfl)))
theorem dc.hh (Y:dc bb Q b am bx a1 aB hx fQ c0 dT) (X:e8 b aj (bb.da.i+3) (V (bg t6))):dc bb Q aj am bx a1 aB hx fQ t6 dT:=Y.bw X (fm rfl) (Y.oO.G X.o (aD (dz rfl))) (Y.nJ.G X.o (aD (bv _))) X.aF (Y.nH.G X.o (a3 (bv _)))
theorem dc.uS (Y:dc bb Q b am bx a1 aB hx fQ c0 dT) (X:e8 b aj (bb.da.i+4) (V (bg t5))):dc bb Q aj am bx a1 aB hx fQ c0 t5:=Y.bw X (fm rfl) (Y.oO.G X.o (aD (dz rfl))) (Y.nJ.G X.o (aD (dz rfl))) (Y.oL.G X.o (aD (bv _))) X.aF
theorem dc.eh (Y:dc bb Q b am bx a1 aB hx fQ c0 dT) (W:aE c7 b aj) (N:∀y,c7 y->y=bb.gk\/y=bb.gh\/bb.da.i+5<=y) (a:ev aj bb.bq.eh bb.gk bb.gh (bb.ig++(Q++nu))):dc bb (Q++nu) aj am bx a1 aB hx fQ c0 dT:=by
 have X:=Y.fV;have o:∀{y:e} {I:dY},bb.bM.aq<=y->y<bb.da.i+5->M b y I->M aj y I:=λk p v=>v.G W λZ=>by have:=N _ Z;exact this.elim (λJ=>aS (t (t X.1 k) (ab J))) λJ=>J.elim (λq=>aS (E 1 (t k (ab q)) X.2.1)) λq=>aS (ep 5 (E 1 q p))
 exact Y.ez W (λy Z=>(N y Z).elim (λF=>ap ⟨by exact c F<|ar (ar (ar (ap rfl))),aD (bJ 14 (E 1 (ab F) X.1))⟩) λb=>b.elim (λF=>ap ⟨by exact c F<|ar (ar (ar (ar rfl))),aD (bJ 14 (E 1 (ab F) X.2.1))⟩) λb=>ar (H 4 b)) a (o (bv _) (bJ 5 (H 17 X.2.2.2)) Y.aq) (o (bX _ _) (bJ 5 (H 8 X.2.2.2)) Y.gL) (o (bJ 1 (H 18 X.2.2.2)) (dz rfl) Y.oO) (o (bJ 2 (H 18 X.2.2.2)) (dz rfl) Y.nJ) (o (bJ 3 (H 18 X.2.2.2)) (dz rfl) Y.oL) (o (bJ 4 (H 18 X.2.2.2)) (bv _) Y.nH)
theorem dc.cK (Y:dc bb Q b am bx a1 aB hx fQ c0 dT) (W:aE (λy=>bb.da.i+5<=y) b aj):dc bb Q aj am bx a1 aB hx fQ c0 dT:=by have X:=Y.fV;have:=Y.eh (nu:=[]) W (λy F=>ar (ar F)) (by exact c (eP ..)<|Y.gm.G W (l3 (bJ 5 (H 18 (E 18 X.2.2.1 X.2.2.2)))) (l3 (bJ 5 (H 18 (E 18 X.1 X.2.2.2)))) (l3 (bJ 5 (H 18 (E 18 X.2.1 X.2.2.2)))));rw[eP] at this;exact this
theorem dc.zC (Y:dc bb Q b am bx a1 aB hx fQ c0 dT) (W:aE (λy=>y=bb.bM.aq\/y=bb.bM.aq+9) b aj) (U:M aj bb.bM.aq (o2 bb.bM.aq bb.wq 1 gS y0)) (d:M aj (bb.bM.aq+9) (aT k2)):dc bb Q aj gS y0 k2 aB hx fQ c0 dT:=by have X:=Y.fV;have o:∀{y:e} {I:dY},bb.da.i<=y->M b y I->M aj y I:=λk v=>v.G W λZ=>Z.elim (λJ=>aS (H 17 (t (t X.2.2.2 k) (ab J)))) λJ=>aS (H 8 (ep 9 (t (t X.2.2.2 k) (ab J))));have:=Y.ez (nu:=[]) W (λy F=>ap ⟨F.elim ap λF=>ar (ap F),F.elim (λJ=>aD (bJ 13 (al 1 (ab J)))) λJ=>aD (bJ 4 (al 1 (ab J)))⟩) (by exact c (eP ..)<|Y.gm.G W (dm (aD X.2.2.1) (aD (bJ 9 X.2.2.1))) (dm (aD X.1) (aD (bJ 9 X.1))) (dm (aD X.2.1) (aD (bJ 9 X.2.1)))) U d (o (bX _ _) Y.oO) (o (bX _ _) Y.nJ) (o (bX _ _) Y.oL) (o (bX _ _) Y.nH);rw[eP] at this;exact this
end
noncomputable def iR (b:i1) (C:e):dB:=((b.br[C]?).map (·.J)).getD ⟨0,[],[],64,0⟩
theorem tn (T:aW.br[a]? =g dE):iR aW a=dE.J:=by unfold iR;refine c T ?_;rfl
noncomputable abbrev gQ (Q:fZ) (C:e):q:=I (dG Q.bq (iR Q.bM C))
theorem z1 (k:ag l h b A (aK bt)) (p:bt=true->aM l aw h b an) (a:bt=false->an (aK false) b):aM l (fD A aw) h b an:=k _ (by
 cases bt with
 |true=>exact p rfl
 |false=>exact a rfl)
theorem QN (Z:aM l A h b λW k=>dj (fc W k) λN=>an (aK (!N)) k):aM l (it A) h b an:=Z
abbrev abk (Q:fZ) (T:K):Prop:=M T Q.da.i (By Q.bM.aq Q.bq.eo Q.oV Q.mK Q.da.i)
theorem A1 (M:cv aO) (Y:dc bb Q b am bx a1 aB hx fQ c0 dT) (K:ag (bC aO (a+1)) h b A (x bb.da.i)):ag (bC aO (a+1)) h b (b1 52 (aH A 38) z) (j 2):=λG Z=>iJ (bk K Y.cA rfl) Y.hp rfl rfl a5 (cz (M.cy 31 rfl) rfl (c3 U Z))
def Nk (D:b4):Prop:=∀(Q:fZ) (E:r e) (T:K) (F A:B) (t w:r (q×q)) (d o v:r e) (c:e->q) (C:e) (N:B) (G:q->K->Prop),dc Q E T F A t d c w o v->w.length<1000->(∀H,aE (λy=>y=Q.da.i+2) T H->dc Q E H F A t d c (et (I C) (j N) w) o v->G (I 0) H)->D 2377 [x Q.da.i,I C,j N] T G
theorem Bh (M:cv aO):Nk (bC aO (a+1)):=λQ E T F A t w d b v c C N G Y D Z=>cz (M.cy 35 rfl) rfl (jg (m rfl) (bk (m rfl) Y.cA rfl) (m rfl) Y.nJ (eH _) rfl (by unfold aa;exact ah D rfl) λk X=>c3 U (Z k X.o (Y.HF X)))
def MR (Q:fZ) (E:r e) (T:K) (F A:B) (d:r e) (w:r (q×q)) (o v:r e) (C:e) (W:lN) (G:q->K->Prop):Prop:=(∀N M H,dG Q.bq W.J=0->cH Q.bq W.J=g M->fi (Q.ig++E) N M->aE (λy=>y=Q.da.i+2\/T.i<=y) T H->dc Q E H F A [] d (gQ Q) (et (I C) (j N) w) o v->G (I 0) H)/\∀H,dG Q.bq W.J≠0->aE ca T H->G (I (dG Q.bq W.J)) H
abbrev zf (D:b4) (a:e) (U:e->Prop):Prop:=∀(Q:fZ) (E:r e) (T:K) (F A:B) (w:r (q×q)) (d o v:r e) (C:e) (W:lN) (G:q->K->Prop),dc Q E T F A [] d (gQ Q) w o v->w.length<1000->Q.bM.br[C]? =g W->U W.J.aL->MR Q E T F A d w o v C W G->D a [x Q.da.i,I C] T G
theorem dc.dh (Y:dc bb Q b am bx a1 aB hx fQ c0 dT) {o:lN->q} (v:M b a (V (bb.bM.br.map o))) (i:bb.bM.br[d]? =g dE) (K:ag l h b A (x a)) (k:ag l h b aw (I d)):ag l h b (as A aw) (o dE):=e4 K k v (by refine c (au ..) ?_;have:=Y.aL.bo;unfold aa;exact ah this rfl) (by refine c (dp ..) (c i ?_);rfl)
def NE (D:b4):Prop:=zf D 88 (· =4)
theorem Wl (M:cv aO):NE (bC aO (a+5)):=by
 intro Q aD T aF A aG d o v C W G Y aI aj ah Z;have ao:=G5 (a:=a) M;have au:=V4 (a:=a) M;have av:=Bh (a:=a+3) M;have aw:∀(T:K) (ax aA:q) (G:q->K->Prop),G (aK true) T->bC aO (a+4) 2369 [x (Q.bM.aq+14),ax,aA] T G:=λT ax aA G Z=>cz (M.cy 33 rfl) rfl (c3 U Z);refine cz (M.cy 37 rfl) rfl ?_;generalize bC aO (a+4)=aM at ao au av aw⊢;have N:=bF aj;have b:=Y.lS;have P:=b.dN W N;refine bl (P.jw.iu ah) λaQ _=>?_;have h:=A3 (Y.aL.dD W N);have aB:=Y.aL.od;have aS:ag aM ((bu.aP (λ_=>R) 0 (x Q.da.i)).aP 1 (I C)) T (as (aH (aH (f 0) 34) 18) (f 1)) (x W.b7):=by exact bp (P.b7 (D ah))<|Y.dh (o:=λaU=>aU.lp) b.h7 aj (bk (bk (m rfl) Y.cA rfl) Y.aq rfl) (m rfl)
 refine dL aS (fA (iJ (bk (m rfl) Y.cA rfl) Y.hp rfl rfl (X (m rfl) (X (bk (m rfl) Y.cA rfl) a5)) (ao (Q.bM.aq+14) Q.bq.eh (Q.bM.aq+13) (Q.bM.aq+15) (Q.bM.aq+16) W.b7 W.g7 Q.bq.eo Q.bM.iK W.J.eR T _ Y.hp b.ij aQ h aB λk ai=>?_)));have aa:=Y.cK (ai.a0 λ_ _=>ed);have l:dG Q.bq W.J=(if Q.bq.eo∈W.J.eR then 1 else if W.J.eR.any (λab=>lq ab Q.bq.eo) then 0 else 2)/\(Q.bq.eo∉W.J.eR->W.J.eR.any (λab=>lq ab Q.bq.eo)=true->cH Q.bq W.J=g Q.bq.j3):=by
  unfold dG cH;refine c ah ?_;by_cases k:Q.bq.eo∈W.J.eR
  ·simp[k]
  cases p:W.J.eR.any (λab=>lq ab Q.bq.eo)<;>simp[k]
 have aV:=(aa.lS.dN W N).jw.iu ah;refine GE (bt:=!decide (Q.bq.eo∈W.J.eR)&&!(W.J.eR.any λab=>lq ab Q.bq.eo)) (λp=>aE ca k p) (λH aC=>z1 (rK (m rfl)) (λF=>QN (iJ (bk (m rfl) aa.cA rfl) aa.hp rfl rfl (X (m rfl) (X (bk (m rfl) aa.cA rfl) a5)) (au (Q.bM.aq+14) Q.bq.eh (Q.bM.aq+13) (Q.bM.aq+15) (Q.bM.aq+16) W.b7 W.g7 Q.bq.eo Q.bM.iK W.J.eR k _ aa.hp aa.lS.ij aV.1 h aB λp ae=>?_))) λF=>?_) (λE p ae=>c3 U ?_) λE p ae=>eV ?_
 ·have:=aC p ae;rw[F,HU] at this;exact this
 ·have:=aC k .dO;rw[F,Bool.false_and] at this;exact this
 ·rw[ps,qx,qx,t2] at E;have:=Z.2 p (by rw[l.1,ay E.1,ay (by refine c (E.2 ..) ?_;decide)];decide) (ai.az ae);rw[l.1,ay E.1,ay (by refine c (E.2 ..) ?_;decide)] at this;exact this
 have af:=aa.cK (ae.a0 λ_ _=>ed);refine ex (rK (bt:=true) λH aW=>iJ (bk (m rfl) af.cA rfl) af.hp rfl rfl (X (bk (m rfl) af.cA rfl) (X (m rfl) a5)) (aw p _ _ H aW)) rfl (hu (z4 (m rfl) (λw=>hE U ?_) λw=>iJ (m rfl) af.cA rfl rfl (X (m rfl) (X (bk (m rfl) af.cA rfl) a5)) (av Q aD p aF A [] aG d o v (gQ Q) C Q.oV _ af aI λaY t a3=>?_)))
 ·have:=Z.2 p (by refine c (l.1 ..) (c (aZ (dq w)) ?_);decide) (ai.az ae);rw[l.1,aZ (dq w)] at this;exact this
 have y:=gg w;rw[jE y,Bool.not_false,HU,Bool.not_eq_false'] at E;exact Z.1 _ _ aY (by exact c (l.1 ..) (c (ay y) (c (aZ E) rfl))) (l.2 y E) Y.ts ((ai.az ae).cb t (λ_ _=>ed) λ_ _=>ap) a3
def NF (D:b4):Prop:=zf D 89 (· =1)
theorem Wm (M:cv aO):NF (bC aO (a+2)):=by
 intro Q ai T F aj w av o v ab W G Y D ae aw Z;have k:=Bh (a:=a) M;have ax:∀(T:K) (az aA aB:q) (G:q->K->Prop),G (j (-1)) T->bC aO (a+1) 2366 [x (Q.bM.aq+14),az,aA,aB] T G:=λT az aA aB G Z=>cz (M.cy 30 rfl) rfl (c3 U Z);refine cz (M.cy 38 rfl) rfl ?_;generalize bC aO (a+1)=aD at k ax⊢;have N:=bF ae;have b:=Y.lS;have aE:=b.dN W N;have aF:=Y.dh (l:=aD) (h:=((bu.aP (λ_=>R) 0 (x Q.da.i)).aP 1 (I ab))) (o:=λaf=>x af.cL) b.P ae (bk (A:=aH (f 0) 34) (d:=17) (bk (m rfl) Y.cA rfl) Y.aq rfl) (m (a:=1) rfl);have aG:=Y.aL.c W N;have p:cH Q.bq W.J=g (if W.J.ao=[] then Q.bq.nV else Q.bq.j3):=by unfold cH;refine c aw ?_;rfl
 have aC:dG Q.bq W.J=0:=by unfold dG;refine c p (c aw ?_);rfl
 refine ec (tf aF (rR aE.cL (by refine c (au ..) ?_;unfold aa;exact ah aG rfl))) (λE=>hu (iJ (m rfl) Y.cA rfl rfl (X (m rfl) (X (bk (m rfl) Y.cA rfl) a5)) (k Q ai T F aj [] w av o v (gQ Q) ab Q.mK _ Y D λag t y=>Z.1 _ _ ag aC p ?_ (t.a0 λ_ _=>ap) y))) λE=>eV (dL (Y.dh (o:=λaf=>af.lp) b.h7 ae (bk (bk (m rfl) Y.cA rfl) Y.aq rfl) (m rfl)) (dL (C:=j (-1)) (λH aI=>iJ (bk (m rfl) Y.cA rfl) Y.hp rfl rfl (X (m rfl) (X (bk (m rfl) Y.cA rfl) (X (bk (m rfl) Y.cA rfl) a5))) (ax T _ _ _ H aI)) (ex (cx (m rfl) U) rfl (g8 (cx (m rfl) U) rfl (dL (bk (m rfl) Y.cA rfl) (eV (hu (iJ (m rfl) Y.cA rfl rfl (X (m rfl) (X (m rfl) a5)) (k Q ai T F aj [] w av o v (gQ Q) ab Q.oV _ Y D λag t y=>Z.1 _ _ ag aC p ?_ (t.a0 λ_ _=>ap) y)))))))))
 ·have:W.J.ao=[]:=by generalize W.J.ao=aM at E;cases aM;{rfl};{exact eY E}
  exact c (aZ this)<|Y.Bv
 have:W.J.ao≠[]:=λaQ=>by rw[aQ] at E;exact kW E
 exact c (ay this)<|Y.ts
def ND (D:b4):Prop:=zf D 87 λ_=>sp
theorem Wk (M:cv aO):ND (bC aO (a+6)):=by
 intro Q E T F ae w d o v ab W G Y af q _ Z;have ag:=Wl (a:=a) M;have ah:=Wm (a:=a+3) M;have k:=Bh (a:=a+4) M;have b:=A1 (a:=a+4) (h:=(((bu.aP (λ_=>R) 0 (x Q.da.i)).aP 1 (I ab)).aP 2 (x Q.bM.aq)).aP 3 (I W.J.aL)) (A:=f 0) M Y (m rfl);refine cz (M.cy 36 rfl) rfl ?_;generalize bC aO (a+5)=az at ag ah k b⊢;have N:=bF q;have ai:=Y.lS;refine dL (bk (m rfl) Y.cA rfl) (dL (Y.dh (o:=λaj=>I aj.J.aL) ai.jH q (bk (m rfl) Y.aq rfl) (m rfl)) ?_);refine ec (cx (m rfl) U) (λK=>hu (iJ (m rfl) Y.cA rfl rfl (X (m rfl) (X b a5)) (k Q E T F ae [] w d o v (gQ Q) ab 2 _ Y af λl t y=>?_))) λao=>eV (ec (cx (m rfl) U) (λK=>tk (X (m rfl) (X (m rfl) a5)) (ah Q E T F ae w d o v ab W _ Y af q ((iW (n:=1)).mp (dq K)) Z)) λH=>eV (ec (cx (m rfl) U) (λK=>tk (X (m rfl) (X (m rfl) a5)) (ag Q E T F ae w d o v ab W _ Y af q ((iW (n:=4)).mp (dq K)) Z)) λP=>eV (ex (ko (iT:=false) (cx (m rfl) U) λ_=>ni (C:=S [I ab,bW (gt Q.bq.eo)]) (ea (X (m rfl) (X (bk (m rfl) Y.cA rfl) a5)) (show 2<aa by decide)) (bk (m rfl) Y.aq rfl) Y.gL rfl) (Yf _) (c3 U ?_))))
 ·have K:W.J.aL=0:=by have:=dq K;exact Dr this
  have p:cH Q.bq W.J=g 0:=by unfold cH;refine c K ?_;rfl
  exact Z.1 2 0 l (by unfold dG;refine c p (c K ?_);rfl) p (ap ⟨rfl,rfl⟩) (t.a0 λ_ _=>ap) y
 have au:W.J.aL≠0:=by have:=gg ao;exact Ds this
 have av:W.J.aL≠1:=by have:=gg H;exact wo this
 have aw:W.J.aL≠4:=by have:=gg P;exact Dt this
 have ax:=(Y.aL.dD W N).lW aw;have:dG Q.bq W.J=2:=ph.mpr (by unfold cH;refine c (ay au) (c (ay av) (c ax ?_));rfl);have:=Z.2 T (a3 (dr (D this) rfl)) .dO;rw[‹dG Q.bq W.J=2›] at this;exact this
noncomputable abbrev lt (Z:r (e×e)):r q:=(Z.map h').reverse
theorem SU (X:r q) (Q:e->bu->K->Prop) (D:X.length<aa) (P:∀w h b,Q w h b->M b a (V X)) (c:Q 0 h b) (T:∀(w:e) J h b F,X.reverse[w]? =g J->Q w h b->lL l aC aA F (Q (w+1))->a7 l dd (h.aP d J) b F) (y:∀h b,Q X.length h b->a7 l aC h b aA):g4 fr (x a) b λt k=>∃C,ip (λh b aA=>a7 l dd h b aA) (λJ h _ aA=>aA (h.aP d J)) C t h k (gc l aC aA):=c4 (P 0 h b c) ⟨D,Fi X Q (λw h b v=>⟨(P w h b v).bj,(P w h b v).bL⟩) c (λw J h b F p o m E i=>T w J h b F p o ⟨λh b w=>(m h b w).1,λh b w=>(m h b w).2,E,i⟩) y⟩
theorem z6 (K:ag l h b A (x a)) (v:M b a (V ai)) (D:ai.length<aa) (Z:∀H,hb b H (V (ai.drop 1))->an (x b.i) H):aM l (j0 A (u (j 1)) (u bI)) h b an:=K _ (c4 v ⟨D,cJ Z⟩)
theorem xV (Z:aM l A h b λJ k=>g4 hM J k λt k=>∃C,ip (λh b aA=>a7 l aC h b aA) (λJ h _ aA=>aA (h.aP a J)) C t h k (gc l dd aA)):a7 l (s (el hM a A aC) dd) h b aA:=Z
theorem u' (c:ag l h b A (x a)) (k:ag l h b aw (I d)) (p:ag l h b dI (I w)) (v:M b a (V (lt ds))) (K:0<a) (D:ds.length<100000) (Z:∀H,e8 b H a (V (lt ((d,w)::ds)))->a7 l aC h H aA):a7 l (s (du (b1 57 A (n (.S (n aw (n dI z))) z))) aC) h b aA:=jf c (ea (X k (X p a5)) (show 2<aa by decide)) v K (by rw[mQ,au];unfold aa;exact ah D rfl) λH i=>Z H (by rw[lt,r8,vX];exact i)
theorem GC (T:bu->Prop) (q:∀h J,T h->T (h.aP Z J)) (W:T h) (v:∀h,T h->h a=g (x d)) (aw:(a==Z)=false) (P:M b w (V (bg Q))) (E:w≠d) (A:M b d (V (lt ds))) (K:0<d) (ai:ds.length<40000) (Y:Q.length<1000) (aj:∀h H,T h->aE (λy=>y=d) b H->M H d (V (lt (Q.map (λab=>(ab,0))++ds)))->a7 l aC h H aA):g4 fr (x w) b λt k=>∃C,ip (λh b aA=>a7 l (s (du (b1 57 (f a) (n (.S (n (f Z) (n (u (j 0)) z))) z))) L) h b aA) (λJ h _ aA=>aA (h.aP Z J)) C t h k (gc l aC aA):=by refine SU (bg Q) (λae h H=>T h/\aE (λy=>y=d) b H/\M H d (V (lt ((Q.reverse.take ae).reverse.map (λab=>(ab,0))++ds)))) (by refine c (au ..) ?_;unfold aa;exact ah Y rfl) (λae h b Z=>P.G Z.2.1 E) (ch W .dO (by simpa using A)) ?_ λh b ao=>gq ao λy w af=>aj h b y w (by rw[au,<-mQ,jn,List.reverse_reverse] at af;exact af);rintro ae J h H F ag ⟨W,aq,av⟩ i;rw[<-BV,dp,e7] at ag;obtain⟨ab,N,rfl⟩:=ag;have D:=q h (I ab) W;refine u' (w:=0) (m (v _ D)) (m ii) U av K (by exact c (dw ..)<|c (au ..)<|c (mQ ..)<|c (lD ..)<|c (mQ ..)<|Mq ai Y) λp X=>i.dK _ _ (ch D (aq.az X.o) ?_);refine c (iB ..) (c N ?_);have:=X.aF;simpa using this
def NG (D:b4):Prop:=∀(Q:fZ) (E:r e) (T:K) (F A:B) (t w:r (q×q)) (d o v:r e) (c:e->q) (k C:e) (Z:r (e×e)) (W:lN) (G:q->K->Prop),dc Q E T F A t d c w o v->Q.da.i+5<=k->M T k (V (lt Z))->Q.bM.br[C]? =g W->Z.length<30000->v.length<1000->(W.J.aL≠3->∀H,aE (λy=>y=k) T H->M H k (V (lt (W.J.ao.map (λm=>(m,0))++(C,1)::Z)))->G bI H)->(W.J.aL=3->∀m a H,W.J.ao=m::a->aE (λy=>y=k\/y=Q.da.i+4) T H->dc Q E H F A t d c w o (v++[C])->M H k (V (lt ((m,0)::(C,1)::(C,2)::Z)))->G bI H)->D 90 [x Q.da.i,x k,I C] T G
theorem Wn (M:cv aO):NG (bC aO (a+1)):=by
 intro Q aW T aY aZ a5 a7 a8 a9 v a' k C Z W bb Y ab aw q D aC aG aI;refine cz (M.cy 39 rfl) rfl ?_;generalize bC aO a=be;have N:=bF q;have af:=Y.lS;have ax:=af.dN W N;have ay:=Y.aL.c W N;have X:=(Y.aL.dN W N).cL.bj;refine dL (Y.dh (o:=λA=>x A.cL) af.P q (bk (bk (m rfl) Y.cA rfl) Y.aq rfl) (m rfl)) (ec (cx (Y.dh (o:=λA=>I A.J.aL) af.jH q (bk (bk (m rfl) Y.cA rfl) Y.aq rfl) (m rfl)) U) (λK=>?_) λK=>eV ?_)
 ·have K:W.J.aL=3:=by have:=dq K;exact wp this
  obtain⟨ag,ai,aj⟩:∃ag ai,W.J.ao=ag::ai:=by
   have:=(Y.aL.dD W N).rE K
   cases T:W.J.ao with
   |nil=>exact absurd T this
   |cons y aM=>exact js y aM rfl
  refine jf (bk (m rfl) Y.cA rfl) (m rfl) Y.nH (eH _) (by refine c (au ..) ?_;unfold aa;exact ah aC rfl) λaP ae=>?_;rw[show bg v++[I C]=bg (v++[C]) by simp] at ae;have aQ:=Y.uS ae;refine u' (w:=2) (m rfl) (m rfl) U (aw.G ae.o (a3 ab)) (dr (E 5 (c8 _) ab) rfl) (ah D rfl) λp b=>u' (w:=1) (m rfl) (m rfl) U b.aF (dr (E 5 (c8 _) ab) rfl) (by simp;exact ah (al 1 D) rfl) λl aA=>?_;have t:aE (λy=>y=k) aP l:=b.o.az aA.o;have aB:=ax.cL.G (ae.o.cb t (a:=λy=>y=Q.da.i+4\/y=k) (λ_ _=>ap) λ_ _=>ar) (dm (aD (bJ 4 X)) (aD (H 5 (E 5 X ab))));have aS:=aQ.cK (t.a0 λy _ F=>by exact c F<|ab);rw[aj] at aB;refine u' (w:=0) (m rfl) (e4 (d:=0) (m rfl) U aB (by refine c (au ..) (bp aj ?_);unfold aa;exact ah ay rfl) rfl) U aA.aF (dr (E 5 (c8 _) ab) rfl) (by simp;exact ah (al 2 D) rfl) λaU av=>c3 U ?_;exact aI K ag ai aU aj ((ae.o.cb t (λ_ _=>ar) λ_ _=>ap).cb av.o (λ_ _ T=>T) λ_ _=>ap) (aS.cK (av.o.a0 λy _ F=>by exact c F<|ab)) av.aF
 refine u' (w:=1) (m rfl) (m rfl) U aw (dr (E 5 (c8 _) ab) rfl) (ah D rfl) λp b=>xV (hE (m rfl) (GC (λh=>h 1=g (x k)) (λh _ T=>T) rfl (λh T=>T) rfl (ax.cL.G b.o (aD (H 5 (E 5 X ab)))) (aD (H 5 (E 5 X ab))) b.aF (dr (E 5 (c8 _) ab) rfl) (by simp;exact ah (al 1 D) rfl) (ah ay rfl) λh l _ t aV=>aG (by have:=gg K;exact Mr this) l (b.o.az t) aV))
structure nG (t:f0) (b:i1) (E:r e) (d:r e) (w:r (q×q)):Prop where
 i:h6 w b.br.length
 l2:∀(i:e) W,i∈d->b.br[i]? =g W->dG t W.J=0->∃N M,b9 (I i) w=g (j N)/\cH t W.J=g M/\fi E N M
 ng:∀i,(i∈d->∀W,b.br[i]? =g W->dG t W.J≠0)->b9 (I i) w=R
noncomputable abbrev hv (Q:fZ):r dB:=Q.bM.br.map (·.J)
def DH (Q:fZ) (m:e->e):Prop:=∀(C:e) N,(hv Q)[C]? =g N->N.aL≠3->∀W∈N.ao,m W<m C
theorem h6.aP (Y:h6 a1 a) (y:d<a) (J:q):h6 (et (I d) J a1) a/\∀M,b9 (I M) (et (I d) J a1)=if M=d then g J else b9 (I M) a1:=by
 refine fF Y λA o t C K=>?_;refine c t<|c (mp g6 C)<|⟨(hf _ _ rfl (uJ C) (λb T=>(lo.mp T).elim (K b) λT=>T▸y)),λM=>?_⟩
 refine c (iH g6 ..) (c (iH g6 ..) ?_);by_cases F:M=d
 ·rw[aZ F,aZ (lo.mpr (ar F)),hF,aZ F]
 rw[ay F,hF,ay F];by_cases N:M∈A
 ·exact c (aZ N) (c (aZ (lo.mpr (ap N))) rfl)
 exact c (ay N) (c (ay λT=>(lo.mp T).elim N F) rfl)
theorem nG.aP (D:nG b3 aW Q aB a1) (q:aW.br[a]? =g dE) (b:dG b3 dE.J=0) (l:cH b3 dE.J=g d) (A:fi Q am d):nG b3 aW Q (aB++[a]) (et (I a) (j am) a1):=by
 have y:=(co.mp q).1;refine bl (D.i.aP y (j am)) λk P=>⟨k,λY m K h N=>?_,λY K=>?_⟩
 ·refine c (P ..) ?_;by_cases F:Y=a
  ·subst F;rw[q] at h;obtain rfl:=bm h;exact c (aZ rfl ..)<|hf am d rfl l A
  exact c (ay F ..)<|D.l2 Y m (by simpa [F] using K) h N
 exact c (P ..)<|c (ay λF=>by subst F;exact K (by simp) dE q b ..)<|D.ng Y λT=>K (by simp[T])
theorem nG.u0 (D:nG b3 aW Q aB a1) (q:aW.br[a]? =g dE) (b:dG b3 dE.J≠0):nG b3 aW Q (aB++[a]) a1:=⟨D.i,λY A K h N=>by refine bi (d2.mp K) (λT=>D.l2 Y A T h N) λT=>?_;rw[e6] at T;subst T;rw[q] at h;obtain rfl:=bm h;exact absurd N b,λY K=>D.ng Y λT=>K (by simp[T])⟩
noncomputable def ik:r (e×e)->e
 |[]=>0
 |Q::h=>(if Q.2=2 then 101 else 1)+ik h
theorem ya:∀{o:r e},ik (o.map (λm=>(m,0))++ds)=o.length+ik ds:=by
 intro o;induction o with
 |nil=>exact(tP _).symm
 |cons m o t=>refine(?_:1+ik (o.map (λm=>(m,0))++ds)=_);exact c t<|c (hm ..)<|Ms
theorem HJ:∀h:r (e×e),h.length<=ik h:=by
 intro h;induction h with
 |nil=>exact bv _
 |cons Q h this=>unfold ik;refine c (hm ..) ?_;split<;>first|exact Mt this|exact t (al 1 this) (ab (jo _ 1))
structure Dw (Q:fZ) (E:r e) (F A:B) (m:e->e) (c k C:e) (h:bu) (T:K) (d:r e) (w:r (q×q)) (o v:r e) (Z:r (e×e)):Prop where
 cI:h 0=g (x Q.da.i)
 cD:h 2=g (x k)
 gY:dc Q E T F A [] d (gQ Q) w o v
 jw:M T k (V (lt Z))
 kD:fg Q.bq (hv Q) m c d o v Z
 qV:nG Q.bq Q.bM (Q.ig++E) d w
 AM:C=ik Z+204*(Q.bM.br.length- d.length)
 zt:ik Z<=1+204*d.length
def NH (D:b4):Prop:=∀(Q:fZ) (E:r e) (T:K) (F A:B) (m:e->e) (c:e) (G:q->K->Prop),dc Q E T F A [] [] (gQ Q) [] [] []->c<Q.bM.br.length->DH Q m->(∀H d w o v,dc Q E H F A [] d (gQ Q) w o v->fg Q.bq (hv Q) m c d o v []->nG Q.bq Q.bM (Q.ig++E) d w->G bI H)->D 91 [x Q.da.i,I c] T G
theorem Wo (b0:cv aO):NH (bC aO (a+7)):=by
 intro Q aI ag aW aY cm b2 di Y cS cn b3;have cq:=Wk (a:=a) b0;have cu:=Wn (a:=a+5) b0;refine cz (b0.cy 40 rfl) rfl ?_;generalize bC aO (a+6)=D at cq cu⊢;have aC:=Y.cp;refine nl (X (ea (X (m rfl) (X U a5)) (show 2<aa by decide)) a5) (show 1<aa by decide) λk cB=>?_;have cU:=Y.cK (cB.o.a0 λ_ _=>ed);have aM:=Y.aL.bo;refine pf (λab ai bb=>∃d w ae v Z,Dw Q aI aW aY cm b2 ag.i ab ai bb d w ae v Z) (1+204*Q.bM.br.length) ⟨[],[],[],[],[(b2,0)],rfl,rfl,cU,cB.aF,⟨ar (by simp),by simp,by simp,by simp,λQ cV=>by exact gR cV<|ch (by simp;exact cS) (λag=>absurd rfl ag) (ap rfl),by simp,by simp,kz,by simp,by simp,λ_=>ch ⟨λag=>(ei ag rfl),trivial⟩ (il _ _) (λQ ab bu ag=>by simp at ag)⟩,⟨(hf ([]) (λ_=>bI) rfl kz (by simp)),by simp,λ_ _=>rfl⟩,rfl,bv _⟩ ?_;refine λcW ai bb b4=>zZ b4 λd w ae v Z T=>?_;have aj:=T.kD;have Y:=T.gY;have bx:=is aj.b7 λW q=>(aj.f9 W q).1;rw[au] at bx;have ax:=T.zt;have cC:=HJ Z;have cE:=aj.oT;have cX:=aj.e0;have cF:(lt Z).length<aa:=by refine c (mQ ..) (c (au ..) ?_);unfold aa;exact Mu aM bx ax cC
 refine d7 _ (tx (m T.cD) T.jw cF rfl) (λb5 cJ bz=>?_) (λb5=>?_)
 ·rcases Z with _|⟨⟨ab,be⟩,af⟩
  ·exact eY b5
  have bA:=aj.q2 (ab,be) (by simp);have cM:ab<Q.bM.br.length:=by have:=bA.1;rw[au] at this;exact this
  refine aU (⟨_,cY cM⟩:∃W,Q.bM.br[ab]? =g W) λW q=>?_;have bp:(hv Q)[ab]? =g W.J:=by refine c (dp ..) (c q ?_);rfl
  have bB:=bF q;have b6:∀a8∈W.J.ao,a8<(hv Q).length:=λa8 bD=>by exact c (au ..)<|(Y.aL.dD W bB).bU a8 bD
  refine xS (EU (C:=h' (ab,be)) (m T.cD) T.jw (dr (E 5 (c8 _) aC) rfl) cF (by simp) λp b8=>x9 rfl ?_);have aQ:=b8.aF;rw[show(lt ((ab,be)::af)).dropLast=lt af by simp] at aQ;have az:=Y.cK (b8.o.a0 λbP _ F=>by exact c F<|aC);have aB:=T.AM;dsimp only[ik] at aB ax;have cC:=HJ af;simp only[List.filter_cons] at cE;have cN:ae.length<=d.length:=t (fS _ _) cE;clear b8;refine bi bA.2.2 (λcZ=>?_) λb4=>bi b4 (λk=>?_) λc0=>bl c0 λc2 _=>?_
  ·obtain rfl:be=0:=cZ;refine nD (cx (m rfl) U) rfl (nD (cx (m rfl) U) rfl ?_);have bE:=xM (l:=D) (h:=(ai.aP 3 (I ab)).aP 4 (I 0)) (b:=p) (A:=f 3) (aw:=aH (f 0) 39) (C:=I ab) (m rfl) (bk (m T.cI) az.cA rfl) az.oO rfl;rw[iH g6] at bE;by_cases aG:ab∈d
   ·rw[aZ aG] at bE;exact ex bE rfl (bz.dK _ _ ⟨ik af+204*(Q.bM.br.length- d.length),GI aB,d,w,ae,v,af,T.cI,T.cD,az,aQ,aj.jv aG,T.qV,rfl,t (fS _ _) ax⟩)
   rw[ay aG] at bE;have a9:d.length+1<=Q.bM.br.length:=by
    have:=is (lE.mpr ⟨aG,aj.b7⟩) (C:=Q.bM.br.length) λa8 bD=>by
     rcases eZ.mp bD with rfl|bD
     ·exact cM
     have:=(aj.f9 a8 bD).1;rw[au] at this;exact this
    simpa using this
   have c3:w.length<1000:=by have:=T.qV.i.bo;exact ah (E 1 this aM) rfl
   have c4:∀av aA (aS:gZ) (bu:bO),dc Q aI av aW aY [] d (gQ Q) aA ae v->(∀aV,aE (λbP=>bP=Q.da.i+1) av aV->dc Q aI aV aW aY [] (d++[ab]) (gQ Q) aA ae v->a7 D bu (((ai.aP 3 (I ab)).aP 4 (I 0)).aP 6 (I (dG Q.bq W.J))) aV aS)->a7 D (s (es (aH (f 0) 39) (f 3) (f 6)) bu) (((ai.aP 3 (I ab)).aP 4 (I 0)).aP 6 (I (dG Q.bq W.J))) av aS:=λav aA aS bu y b3=>jg (m rfl) (bk (m T.cI) y.cA rfl) (m rfl) y.oO (eH _) rfl (by refine c (ld ..) ?_;unfold aa;exact bJ 1048476 (H 1 (E 1 a9 aM))) λaV b9=>b3 aV b9.o (y.Vx (by
     have F:et (I ab) (I (dG Q.bq W.J)) (d3 I d (gQ Q))=d3 I (d++[ab]) (gQ Q):=by
      exact c (mp g6 aj.b7)<|c (s4 aG)<|oU λbQ _=>by
       unfold hF;split
       ·rename_i F;refine c F ?_;refine(?_:_=I (dG Q.bq (iR Q.bM ab)));exact c (tn q ..) rfl
       rfl
     rw[F] at b9;exact b9))
   have cO:∀av aA (aS:gZ),(∀ai bb,(∃bQ,bQ<cW/\∃d w ae v Z,Dw Q aI aW aY cm b2 ag.i bQ ai bb d w ae v Z)->aS cr ai bb)->dc Q aI av aW aY [] d (gQ Q) aA ae v->M av ag.i (V (lt af))->nG Q.bq Q.bM (Q.ig++aI) (d++[ab]) aA->a7 D (s (es (aH (f 0) 39) (f 3) (f 6)) (s (bc (aJ bL (f 6) (u (j 1))) (s (du (b1 57 (aH (f 0) 41) (n (f 3) z))) L) (s (bc (aJ bL (f 6) (u (j 2))) (s (du (bh 90 (n (f 0) (n (f 2) (n (f 3) z))))) L) L) L)) L)) (((ai.aP 3 (I ab)).aP 4 (I 0)).aP 6 (I (dG Q.bq W.J))) av aS:=by
    intro av aA aS bT y b' bV;refine c4 av aA aS _ y λaV cb bt=>?_;have bG:=b'.G cb (a3 (H 3 aC));have bX:(d++[ab]).length=d.length+1:=dw;refine ec (cx (m rfl) U) (λk=>jf (bk (m T.cI) bt.cA rfl) (m rfl) bt.oL (eH _) (by rw[au];unfold aa;exact bJ 1048476 (H 1 (E 1 (E 1 cN a9) aM))) λbA cf=>bT _ _ ?_) λk=>ec (cx (m rfl) U) (λp=>tl (X (m T.cI) (X (m T.cD) (X (m rfl) a5))) (cu Q aI aV aW aY [] aA (d++[ab]) ae v (gQ Q) ag.i ab af W _ bt aC bG q (GJ ‹af.length<=ik af› ax bx aM) (bJ 900 (H 1 (E 1 (E 1 cX a9) aM))) (λK bA cP cg=>bT _ _ ?_) λK bN dj bA c5 cP c6 cg=>bT _ _ ?_)) λp=>bT _ _ ?_
    ·rw[show bg ae++[I ab]=bg (ae++[ab]) by simp] at cf;exact⟨ik af+204*(Q.bM.br.length- (d++[ab]).length),CW aB a9 bX,d++[ab],aA,ae++[ab],v,af,T.cI,T.cD,bt.hh cf,bG.G cf.o (a3 (H 1 aC)),aj.bw aG bp (by have:=dq k;exact sw this),bV,rfl,CX ax bX⟩
    ·have aD:cH Q.bq W.J=R:=ph.mp (by have:=dq p;exact Dh this);have a':=Y.aL.c W bB;exact⟨ik (W.J.ao.map (λbN=>(bN,0))++(ab,1)::af)+204*(Q.bM.br.length- (d++[ab]).length),by rw[ya,ik];simp;simp at aB;exact JK a9 a' aB,d++[ab],aA,ae,v,_,T.cI,T.cD,bt.cK (cP.a0 λbP _ F=>by exact c (F ..)<|aC),cg,aj.c1 aG bp aD K (cn ab W.J bp K) b6,bV,rfl,by rw[ya,ik];simp;simp at ax;exact JL a' ax⟩
    ·have aD:cH Q.bq W.J=R:=ph.mp (by have:=dq p;exact Dh this);exact⟨ik ((bN,0)::(ab,1)::(ab,2)::af)+204*(Q.bM.br.length- (d++[ab]).length),by simp[ik];simp at aB;exact JM a9 aB,d++[ab],aA,ae,v++[ab],_,T.cI,T.cD,c6,cg,aj.AJ aG bp aD K c5 b6,bV,rfl,by simp[ik];simp at ax;exact JN ax⟩
    have aD:dG Q.bq W.J=0:=by have:=gg k;have:=gg p;unfold dG at*;split at* <;>(try split at*)<;>first|rfl|lia-abstractProof
    exact⟨ik af+204*(Q.bM.br.length- (d++[ab]).length),CW aB a9 bX,d++[ab],aA,ae,v,af,T.cI,T.cD,bt,bG,aj.RC aG bp aD,bV,rfl,CX ax bX⟩
   refine g8 bE rfl (gP (X (m T.cI) (X (m rfl) a5)) (cq Q aI p aW aY w d ae v ab W _ az c3 q trivial ⟨λbu bQ av cQ c7 dd bY y=>?_,λav aD bY=>cO av w (gc D L (gc D L (gc D L cJ))) (λai ag cj=>bz.dK ai ag cj) (az.cK (bY.a0 λ_ _=>ed)) (aQ.G bY id) (T.qV.u0 q aD)⟩));have:=cO av _ (gc D L (gc D L (gc D L cJ))) (λai ag cj=>bz.dK ai ag cj) y (aQ.G bY (by have:=aQ.bj;exact dm (a3 (H 2 aC)) (l3 this))) (T.qV.aP q cQ c7 dd);rw[cQ] at this;exact this
  ·obtain rfl:be=1:=k;refine g8 (cx (m rfl) U) rfl (jf (bk (m T.cI) az.cA rfl) (m rfl) az.oL (eH _) (by refine c (au ..) ?_;unfold aa;exact ah (E 1 (t cN bx) aM) rfl) λav N=>?_);rw[show bg ae++[I ab]=bg (ae++[ab]) by simp] at N;exact bz.dK _ _ ⟨ik af+204*(Q.bM.br.length- d.length),GI aB,d,w,ae++[ab],v,af,T.cI,T.cD,az.hh N,aQ.G N.o (a3 (H 1 aC)),aj.eL (cn ab),T.qV,rfl,t (fS _ _) ax⟩
  obtain rfl:be=2:=c2;have cR:=az.lS;have de:=cR.dN W bB;have dn:=(Y.aL.dN W bB).cL.bj;have a':=Y.aL.c W bB;refine nD (cx (m rfl) U) rfl (g8 (cx (m rfl) U) rfl (xV (z6 (az.dh (l:=D) (o:=λa8=>x a8.cL) cR.P q (bk (bk (m T.cI) az.cA rfl) az.aq rfl) (m rfl)) de.cL (by refine c (au ..) ?_;unfold aa;exact ah a' rfl) λav N=>?_)));have b':=aQ.G N.o id;have df:=aQ.bj;rw[show(bg W.J.ao).drop 1=bg W.J.ao.tail by simp] at N;have ck:W.J.ao.tail.length<=W.J.ao.length:=by simp
  refine GC (λai=>ai 0=g (x Q.da.i)/\ai 2=g (x ag.i)) (λai dt ag=>ag) ⟨T.cI,T.cD⟩ (λai ag=>ag.2) rfl N.aF (a3 df) b' (dr (E 5 (c8 _) aC) rfl) (ah (GJ ‹af.length<=ik af› ax bx aM) rfl) (ah (E 1 ck a') rfl) λdv aV aD cb bG=>bz.dK _ _ ⟨ik (W.J.ao.tail.map (λbN=>(bN,0))++af)+204*(Q.bM.br.length- d.length),?_,d,w,ae,v,_,aD.1,aD.2,(az.cK (N.o.a0 λ_ _=>ed)).cK (cb.a0 λbP _ F=>by exact c F<|aC),bG,aj.og bp b6,T.qV,rfl,?_⟩
  ·refine c (ya ..) ?_;simp only[wc] at aB;exact JO a' ck aB
  refine c (ya ..) ?_;simp only[wc] at ax;exact t (sb (bJ 1 (H 1 (E 1 ck a'))) _) ax
 have dg:Z=[]:=by cases Z;{rfl};{simp at b5}
 subst dg;exact b3 bb d w ae v Y aj T.qV
structure pV (Q:fZ) (E:r e) (w:r (q×q)) (H:e->B) (h:e->e):Prop where
 i:h6 w Q.bM.br.length
 fJ:∀i,(b9 (I i) w).getD (j 2)=j (H i)/\fi (Q.ig++E) (H i) (h i)
def i0 (t:f0) (h:e->e) (N:dB) (C P:e):Prop:=if dG t N=1 then ∃M,cH t N=g M/\M.testBit P=true else(∃W∈N.ao,(h W).testBit P=true)\/(N.aL=3/\(h C).testBit P=true)
theorem fi.mv (T:fi Q am a):2<=am:=by refine bi T (λN=>bl N λT _=>?_) λI=>bi I (λq=>eT q λv _ T _=>?_) λt=>re t λw T _ _ _ o=>?_<;>first|exact Yj T.symm|exact JP T|exact JR T o
theorem pV.mn {H:e->B} (k:pV bb Q a1 H dn):pV bb (Q++aB) a1 H dn:=⟨k.i,λC=>⟨(k.fJ C).1,by exact bp (gx ..)<|(k.fJ C).2.mn⟩⟩
def NI (D:b4):Prop:=∀(Q:fZ) (E:r e) (T:K) (F A:B) (t w:r (q×q)) (d o v:r e) (c:e->q) (C:e) (G:q->K->Prop),dc Q E T F A t d c w o v->G ((b9 (I C) w).getD (j 2)) T->D 92 [x Q.da.i,I C] T G
theorem x4 (M:cv aO):NI (bC aO (a+2)):=by
 intro k l T F p t w d o v c C G Y Z;have b:=A1 (a:=a) (h:=((bu.aP (λ_=>R) 0 (x k.da.i)).aP 1 (I C))) (A:=f 0) M Y (m rfl);refine cz (M.cy 41 rfl) rfl ?_;generalize bC aO (a+1)=D at b⊢;refine ec (ni (m rfl) (bk (m rfl) Y.cA rfl) Y.nJ rfl) (λE=>?_) λE=>eV ?_
 ·refine aU (yx.mp E) λJ Q=>?_;rw[Q] at Z;exact c3 (u5 (bk (m rfl) Y.cA rfl) (m rfl) Y.nJ rfl Q) Z
 rw[Option.isSome_eq_false_iff,yw] at E;rw[E] at Z;exact c3 b Z
def ui (Q:fZ) (E:r e) (T:K) (F A:B) (t:r (q×q)) (d:r e) (c:e->q) (w:r (q×q)) (o v:r e) (a:e->Prop) (G:q->K->Prop):Prop:=∀N M l H,aE (λy=>y=Q.gk\/y=Q.gh) T H->dc Q (E++l) H F A t d c w o v->fi (Q.ig++(E++l)) N M->(∀P,M.testBit P=true↔a P)->G (j N) H
def Ni (D:b4):Prop:=∀(Q:fZ) (E:r e) (T:K) (F A:B) (t w:r (q×q)) (d o v:r e) (c:e->q) (p:e) (b:r B) (G:q->K->Prop),dc Q E T F A t d c w o v->M T p (V (b.map j))->b.length<1000->(∀N∈b,∃a,fi (Q.ig++E) N a)->ui Q E T F A t d c w o v (qY (Q.ig++E) b) G->D 2365 [x (Q.bM.aq+14),x p] T G
theorem V5 (M:cv aO):Ni (bC aO (a+4)):=by intro Q q T I J t w K o v c p b G Y P D h Z;have i:=G8 (a:=a) M;refine cz (M.cy 29 rfl) rfl (tk (X (bk (m rfl) Y.hp rfl) (X (m rfl) a5)) (i Q.bq.eh Q.gk Q.gh p (Q.ig++q) b T _ Y.gm P (by unfold aa;exact ah D rfl) (by have:=P.bj;exact E 1 (c8 _) this) h λN d l H W k A C=>?_));rw[gx] at k A;exact Z N d l H W (Y.eh W (λy F=>F.elim ap λF=>ar (ap F)) k) A C
def NJ (D:b4):Prop:=∀(Q:fZ) (E:r e) (T:K) (F A:B) (t w:r (q×q)) (d o v:r e) (c:e->q) (H:e->B) (h:e->e) (C:e) (W:lN) (G:q->K->Prop),dc Q E T F A t d c w o v->pV Q E w H h->Q.bM.br[C]? =g W->ui Q E T F A t d c w o v (λP=>(∃a∈W.J.ao,(h a).testBit P=true)\/(W.J.aL=3/\(h C).testBit P=true)) G->D 93 [x Q.da.i,I C] T G
theorem Wp (aQ:cv aO):NJ (bC aO (a+5)):=by
 intro Q aw T ay az aA w d aB v aC H a8 C W G Y k aU Z;have a9:=x4 (a:=a+2) aQ;have a':=V5 (a:=a) aQ;refine cz (aQ.cy 42 rfl) rfl ?_;generalize bC aO (a+4)=aV at a9 a'⊢;have bb:=bF aU;have be:=Y.lS;have bx:=be.dN W bb;have aD:=Y.aL.c W bb;have bq:∀{T:K} {d aB v:r e} {aW:bu} {F:b0} {A:e},dc Q aw T ay az aA d aC w aB v->aW 0=g (x Q.da.i)->ag aV aW T F (I A)->ag aV aW T (bh 92 (n (f 0) (n F z))) (j (H A)):=λY bz bA ai bB=>fG (X (m bz) (X bA a5)) (a9 Q aw _ ay az aA w _ _ _ aC _ ai Y (by exact c ((k.fJ _).1)<|bB));refine fA (p1 (bg W.J.ao) (λbr=>((W.J.ao[br]?).map λA=>j (H A)).getD bI) (λ_=>true) (Y.dh (o:=λA=>x A.cL) be.P aU (bk (bk (m rfl) Y.cA rfl) Y.aq rfl) (m rfl)) bx.cL (by refine c (au ..) ?_;unfold aa;exact ah aD rfl) (λbr aY bD _=>⟨U,λ_=>?_⟩) λaG aI=>?_)
 ·refine hK bD λA h=>c (h ..)<|bq Y rfl (m rfl)
 have aZ:=aI.aF;rw[m9,au,p',show(W.J.ao.map λA=>q.j (H A))=(W.J.ao.map H).map j by simp[H0]] at aZ;have ab:=Y.cK (aI.o.a0 λ_ _=>ed);have bt:=Y.cp;have y:∀p (b:r B) (ai:q->K->Prop),aE ca T p->dc Q aw p ay az aA d aC w aB v->M p T.i (V (b.map j))->(∀N,N∈b↔N∈W.J.ao.map H\/(W.J.aL=3/\N=H C))->b.length<1000->(∀aY bw,G aY bw->ai aY bw)->aV 2365 [x (Q.bM.aq+14),x T.i] p ai:=λp b ai bE aj aM aP bG bJ=>by
  refine a' Q aw p ay az aA w d aB v aC T.i b ai aj aM bG (λN a3=>?_) λN bN l bO bP bQ bT av=>bJ _ _ (Z N bN l bO (bE.cb bP (λ_ _=>ed) λ_ _ T=>T) bQ bT λbU=>(av bU).trans ?_)
  ·rcases(aP N).mp a3 with T|⟨_,rfl⟩
   ·refine ax (e5.mp T) λA _ ae=>?_;exact bp ae<|⟨_,(k.fJ A).2⟩
   exact⟨_,(k.fJ C).2⟩
  constructor
  ·refine λae=>EN ae λN a3 b3 aG p=>?_;rcases(aP N).mp a3 with T|⟨af,rfl⟩
   ·refine ax (e5.mp T) λA h ae=>?_;subst ae;rw[aG.cm (k.fJ A).2] at p;exact ap ⟨A,h,p⟩
   rw[aG.cm (k.fJ C).2] at p;exact ar ⟨af,p⟩
  exact λae=>bi ae (λbV=>ax bV λA h av=>⟨H A,(aP _).mpr (ap (e5.mpr ⟨A,h,rfl⟩)),a8 A,(k.fJ A).2,av⟩) λbX=>bl bX λaf av=>⟨H C,(aP _).mpr (ar ⟨af,rfl⟩),a8 C,(k.fJ C).2,av⟩
 refine ec (cx (ab.dh (o:=λA=>I A.J.aL) ab.lS.jH aU (bk (bk (m rfl) ab.cA rfl) ab.aq rfl) (m rfl)) U) (λaf=>jf (m rfl) (bq ab rfl (m rfl)) aZ (dr (E 5 (c8 _) bt) rfl) (by rw[au,au];unfold aa;exact ah aD rfl) λp a7=>?_) λaf=>eV ?_
 ·have aj:=ab.cK (a7.o.a0 λbY _ F=>t bt (D F));have aM:=a7.aF;rw[show(W.J.ao.map H).map q.j++[q.j (H C)]=(W.J.ao.map H++[H C]).map j by simp] at aM;exact eV (hu (iJ (bk (m rfl) aj.cA rfl) aj.hp rfl rfl (X (m rfl) a5) (y p _ _ (aI.o.cb a7.o (λ_ _ T=>T) λbY b2 F=>aS (E 1 (D F) b2)) aj aM (λN=>by rw[d2,e6,and_iff_right (by have:=dq af;exact wp this)]) (by simp;exact ah (al 1 aD) rfl) λ_ _ T=>T)))
 exact hu (iJ (bk (m rfl) ab.cA rfl) ab.hp rfl rfl (X (m rfl) a5) (y aG _ _ aI.o ab aZ (λN=>by rw[or_iff_left λT=>by have:=gg af;exact CY T.1 this]) (by simp;exact ah aD rfl) λ_ _ T=>T))
def NK (D:b4):Prop:=∀(Q:fZ) (E:r e) (T:K) (F A:B) (t w:r (q×q)) (d o v:r e) (c:e->q) (N:B) (M:e) (G:q->K->Prop),dc Q E T F A t d c w o v->fi (Q.ig++E) N M->(∀P,G (aK P) T)->D 94 [x Q.da.i,j N] T G
theorem FH (M:e):∃P,na (j 4) (fz M)=g P:=by unfold na;exact c (aZ (show(q.eK (j 4)&&w8 (fz M))=true from dR.mpr ⟨rfl,(w9 λ_=>rfl:(fz M).all (dJ 3)=true)⟩))<|⟨_,rfl⟩
theorem Wq (M:cv aO):NK (bC aO (a+2)):=by intro Q E T F A t w d o v c N y G Y h Z;have b:=Bj (a:=a) M;refine cz (M.cy 43 rfl) rfl ?_;generalize bC aO (a+1)=D at b⊢;refine aU (FH y) λq k=>aU (FH Q.bq.j3) λl p=>ec (mF (cx (m rfl) (bk (m rfl) Y.cA rfl)) λ_=>kP (bk (m rfl) Y.cA rfl) (ea (X U (X U a5)) (show 2<aa by decide)) rfl) (λ_=>c3 (qf (m rfl) (bk (m rfl) Y.cA rfl)) (Z _)) λ_=>eV (dL (bk (bk (m rfl) Y.cA rfl) Y.hp rfl) (c3 (mF (bt:=!q) (iT:=l) (λH i=>z3 U (fG (X (m rfl) (X (m rfl) a5)) (b Q.bq.eh Q.gk Q.gh _ N y T _ Y.gm h (fa k i)))) λ_=>kP U (λH i=>fG (X (m rfl) (X (bk (m rfl) Y.cA rfl) a5)) (b Q.bq.eh Q.gk Q.gh _ Q.oV Q.bq.j3 T _ Y.gm Y.ts i)) p) (Z _)))
theorem Vg (G:∀H:q->K->Prop,(∀P,H (aK P) b)->aM l A h b H) (k:a7 l aC h b (gc l dd aA)) (p:a7 l nv h b (gc l dd aA)):a7 l (s (bc A aC nv) dd) h b aA:=G _ λP=>by
 cases P with
 |true=>exact k
 |false=>exact p
theorem ui.Fy (Z:ui bb Q b am bx a1 aB hx fQ c0 dT c7 an) (Y:dc bb Q b am bx a1 aB hx fQ c0 dT) (W:aE ca b aj) (A:fi (bb.ig++Q) gS a) (E:∀P,a.testBit P=true↔c7 P):an (j gS) aj:=Z gS a [] aj (W.a0 λ_ _=>ed) (by exact c (eP ..)<|Y.cK (W.a0 λ_ _=>ed)) (by exact c (eP ..)<|A) E
def NL (D:b4):Prop:=∀(Q:fZ) (E:r e) (T:K) (F A:B) (t w:r (q×q)) (d o v:r e) (H:e->B) (h:e->e) (C:e) (W:lN) (G:q->K->Prop),dc Q E T F A t d (gQ Q) w o v->pV Q E w H h->Q.bM.br[C]? =g W->C∈d->dG Q.bq W.J≠0->ui Q E T F A t d (gQ Q) w o v (i0 Q.bq h W.J C) G->D 95 [x Q.da.i,I C] T G
theorem Wr (M:cv aO):NL (bC aO (a+6)):=by
 intro Q av T aw aF aG w aI o v H aW au W G Y az ah bD aA Z;have aY:=x4 (a:=a+3) M;have a0:=Wp (a:=a) M;have a3:=Wq (a:=a+3) M;have a9:=V3 (a:=a) M;have aM:=A1 (a:=a+4) (h:=(((((bu.aP (λ_=>R) 0 (x Q.da.i)).aP 1 (I au)).aP 2 (x Q.bM.aq)).aP 3 (I W.J.aL)).aP 4 W.lp).aP 5 (j (H (W.J.ao.headD 0)))) (A:=f 0) M Y (m rfl);have a':∀(T:K) (y af bb F aC:q) (G:q->K->Prop),G aC T->bC aO (a+5) 2361 [x (Q.bM.aq+14),y,af,bb,F,aC] T G:=λT y af bb F aC G Z=>cz (M.cy 25 rfl) rfl (c3 (m rfl) Z);have be:∀(T:K) (y af:q) (G:q->K->Prop),G bI T->bC aO (a+5) 2368 [x (Q.bM.aq+14),y,af] T G:=λT y af G Z=>cz (M.cy 32 rfl) rfl Z;refine cz (M.cy 44 rfl) rfl ?_;generalize bC aO (a+5)=bg at aY a0 a3 a9 a' be aM⊢;have N:=bF ah;have b:=Y.lS;have aQ:=b.dN W N;have br:=Y.aL.dD W N;refine dL (bk (m rfl) Y.cA rfl) (dL (Y.dh (o:=λae=>I ae.J.aL) b.jH ah (bk (m rfl) Y.aq rfl) (m rfl)) ?_);refine ec (mF (cx (m rfl) U) λ_=>cx (m rfl) U) (λai=>tk (X (m rfl) (X (m rfl) a5)) (a0 Q av T aw aF aG w aI o v (gQ Q) H aW au W _ Y az ah ?_)) λai=>eV (dL (Y.dh (o:=λae=>ae.lp) b.h7 ah (bk (m rfl) Y.aq rfl) (m rfl)) ?_)
 ·have k:dG Q.bq W.J≠1:=by
   rw[BF,hB,hB] at ai
   unfold dG
   rw[ay λT=>by have:=T.1;exact JS ai this]
   split<;>decide
  exact λaC aj l bE W Y bG E=>Z aC aj l bE W Y bG λaf=>(E af).trans (by unfold i0;rw[ay k])
 rw[BE,t2,t2] at ai;refine ec (cx (u5 (b2:=I (dG Q.bq W.J)) (bk (m rfl) Y.cA rfl) (m rfl) Y.oO rfl (by refine c (iH g6) (c (aZ bD) ?_);refine(?_:g (I (dG Q.bq (iR Q.bM au)))=_);exact c (tn ah) rfl)) U) (λk=>?_) λk=>eV ?_
 ·have k:dG Q.bq W.J=1:=by have:=dq k;exact sw this
  obtain⟨aS,bt⟩:W.J.aL=4/\Q.bq.eo∈W.J.eR:=by
   unfold dG at k;split at k
   ·assumption
   split at k<;>exact ei k rfl
  refine gq (aQ.jw.iu aS) λbJ bN bO=>?_;have bP:=aQ.b7 (D aS);have aB:cH Q.bq W.J=g (if W.J.hG<64 then W.J.hG else Q.bq.j3):=by unfold cH;refine c aS (c (aZ bt) ?_);rfl
  obtain⟨aC,aj,F,bw,bQ⟩:∃aC aj,(b9 (I W.g7) Q.bM.jx).getD (j Q.oV)=j aC/\fi (Q.ig++av) aC aj/\cH Q.bq W.J=g aj:=by
   by_cases aD:W.J.hG<64
   ·refine ax (bN aD) λaC A bT=>?_;rw[aZ aD] at aB;exact hf aC _ (by refine c A ?_;rfl) bT aB
   rw[ay aD] at aB;exact hf Q.oV _ (by refine c (bO (qq aD)) ?_;rfl) Y.ts aB
  refine fA (iJ (bk (m rfl) Y.cA rfl) Y.hp rfl rfl (X (m (by refine bp bP ?_;rfl)) (X (bk (m rfl) Y.cA rfl) (X (bk (m rfl) Y.cA rfl) a5))) (a9 (Q.bM.aq+14) Q.bq.eh (Q.bM.aq+13) (Q.bM.aq+15) (Q.bM.aq+16) W.b7 W.g7 Q.bq.eo (j Q.oV) Q.bM.iK Q.bM.jx W.J.eR T _ Y.hp b.ij b.fJ bJ (A3 br) Y.aL.od bt λcb bU=>?_));refine c F ?_;have:=bw.mv;refine c3 (u6 (cx (m rfl) U) (λE=>absurd (dq E) (JT this)) λ_=>m rfl) (Z.Fy Y bU bw λaf=>?_);unfold i0;exact c (aZ k)<|c bQ<|⟨λT=>a8 aj rfl T,λbV=>ax bV λcf F T=>bm F▸T⟩
 have k:dG Q.bq W.J≠1:=by have:=gg k;exact wo this
 have p:cH Q.bq W.J=R:=ph.mp (by
  unfold dG at k aA⊢;split at k
  ·exact absurd rfl k
  rename_i bX;rw[ay bX] at aA⊢;split at aA<;>first|exact absurd rfl aA|(exact c (ay ‹_›) rfl))
 have bx:4<=W.J.aL:=by
  have bY:W.J.aL≠0:=λF=>by unfold cH at p;rw[F] at p;exact fK p
  have b0:W.J.aL≠1:=λF=>by unfold cH at p;rw[F] at p;exact fK p
  exact JU ai.1 ai.2 bY b0
 refine aU (br.eL bx) λae aE=>?_;have b3:ag bg (((((bu.aP (λ_=>R) 0 (x Q.da.i)).aP 1 (I au)).aP 2 (x Q.bM.aq)).aP 3 (I W.J.aL)).aP 4 W.lp) T (as (as (aH (f 2) 17) (f 1)) (u (j 0))) (I ae):=e4 (d:=0) (Y.dh (o:=λae=>x ae.cL) b.P ah (bk (m rfl) Y.aq rfl) (m rfl)) U aQ.cL (by exact c aE<|(show 1<aa by decide)) (by refine c aE ?_;rfl);rw[aE] at aM;have bz:G (j (H ae)) T:=Z.Fy Y .dO (az.fJ ae).2 λaf=>by
  unfold i0;refine c (ay k) (c aE ?_);constructor
  ·intro E;exact ap (a8 ae (fC _) E)
  refine λb4=>bi b4 (λb5=>ax b5 λaw bA E=>?_) λb6=>bl b6 λb8 _=>(fn (t bx (ab b8)) rfl).elim;rw[e6] at bA;subst bA;exact E
 refine dL (C:=j (H ae)) (λaV b'=>fG (X (m rfl) (X b3 a5)) (aY Q av T aw aF aG w aI o v (gQ Q) ae aV Y (by exact c ((az.fJ ae).1)<|b')))<|ec (mF (cx (m rfl) U) λ_=>cx (m rfl) aM) (λ_=>c3 (m rfl) bz) λ_=>eV ?_
 have bB:a7 bg (s (aR (b1 47 (aH (f 0) 38) (n (f 3) (n (f 4) (n (as (aH (f 2) 19) (f 1)) (n (aH (f 0) 35) (n (f 5) z))))))) L) ((((((bu.aP (λ_=>R) 0 (x Q.da.i)).aP 1 (I au)).aP 2 (x Q.bM.aq)).aP 3 (I W.J.aL)).aP 4 W.lp).aP 5 (j (H ae))) T (x1 G):=hu (iJ (bk (m rfl) Y.cA rfl) Y.hp rfl rfl (X (m rfl) (X (m rfl) (X (Y.dh (o:=λae=>io ae.J) b.gM ah (bk (m rfl) Y.aq rfl) (m rfl)) (X (bk (m rfl) Y.cA rfl) (X (m rfl) a5))))) (a' T _ _ _ _ _ _ bz));exact Vg (λaV E=>z1 (mF (cx (m rfl) U) λ_=>cx (m rfl) U) (λ_=>fG (X (m rfl) (X (m rfl) a5)) (a3 Q av T aw aF aG w aI o v (gQ Q) (H ae) (aW ae) aV Y (az.fJ ae).2 E)) λ_=>E false) (kq (iJ (bk (m rfl) Y.cA rfl) Y.hp rfl rfl (X (m rfl) (X (bk (m rfl) Y.cA rfl) a5)) (be T _ _ _ (eV bB)))) (eV bB)
inductive jL (Q:fZ) (a:e->e):r e->(e->e)->ci->Prop where
 |z:jL Q a [] a false
 |x5 {X:r e} {k p:e->e} {J:ci} {C:e}:jL Q a X k J->(∀Y,Y≠C->p Y=k Y)->(∀P,(p C).testBit P=true↔i0 Q.bq k (iR Q.bM C) C P)->jL Q a (X++[C]) p (J||decide (p C≠k C))
abbrev oN (Q:fZ) (P C:e):Prop:=dU (cH Q.bq) (hv Q) P C
def ua (Q:fZ) (d:r e) (h:e->e):Prop:=∀C∈d,∀P,oN Q P C->(h C).testBit P=true
structure mg (bb:fZ) (aB Q:r e) (dn:e->e):Prop where
 Ao:∀C P,(dn C).testBit P=true->oN bb P C
 Fz:∀C∈Q,∀P,(dn C).testBit P=true->i0 bb.bq dn (iR bb.bM C) C P
 nZ:∀C∈aB,dG bb.bq (iR bb.bM C)=0->∀P,oN bb P C->(dn C).testBit P=true
theorem nm (T:a<(hv bb).length):(hv bb)[a]? =g (iR bb.bM a):=by rw[au] at T;refine c (dp ..) (c (cY T) (c (tn (cY T)) ?_));rfl
theorem i0.a0 (T:i0 b3 dn af a d) (M:∀Y d,(dn Y).testBit d=true->(iV Y).testBit d=true):i0 b3 iV af a d:=by
 unfold i0 at*;split
 ·rw[aZ ‹_›] at T;exact T
 rw[ay ‹_›] at T;exact T.imp (λt=>ax t λW q E=>a8 W q (M _ _ E)) λt=>bl t λk p=>⟨k,M _ _ p⟩
theorem GU (i:dG b3 af≠0) (l:cH b3 af=g a):dG b3 af=1:=by
 unfold dG at*;split
 ·rfl
 rename_i T;rw[ay T,l] at i;exact absurd rfl i
theorem GV (i:dG b3 af≠0) (k:dG b3 af≠1):cH b3 af=R:=by
 cases T:cH b3 af with
 |none=>rfl
 |some M=>exact absurd (GU i T) k
theorem xc (i:dG b3 af≠0) (l:cH b3 af=g w) (E:w.testBit d=true):i0 b3 dn af a d:=by unfold i0;exact c (aZ (GU i l))<|a8 w l E
theorem Aj (l:cH b3 af=R) (q:w∈af.ao) (E:(dn w).testBit d=true):i0 b3 dn af a d:=by unfold i0;rw[ay (by refine c (ph.mpr l) ?_;decide)];exact ap (a8 w q E)
theorem i0.hI (y:a<(hv bb).length) (i:dG bb.bq (iR bb.bM a)≠0) (C:∀a d,(dn a).testBit d=true->oN bb d a) (T:i0 bb.bq dn (iR bb.bM a) a d):oN bb d a:=by
 have A:=nm y;unfold i0 at T;split at T
 ·refine ax T λM l E=>?_;exact eX A l E
 rename_i k;exact bi T (λm=>ax m λW q E=>c1 A (GV i k) q (C _ _ E)) λb=>bl b λ_ E=>C _ _ E
theorem jL.uk (b:fg bb.bq (hv bb) dn a Q aB c0 []) (T:jL bb iV dT pq bt) (D:∀C∈dT,C∈aB) (ai:mg bb Q aB iV):mg bb Q aB pq/\(∀C P,(iV C).testBit P=true->(pq C).testBit P=true)/\(∀C∈dT,∀aa P,(∀M∈Q,hd (cH bb.bq) (hv bb) P aa M->(iV M).testBit P=true)->hd (cH bb.bq) (hv bb) P (aa+1) C->(pq C).testBit P=true)/\(bt=false->(∀C,pq C=iV C)/\∀C∈dT,∀P,i0 bb.bq iV (iR bb.bM C) C P->(iV C).testBit P=true)/\(ua bb Q iV->bt=false):=by
 induction T with
 |z=>exact i9 ai (λ_ _ T=>T) (by simp) (λ_=>⟨λ_=>rfl,by simp⟩) (λ_=>rfl)
 |@x5 dT k p bt C av K E t=>
  refine rd (t λY K=>D Y (jm _ K)) λw N m aj ao=>?_;have X:=D C (by simp);refine bl (b.oP C X) λJ U=>?_;have y:=(b.f9 C J).1;have A:=nm y;have i:=U _ A;have h:∀Y P,(k Y).testBit P=true->(p Y).testBit P=true:=λY P T=>by
   by_cases F:Y=C
   ·subst F;exact(E P).mpr (w.Fz Y X P T)
   exact c (K Y F)<|T
  have ae:∀Y P,(p Y).testBit P=true->oN bb P Y:=λY P T=>by
   by_cases F:Y=C
   ·subst F;exact i0.hI y i w.Ao ((E P).mp T)
   rw[K Y F] at T;exact w.Ao Y P T
  refine i9 ⟨ae,λY v P T=>?_,λY aq au P o=>h Y P (w.nZ Y aq au P o)⟩ (λY P T=>h Y P (N Y P T)) (λY v aa P l o=>?_) (λF=>?_) (λaf=>?_)
  ·by_cases F:Y=C
   ·subst F;exact((E P).mp T).a0 h
   rw[K Y F] at T;exact(w.Fz Y v P T).a0 h
  ·have Z:hd (cH bb.bq) (hv bb) P (aa+1) C->(p C).testBit P=true:=λo=>(E P).mpr (by
    cases o with
    |eX G I H=>rw[A] at G;obtain rfl:=bm G;exact xc i I H
    |c1 G I H q=>rw[A] at G;obtain rfl:=bm G;exact Aj I H (N _ P (l _ ((b.uj C J _ A I _ H).resolve_right (by simp)) q)))
   refine bi (d2.mp v) (λT=>?_) λT=>?_
   ·exact h Y P (m Y T aa P l o)
   ·rw[e6] at T;subst T;exact Z o
  ·rw[BE,t2,HW] at F;refine bl (aj F.1) λd W=>?_;have ag:∀Y,p Y=iV Y:=λY=>by
    by_cases ah:Y=C
    ·subst ah;exact c F.2<|d Y
    exact c (K Y ah)<|d Y
   refine⟨ag,λY v P T=>?_⟩;refine bi (d2.mp v) (λab=>?_) λab=>?_
   ·exact W Y ab P T
   rw[e6] at ab;subst ab;exact bp (ag Y ..)<|(E P).mpr (T.a0 N)
  rw[ao af,Bool.false_or,t2,HW];refine yr λP=>(hN ..).mpr<|⟨λT=>N C P (af C J P (ae C P T)),h C P⟩
theorem fg.ao (b:fg bb.bq (hv bb) dn a Q aB c0 []) (y:d∈Q) (A:(hv bb)[d]? =g af) (l:cH bb.bq af=R) (q:w∈af.ao):w∈Q:=(b.uj d y af A l w q).resolve_right (by simp)
theorem fg.xo (b:fg bb.bq (hv bb) dn a Q aB c0 []) (y:d∈Q) (i:dG bb.bq (iR bb.bM d)≠0):d∈aB:=(b.zo d y _ (nm (b.f9 d y).1) i).resolve_right (em)
theorem jL.rq (b:fg bb.bq (hv bb) dn a Q aB c0 []) (T:jL bb iV aB pq false) (h:mg bb Q aB iV):ua bb Q iV:=by
 have d:=((T.uk b (λ_ T=>T) h).2.2.2.1 rfl).2
 intro C y P o
 induction o with
 |@eX v M N G I H=>
  have A:=nm (b.f9 v y).1;rw[G] at A;obtain rfl:=bm A;by_cases K:dG bb.bq (iR bb.bM v)=0
  ·exact h.nZ v y K P (eX G I H)
  exact d v (b.xo y K) P (xc K I H)
 |@c1 v W N G I H q t=>have A:=nm (b.f9 v y).1;rw[G] at A;obtain rfl:=bm A;exact d v (b.xo y (by refine c (ph.mpr I) ?_;decide)) P (Aj I H (t (b.ao y G I H)))
theorem jL.Xp (b:fg bb.bq (hv bb) dn a Q aB c0 []) (D:c0=[]) (T:jL bb iV dT pq bt):∀h,aB=dT++h->mg bb Q aB iV->∀C∈dT,∀P,oN bb P C->(pq C).testBit P=true:=by
 induction T with
 |z=>intro _ _ _ C y;exact em y
 |@x5 dT k p bt C W K E t=>
  intro h i M Y v P o;rw[gx] at i;have X:C∈aB:=by exact c i<|mT _ (fC _)
  refine bl (b.oP C X) λJ U=>?_;have A:=nm (b.f9 C J).1;have d:∀Y∈dT,Y∈aB:=λY K=>by exact c i<|jm _ K
  have w:=(W.uk b d M).1;have Z:oN bb P C->(p C).testBit P=true:=λo=>(E P).mpr (by
   cases o with
   |eX G I H=>rw[A] at G;obtain rfl:=bm G;exact xc (U _ A) I H
   |c1 G I H q=>
    rw[A] at G;obtain rfl:=bm G;refine Aj I H<|ax ((b.tu D).2.2 dT.length C _ (by refine c i ?_;simp) A I _ H) λm ab N=>?_
    have aa:=b.ao J A I H;have l:=nm (b.f9 _ aa).1;rw[ab] at l;obtain rfl:=bm l;refine bi N (λT=>w.nZ _ aa T P q) λT=>?_;rw[i,List.take_left] at T;exact t ([C]++h) i M _ T P q)
  by_cases F:Y=C
  ·subst F;exact Z o
  exact c (K Y F)<|t ([C]++h) i M Y ((d2.mp v).resolve_right (by simpa using F)) P o
def st (Q:fZ) (d:r e) (a:e) (h:e->e):Prop:=∀M∈d,∀P,hd (cH Q.bq) (hv Q) P a M->(h M).testBit P=true
theorem jL.Qh (b:fg bb.bq (hv bb) dn a Q aB c0 []) (T:jL bb iV aB pq bt) (c:mg bb Q aB iV) (Y:st bb Q d iV):st bb Q (d+1) pq:=by
 refine rd (T.uk b (λ_ T=>T) c) λw h m _ _=>?_;intro C y P o;by_cases K:dG bb.bq (iR bb.bM C)=0
 ·exact w.nZ C y K P o.hI
 exact m C (b.xo y K) d P (λM N=>Y M N P) o
theorem st.RM (Y:st bb Q a dn) (T:(hv bb).length<=a):ua bb Q dn:=λC y P o=>Y C y P (o.Qi T)
noncomputable abbrev nL (Q:fZ) (C:e):q:=S [I C,bW (gt Q.bq.eo)]
theorem zA (y P:e) (F:nL bb y=nL bb P):y=P:=by injection F with F;injection F with F _;exact g6 _ _ F
def ss (Q:fZ) (v:r e) (t:r (q×q)):Prop:=∃A o,t=d3 (nL Q) A o/\A.Nodup/\∀Y∈A,Y∈v
theorem ss.iu (d:ss bb Q a1) (y:a∈Q) (J:q):ss bb Q (et (nL bb a) J a1):=by refine fF d λA o m C K=>?_;exact c m<|c (mp zA C)<|hf _ _ rfl (uJ C) (λY T=>(lo.mp T).elim (K Y) λT=>T▸y)
theorem ss.bo (d:ss bb Q a1) (T:∀C∈Q,C<a):a1.length<=a:=by refine fF d λA o m b K=>?_;exact c m<|c (ld ..)<|is b λW q=>T W (K W q)
theorem xU (c:ag l h b A (x a)) (v:M b a (cw d fB)) (P:im w fB=g (j am)) (K:ag l h b aw (j bx)) (i:0<a) (D:mV fB.length 60=true) (N:iN d w=R) (Z:∀H,e8 b H a (cw d (kg w (j (am+bx)) fB))->a7 l aC h H aA):a7 l (s (kG A w c9 aw) aC) h b aA:=c _ (c4 v (fa P (K _ (AN v i D N Z))))
structure m3 (Q:fZ) (E:r e) (b:K) (F A:B) (t:r (q×q)) (d:r e) (w:r (q×q)) (o v:r e) (h:e->e):Prop where
 gY:dc Q E b F A t d (gQ Q) w o v
 iD:∃H,pV Q E w H h
 gL:ss Q v t
def NM (D:b4):Prop:=∀(Q:fZ) (E:r e) (T:K) (F A:B) (t w:r (q×q)) (d o v:r e) (h:e->e) (m:e->e) (c:e) (G:q->K->Prop),m3 Q E T F A t d w o v h->fg Q.bq (hv Q) m c d o v []->(∀J l H W b P a,m3 Q (E++l) H F W b d P o v a->jL Q h o a J->G (aK J) H)->D 96 [x Q.da.i] T G
theorem Ws (aV:cv aO):NM (bC aO (a+7)):=by
 intro Q aI b aW bU bV bX d ae ax aY cH cI cJ bu af bY;have bw:=Wr (a:=a) aV;have bx:=x4 (a:=a+4) aV;refine cz (aV.cy 45 rfl) rfl ?_;generalize bC aO (a+6)=cL at bw bx⊢;have bz:=is af.b7 λW q=>(af.f9 W q).1;rw[au] at bz;have bA:=af.oT;have aZ:=bu.gY;have T:=aZ.aL.bo;have bB:=aZ.fV;simp only[List.filter_nil,BR,tP] at bA;have b0:∀C∈ax,C<Q.bM.br.length:=λC aM=>by have:=(af.f9 C (af.q3 C aM).1).1;rw[au] at this;exact this
 refine dL U (pe (bg ae) (λw bD b2=>∃ao l b3 b4 b5 bE,bD 0=g (x Q.da.i)/\bD 1=g (aK ao)/\m3 Q (aI++l) b2 aW b3 b4 d b5 ae ax bE/\jL Q aY (ae.take w) bE ao) (bk (m rfl) aZ.cA rfl) (by refine c (au ..) ?_;unfold aa;exact ah (E 1 (t bA bz) T) rfl) (λw bG b b6=>rg b6 λ_ _ _ _ _ _ _ _ b8 _=>b8.gY.oL) (s3 false ([]) bU bV bX aY rfl rfl (by exact c (eP ..)<|bu) .z) ?_ ?_)
 ·refine λw cM bG a0 cN b9 a7 Y=>rg a7 λao ag ai av aw k Z a8 P az=>hK b9 λC aM=>?_;have b':=bF aM;refine bl (af.oP C b') λa9 cf=>?_;have aQ:=(af.f9 C a9).1;have A:=nm aQ;rw[au] at aQ;refine aU (⟨_,cY aQ⟩:∃W,Q.bM.br[C]? =g W) λW q=>?_;have a':=tn q;rw[a'] at A;have bJ:=cf _ A;refine aU P.iD λbb aA=>?_;have bN:ae.take (w+1)=ae.take w++[C]:=by refine c (iB ..) (c aM ?_);rfl
  refine fA (fG (X (m Z) (X (m rfl) a5)) (bw Q (aI++ag) a0 aW ai av aw d ae ax bb k C W _ P.gY aA q a9 bJ λN M K p cO aj h bO=>?_));rw[gx] at aj h;have aC:=aA.mn (aB:=K);rw[gx] at aC;have bP:N=bb C↔M=k C:=⟨λF=>by subst F;exact h.cm (aC.fJ C).2,λF=>by subst F;exact h.ct aj.gm (aC.fJ C).2⟩;refine ec (qf (m rfl) λcg cj=>fG (X (m Z) (X (m rfl) a5)) (bx Q (aI++(ag++K)) p aW ai av aw d ae ax (gQ Q) C cg aj (by exact c ((aA.fJ C).1 ..)<|cj))) (λbe=>?_) λbp=>?_
  ·have be:M≠k C:=λF=>dq be (bP.mpr F);have ck:=aA.i.bo;refine dL U (jg (m rfl) (bk (m Z) aj.cA rfl) (m rfl) aj.nJ (eH _) rfl (by unfold aa;exact ah (E 1 ck T) rfl) λcP cn=>?_);have y:=aj.HF cn;refine bl (aA.i.aP aQ (j N)) λcp cq=>?_;have bQ:pV Q (aI++(ag++K)) (et (I C) (j N) aw) (λv=>if v=C then N else bb v) (λv=>if v=C then M else k v):=⟨cp,λv=>by
    refine c (cq ..) ?_;by_cases F:v=C
    ·simp only[F,wc];exact⟨rfl,h⟩
    simp only[F,t3];exact aC.fJ v⟩
   have aE:jL Q aY (ae.take (w+1)) (λv=>if v=C then M else k v) true:=by
    have:=jL.x5 (C:=C) (p:=λv=>if v=C then M else k v) az (λv cu=>ay cu) λbq=>by refine c a' ?_;simp only[wc];exact bO bq
    refine c bN ?_;simpa [be] using this
   refine ec (cx (y.dh (o:=λcB=>I cB.J.aL) y.lS.jH q (bk (bk (m Z) y.cA rfl) y.aq rfl) (m rfl)) U) (λaG=>?_) λaG=>Y.dK _ _ (s3 true (ag++K) ai av _ _ Z rfl ⟨y,⟨_,bQ⟩,P.gL⟩ aE);have aG:W.J.aL=3:=by have:=dq aG;exact wp this
   have cC:C∈ax:=(af.f9 C a9).2 _ A (GV bJ λb=>by
    unfold dG at b;split at b
    ·rename_i bT;have:=bT.1;exact fn (t (D bT.1) (ab aG)) rfl
    split at b<;>exact ei b rfl) aG
   have cD:=P.gL.bo b0;refine jg (m rfl) (bk (bk (m Z) y.cA rfl) y.aq rfl) (ea (X (m rfl) (X (bk (m Z) y.cA rfl) a5)) (show 2<aa by decide)) y.gL (eH _) rfl (by unfold aa;exact ah (E 1 cD T) rfl) λcQ aS=>?_;have cE:=y.aq.G aS.o (aD (fm rfl));refine xU (bk (m Z) (y.cA.G aS.o (a3 (H 8 bB.2.2.2))) rfl) cE rfl U (E 1 (c8 _) bB.1) rfl rfl λcR bt=>?_;have cF:=y.zC (aS.o.cb bt.o (λ_ _=>ar) λ_ _=>ap) bt.aF (aS.aF.G bt.o (a3 (fm rfl)));exact Y.dK _ _ (s3 true (ag++K) (ai+1) _ _ _ Z rfl ⟨cF,⟨_,bQ⟩,P.gL.iu cC _⟩ aE)
  have bp:M=k C:=bP.mp (HW.mp (gg bp));subst bp;have aE:=jL.x5 (C:=C) az (λv _=>rfl) λbq=>by exact c a'<|bO bq
  rw[<-bN,jE λb=>b rfl,BH] at aE;exact Y.dK _ _ (s3 ao (ag++K) ai av aw k Z a8 ⟨aj,⟨_,aC⟩,P.gL⟩ aE)
 refine λbG a0 a7=>rg a7 λao ag ai av aw k Z a8 P az=>?_;rw[au,jn] at az;exact c3 (m a8) (bY ao ag a0 ai av aw k P az)
theorem Vh (Q:e->bu->K->Prop) (H:e->ci->bu->K->Prop) (C:e) (y:Q C h b) (a:∀C h b,Q C h b->∀v:q->K->Prop,(∀P k,H C P h k->v (aK P) k)->aM l A h b v) (c:∀C h b,H C true h b->∀F,lL l aC aA F (λI p=>∃M,M<C/\Q M I p)->a7 l dd h b F) (d:∀C h b,H C false h b->a7 l aC h b aA):a7 l (s (kr A dd) aC) h b aA:=HI Q C y λC h b F o m E i=>a C h b o _ λP k J=>by
  cases P with
  |true=>exact c C h k J F ⟨λh b t=>ax t λM N w=>(m M h b N w).1,λh b t=>ax t λM N w=>(m M h b N w).2,E,i⟩
  |false=>exact d C h k J
theorem GF (Z:a7 l aC h b λo X k=>a7 l dd X k λa I p=>(match a with|cr=>gc l nv aA o I p|_=>bK)):a7 l (s (tw aC dd) nv) h b aA:=Z
theorem dc.zq (Y:dc bb Q b am bx a1 aB hx fQ c0 dT) (d:e8 b aj (bb.bM.aq+14) (pW bb.bq.eh (bb.bM.aq+13) (bb.bM.aq+15))):dc bb Q aj am bx a1 aB hx fQ c0 dT:=by have X:=Y.fV;have a:∀{y:e} {I:dY},y≠bb.bM.aq+14->M b y I->M aj y I:=λk v=>v.G d.o k;exact⟨Y.o.cb d.o (λ_ _ b=>b) (λy _ F=>ar (ar (ap F))),by exact c d.i<|Y.cp,Y.aL,Y.gm.G d.o (aD (bJ 14 X.2.2.1)) (aD (bJ 14 X.1)) (aD (bJ 14 X.2.1)),a (a3 (H 3 X.2.2.2)) Y.cA,a (aD (fm rfl)) Y.aq,d.aF,a (aD (dz rfl)) Y.gL,a (a3 (bJ 1 (H 3 X.2.2.2))) Y.oO,a (a3 (bJ 2 (H 3 X.2.2.2))) Y.nJ,a (a3 (bJ 3 (H 3 X.2.2.2))) Y.oL,a (a3 (bJ 4 (H 3 X.2.2.2))) Y.nH,Y.ts,Y.Bv⟩
theorem QP (w:ag l h b A (x a)) (K:ag l h b aw C) (c:ag l h b dI b2) (v:M b a (aT a1)) (i:0<a) (k:q.eK C=true) (D:a1.length<aa) (d:∀J,b9 C a1=g J->∀H,e8 b H a (aT (lP C a1))->an J H) (W:b9 C a1=R->an b2 b):aM l (b1 58 A (n aw (n dI z))) h b an:=w _ ⟨F9 v (ar rfl),K _ (c _ (c4 v ⟨i,k,D,by
  cases P:b9 C a1 with
  |some J=>exact hJ v (d J P)
  |none=>exact W P⟩))⟩
def NN (D:b4):Prop:=∀(Q:fZ) (E:r e) (T:K) (F A:B) (t w:r (q×q)) (d o v:r e) (h:e->e) (m:e->e) (c:e) (G:q->K->Prop),m3 Q E T F A t d w o v h->fg Q.bq (hv Q) m c d o v []->mg Q d o h->Q.bM.br.length<=39->(∀l H W b P a,m3 Q (E++l) H F W b d P o v a->mg Q d o a->ua Q d a->G (aK true) H)->D 97 [x Q.da.i] T G
theorem Wt (aP:cv aO):NN (bC aO (a+8)):=by
 intro Q E T F A aZ w d o v a0 a3 a7 G aQ b H aD Z;have aS:=Ws (a:=a) aP;refine cz (aP.cy 46 rfl) rfl ?_;generalize bC aO (a+7)=bE at aS⊢;have aU:=aQ.gY;have a8:=b.e0;have aV:=is b.b7 λa9 q=>(b.f9 a9 q).1;rw[au] at aV;refine dL (bk (bk (m rfl) aU.cA rfl) aU.hp rfl) (dL U (Vh (λC h aE=>∃aF aG aI aL aj ae,h 0=g (x Q.da.i)/\h 1=g (j 0)/\h 2=g (I ae)/\C+ae=40/\m3 Q (E++aF) aE F aG aI d aL o v aj/\mg Q d o aj/\st Q d ae aj) (λC P h aE=>∃aF aG aI aL aw aj ae,h 0=g (x Q.da.i)/\h 1=g (j 0)/\h 2=g (I ae)/\C+ae=40/\m3 Q (E++aF) aE F aG aI d aL o v aj/\mg Q d o aw/\st Q d ae aw/\jL Q aw o aj P) 40 ⟨[],A,aZ,w,a0,0,rfl,rfl,rfl,rfl,by exact c (eP ..)<|aQ,H,λM _ P T=>nomatch T⟩ ?_ ?_ ?_))
 ·refine λC h ax ay a' bb=>QC ay λag ao aq av k ae l az aA y af be bg=>fG (X (m l) a5) (aS Q (E++ag) ax F ao aq av d o v k a3 a7 a' af b λbl bt p bu bw bx bz bA W=>bb bl p ⟨ag++bt,bu,bw,bx,k,bz,ae,l,az,aA,y,by exact bp (gx ..)<|bA,be,bg,W⟩)
 ·refine λC h ax ay bF Y=>EP ay λag ao aq av aw k ae l az aA y af H aM W=>?_;have ai:=W.uk b (λ_ T=>T) H;have aW:ae<Q.bM.br.length:=by refine bi (pz ae Q.bM.br.length) (λT=>T) λT=>?_;have:=ai.2.2.2.2 (aM.RM (by exact c (au ..)<|T));exact kW this
  have J:=af.gY;have aY:C≠0:=λbB=>fn (d9 38 (t (D y) (cZ (ep 1 (t aW aD)) _)) (ab bB)) rfl;refine xT (gS:=((ae+1:e):B)) (gU:=c9) aA U (λ_ Z=>Z) (ec (tf (bk (m l) J.cA rfl) (rR J.nH (by refine c (au ..) ?_;unfold aa;exact ah (al 1 (t (t a8 aV) aD)) rfl))) (λaB=>c3 U (Y.vb _ _ _ (Z ag ax ao aq av k af ai.1 λM N P aC=>?_))) λaB=>eV (ex (u4 (m rfl) U) (jE (JV aD aW)) ?_))
  ·have aB:v=[]:=by cases v;{rfl};{exact eY aB}
   by_cases K:dG Q.bq (iR Q.bM M)=0
   ·exact ai.1.nZ M N K P aC
   exact W.Xp b aB [] (by exact c (eP ..) rfl) H M (b.xo N K) P aC
  refine iP (m az) (bk (m l) J.cA rfl) J.hp (eH _) rfl rfl λp bD=>Y.dK _ _ ⟨C- 1,pm (tM aY),ag,ao,aq,av,k,ae+1,l,az,rfl,JW y aY,⟨J.zq bD,af.iD,af.gL⟩,ai.1,W.Qh b H aM⟩
 refine λC h ax ay=>EP ay λag ao aq av aw k ae l az aA y af H aM W=>?_;have ai:=W.uk b (λ_ T=>T) H;exact c3 U (Z ag ax ao aq av k af ai.1 λM N P aC=>ai.2.1 M P (W.rq b H M N P aC))
def NO (D:b4):Prop:=∀(Q:fZ) (E:r e) (T:K) (F A:B) (w:r (q×q)) (d o v:r e) (h:e->e) (m:e->e) (c:e) (G:q->K->Prop),m3 Q E T F A [] d w o v h->fg Q.bq (hv Q) m c d o v []->mg Q d o h->Q.bM.br.length<=39->(∀l H W b P a,m3 Q (E++l) H F W b d P o v a->mg Q d o a->ua Q d a->G (aK true) H)->D 98 [x Q.da.i,aK true] T G
theorem Wu (M:cv aO):NO (bC aO (a+9)):=by
 intro Q aw T F aL w d ax v ay aM aP ae N b aQ y Z;have az:=Wt (a:=a) M;have aA:∀(T:K) (ae:q->K->Prop),ae (j 2) T->bC aO (a+8) 2367 [x (Q.bM.aq+14)] T ae:=λT ae Z=>cz (M.cy 31 rfl) rfl (c3 U Z);refine cz (M.cy 47 rfl) rfl ?_;generalize bC aO (a+8)=D at az aA⊢;have aB:=N.gY;have aS:=b.e0;have aC:=aB.fV;have aE:=is b.b7 λW aU=>(b.f9 W aU).1;rw[au] at aE;have Y:∀ab∈v,ab<Q.bM.br.length:=λab af=>by have:=(b.f9 ab (b.q3 ab af).1).1;rw[au] at this;exact this
 refine pe (bg v) (λaG h aV=>h 0=g (x Q.da.i)/\h 1=g (aK true)/\∃aW aY,m3 Q aw aV F aW aY d w ax v ay) (bk (m rfl) aB.cA rfl) (by refine c (au ..) ?_;unfold aa;exact ah (al 1 (t (t aS aE) y)) rfl) (λaG h T aZ=>zW aZ λ_ _ _ _ a0=>a0.gY.nH) ⟨rfl,rfl,aL,[],N⟩ ?_ ?_
 ·refine λaG bA h k bB a7 ag a8=>zW ag λl ai aj aI P=>hK a7 λab af=>?_;have J:=P.gY;have a9:=P.gL.bo Y;refine jg (C:=j 2) (λa' bb=>iJ (bk (m l) J.cA rfl) J.hp rfl rfl a5 (aA k a' bb)) (bk (bk (m l) J.cA rfl) J.aq rfl) (ea (X (m rfl) (X (bk (m l) J.cA rfl) a5)) (show 2<aa by decide)) J.gL (eH _) rfl (by unfold aa;exact ah (al 1 (t a9 y)) rfl) λbD I=>?_;refine xU (bk (m l) (J.cA.G I.o (a3 (H 8 aC.2.2.2))) rfl) (J.aq.G I.o (aD (fm rfl))) rfl U (E 1 (c8 _) aC.1) rfl rfl λbE ao=>a8.dK _ _ ⟨l,ai,aj+1,_,J.zC (I.o.cb ao.o (λ_ _=>ar) λ_ _=>ap) ao.aF (I.aF.G ao.o (a3 (fm rfl))),P.iD,P.gL.iu (bF af) _⟩
 refine λh k ag=>zW ag λl ai aj aI P=>dL (bk (bk (m l) P.gY.cA rfl) P.gY.hp rfl) (gP (X (m l) a5) (az Q aw k F aj aI w d ax v ay aM aP _ P b aQ y λbe p bl bp bq bu av bw bz=>?_));exact ex (ko (bt:=true) (m ai) λ_=>ko (bt:=true) (m rfl) λ_=>qf (bx:=0) (bk (bk (A:=f 0) (m l) av.gY.cA rfl) av.gY.hp rfl) (m rfl)) (by decide) (c3 (m rfl) (Z be p bl bp bq bu av bw bz))
def NP (D:b4):Prop:=∀(Q:fZ) (E:r e) (T:K) (F A:B) (t w:r (q×q)) (d o v:r e) (h:e->e) (G:q->K->Prop),m3 Q E T F A t d w o v h->v.length<1000->(∀H W,dc Q E H F W [] d (gQ Q) w o v->G bI H)->D 99 [x Q.da.i,aK true] T G
theorem Wv (aG:cv aO):NP (bC aO (a+1)):=by
 intro Q aI T F aL aM aQ d aS v bt bu aA D Z;refine cz (aG.cy 48 rfl) rfl ?_;generalize bC aO a=aU;have av:=aA.gY;have aB:=av.fV;have aV:∃A ab,aM=d3 (nL Q) A ab/\A.Nodup/\(∀Y∈A,Y∈v):=aA.gL;have aW:∀{A:r e},A.Nodup->(∀Y∈A,Y∈v)->A.length<=v.length:=λ{A} C K=>abZ C K;refine pe (bg v) (λw h aY=>h 0=g (x Q.da.i)/\h 1=g (aK true)/\∃W A ab,dc Q aI aY F W (d3 (nL Q) A ab) d (gQ Q) aQ aS v/\A.Nodup/\∀Y∈A,Y∈v.drop w) (bk (m rfl) av.cA rfl) (by refine c (au ..) ?_;unfold aa;exact ah D rfl) (λw h T ⟨_,_,_,_,_,a0,_⟩=>a0.nH) ?_ ?_ ?_
 ·refine fF aV λA ab ag C K=>?_;subst ag;exact⟨rfl,rfl,aL,A,ab,av,C,K⟩
 ·refine λw ai h k a7 aj ag Y=>EJ ag λaf aw ax A ab J C K=>hK aj λae y=>?_;have a8:=aW C λY T=>YQ (K Y T);have a9:=(co.mp y).1;have a':∀Y∈A.erase ae,Y∈v.drop (w+1):=λbb N=>by
   have k:=K bb (YR N);rw[tH a9,(co.mp y).2] at k;rcases eZ.mp k with rfl|T
   ·exact absurd N C.not_mem_erase
   exact T
  have aC:∀l ai,aE (λbe=>be=Q.bM.aq+9) k l->M l (Q.bM.aq+9) (aT (d3 (nL Q) (A.erase ae) ab))->Aa aU (s (kG (aH (f 0) 34) 28 c9 (u (j 1))) L) (h.aP 2 (I ae)) a7 ai l:=λl ai t bl=>by refine xU (bk (m af) (J.cA.G t (a3 (H 8 aB.2.2.2))) rfl) (J.aq.G t (aD (fm rfl))) rfl U (E 1 (c8 _) aB.1) rfl rfl λP q=>Y.dK _ _ ⟨af,aw,ax+1,A.erase ae,ab,J.zC (t.cb q.o (λ_ _=>ar) λ_ _=>ap) q.aF (bl.G q.o (a3 (fm rfl))),C.erase ae,a'⟩
  refine kq (QP (bk (bk (m af) J.cA rfl) J.aq rfl) (ea (X (m rfl) (X (bk (m af) J.cA rfl) a5)) (show 2<aa by decide)) U J.gL (eH _) rfl (by refine c (ld ..) ?_;unfold aa;exact ah (E 1 a8 D) rfl) (λai aj l ao=>aC l ai ao.o ?_) λaj=>aC k _ .dO ?_)
  ·have:=ao.aF;rw[show lP (S [I ae,bW (gt Q.bq.eo)]) (d3 (nL Q) A ab)=_ from P' zA] at this;exact this
  have ay:b9 (nL Q ae) (d3 (nL Q) A ab)=R:=aj;rw[iH zA] at ay;by_cases N:ae∈A
  ·rw[aZ N] at ay;exact fK ay
  exact c (List.erase_of_not_mem N)<|J.gL
 refine λh k ag=>EJ ag λaf aw ax A ab J C K=>?_;rw[au,yl] at K;have:A=[]:=List.eq_nil_iff_forall_not_mem.mpr λbp br=>em (K bp br);subst this;refine g8 (m aw) rfl (iP U (bk (m af) J.cA rfl) J.hp (eH _) rfl rfl λp b=>?_);have az:=J.zq b;refine iP U (bk (m af) az.cA rfl) az.hp (eH _) rfl rfl λl ao=>Z l ax (az.zq ao)
theorem RB (b:fg bb.bq (hv bb) dn a aB c0 dT []) (D:nG bb.bq bb.bM (bb.ig++Q) aB a1):∃H h,pV bb Q a1 H h/\mg bb aB c0 h:=by
 have E:∀C,C∈aB->∃W,bb.bM.br[C]? =g W/\iR bb.bM C=W.J:=λC y=>by have:=(b.f9 C y).1;rw[au] at this;exact a8 _ (cY this) (tn (cY this))
 have Z:∀C,∃N M,(b9 (I C) a1).getD (j 2)=j N/\fi (bb.ig++Q) N M/\((C∈aB/\cH bb.bq (iR bb.bM C)=g M)\/(M=0/\(C∈aB->dG bb.bq (iR bb.bM C)≠0))):=λC=>by
  by_cases T:C∈aB/\dG bb.bq (iR bb.bM C)=0
  ·refine ax (E C T.1) λW q F=>fF (D.l2 C W T.1 q (F▸T.2)) λN M k p l=>hf N M (by refine c k ?_;rfl) l (ap ⟨T.1,by exact c F<|p⟩)
  refine hf 2 0 ?_ (ap ⟨rfl,rfl⟩) (ar ⟨rfl,λk p=>T ⟨k,p⟩⟩);rw[D.ng C λk W q K=>T ⟨k,by exact c (tn q)<|K⟩];rfl
 refine⟨λC=>(Z C).choose,λC=>(Z C).choose_spec.choose,⟨D.i,λC=>⟨(Z C).choose_spec.choose_spec.1,(Z C).choose_spec.choose_spec.2.1⟩⟩,λC P v=>?_,λC y P v=>?_,λC y K P o=>?_⟩
 ·refine bi ((Z C).choose_spec.choose_spec.2.2) (λT=>eX (nm (b.f9 C T.1).1) T.2 v) λT=>?_;have v:((Z C).choose_spec.choose).testBit P=true:=v;rw[T.1] at v;simp at v
 ·refine bi ((Z C).choose_spec.choose_spec.2.2) (λT=>xc ((b.oP C y).2 _ (nm (b.f9 C T.1).1)) T.2 v) λT=>?_;have v:((Z C).choose_spec.choose).testBit P=true:=v;rw[T.1] at v;simp at v
 exact bi ((Z C).choose_spec.choose_spec.2.2) (λT=>o.Qf (nm (b.f9 C T.1).1) T.2) λT=>absurd K (T.2 y)
theorem Xr (v:M b a (aT a1)) (D:a1.length<aa):fc (x a) b=g (!a1.isEmpty):=by refine(?_:(if a<b.i then _ else _)=_);exact c (aZ v.bj)<|c v.bL<|if_pos D
def MS (D:b4):Prop:=∀(Q:fZ) (E:r e) (T:K) (F A:B) (m:e->e) (c:e) (G:q->K->Prop),dc Q E T F A [] [] (gQ Q) [] [] []->c<Q.bM.br.length->DH Q m->Q.bM.br.length<=39->(∀N M l H W d w o v,dc Q l H F W [] d (gQ Q) w o v->fi (Q.ig++l) N M->(∀P,M.testBit P=true↔oN Q P c)->G (j N) H)->D 100 [x Q.da.i,I c] T G
theorem VD (M:cv aO):MS (bC aO (a+10)):=by
 intro Q E T F A ae aa G Y ax N y Z;have af:=Wo (a:=a+2) M;have ag:=Wu (a:=a) M;have ai:=Wv (a:=a+8) M;have aj:=x4 (a:=a+7) M;refine cz (M.cy 49 rfl) rfl ?_;generalize bC aO (a+9)=D at af ag ai aj⊢;refine dL (C:=aK true) (ko (bt:=true) (iT:=decide ((0:B)=0)) (tf (bt:=false) (bk (bk (m rfl) Y.cA rfl) Y.aq rfl) (Xr Y.gL (aQ rfl))) λ_=>cx (bk (bk (m rfl) Y.cA rfl) Y.hp rfl) U)<|kq (fG (X (m rfl) (X (m rfl) a5)) (af Q E T F A ae aa _ Y ax N λk d w o v J b ay=>?_))
 refine iI (RB b ay) λH h az aA=>?_;have aB:=b.e0;have i:=is b.b7 λW q=>(b.f9 W q).1;rw[au] at i;refine GF (gP (X (m rfl) (X (m rfl) a5)) (ag Q E k F A w d o v h ae aa _ ⟨J,⟨H,az⟩,[],λ_=>bI,rfl,kz,λ_=>em⟩ b aA y λK p aC aD ab aE ao aF aG=>?_));refine(?_:a7 D (s (du (bh 99 _)) L) _ p _);refine tl (X (m rfl) (X (m rfl) a5)) (ai Q (E++K) p F aC aD ab d o v aE _ ao (ah (al 1 (t (t aB i) y)) rfl) λl av aw=>?_);refine aU ao.iD λaI I=>g8 (m rfl) rfl (tk (X (m rfl) (X (m rfl) a5)) (aj Q (E++K) l F av [] ab d o v (gQ Q) aa _ aw ?_));exact c ((I.fJ aa).1)<|Z _ _ (E++K) l av d ab o v aw (I.fJ aa).2 λP=>⟨aF.Ao aa P,aG aa (b.wB.resolve_right (em)) P⟩
def Nj (D:b4):Prop:=∀(y U C:e) (X h:B) (T:K) (G:q->K->Prop),M T y (cw 86 [])->0<y->T.i=y+1->(∀H,aE (λP=>P=y) T H->H.i=y+5->M H y (By U C X h y)->M H (y+1) (aT [])->M H (y+2) (aT [])->M H (y+3) (V [])->M H (y+4) (V [])->G bI H)->D 2376 [x y,x U,bW (gt C),j X,j h,x (U+14)] T G
theorem V6 (M:cv aO):Nj (bC aO (a+1)):=by intro y ay C X h T aA U K ab ae;refine cz (M.cy 34 rfl) rfl ?_;generalize bC aO a=D;have E:∀Y,Y≠0->¬y+Y=y:=λY af=>a3 (cZ (tM af) _);refine iP (m rfl) (m rfl) U K rfl rfl λk aa=>iP (m rfl) (m rfl) aa.aF K rfl rfl λp b=>iP (m rfl) (m rfl) b.aF K rfl rfl λl N=>iP (m rfl) (m rfl) N.aF K rfl rfl λv I=>iP (m rfl) (m rfl) I.aF K rfl rfl λP q=>kU (Z:=y+1) (by exact c (q.i ..) (c (I.i ..) (c (N.i ..) (c (b.i ..) (c (aa.i ..) (c ab rfl)))))) rfl q.aF K rfl rfl (λ_=>gu) λA ag ah W ai=>kU W rfl ai K rfl rfl (λ_=>gu) λaB Q J aj ao=>kU aj rfl ao K rfl rfl (λ_=>rH) λw t aq d au=>kU d rfl au K rfl rfl (λ_=>rH) λF H av aw ax=>ae F (aa.o.az (b.o.az (N.o.az (I.o.az (q.o.az (ag.az (Q.az (t.az H)))))))) aw ax (ah.G (Q.az (t.az H)) (E 1 (aQ rfl))) (J.G (t.az H) (E 2 (aQ rfl))) (aq.G H (E 3 (aQ rfl))) av
def MT (D:b4):Prop:=∀(U d:e) (Z F A:B) (X:r q) (T:K) (G:q->K->Prop),M T U (o2 U d Z F A)->M T d (aT [])->q.eK (S X)=true->G (j (-1)) T->D 101 [x U,S X] T G
theorem VE (M:cv aO):MT (bC aO (a+1)):=λc d h F A i T G P J b Z=>cz (M.cy 50 rfl) rfl (GH (ai:=[j (-1),j (-1)]) (xJ (bk (m rfl) P rfl) (m rfl) (ea (X U (X U a5)) (show 2<aa by decide)) J b) rfl (g8 (mF (cx (m rfl) U) λ_=>cx (m rfl) U) rfl (c3 (m rfl) Z)))
theorem g0.zu (Y:g0 b3 a d Q b aW w bA db) (W:aE (λy=>gl aW.aq a d y\/y=w) b aj) (aw:bA<=Z) (ax:∃ai ao,M aj aW.aq (o2 aW.aq Z 0 ai ao)) (ay:M aj (aW.aq+9) (aT [])) (az:M aj Z (aT [])) (aA:M aj (aW.aq+14) (pW b3.eh (aW.aq+13) (aW.aq+15))):g0 b3 a d (Q++aB) aj aW Z bA db:=by
 have K:=Y.qb;have C:=Y.ef;have aa:=Y.fV;have aC:=Y.ud;refine g3 Y.kD λai ao aF=>?_;have o:∀{y:e} {I:dY},aW.aq<y->y<bA->y≠aW.aq+9->y≠aW.aq+14->y≠aW.aq+12->M b y I->M aj y I:=λk p aG aI aL v=>v.G W λaf=>by unfold gl at af;exact JX C.1 C.2.1 aC k p aG aI aL af
 have au:∀{y:e} {I:dY},aW.aq<=y->M b y I->(∀X,I≠aT X)->(∀U X,I=cw U X->U=21)->M aj y I:=λk v l av=>v.G W λaf=>by
  refine bi af (λaM=>bi aM (λF=>?_) λN=>bi N (λF=>?_) λm=>bi m (λF=>?_) λaO=>bi aO (λF=>aS (E 1 (t k (ab F)) C.1)) λF=>aS (E 1 (t k (ab F)) C.2.1)) λF=>?_
  ·subst F;have:=av _ _ (v.cm aF);exact ei this rfl
  ·subst F;exact l _ (v.cm Y.gL)
  ·subst F;have:=av _ _ (v.cm Y.cW);exact ei this rfl
  subst F;exact l _ (v.cm Y.mC)
 refine⟨⟨ax,ay,az,o (fm rfl) (H 17 (E 1 K.1 aa.2.1)) (aD (dz rfl)) (aD (dz rfl)) (aD (dz rfl)) Y.jH,o (fm rfl) (H 15 (E 1 K.1 aa.2.1)) (aD (dz rfl)) (aD (dz rfl)) (aD (dz rfl)) Y.P,o (fm rfl) (H 14 (E 1 K.1 aa.2.1)) (aD (dz rfl)) (aD (dz rfl)) (aD (dz rfl)) Y.h7,o (fm rfl) (H 13 (E 1 K.1 aa.2.1)) (aD (dz rfl)) (aD (dz rfl)) (aD (dz rfl)) Y.gM,o (fm rfl) (H 5 (E 1 K.1 aa.2.1)) (a3 (dz rfl)) (aD (dz rfl)) (a3 (dz rfl)) Y.ij,o (fm rfl) (H 3 (E 1 K.1 aa.2.1)) (a3 (dz rfl)) (a3 (dz rfl)) (a3 (dz rfl)) Y.fJ,aA,o (fm rfl) (H 1 (E 1 K.1 aa.2.1)) (a3 (dz rfl)) (a3 (dz rfl)) (a3 (dz rfl)) Y.eC,o (H 17 K.1) aa.2.1 (a3 (H 8 K.1)) (a3 (H 3 K.1)) (a3 (H 5 K.1)) Y.fM,o (H 17 K.2.1) aa.2.2.1 (a3 (H 8 K.2.1)) (a3 (H 3 K.2.1)) (a3 (H 5 K.2.1)) Y.i7,K,λA h=>(Y.dN A h).gs (W.gs λy aP ae I v=>?_) (λI v=>?_) (λI i v=>?_) (λ_ _ b=>b) (λ_=>rfl) λ_=>rfl,Y.ti,Y.ef⟩,ar aw,o (H 17 aa.1) aa.2.2.2 (a3 (H 8 aa.1)) (a3 (H 3 aa.1)) (a3 (H 5 aa.1)) Y.lj,aa,Y.th,Y.dD,Y.bo,Y.c,Y.od⟩
 ·rcases aP with b|rfl
  ·unfold gl at b;exact(b.elim (λJ=>aS (H 15 (t ae (ab J)))) λJ=>J.elim (λq=>aS (H 6 (ep 9 (t ae (ab q))))) λq=>q.elim (λag=>aS (H 1 (ep 14 (t ae (ab ag))))) λag=>ag.elim (λah=>aS (H 16 (E 1 (t ae (ab ah)) C.1))) λah=>aS (H 16 (E 1 (t ae (ab ah)) C.2.1)):bK).elim
  rw[v.cm Y.mC];rfl
 ·exact au (by have:=(Y.dN A h).f5;exact this.elim (λq=>H 2 (D q)) λq=>H 18 q) v (λX F=>by rw[F] at v;exact dW (v.cm (Y.dN A h).cL) rfl) λU X F=>by rw[F] at v;exact dW (v.cm (Y.dN A h).cL) rfl
 refine fF ((Y.dN A h).jw.lg i) λ_ _ T aQ _=>au aQ v (λX F=>by rw[F] at v;exact dW (v.cm T) rfl) λU X F=>by rw[F] at v;injection v.cm T
theorem Vb (c:ag l h b A (x a)) (v:M b a (cw d fB)) (P:im w fB=g (j am)) (K:ag l h b aw (j bx)) (i:0<a) (D:mV fB.length 60=true) (N:iN d w=R) (Z:∀H,e8 b H a (cw d (kg w (j (am- bx)) fB))->a7 l aC h H aA):a7 l (s (kG A w eE aw) aC) h b aA:=c _ (c4 v (fa P (K _ (AN v i D N Z))))
theorem RA {o:sv} (Z:gc l aC aA o h b):a7 l L h b (gc l L λa I p=>(match a with|cr=>gc l aC aA o I p|_=>bK)):=Z
def MU (D:b4):Prop:=∀(t:f0) (A Q d o h c:e) (E:r e) (b:i1) (X k:B) (m:e->e) (T:K) (G:q->K->Prop),g0 t A Q E T b d o h->o<=T.i->ev T t.eh A Q E->fi E X t.j3->fi E k t.nV->c<b.br.length->b.br.length<=39->(∀(C:e) N,(b.br.map (·.J))[C]? =g N->N.aL≠3->∀W∈N.ao,m W<m C)->(∀N M l H a,aE (λy=>gl b.aq A Q y\/y=d) T H->ev H t.eh A Q (E++l)->g0 t A Q (E++l) H b a o h->T.i<=a->fi (E++l) N M->(∀P,M.testBit P=true↔dU (cH t) (b.br.map (·.J)) P c)->G (j N) H)->D 102 [x b.aq,I c,bW (gt t.eo),j X,j k,x (b.aq+14)] T G
theorem VF (ao:cv aO):MU (bC aO (a+11)):=by
 intro af A Q d aP h bx aQ b aU aV bz T b' Y bA aW bB bD bE bF N Z;have aY:=VE (a:=a+9) ao;have aZ:=VD (a:=a) ao;have a0:=V6 (a:=a+9) ao;refine cz (ao.cy 51 rfl) rfl ?_;generalize bC aO (a+10)=bG at aY aZ a0⊢;refine g3 Y.kD λai aw ax=>?_;have K:=Y.qb;have C:=Y.ef;have v:=Y.fV;have ae:=Y.ud;have bM:=Y.eC.bj;have ay:=aW.cI;refine ex (Gw (m rfl) U) (CS ⟨af.eo,Y.od⟩) (dL (ea (X (m rfl) (X (m rfl) (X (m rfl) (X (m rfl) a5)))) (show 4<aa by decide)) (gP (X (m rfl) (X (m rfl) a5)) (aY b.aq d 0 ai aw _ T _ ax Y.mC rfl ?_)));refine ex (qf (m rfl) U) rfl (dL (bk (m rfl) ax rfl) (xU (m rfl) ax rfl U (dr (E 1 ay C.1) rfl) rfl rfl λk aj=>GF ?_));have az:=aj.i;let aA:fZ:=⟨af,b,d,A,Q,aU,aV,T,aQ,aP,h⟩;refine fA (sU (g5 (w1 rfl (X (m rfl) (X (m rfl) (X (m rfl) (X (m rfl) (X (m rfl) a5))))) λp aB=>?_)));refine a0 k.i b.aq af.eo aU aV p _ aB.aF (dr (t (E 18 (c8 _) bM) (D az)) rfl) aB.i λl bN bO a8 a9 a' bb be=>?_;rw[az] at a8 a9 a' bb be⊢;have au:aE ca k l:=aB.o.cb bN (λ_ _ T=>T) λy bP F=>aS (E 1 (D F) bP);have bQ:aE (gl b.aq A Q) T l:=aj.o.cb au (λ_ _=>ap) λ_ _=>ed;have bg:∀{y:e} {I:dY},y≠b.aq->M T y I->M l y I:=λk aG=>(aG.G aj.o k).G au id;have bT:dc aA [] l ai aw [] [] (gQ aA) [] [] []:=⟨bQ,by refine(?_:T.i+5<=l.i);exact E 5 (D az) (D bO),Y,by exact c (eP ..)<|(aW.G aj.o (by exact aD C.2.2) (by exact aD C.1) (by exact aD C.2.1)).G au id id id,a8,aj.aF.G au id,bg (show b.aq+14≠b.aq by exact a3 (fm rfl)) Y.cW,bg (show b.aq+9≠b.aq by exact a3 (fm rfl)) Y.gL,a9,a',bb,be,by exact c (eP ..)<|bB,by exact c (eP ..)<|bD⟩;refine(X (m rfl) a5) _ (aZ aA [] l ai aw bz bx _ bT bE N bF λbU bV bl aI bp cf w cg cj ag bX bY=>?_);have b0:∀{d:e},d=b.aq+12\/aP<=d->¬gl b.aq A Q d:=λT Z=>by unfold gl at Z;exact JY C.1 C.2.1 v.1 v.2.2.2 T Z
 have b2:=Y.mC.G ag.o (b0 ae);have aL:M aI b.aq (o2 b.aq d 1 ai bp):=ag.aq;refine jg (ea (X (m rfl) (X (u6 (cx (bk (m rfl) aL rfl) (m rfl)) (λ_=>U) λF=>absurd rfl (gg F)) a5)) (show 2<aa by decide)) (bk (m rfl) aL rfl) (m rfl) b2 (ae.elim (λJ=>dr (E 12 (c8 _) (D J)) rfl) λJ=>t (E 1 (c8 _) v.2.1) J) rfl (by decide) λP q=>?_;have b3:=aL.G q.o (ae.elim (λJ=>aD (H 11 (D J))) λJ=>aD (H 18 (t (E 1 K.1 v.2.1) J)));refine(?_:a7 bG (s (kG _ _ _ _) _) _ P _);refine Vb (m rfl) b3 rfl U (dr (E 1 ay C.1) rfl) rfl rfl λb4 ah=>g8 (bt:=decide ((1:B)- 1=0)) (cx (bk (m rfl) ah.aF rfl) U) rfl ?_;have bq:=q.i;have W:=ah.i;have br:=ag.cp;refine n' rfl ah.aF (dr (E 1 ay C.1) rfl) rfl rfl (λ_=>gu) λav aM b5 _ b6=>?_;have b7:aE (gl b.aq A Q) T aI:=ag.o;have bu:aE (λy=>gl b.aq A Q y\/y=d) T av:=((b7.cb q.o (a:=λy=>gl b.aq A Q y\/y=d) (λ_ _=>ap) λ_ _=>ar).cb ah.o (λ_ _ T=>T) λ_ _ F=>ap (ap F)).cb aM (λ_ _ T=>T) λ_ _ F=>ap (ap F);have bw:∀{y:e} {I:dY},y≠d->y≠b.aq->M aI y I->M av y I:=λk p aG=>((aG.G q.o k).G ah.o p).G aM p;have b8:=ag.gm;have b9:ev av af.eh A Q (aQ++bl):=((b8.G q.o (by refine(?_:¬af.eh=d);exact ae.elim (λJ=>aD (H 12 (E 12 C.2.2 (D J)))) λJ=>aD (H 19 (t (E 1 (E 18 C.2.2 K.1) v.2.1) J))) (by refine(?_:¬A=d);exact ae.elim (λJ=>aD (H 12 (E 12 C.1 (D J)))) λJ=>aD (H 19 (t (E 1 (E 18 C.1 K.1) v.2.1) J))) (by refine(?_:¬Q=d);exact ae.elim (λJ=>aD (H 12 (E 12 C.2.1 (D J)))) λJ=>aD (H 19 (t (E 1 (E 18 C.2.1 K.1) v.2.1) J)))).G ah.o (by refine(?_:¬af.eh=b.aq);exact aD C.2.2) (by refine(?_:¬A=b.aq);exact aD C.1) (by refine(?_:¬Q=b.aq);exact aD C.2.1)).G aM (by refine(?_:¬af.eh=b.aq);exact aD C.2.2) (by refine(?_:¬A=b.aq);exact aD C.1) (by refine(?_:¬Q=b.aq);exact aD C.2.1);refine RA (o:=cr)<|c3 (aC:=L) (m rfl) (Z bU bV bl av b4.i bu b9 (Y.zu bu (H 5 (t (t (E 5 bA br) (D bq)) (D W))) (js ai bp b6) (bw (ae.elim (λJ=>aD (H 2 (D J))) λJ=>aD (H 9 (t (E 1 K.1 v.2.1) J))) (a3 (fm rfl)) ag.gL) b5 (bw (ae.elim (λJ=>a3 (bJ 1 (al 1 (ab J)))) λJ=>aD (H 4 (t (E 1 K.1 v.2.1) J))) (a3 (fm rfl)) ag.hp)) (H 5 (t (t br (D bq)) (D W))) bX bY)
noncomputable def c2 (o:r e):dB:=⟨2,o,[],64,0⟩
noncomputable def dZ (W:e) (N:dB):dB:=⟨4,[W],N.eR,N.hG,0⟩
noncomputable def cU (N:dB) (o:r e):dB:=⟨N.aL,o,N.eR,N.hG,N.fO⟩
structure jF (Y:dB->a6 e):Prop where
 c2:∀N:dB,N.aL=2\/N.aL=3->N.eR=[]->Y N=R
 X4:Y ⟨0,[],[],64,0⟩=g 0\/Y ⟨0,[],[],64,0⟩=R
 cU:∀N o,(N.ao=[]↔o=[])->Y (cU N o)=Y N
 mK:∀o a Q b C E,Y ⟨4,o,Q,b,C⟩=Y ⟨4,a,Q,b,E⟩
theorem xi (t:f0):jF (cH t):=by
 refine⟨λN T a=>?_,ap rfl,λN o T=>?_,λ_ _ _ _ _ _=>rfl⟩
 ·unfold cH;refine c a (c (ay (T.elim (λJ=>a3 (dr (D J) rfl)) λJ=>a3 (dr (D J) rfl))) (c (ay (T.elim (λJ=>a3 (D J)) λJ=>a3 (dr (D J) rfl))) ?_));rfl
 unfold cH cU;by_cases F:N.ao=[]
 ·simp[F,T.mp F]
 simp[F,mt T.mpr F]
theorem xh (t:f0):jF (i5 t):=by
 refine⟨λN T _=>?_,ar rfl,λN o T=>rfl,λ_ _ _ _ _ _=>rfl⟩;have:kV t N=false:=by unfold kV;refine bi T (λT=>?_) λT=>?_<;>refine c T ?_<;>rfl
 unfold i5;refine c (ay (T.elim (λJ=>a3 (D J)) λJ=>a3 (dr (D J) rfl))) (c this ?_);rfl
structure gB (b:r dB) (p d:e):Prop where
 cI:b[0]? =g ⟨0,[],[],64,0⟩
 dD:∀N∈b,hc b.length N
 c:∀N∈b,N.ao.length<=d
 iQ:∃iQ:e->e,∀(C:e) N,b[C]? =g N->N.aL≠3->∀W∈N.ao,iQ W<iQ C
 bo:b.length<=p
noncomputable abbrev eg (b F:r dB) (v:e) (h:dB):r dB:=(b++F).set v h
theorem w6 (o:a<ad.length) (T:(eg ad eJ a af)[d]? =g gI):(d=a/\gI=af)\/(d≠a/\ad[d]? =g gI)\/∃M,d=ad.length+M/\eJ[M]? =g gI:=by
 rw[tJ] at T;split at T
 ·rename_i F;rw[aZ (by exact c (dw ..)<|t o (bX _ _))] at T;exact ap ⟨F.symm,(bm T).symm⟩
 rename_i F;refine bi (pz d ad.length) (λy=>?_) λy=>?_
 ·rw[iz y] at T;exact ar (ap ⟨λZ=>F Z.symm,T⟩)
 rw[oq y] at T;exact ar (ar (a8 (d- ad.length) (JI y) T))
theorem kK (o:a<ad.length):(eg ad eJ a af)[a]? =g af:=vU (by exact c (dw ..)<|t o (bX _ _))
theorem uy (y:a≠d) (T:ad[a]? =g af):(eg ad eJ d gI)[a]? =g af:=by exact c (qB (Ne.symm y))<|c (iz (co.mp T).1)<|T
theorem ro (o:a<ad.length) (T:eJ[d]? =g af):(eg ad eJ a gI)[ad.length+d]? =g af:=by exact c (qB (aD (t o (bX _ _))))<|c (oq (bX _ _))<|c (pv ..)<|T
theorem nU:(eg ad eJ a af).length=ad.length+eJ.length:=by exact c (mR ..) (c (dw ..) rfl)
noncomputable abbrev fH (b:r dB) (a:e->e) (W:e):e:=if W<b.length then W else a (W- b.length)
theorem rn (U:gB ad a d) (o:ad[w]? =g af) (K:∀M,df af=g M->M.testBit Z=true->dU df (eg ad eJ w gI) Z w) (k:df af=R->∀W∈af.ao,dU df (eg ad eJ w gI) Z W->dU df (eg ad eJ w gI) Z w) (q:∀M,df gI=g M->M.testBit Z=true->dU df ad Z w) (h:df gI=R->∀W∈gI.ao,dU df ad Z (fH ad dn W)->dU df ad Z w) (i:∀(M:e) X Y,eJ[M]? =g X->df X=g Y->Y.testBit Z=true->dU df ad Z (dn M)) (p:∀(M:e) X,eJ[M]? =g X->df X=R->∀W∈X.ao,dU df ad Z (fH ad dn W)->dU df ad Z (dn M)):∀C,C<ad.length->(dU df (eg ad eJ w gI) Z C↔dU df ad Z C):=by
 have Q:=(co.mp o).1;have b:∀C,dU df ad Z C->dU df (eg ad eJ w gI) Z C:=λC T=>by
  induction T with
  |@eX C M X G I H=>
   by_cases F:C=w
   ·subst F;rw[o] at G;obtain rfl:=bm G;exact K M I H
   exact eX (uy F G) I H
  |@c1 C W X G I H _ t=>
   by_cases F:C=w
   ·subst F;rw[o] at G;obtain rfl:=bm G;exact k I W H t
   exact c1 (uy F G) I H t
 have c:∀C,dU df (eg ad eJ w gI) Z C->dU df ad Z (fH ad dn C):=λC T=>by
  induction T with
  |@eX C M X G I H=>
   rcases w6 Q G with⟨rfl,rfl⟩|⟨_,T⟩|⟨Y,rfl,T⟩
   ·rw[fH,aZ Q];exact q M I H
   ·rw[fH,aZ (co.mp T).1];exact eX T I H
   rw[fH,ay (fo (bX _ _)),pv];exact i Y X M T I H
  |@c1 C W X G I H _ t=>
   rcases w6 Q G with⟨rfl,rfl⟩|⟨_,T⟩|⟨Y,rfl,T⟩
   ·rw[fH,aZ Q];exact h I W H t
   ·rw[fH,aZ (co.mp T).1];rw[fH,aZ ((U.dD X (bF T)).bU W H)] at t;exact c1 T I H t
   rw[fH,ay (fo (bX _ _)),pv];exact p Y X T I W H t
 exact λC y=>⟨λT=>by have:=c C T;rw[fH,aZ y] at this;exact this,b C⟩
theorem rm (U:gB ad a d) (l:0<w) (Q:w<ad.length) (i:hc (ad.length+eJ.length) af) (v:∀X∈eJ,hc (ad.length+eJ.length) X) (p:af.ao.length<=Z) (q:∀X∈eJ,X.ao.length<=Z) (h:d<=Z) (o:e->e) (m:∀(C:e) X,ad[C]? =g X->C≠w->X.aL≠3->∀W∈X.ao,o W<o C) (E:af.aL≠3->∀W∈af.ao,o W<o w) (t:∀(M:e) X,eJ[M]? =g X->X.aL≠3->∀W∈X.ao,o W<o (ad.length+M)):gB (eg ad eJ w af) (a+eJ.length) Z:=by
 have N:∀X∈eg ad eJ w af,X=af\/X∈ad\/X∈eJ:=λX I=>by exact aU (j9.mp I) λC y=>bi (w6 Q y) (λA=>bl A λ_ T=>ap T) λb=>bi b (λD=>bl D λ_ T=>ar (ap (bF T))) λF=>ax F λ_ _ T=>ar (ar (bF T))
 refine⟨uy (aD l) U.cI,λX I=>?_,λX I=>?_,⟨o,λC X y K=>?_⟩,by refine c (nU ..) ?_;have:=U.bo;exact sb this _⟩
 ·refine c (nU ..) ?_;rcases N X I with rfl|T|T
  ·exact i
  ·exact(U.dD X T).a0 (bX _ _)
  exact v X T
 ·rcases N X I with rfl|T|T
  ·exact p
  ·exact ej (U.c X T) h
  exact q X T
 rcases w6 Q y with⟨rfl,rfl⟩|⟨k,T⟩|⟨M,rfl,T⟩
 ·exact E K
 ·exact m C X T k K
 exact t M X T K
structure ke (ad W:r dB) (a d:e):Prop where
 b8:gB W a (2*d+2)
 cq:ad.length<=W.length
 hI:∀Y,jF Y->∀P C,C<ad.length->(dU Y W P C↔dU Y ad P C)
 uO:∀(v:e) N,ad[v]? =g N->N.aL=3->∃h,W[v]? =g h/\h.aL=3
theorem rl (o:ad[a]? =g af) (i:af.aL=3->gI.aL=3):∀(C:e) X,ad[C]? =g X->X.aL=3->∃b,(eg ad eJ a gI)[C]? =g b/\b.aL=3:=λC X y l=>by
 by_cases F:C=a
 ·subst F;rw[o] at y;obtain rfl:=bm y;exact a8 gI (kK (co.mp o).1) (i l)
 exact a8 X (uy F y) l
theorem ql (T:∀W∈Q,W<a):hc a (c2 Q):=⟨by refine(?_:2<=8);decide,T,λT=>(ei T rfl),λT=>(ei T rfl),λT=>absurd T (by refine(?_:¬4<=2);decide),λT=>(ei T rfl),bv _,λT=>(ei T rfl),λT=>(ei T rfl),λ_=>rfl⟩
theorem hc.cU (J:hc a af) (o:r e) (y:a<=d) (T:∀W∈o,W<d) (K:af.aL=0->o=[]) (k:o=[]->af.ao=[]) (v:4<=af.aL->o.length=1):hc d (Mine.Tactic.P.cU af o):=⟨J.uP,T,K,λT F=>J.rE T (k F),λT=>by refine aU (List.length_eq_one_iff.mp (v T)) λW F=>?_;exact⟨W,F⟩,J.cL,J.bM,J.qn,J.qo,J.lW⟩
theorem jF.ED (b:jF df) (U:gB ad a d):¬dU df ad w 0:=λT=>by
 cases T with
 |eX G I H=>rw[U.cI] at G;obtain rfl:=bm G;refine bi b.X4 (λF=>?_) λF=>?_<;>rw[F] at I<;>cases I;simp at H
 |c1 G I H _=>rw[U.cI] at G;obtain rfl:=bm G;exact em H
theorem jF.jU (b:jF df):df (Mine.Tactic.P.c2 Q)=R:=b.c2 _ (ap rfl) rfl
theorem PI (U:gB ad a d) (o:ad[w]? =g af) (K:af.aL≠0) (aa:af.ao[Z]? =g bA):ke ad (eg ad [c2 [bA]] w (cU af (af.ao.set Z ad.length))) (a+1) d:=by
 have Q:=(co.mp o).1;have J:=bF o;have D:=bF aa;have k:=(co.mp aa).1;have G:=U.dD af J;have v:=U.c af J;have W:=G.bU bA D;refine aU U.iQ λm N=>?_;have p:0<w:=by rcases vY w with rfl|T;{rw[U.cI] at o;obtain rfl:=bm o;exact absurd rfl K};{exact T}
 have ae:∀{A},A∈af.ao.set Z ad.length->A=ad.length\/A∈af.ao:=λT=>(o9 T).imp_right λt=>ax t λ_ _ T=>bF T;have ai:af.ao≠[]:=λF=>by rw[F] at D;exact em D
 refine⟨rm U p Q (G.cU _ (bX _ _) (λA h=>?_) (λF=>absurd F K) (λF=>?_) λaj=>?_) (λX I=>?_) (by refine(?_:(af.ao.set Z _).length<=_);exact c (mR ..)<|pN v) (λX I=>?_) (qW) (λC=>if C<ad.length then 2*m C else 2*m bA+1) (λC X I _ H A h=>?_) (λH A h=>?_) (λM X I H A h=>?_),by exact c (nU ..)<|bX _ _,λY b P=>?_,rl o id⟩
 ·rcases ae h with rfl|T
  ·exact bv _
  have:=G.bU A T;exact bJ 1 this
 ·have:(af.ao.set Z ad.length).length=0:=by refine c F ?_;rfl
  rw[mR] at this;exact BQ.mp this
 ·refine aU (G.eL aj) λaz F=>?_;refine c (mR ..) (c F ?_);rfl
 ·exact gR I<|ql λA h=>by rw[e6] at h;simp;exact bJ 1 (E 1 (ab h) W)
 ·refine gR I ?_;refine(?_:1<=_);exact dr (fS _ _) rfl
 ·have:=N C X I H A h;have aq:=(U.dD X (bF I)).bU A h;have au:=(co.mp I).1;exact c (aZ aq)<|c (aZ au)<|ub this
 ·have av:=N w af o H bA D;rcases ae h with rfl|T
  ·exact c (ay (fo (bv _)))<|c (aZ Q)<|Df av
  have:=N w af o H A T;exact c (aZ (G.bU A T))<|c (aZ Q)<|ub this
 ·cases M with
  |succ M=>exact ce I
  |zero=>
   obtain rfl:=bm I;obtain rfl:A=bA:=by simpa [c2] using h
   exact c (aZ W)<|c (ay (by exact fo (bv _)))<|fm rfl
 have y:(eg ad [c2 [bA]] w (cU af (af.ao.set Z ad.length)))[ad.length]? =g (c2 [bA]):=ro (d:=0) Q rfl;have q:Y (cU af (af.ao.set Z ad.length))=Y af:=b.cU _ _ ⟨λF=>absurd F ai,λF=>by
  have:(af.ao.set Z ad.length).length=0:=by refine c F ?_;rfl
  rw[mR] at this;rw[BQ.mp this] at D;exact em D⟩
 refine rn (dn:=λ_=>bA) U o (λM T ag=>eX (kK Q) (q.trans T) ag) (λT A h i=>?_) (λM T ag=>eX o (q▸T) ag) (λT A h i=>c1 o (q▸T) (W:=fH ad (λ_=>bA) A) ?_ i) (λM X ah I l=>?_) λM X I l A h i=>?_
 ·by_cases F:A=bA
  ·exact c1 (kK Q) (q.trans T) (W:=ad.length) (List.mem_set k _) (c1 y b.jU (fC _) (F▸i))
  refine aU (j9.mp h) λah K=>c1 (kK Q) (q.trans T) (W:=A) (j9.mpr ⟨ah,?_⟩) i;exact c (show(cU af (af.ao.set Z ad.length)).ao=af.ao.set Z ad.length from rfl)<|c (qB λaw=>F (by subst aw;rw[aa] at K;exact(bm K).symm))<|K
 ·rcases ae h with rfl|T
  ·rw[fH,ay (fo (bv _))];exact D
  rw[fH,aZ (G.bU A T)];exact T
 ·cases M with
  |succ M=>exact ce I
  |zero=>obtain rfl:=bm I;rw[b.jU] at l;exact ce l
 ·cases M with
  |succ M=>exact ce I
  |zero=>
   obtain rfl:=bm I;obtain rfl:A=bA:=by simpa [c2] using h
   rw[fH,aZ W] at i;exact i
theorem gB.iO (U:gB ad a d) (o:ad[w]? =g af) (K:af.aL≠0):0<w:=by
 rcases vY w with rfl|T
 ·rw[U.cI] at o;obtain rfl:=bm o;exact absurd rfl K
 exact T
theorem GT (m:e->e):∀a,∃d,∀A,A<a->m A<=d:=by
 intro a;induction a with
 |zero=>exact⟨0,λ_ T=>absurd T (yu _)⟩
 |succ a t=>
  refine aU (t) λd T=>⟨max d (m a),λA h=>?_⟩;by_cases F:A=a
  ·exact c F<|Nat.le_max_right ..
  exact ej (T A (qr (ep 1 h) F)) (Nat.le_max_left ..)
theorem PK (U:gB ad a d) (o:ad[w]? =g af) (K:af.aL=2\/af.aL=3) (k:1<=Z) (aq:Z<af.ao.length):ke ad (eg ad [c2 (af.ao.drop Z)] w (cU af (af.ao.take Z++[ad.length]))) (a+1) d:=by
 have Q:=(co.mp o).1;have ag:=bF o;have G:=U.dD af ag;have v:=U.c af ag;refine aU U.iQ λm N=>?_;have p:=U.iO o (K.elim (λJ=>a3 (dr (D J) rfl)) λJ=>a3 (dr (D J) rfl));have W:af.eR=[]:=G.lW (K.elim (λJ=>aD (ah (al 1 (ab J)) rfl)) λJ=>aD (al 1 (ab J)));have aa:∀{A},A∈af.ao.drop Z->A∈af.ao:=λT=>YQ T;have ae:∀{A},A∈af.ao.take Z->A∈af.ao:=λT=>yn T;refine aU (GT m ad.length) λau av=>⟨rm U p Q (G.cU _ (bX _ _) (λA h=>?_) (λF=>(K.elim (λJ=>fn (t (D J) (ab F)) rfl) λJ=>fn (t (D J) (ab F)) rfl:bK).elim) (λF=>by simp at F) λai=>(K.elim (λJ=>fn (t ai (ab J)) rfl) λJ=>fn (t ai (ab J)) rfl:bK).elim) (λX I=>?_) (by refine(?_:(af.ao.take Z++[ad.length]).length<=_);refine c (dw ..) (c (lD ..) ?_);simp;exact LY v) (λX I=>?_) (qW) (λC=>if C<ad.length then 2*m C else if af.aL=3 then 2*au+1 else 2*m w- 1) (λC X I _ H A h=>?_) (λH A h=>?_) (λM X I H A h=>?_),by exact c (nU ..)<|bX _ _,λY b P=>?_,rl o id⟩
 ·refine bi (d2.mp h) (λT=>?_) λT=>gR T<|bv _
  have:=G.bU A (ae T);exact bJ 1 this
 ·exact gR I<|ql λA h=>by have:=G.bU A (aa h);exact bJ 1 this
 ·refine gR I ?_;refine(?_:(af.ao.drop Z).length<=_);exact c (Ig ..)<|L4 v
 ·have:=N C X I H A h;exact c (aZ ((U.dD X (bF I)).bU A h))<|c (aZ (co.mp I).1)<|ub this
 ·have H:af.aL≠3:=H;refine bi (d2.mp h) (λT=>?_) λT=>?_
  ·have:=N w af o H A (ae T);exact c (aZ (G.bU A (ae T)))<|c (aZ Q)<|ub this
  refine gR T ?_;have aw:=N w af o H _ (tK (dr (E 1 k aq) rfl:0<af.ao.length));exact c (ay (fo (bv _)))<|c (ay H)<|c (aZ Q)<|L' aw
 ·cases M with
  |succ M=>exact ce I
  |zero=>
   obtain rfl:=bm I;have h:A∈af.ao.drop Z:=h;have aj:=G.bU A (aa h);refine c (aZ aj) (c (ay (by exact fo (bv _))) ?_);split
   ·have:=av A aj;exact Mf this
   rename_i ax;have:=N w af o ax A (aa h);exact Mp this
 have az:(eg ad [c2 (af.ao.drop Z)] w (cU af (af.ao.take Z++[ad.length])))[ad.length]? =g (c2 (af.ao.drop Z)):=ro (d:=0) Q rfl;have y:Y af=R:=b.c2 af K W;have q:Y (cU af (af.ao.take Z++[ad.length]))=R:=b.c2 _ K W;refine rn (dn:=λ_=>w) U o (λM T=>by rw[y] at T;exact ce T) (λT A h i=>?_) (λM T=>by rw[q] at T;exact ce T) (λT A h i=>?_) (λM X aA I l=>?_) λM X I l A h i=>?_
 ·rw[<-YU Z af.ao] at h;exact bi (d2.mp h) (λT=>c1 (kK Q) q (jm _ T) i) λT=>c1 (kK Q) q (W:=ad.length) (mT _ (fC _)) (c1 az b.jU T i)
 ·refine bi (d2.mp h) (λT=>?_) λT=>?_
  ·rw[fH,aZ (G.bU A (ae T))] at i;exact c1 o y (ae T) i
  rw[e6] at T;subst T;rw[fH,ay (fo (bv _))] at i;exact i
 ·cases M with
  |succ M=>exact ce I
  |zero=>obtain rfl:=bm I;rw[b.jU] at l;exact ce l
 ·cases M with
  |succ M=>exact ce I
  |zero=>obtain rfl:=bm I;have h:A∈af.ao.drop Z:=h;rw[fH,aZ (G.bU A (aa h))] at i;exact c1 o y (aa h) i
theorem PJ (U:gB ad a d) (o:ad[w]? =g af) (K:af.aL=2):ke ad (eg ad [] w (cU af (af.ao.reverse++af.ao))) a d:=by
 have Q:=(co.mp o).1;have G:=U.dD af (bF o);have v:=U.c af (bF o);refine aU U.iQ λm N=>?_;have W:af.eR=[]:=G.lW (aD (ah (al 1 (ab K)) rfl));have Z:∀{A},A∈af.ao.reverse++af.ao->A∈af.ao:=λT=>by simpa using T
 refine⟨rm (eJ:=[]) U (U.iO o (a3 (dr (D K) rfl))) Q (G.cU _ (bv _) (λA h=>G.bU A (Z h)) (λF=>(fn (t (D K) (ab F)) rfl).elim) (λF=>by simpa using F) λk=>(fn (t k (ab K)) rfl).elim) (λX I=>em I) (by refine(?_:(af.ao.reverse++af.ao).length<=_);simp;exact JJ v) (λX I=>em I) (qW) m (λC X I _ H A h=>N C X I H A h) (λH A h=>N w af o H A (Z h)) (λM X I=>ce I),by exact c (nU ..)<|bv _,λY b P=>?_,rl o id⟩;have y:Y af=R:=b.c2 af (ap K) W;have q:Y (cU af (af.ao.reverse++af.ao))=R:=b.c2 _ (ap K) W;refine rn (dn:=λ_=>w) U o (λM T=>by rw[y] at T;exact ce T) (λT A h i=>c1 (kK Q) q (mT _ h) i) (λM T=>by rw[q] at T;exact ce T) (λT A h i=>?_) (λM X l I=>ce I) λM X I=>ce I;rw[fH,aZ (G.bU A (Z h))] at i;exact c1 o y (Z h) i
theorem PH (U:gB ad a d) (o:ad[w]? =g af) (K:af.aL=2\/af.aL=3):ke ad (eg ad [c2 []] w (cU af (af.ao++[ad.length,0]))) (a+1) d:=by
 have Q:=(co.mp o).1;have G:=U.dD af (bF o);have aa:=U.c af (bF o);refine aU U.iQ λm N=>?_;have p:=U.iO o (K.elim (λJ=>a3 (dr (D J) rfl)) λJ=>a3 (dr (D J) rfl));have W:af.eR=[]:=G.lW (K.elim (λJ=>aD (ah (al 1 (ab J)) rfl)) λJ=>aD (al 1 (ab J)));have Z:∀{A},A∈af.ao++[ad.length,0]->A∈af.ao\/A=ad.length\/A=0:=λT=>by simpa using T
 refine⟨rm U p Q (G.cU _ (bX _ _) (λA h=>?_) (λF=>(K.elim (λJ=>fn (t (D J) (ab F)) rfl) λJ=>fn (t (D J) (ab F)) rfl:bK).elim) (λF=>by simp at F) λv=>(K.elim (λJ=>fn (t v (ab J)) rfl) λJ=>fn (t v (ab J)) rfl:bK).elim) (λX I=>?_) (by refine(?_:(af.ao++[ad.length,0]).length<=_);simp;exact JQ aa) (λX I=>?_) (qW) (λC=>if C<ad.length/\C≠0 then m C+1 else 0) (λC X I _ H A h=>?_) (λH A h=>?_) (λM X I H A h=>?_),by exact c (nU ..)<|bX _ _,λY b P=>?_,rl o id⟩
 ·rcases Z h with T|rfl|rfl
  ·have:=G.bU A T;exact bJ 1 this
  ·exact bv _
  exact eH _
 ·exact gR I<|ql λA h=>em h
 ·exact gR I<|c8 _
 ·have:=N C X I H A h;have k:C≠0:=λF=>by subst F;rw[U.cI] at I;obtain rfl:=bm I;exact em h
  refine c (aZ (show C<ad.length/\C≠0 from⟨(co.mp I).1,k⟩)) ?_;split;{exact al 1 this};{exact eH _}
 ·refine c (aZ (show w<ad.length/\w≠0 from⟨Q,a3 p⟩)) ?_;rcases Z h with T|rfl|rfl
  ·have:=N w af o H A T;split;{exact al 1 this};{exact eH _}
  ·exact c (ay (Kf))<|fS _ _
  exact c (ay (Ko))<|fS _ _
 ·cases M with
  |succ M=>exact ce I
  |zero=>obtain rfl:=bm I;exact em h
 have y:Y af=R:=b.c2 af K W;have q:Y (cU af (af.ao++[ad.length,0]))=R:=b.c2 _ K W;refine rn (dn:=λ_=>0) U o (λM T=>by rw[y] at T;exact ce T) (λT A h i=>c1 (kK Q) q (jm _ h) i) (λM T=>by rw[q] at T;exact ce T) (λT A h i=>?_) (λM X ae I l=>?_) λM X I l A h i=>?_
 ·rcases Z h with T|rfl|rfl
  ·rw[fH,aZ (G.bU A T)] at i;exact c1 o y T i
  ·rw[fH,ay (fo (bv _))] at i;exact absurd i (b.ED U)
  rw[fH,aZ (by exact dr (E 1 p Q) rfl)] at i;exact absurd i (b.ED U)
 ·cases M with
  |succ M=>exact ce I
  |zero=>obtain rfl:=bm I;rw[b.jU] at l;exact ce l
 ·cases M with
  |succ M=>exact ce I
  |zero=>obtain rfl:=bm I;exact em h
theorem jF.dZ (b:jF df) (K:af.aL=4) (A:e):df (Mine.Tactic.P.dZ A af)=df af:=by obtain⟨Y,o,Q,a,p⟩:=af;obtain rfl:Y=4:=K;exact b.mK _ _ _ _ _ _
theorem Bg (J:hc a af) (K:af.aL=4) (h:w<d):hc d (dZ w af):=⟨by refine(?_:4<=8);decide,λF y=>by simp[dZ] at y;exact E 1 (ab y) h,λT=>(ei T rfl),λT=>(ei T rfl),λ_=>⟨w,rfl⟩,λ_=>J.cL K,J.bM,λT=>(ei T rfl),λT=>(ei T rfl),λT=>absurd rfl T⟩
theorem PG (U:gB ad a d) (o:ad[w]? =g af) (K:af.aL=4) (Y:af.ao=[Z]):ke ad (eg ad [dZ Z af,dZ Z af] w (c2 [ad.length,ad.length+1])) (a+2) d:=by
 have Q:=(co.mp o).1;have G:=U.dD af (bF o);refine aU U.iQ λm p=>?_;have q:Z∈af.ao:=by exact c Y<|fC _
 have W:=G.bU Z q;have k:=p w af o (a3 (D K)) Z q;have v:∀{M:e} {X},[dZ Z af,dZ Z af][M]? =g X->M<2/\X=dZ Z af:=λ{M X}=>nX (U:=λM X=>M<2/\X=dZ Z af) ⟨aQ rfl,rfl⟩ (nX ⟨aQ rfl,rfl⟩ xd) M X;refine⟨rm U (U.iO o (a3 (dr (D K) rfl))) Q (ql λA h=>by simp at h⊢;exact h.elim (λJ=>bJ 1 (al 1 (ab J))) λJ=>al 1 (ab J)) (λX I=>?_) (by refine(?_:2<=_);exact fS _ _) (λX I=>?_) (qW) (λC=>if C<ad.length then 2*m C else 2*m Z+1) (λC X I _ F A h=>?_) (λ_ A h=>?_) (λM X I F A h=>?_),by exact c (nU ..)<|bX _ _,λaa b P=>?_,rl o λT=>(fn (t (D K) (ab T)) rfl).elim⟩
 ·refine aU (j9.mp I) λM N=>c ((v N).2)<|Bg G K (bJ 2 W)
 ·refine aU (j9.mp I) λM N=>c ((v N).2) ?_;refine(?_:1<=_);exact dr (fS _ _) rfl
 ·have:=p C X I F A h;exact c (aZ ((U.dD X (bF I)).bU A h))<|c (aZ (co.mp I).1)<|ub this
 ·have h:A=ad.length\/A=ad.length+1:=by simpa [c2] using h
  exact c (ay (h.elim (λJ=>fo (D J)) λJ=>fo (H 1 (D J))))<|c (aZ Q)<|Df k
 ·rw[(v I).2] at h;obtain rfl:A=Z:=by simpa [dZ] using h
  exact c (aZ W)<|c (ay (fo (bX _ _)))<|fm rfl
 have y:(eg ad [dZ Z af,dZ Z af] w (c2 [ad.length,ad.length+1]))[ad.length]? =g (dZ Z af):=ro (d:=0) Q rfl;refine rn (dn:=λ_=>w) U o (λM T E=>c1 (kK Q) b.jU (W:=ad.length) (fC _) (eX y ((b.dZ K Z).trans T) E)) (λT A h i=>?_) (λM T=>by rw[b.jU] at T;exact ce T) (λT A h i=>?_) (λM X ae I l E=>?_) λM X I l A h i=>?_
 ·rw[Y] at h;obtain rfl:A=Z:=by simpa using h
  exact c1 (kK Q) b.jU (W:=ad.length) (fC _) (c1 y ((b.dZ K A).trans T) (fC _) i)
 ·have h:A=ad.length\/A=ad.length+1:=by simpa [c2] using h
  rw[fH,ay (h.elim (λJ=>fo (D J)) λJ=>fo (H 1 (D J)))] at i;exact i
 ·rw[(v I).2,b.dZ K] at l;exact eX o l E
 rw[(v I).2,b.dZ K] at l;rw[(v I).2] at h;obtain rfl:A=Z:=by simpa [dZ] using h
 rw[fH,aZ W] at i;exact c1 o l q i
theorem PF (U:gB ad a d) (o:ad[w]? =g af) (K:af.aL=4) (Y:af.ao=[Z]) (q:ad[Z]? =g gI) (ai:gI.aL=2) (m:gI.ao=bA::Q):ke ad (eg ad [c2 Q,dZ bA af,dZ ad.length af] w (c2 [ad.length+1,ad.length+2])) (a+3) d:=by
 have aa:=(co.mp o).1;have aq:=U.dD af (bF o);have ae:=U.dD gI (bF q);refine aU U.iQ λau N=>?_;have aj:Z∈af.ao:=by refine c Y ?_;simp
 have aV:=aq.bU Z aj;have k:=N w af o (a3 (D K)) Z aj;have ag:∀{A},A∈Q->A∈gI.ao:=λT=>by exact c m<|jA _ T
 have av:bA∈gI.ao:=by refine c m ?_;simp
 have aC:=N Z gI q (aD (al 1 (ab ai))) bA av;have aw:=ae.bU bA av;have aE:=U.c gI (bF q);rw[m,hm] at aE;have v:∀{M:e} {X},[c2 Q,dZ bA af,dZ ad.length af][M]? =g X->(M=0/\X=c2 Q)\/(M=1/\X=dZ bA af)\/(M=2/\X=dZ ad.length af):=λ{M X}=>nX (U:=λM X=>(M=0/\X=c2 Q)\/(M=1/\X=dZ bA af)\/(M=2/\X=dZ ad.length af)) (ap ⟨rfl,rfl⟩) (nX (ar (ap ⟨rfl,rfl⟩)) (nX (ar (ar ⟨rfl,rfl⟩)) xd)) M X;refine⟨rm U (U.iO o (a3 (dr (D K) rfl))) aa (ql λA h=>by simp at h⊢;exact h.elim (λJ=>bJ 1 (al 1 (ab J))) λJ=>al 1 (ab J)) (λX I=>?_) (by refine(?_:2<=_);exact fS _ _) (λX I=>?_) (qW) (λC=>if C<ad.length then 4*au C else if C=ad.length then 4*au Z- 1 else 4*au Z) (λC X I _ aF A h=>?_) (λ_ A h=>?_) (λM X I aF A h=>?_),by exact c (nU ..)<|bX _ _,λaM b P=>?_,rl o λT=>(fn (t (D K) (ab T)) rfl).elim⟩
 ·refine aU (j9.mp I) λM ax=>?_;rcases v ax with⟨_,rfl⟩|⟨_,rfl⟩|⟨_,rfl⟩
  ·exact ql λA h=>by have:=ae.bU A (ag h);exact bJ 3 this
  ·exact Bg aq K (bJ 3 aw)
  exact Bg aq K (by simp)
 ·refine aU (j9.mp I) λM ax=>?_;rcases v ax with⟨_,rfl⟩|⟨_,rfl⟩|⟨_,rfl⟩
  ·refine(?_:Q.length<=_);exact Kt aE
  ·refine(?_:1<=_);exact dr (fS _ _) rfl
  refine(?_:1<=_);exact dr (fS _ _) rfl
 ·have:=N C X I aF A h;exact c (aZ ((U.dD X (bF I)).bU A h))<|c (aZ (co.mp I).1)<|y6 this
 ·have h:A=ad.length+1\/A=ad.length+2:=by simpa [c2] using h
  exact c (ay (h.elim (λJ=>fo (H 1 (D J))) λJ=>fo (H 2 (D J))))<|c (ay (h.elim (λJ=>a3 (D J)) λJ=>a3 (H 1 (D J))))<|c (aZ aa)<|y6 k
 ·rcases v I with⟨rfl,rfl⟩|⟨rfl,rfl⟩|⟨rfl,rfl⟩
  ·have:=N Z gI q (aD (al 1 (ab ai))) A (ag h);exact c (aZ (ae.bU A (ag h)))<|c (ay (by exact fo (bv _)))<|c (aZ (yo _))<|KJ this
  ·obtain rfl:A=bA:=by simpa [dZ] using h
   exact c (aZ aw)<|c (ay (fo (bX _ _)))<|c (ay (a3 (fm rfl)))<|y6 aC
  obtain rfl:A=ad.length:=by simpa [dZ] using h
  exact c (ay (fo (bv _)))<|c (aZ rfl)<|c (ay (fo (bX _ _)))<|c (ay (a3 (fm rfl)))<|KS aC
 let W:=eg ad [c2 Q,dZ bA af,dZ ad.length af] w (c2 [ad.length+1,ad.length+2]);have aO:W[ad.length]? =g (c2 Q):=ro (d:=0) aa rfl;have aG:W[ad.length+1]? =g (dZ bA af):=ro (d:=1) aa rfl;have p:W[ad.length+2]? =g (dZ ad.length af):=ro (d:=2) aa rfl;have aP:Z≠w:=λF=>by subst F;rw[o] at q;obtain rfl:=bm q;exact aS k
 have az:aM gI=R:=b.c2 gI (ap ai) (ae.lW (aD (ah (al 1 (ab ai)) rfl)));have aI:W[Z]? =g gI:=uy aP q;refine rn (dn:=λM=>if M=0 then Z else w) U o (λM T E=>c1 (kK aa) b.jU (W:=ad.length+1) (by simp[c2]) (eX aG ((b.dZ K bA).trans T) E)) (λT A h i=>?_) (λM T=>by rw[b.jU] at T;exact ce T) (λT A h i=>?_) (λM X aW I l E=>?_) λM X I l A h i=>?_
 ·rw[Y] at h
  obtain rfl:A=Z:=by simpa using h
  cases i with
  |eX G aA aB=>rw[aI] at G;obtain rfl:=bm G;rw[az] at aA;exact ce aA
  |c1 G aA aB y=>
   rw[aI] at G;obtain rfl:=bm G;rw[m] at aB;rcases eZ.mp aB with rfl|aQ
   ·exact c1 (kK aa) b.jU (W:=ad.length+1) (by simp[c2]) (c1 aG ((b.dZ K _).trans T) (by simp[dZ]) y)
   exact c1 (kK aa) b.jU (W:=ad.length+2) (hl _ (fC _)) (c1 p ((b.dZ K _).trans T) (W:=ad.length) (fC _) (c1 aO b.jU aQ y))
 ·have h:A=ad.length+1\/A=ad.length+2:=by simpa [c2] using h
  rw[fH,ay (h.elim (λJ=>fo (H 1 (D J))) λJ=>fo (H 2 (D J))),ay (K1 h)] at i;exact i
 ·rcases v I with⟨rfl,rfl⟩|⟨rfl,rfl⟩|⟨rfl,rfl⟩
  ·rw[b.jU] at l;exact ce l
  ·rw[b.dZ K] at l;exact eX o l E
  rw[b.dZ K] at l;exact eX o l E
 rcases v I with⟨rfl,rfl⟩|⟨rfl,rfl⟩|⟨rfl,rfl⟩
 ·rw[fH,aZ (ae.bU A (ag h))] at i;exact c1 q az (ag h) i
 ·rw[b.dZ K] at l;obtain rfl:A=bA:=by simpa [dZ] using h
  rw[fH,aZ aw] at i;exact c1 o l aj (c1 q az av i)
 rw[b.dZ K] at l;obtain rfl:A=ad.length:=by simpa [dZ] using h
 rw[fH,ay (fo (bv _)),pA,aZ rfl] at i;exact c1 o l aj i
theorem Fq (T:a∈Q):Q.getD (Q.idxOf a) 0=a:=by refine c (tI ..) (c (cY (vV T)) ?_);simp
noncomputable def fI (b:r dB) (v:e) (X:r e) (W:e):e:=if W=v then b.length else if W∈X then b.length+1+X.idxOf W else W
noncomputable def lY (b:r dB) (w:e):dB:=(b[w]?).getD ⟨0,[],[],64,0⟩
noncomputable def no (b:r dB) (v:e) (X:r e) (F:e) (a:r e):r dB:=c2 [F]::(X.map (λw=>cU (lY b w) ((lY b w).ao.map (fI b v X)))++[c2 (F::a.map (fI b v X))])
theorem vr (T:(no ad a Q d aB)[w]? =g af):(w=0/\af=c2 [d])\/(∃h b,w=h+1/\Q[h]? =g b/\af=cU (lY ad b) ((lY ad b).ao.map (fI ad a Q)))\/(w=Q.length+1/\af=c2 (d::aB.map (fI ad a Q))):=by
 cases w with
 |zero=>exact ap ⟨rfl,(bm T).symm⟩
 |succ w=>
  rw[no,YF] at T;by_cases N:w<Q.length
  ·rw[iz (by exact c (au ..)<|N),dp,e7] at T;refine ax T λb W m=>?_;exact bp m<|ar (ap (hf w b rfl W rfl))
  have:=(co.mp T).1;simp at this;obtain rfl:w=Q.length:=d4 (ep 1 this) (qq N);rw[oq (px (au ..))] at T;simp at T;exact ar (ar ⟨rfl,T.symm⟩)
theorem PL (U:gB ad a d) (o:ad[w]? =g af) (K:af.aL=3) (Y:af.ao=Z::Q) (aq:∀aa∈aB,aa<ad.length/\aa≠w) (a7:aB.length<=ad.length) (a8:2*ad.length+2<=a):ke ad (eg ad (no ad w aB Z Q) w (cU af ((ad.length+1+aB.length)::Q))) a d:=by
 have aw:=(co.mp o).1;have aM:=bF o;have G:=U.dD af aM;have v:=U.c af aM;rw[Y,hm] at v;refine aU U.iQ λai aO=>aU (GT ai ad.length) λaj aE=>?_;have aP:af.eR=[]:=G.lW (aD (al 1 (ab K)));have aF:(no ad w aB Z Q).length=aB.length+2:=by simp[no]
 have aG:Z∈af.ao:=by exact c Y<|fC _
 have ag:∀{A},A∈Q->A∈af.ao:=λT=>by exact c Y<|jA _ T
 have ah:=G.bU Z aG;have az:∀aa,aa<ad.length->ad[aa]? =g (lY ad aa):=λaa T=>by unfold lY;refine c (cY T) ?_;rfl
 have aA:∀aa,aa<ad.length->lY ad aa∈ad:=λaa T=>bF (az aa T);have aQ:∀A,A<ad.length->fI ad w aB A<ad.length+(aB.length+2):=λA h=>by
  unfold fI;split
  ·exact Ir (eH _)
  split
  ·exact K9 (vV ‹_›)
  exact t h (bX _ _)
 let aS:=λC=>if C<ad.length then ai C else if C=ad.length then aj+1 else if C<ad.length+1+aB.length then aj+2+ai (aB.getD (C- (ad.length+1)) 0) else 2*aj+3;have aV:∀A,A<ad.length->aS (fI ad w aB A)<=aj+2+ai A:=λA h=>by
  show(if fI ad w aB A<ad.length then _ else _)<=_;unfold fI;split
  ·exact c (ay (fo (bv _)))<|c (aZ rfl)<|H 1 (bX _ _)
  split
  ·rename_i N;have:=vV N;exact c (ay (by exact fo (H 1 (bX _ _))))<|c (ay (by exact a3 (bX _ _)))<|c (aZ (by exact cZ this _))<|c (pv ..)<|c (Fq N)<|bv _
  exact fS _ _
 have a9:gB (eg ad (no ad w aB Z Q) w (cU af ((ad.length+1+aB.length)::Q))) (a+(no ad w aB Z Q).length) (2*d+2):=by
  refine rm U (U.iO o (a3 (dr (D K) rfl))) aw (G.cU _ (bX _ _) (λA h=>?_) (λT=>(fn (t (D K) (ab T)) rfl).elim) (λT=>rW T) λT=>(fn (t T (ab K)) rfl).elim) (λX I=>?_) (pN v) (λX I=>?_) (qW) aS (λC X I _ aI A h=>?_) (λT=>absurd K T) (λM X I aI A h=>?_)
  ·rcases eZ.mp h with rfl|T
   ·exact c aF<|Lm
   have:=G.bU A (ag T);exact t this (bX _ _)
  ·refine aU (j9.mp I) λM N=>c aF ?_;rcases vr N with⟨_,rfl⟩|⟨ae,aa,_,W,rfl⟩|⟨_,rfl⟩
   ·exact ql λA h=>by simp at h;exact t (E 1 (ab h) ah) (bX _ _)
   ·have k:=(aq aa (bF W)).1;have J:=U.dD _ (aA aa k);exact J.cU _ (bX _ _) (λA h=>by refine ax (e5.mp h) λF y m=>?_;exact bp m<|aQ F (J.bU F y)) (λT=>by refine c (J.s8 T) ?_;rfl) (λT=>ym.mp T) λT=>by refine aU (J.eL T) λF y=>?_;refine c y ?_;rfl
   exact ql λA h=>by
    rcases eZ.mp h with rfl|T
    ·exact t ah (bX _ _)
    refine ax (e5.mp T) λF y m=>?_;exact bp m<|aQ F (G.bU F (ag y))
  ·refine aU (j9.mp I) λM N=>?_;rcases vr N with⟨_,rfl⟩|⟨ae,aa,_,W,rfl⟩|⟨_,rfl⟩
   ·refine(?_:1<=_);exact dr (fS _ _) rfl
   ·have:=U.c _ (aA aa (aq aa (bF W)).1);refine(?_:(List.map _ _).length<=_);exact c (au ..)<|pN this
   refine(?_:(Z::List.map _ _).length<=_);refine c (hm ..) (c (au ..) (pN v))
  ·have:=aO C X I aI A h;show(if A<ad.length then _ else _)<(if C<ad.length then _ else _);exact c (aZ ((U.dD X (bF I)).bU A h))<|c (aZ (co.mp I).1)<|this
  rcases vr I with⟨rfl,rfl⟩|⟨ae,aa,rfl,W,rfl⟩|⟨rfl,rfl⟩
  ·obtain rfl:A=Z:=by simpa [c2] using h
   show(if A<ad.length then _ else _)<(if ad.length+0<ad.length then _ else if ad.length+0=ad.length then _ else _);have:=aE A ah;exact c (aZ ah)<|c (ay (by exact fo (bv _)))<|c (aZ (yo _))<|al 1 this
  ·have k:=(aq aa (bF W)).1;refine ax (e5.mp h) λF y m=>?_;refine bp m ?_;have i:=aO aa _ (az aa k) aI F y;have p:=aV F ((U.dD _ (aA aa k)).bU F y);have a':=(co.mp W).1;refine(?_:_<(if ad.length+(ae+1)<ad.length then _ else if ad.length+(ae+1)=ad.length then _ else if ad.length+(ae+1)<ad.length+1+aB.length then aj+2+ai (aB.getD (ad.length+(ae+1)- (ad.length+1)) 0) else _));exact c (ay (fo (bX _ _)))<|c (ay (C'))<|c (aZ (by exact Lt a'))<|c (show ad.length+(ae+1)- (ad.length+1)=ae by exact LD)<|c (tI ..)<|c W<|kB p (by refine(?_:_<aj+2+ai aa);exact cZ i _)
  show _<(if ad.length+(aB.length+1)<ad.length then _ else if ad.length+(aB.length+1)=ad.length then _ else if ad.length+(aB.length+1)<ad.length+1+aB.length then _ else _);refine c (ay (fo (bX _ _))) (c (ay (C')) (c (ay LK) ?_));rcases eZ.mp h with rfl|T
  ·show(if A<ad.length then _ else _)<_;have:=aE A ah;exact c (aZ ah) (al 1 (pN this))
  refine ax (e5.mp T) λF y m=>?_;refine bp m<|Vj (aV F (G.bU F (ag y))) (aE F (G.bU F (ag y)))
 refine⟨{a9 with bo:=by exact c (nU ..) (c aF (LL a7 a8))},by refine c (nU ..) ?_;exact bX _ _,λaW b P=>?_,rl o id⟩;have av:aW af=R:=b.c2 af (ar K) aP;have q:aW (cU af ((ad.length+1+aB.length)::Q))=R:=b.c2 _ (ar K) aP;have bb:(eg ad (no ad w aB Z Q) w (cU af ((ad.length+1+aB.length)::Q)))[ad.length+(1+aB.length)]? =g (c2 (Z::Q.map (fI ad w aB))):=ro aw (by rw[jo,no,YF,oq (px (au ..))];simp);let aC:=λM=>if M=0 then w else if M<aB.length+1 then aB.getD (M- 1) 0 else w;have aY:∀A,A<ad.length->fH ad aC (fI ad w aB A)=A:=λA h=>by
  unfold fI;split
  ·subst A;rw[fH,ay (fo (bv _)),pA];rfl
  split
  ·rename_i N;have:=vV N;rw[fH,ay (fo (H 1 (bX _ _))),show ad.length+1+aB.idxOf A- ad.length=aB.idxOf A+1 from Vk];refine(?_:(if aB.idxOf A+1=0 then _ else if aB.idxOf A+1<aB.length+1 then aB.getD (aB.idxOf A+1- 1) 0 else _)=_);exact c (ay (by exact a3 (fS _ _))) (c (aZ (by exact al 1 this)) (c (Iq ..) (c (Fq N) rfl)))
  first|rfl|exact if_pos h
 have a0:aC (aB.length+1)=w:=by refine(?_:(if aB.length+1=0 then _ else if aB.length+1<aB.length+1 then _ else _)=_);exact c (ay (a3 (fS _ _))) (c (ay (fo (bv _))) rfl)
 have a5:∀{ae aa:e},aB[ae]? =g aa->aC (ae+1)=aa:=λ{ae aa} T=>by have:=(co.mp T).1;refine(?_:(if ae+1=0 then _ else if ae+1<aB.length+1 then aB.getD (ae+1- 1) 0 else _)=_);refine c (ay (by exact a3 (fS _ _))) (c (aZ (by exact al 1 this)) (c (Iq ..) (c (tI ..) (c T ?_))));rfl
 refine rn (dn:=aC) U o (λM T=>by rw[av] at T;exact ce T) (λT A h i=>?_) (λM T=>by rw[q] at T;exact ce T) (λT A h i=>?_) (λM X bg I l be=>?_) λM X I l A h i=>?_
 ·rw[Y] at h;rcases eZ.mp h with rfl|T
  ·exact c1 (kK aw) q (W:=ad.length+(1+aB.length)) (by refine bp (ny ..) ?_;exact ky) (c1 bb b.jU (fC _) i)
  exact c1 (kK aw) q (jA _ T) i
 ·rcases eZ.mp h with rfl|T
  ·rw[fH,ay (fo (H 1 (bX _ _))),show ad.length+1+aB.length- ad.length=aB.length+1 by exact LM,a0] at i;exact i
  rw[fH,aZ (G.bU A (ag T))] at i;exact c1 o av (ag T) i
 ·rcases vr I with⟨rfl,rfl⟩|⟨ae,aa,rfl,W,rfl⟩|⟨rfl,rfl⟩
  ·rw[b.jU] at l;exact ce l
  ·have k:=(aq aa (bF W)).1;rw[b.cU _ _ (by rw[ym])] at l;exact c (a5 W ..)<|eX (az aa k) l be
  rw[b.jU] at l;exact ce l
 rcases vr I with⟨rfl,rfl⟩|⟨ae,aa,rfl,W,rfl⟩|⟨rfl,rfl⟩
 ·obtain rfl:A=Z:=by simpa [c2] using h
  rw[fH,aZ ah] at i;exact c1 o av aG i
 ·have k:=(aq aa (bF W)).1;rw[b.cU _ _ (by rw[ym])] at l;refine ax (e5.mp h) λF y m=>?_;subst m;rw[aY F ((U.dD _ (aA aa k)).bU F y)] at i;exact c (a5 W)<|c1 (az aa k) l y i
 refine c (a0 ..) ?_;rcases eZ.mp h with rfl|T
 ·rw[fH,aZ ah] at i;exact c1 o av aG i
 refine ax (e5.mp T) λF y m=>?_;subst m;rw[aY F (G.bU F (ag y))] at i;exact c1 o av (ag y) i
noncomputable abbrev c5 (b:r cN):r dB:=b.map (·.J)
theorem AS (T:Q.Nodup) (b:∀W∈Q,W≠d):(Q.set a d).Nodup:=by
 refine BW.mpr (YS.mpr λy P U E M=>?_);rw[mR] at U E;refine c (YJ ..) (c (YJ ..) ?_);split
 ·exact c (ay λZ=>aS (t M (ab (Z.symm.trans ‹a=y›))))<|(b _ (tK E)).symm
 split
 ·exact b _ (tK U)
 exact YS.mp (BW.mp T) y P U E M
theorem cO.WH (m:cO b a d a') (A:a'[w]? =g bD) (X:e8 b aj bD.a9 (iS (cU bD.J Q) Z)) (T:M b Z (V (bg Q))) (Y:a<=Z) (C:∀bD∈a',bD.bU≠Z) (i:∀bD∈a',bD.a9≠Z):cO aj a d (a'.set w ⟨bD.a9,Z,cU bD.J Q⟩):=by
 have N:=bF A;refine⟨by exact c (vh (dH:=(⟨bD.a9,Z,cU bD.J Q⟩:cN)) A rfl)<|m.cW.G X.o (m.d8 N N).1,λh p=>?_,λh p=>?_,by exact c (vh (dH:=(⟨bD.a9,Z,cU bD.J Q⟩:cN)) A rfl)<|m.dN,?_,m.ic,m.jb⟩
 ·rcases o9 p with rfl|⟨k,W,p⟩
  ·exact⟨X.aF,T.G X.o (λF=>i bD N F.symm)⟩
  have l:=bF p;refine⟨(m.a9 h l).1.G X.o λF=>W ?_,(m.a9 h l).2.G X.o (m.d8 N l).2.2.symm⟩;have D:k<(a'.map (·.a9)).length:=by exact c (au ..)<|(co.mp p).1
  exact(r7 D m.dN).mp (by exact c (dp ..)<|c (dp ..)<|c A<|c p<|congrArg g F)
 ·rcases o9 p with rfl|⟨k,_,p⟩
  ·exact⟨(m.cp bD N).1,Y⟩
  exact m.cp h (bF p)
 exact c (kx ..)<|AS m.cJ λv q=>by refine ax (e5.mp q) λbD A t=>?_;exact bp t<|C bD A
theorem cO.WG (m:cO b a d a') (y:w<a'.length) (X:e8 b aj d (V ((a'.map λaf=>x af.a9).set w (x Z)))) (Q:M b Z (iS af bA)) (T:M b bA (V (bg af.ao))) (i:a<=Z) (Y:a<=bA) (P:∀af∈a',af.a9≠Z) (K:∀af∈a',af.bU≠bA) (v:Z≠d) (D:bA≠d):cO aj a d (a'.set w ⟨Z,bA,af⟩):=by
 refine⟨by exact c (kx ..)<|X.aF,λh p=>?_,λh p=>?_,by exact c (kx ..)<|AS m.dN λW q=>by refine ax (e5.mp q) λaf A t=>?_;exact bp t<|P af A,by exact c (kx ..)<|AS m.cJ λW q=>by refine ax (e5.mp q) λaf A t=>?_;exact bp t<|K af A,m.ic,m.jb⟩
 ·rcases o9 p with rfl|⟨k,_,p⟩
  ·exact⟨Q.G X.o v,T.G X.o D⟩
  have l:=bF p;exact⟨(m.a9 h l).1.G X.o (m.d8 l l).1.symm,(m.a9 h l).2.G X.o (m.d8 l l).2.1.symm⟩
 rcases o9 p with rfl|⟨k,_,p⟩
 ·exact⟨i,Y⟩
 exact m.cp h (bF p)
theorem cO.jv (m:cO b a d a'):d<b.i/\∀N∈a',N.a9<b.i/\N.bU<b.i:=⟨m.cW.bj,λN A=>⟨(m.a9 N A).1.bj,(m.a9 N A).2.bj⟩⟩
def DK (D:b4):Prop:=∀(k c Z o:e) (A:r e) (b:r cN) (T:K) (G:q->K->Prop),cO T c k b->2<=b.length->b.length<=60->(∀N∈b,N.J.ao.length<=99)->G (I 0) T->(∀v N,0<v->b[v]? =g N->N.J.aL∈A->o<=N.J.ao.length->G (I v) T)->D 122 [x k,I Z,S (bg A),I o] T G
theorem G0 (M:cv aO):DK (bC aO (a+1)):=by
 intro k aE Z o ay ab T G af p ao az aA aB;refine cz (M.cy 69 rfl) rfl ?_;generalize bC aO a=D;have av:∀{ae:bu},ae 0=g (x k)->ag D ae T (bR eE (cT bo (n (f 0) z)) (u (j 1))) (I (ab.length- 1)):=λi=>by have:=pd (kQ (l:=D) af (ah (al 1 ao) rfl) (m i)) (U (C:=j 1));rw[show((ab.length:e):B)- 1=((ab.length- 1:e):B) by exact LN p] at this;exact this
 refine u9 (ab.length- 1) (ah (al 1 (t (mW _ _) ao)) rfl) (λ_ d H=>H=T/\d 0=g (x k)/\d 1=g (I Z)/\d 2=g (S (bg ay))/\d 3=g (I o)) (av rfl) (i9 rfl rfl rfl rfl rfl) ?_ λd H aC=>bl aC λF _=>by refine c F ?_;exact c3 U aA
 refine λw d H aF W aD Y=>rd aD λq ai X aw y=>?_;subst q;let v:=1+(Z+w)%(ab.length- 1);have Q:v<ab.length:=by have:=v0 (Z+w) (show ab.length- 1>0 by exact E 1 (c8 _) W);refine(?_:1+(Z+w)%(ab.length- 1)<_);exact LO this
 refine aU (⟨_,cY Q⟩:∃N,ab[v]? =g N) λN A=>?_;have aj:=bF A;have J:ag D (d.aP 4 (I w)) H (bR c9 (u (j 1)) (bR ht (bR c9 (f 1) (f 4)) (bR eE (cT bo (n (f 0) z)) (u (j 1))))) (I v):=by have:=mE (U (C:=j 1)) (pc (mE (m (l:=D) (h:=d.aP 4 (I w)) (b:=H) (a:=1) X) (m (a:=4) rfl)) (av (ae:=d.aP 4 (I w)) ai) (LP W));rw[show(1:B)+((Z:B)+(w:B))%((ab.length- 1:e):B)=((v:e):B) by refine(?_:_=(((1+(Z+w)%(ab.length- 1):e)):B));push_cast;rfl] at this;exact this
 have ax:∀{ae:bu},ae 0=g (x k)->ae 5=g (I v)->ag D ae H (as (f 0) (f 5)) (x N.a9):=λK P=>jX af (ah (al 1 ao) rfl) (m K) (m P) A;refine dL J (ec (ko (kP (u7 af aj (ax ai rfl)) (m aw) Ax) λ_=>u4 (kp (lX af aj (ax ai rfl)) (af.a9 N aj).2 (by refine c (au ..) ?_;have:=az N aj;unfold aa;exact ah (al 1 this) rfl)) (m y)) (λaq=>c3 (m rfl) (Y.vb _ _ _ ?_)) λ_=>eV (Y.dK _ _ (i9 rfl ai X aw y)));rw[ps,hB,hB] at aq;refine aB v N (by refine(?_:0<1+_);exact LQ) A aq.1 ?_;have:=aq.2;rw[au] at this;exact LR this
structure DG (a':r cN):Prop where
 cp:a'.length<=60
 bU:∀N∈a',N.J.ao.length<=99
 fJ:∀N∈a',∀W∈N.J.ao,W<a'.length
theorem QI (w:ag l h b A (x a)) (Q:ag l h b aw (x d)) (v:M b a (V ai)) (P:M b d (V d')) (K:0<a) (k:0<d) (C:a≠d) (D:ai.length+d'.length<aa) (Z:∀H,e8 b H a (V (ai++d'))->an bI H):aM l (b1 60 A (n aw z)) h b an:=w _ ⟨mB v K (ar (ar rfl)),Q _ (c4 v (c4 P (i9 K k C D (hJ v Z))))⟩
def M4 (D:b4):Prop:=∀(k c v:e) (b:r cN) (T:K) (G:q->K->Prop),cO T c k b->DG b->v<b.length->(∀U A H,aE ca T H->T.i<=U->M H U (aT (d3 I A λ_=>j 1))->A.Nodup->(∀Y∈A,Y<b.length)->G (x U) H)->D 123 [x k,I v] T G
theorem VR (bY:cv aO):M4 (bC aO (a+1)):=by
 intro b0 cf b2 af b cg aj aB b3 Z;refine cz (bY.cy 70 rfl) rfl ?_;generalize bC aO a=b4;refine aU (⟨_,cY b3⟩:∃N,af[b2]? =g N) λN bx=>?_;have aM:=bF bx;have aq:=aB.cp;have bz:=aB.bU N aM;have bA:=aj.jv;have aW:∀{bB:r e},bB.length<100000->(bg bB).length<aa:=λb=>by refine c (au ..) ?_;unfold aa;exact ah b rfl
 refine rM λbD aQ=>?_;have aY:=aj.G aQ.o λ_ _=>id;have X:=aQ.i;refine fA (p1 (bg N.J.ao) (λw=>((N.J.ao[w]?).map I).getD bI) (λ_=>true) (lX aY aM (jX aY (ah (al 1 aq) rfl) (m rfl) (m rfl) bx)) (aY.a9 N aM).2 (aW (ah (al 1 bz) rfl)) (λw cj Q _=>⟨U,λ_=>?_⟩) λp a0=>?_)
 ·refine hK Q λck b5=>c b5<|m rfl
 have bE:=a0.aF;rw[m9,au,p'] at bE;have b6:=aQ.o.az a0.o;refine pf (λbG d aC=>∃ae k,d 0=g (x b0)/\d 2=g (x b.i)/\d 3=g (x bD.i)/\aE ca b aC/\M aC b.i (aT (d3 I ae λ_=>j 1))/\M aC bD.i (V (bg k))/\ae.Nodup/\(∀Y∈ae,Y<af.length)/\(∀Y∈k,Y<af.length)/\k.length<=100+100*ae.length/\bG=k.length+101*(af.length- ae.length)) _ ⟨[],N.J.ao,rfl,rfl,rfl,b6,aQ.aF.G a0.o id,bE,kz,by simp,aB.fJ N aM,H 1 (t (al 1 bz) (bX _ _)),rfl⟩<|λbG d aC b7=>QA b7 λae k a5 aG y W bJ bM av K a7 ax a8=>?_
 have bN:=is av K;refine d7 _ (tx (m y) bM (aW (LS aq ax bN)) rfl) (λaV cm Y=>?_) (λ_=>c3 (m aG) (Z b.i ae aC W (bv _) bJ av K));rcases Yy k with rfl|⟨ag,T,rfl⟩
 ·exact eY aV
 simp only[YL] at ax a8;have a':=a7 T (by simp);refine xW (C:=I T) (m y) bM (E 1 (c8 _) (D X)) (aW (by simp;exact LT aq bN ax)) (by simp) λbO bb=>?_;have be:=bb.aF;rw[show(bg (ag.concat T)).dropLast=bg ag by simp] at be;have bk:=bJ.G bb.o (aD (D X));have bP:aE ca b bO:=W.cb bb.o (λ_ _ b=>b) λbl ai F=>aS (H 1 (E 1 (t (D X) (D F)) ai));have aI:=xM (l:=b4) (h:=d.aP 4 (I T)) (b:=bO) (A:=f 4) (aw:=f 2) (C:=I T) (m rfl) (m aG) bk rfl;rw[iH g6] at aI;by_cases aL:T∈ae
 ·rw[aZ aL] at aI;exact ex aI rfl (Y.dK _ _ ⟨_,De a8,ae,ag,a5,aG,y,bP,bk,be,av,K,λY b=>a7 Y (by simp[b]),H 1 ax,rfl⟩)
 rw[ay aL] at aI;refine aU (⟨_,cY a'⟩:∃N,af[T]? =g N) λq bQ=>?_;have aA:=bF bQ;have bp:=aB.bU q aA;have bq:ae.length+1<=af.length:=by
  have:=is (lE.mpr ⟨aL,av⟩) (C:=af.length) λW br=>by
   rcases eZ.mp br with rfl|br
   ·exact a'
   exact K W br
  simpa using this
 have b8:=aj.jb;have b9:=(aj.cp q aA).2;refine g8 aI rfl (jg U (m aG) (m rfl) bk (by have:=aj.ic;exact E 1 (c8 _) bA.1) rfl (by refine c (ld ..) ?_;unfold aa;exact ah (t bq aq) rfl) λb' bt=>?_);have bT:=bt.aF;rw[mp g6 av,s4 aL,oU (b:=λ_=>j 1) λcn _=>by unfold hF;split<;>rfl] at bT;have bV:aE ca b b':=bP.cb bt.o (λ_ _ b=>b) λbl ai F=>aS (E 1 (D F) ai);have bu:=aj.G bV λ_ _=>id;refine kq (QI (m y) (lX bu aA (jX bu (ah (al 1 aq) rfl) (m a5) (m rfl) bQ)) (be.G bt.o (a3 (D X))) (bu.a9 q aA).2 (E 1 (c8 _) (D X)) (t b8 b9) (by have:=(bA.2 q aA).2;exact a3 (H 1 (E 1 this (D X)))) (by refine c (au ..) (c (au ..) ?_);unfold aa;exact LU aq ax bp bq) λP bw=>Y.dK _ _ ⟨(ag++q.J.ao).length+101*(af.length- (ae++[T]).length),by simp;exact Dg a8 bp bq,ae++[T],ag++q.J.ao,a5,aG,y,bV.cb bw.o (λ_ _ b=>b) (λbl ai F=>aS (H 1 (E 1 (t (D X) (D F)) ai))),bT.G bw.o (aD (D X)),by exact c (show bg (ag++q.J.ao)=bg ag++bg q.J.ao from eq)<|bw.aF,iA.mpr (ch av (il _ _) (λbl ai cq aV F=>by simp at aV;subst aV;subst F;exact aL ai)),λY v=>?_,λY v=>?_,by simp;exact LV ax bp,rfl⟩)
 ·refine bi (d2.mp v) (λb=>K Y b) λb=>?_;simp at b;exact E 1 (ab b) a'
 exact bi (d2.mp v) (λb=>a7 Y (Tw b)) λb=>aB.fJ q aA Y b
theorem cO.n7 (m:cO b a d a') (C:a'≠[]) (W:aE ca b aj) (Q:M aj w (iS af Z)) (T:M aj Z (V (bg af.ao))) (h:b.i<=w) (Y:b.i<=Z) (X:e8 aj cs d (V (a'.map (λaf=>x af.a9)++[x w]))):cO cs a d (a'++[⟨w,Z,af⟩]):=by have c:=m.jv;have:=m.ic;exact(m.G W λ_ _=>id).mn X C Q T (H 1 (t (E 1 this c.1) h)) (H 1 (t (E 1 this c.1) Y)) (λaf A=>by have:=(c.2 af A).1;exact aD (t this h)) (λaf A=>by have:=(c.2 af A).2;exact aD (t this Y)) (a3 (t c.1 h)) (a3 (t c.1 Y))
theorem sV (U:zh l) (E:cO b a d a') (C:a'≠[]) (D:a'.length<1000) (w:ag l h b A (x d)) (Y:∀an:q->K->Prop,(∀m H,b.i<=m->aE ca b H->M H m (V (bg Q))->an (x m) H)->aM l aw h b an) (Z:∀H y m,aE (λP=>P=d) b H->cO H a d (a'++[⟨y,m,c2 Q⟩])->an bI H):aM l (b1 57 A (n (bh 113 (n aw z)) z)) h b an:=
 have I:=E.jb
 have J:=E.ic
 rh w (mB E.cW (t I J) (ap rfl)) (sU (Y _ λm k v W T=>U m Q k _ λp F=>ta ((E.G W λ_ _=>id).G F.o λ_ _=>id).cW (t I J) (by refine c (au ..) ?_;unfold aa;exact ah D rfl) λX N=>Z X k.i m (((W.az F.o)).cb N.o (λ_ _=>ed) λ_ _ b=>b) (E.n7 C (W.az F.o) F.aF (T.G F.o id) W.cq v N)))
theorem gB.Bf (U:gB (c5 a') a d) (P:a<=60) (h:d<=99):DG a':=by have b:∀N∈a',N.J∈c5 a':=λN A=>r' A;have:=U.bo;rw[au] at this;exact⟨t this P,λN A=>ej (U.c _ (b N A)) h,λN A W q=>by have:=(U.dD _ (b N A)).bU W q;rw[au] at this;exact this⟩
theorem ke.a0 (U:ke ad eJ a w) (T:a<=d):ke ad eJ d w:=⟨{U.b8 with bo:=ej U.b8.bo T},U.cq,U.hI,U.uO⟩
theorem gB.a0 (U:gB ad a w) (T:a<=d):gB ad d w:={U with bo:=ej U.bo T}
theorem lZ (T:a'[a]? =g bD):(c5 a')[a]? =g bD.J:=by refine c (dp ..) (c T ?_);rfl
def CU (c k:e) (b:r cN) (p d:e) (U:e->Prop) (T:K) (G:q->K->Prop):Prop:=∀E H,aE (λy=>c<=y\/U y) T H->cO H c k E->ke (c5 b) (c5 E) p d->G bI H
theorem SV (Z:aA cr h b):a7 l L h b aA:=Z
def M6 (D:b4):Prop:=∀(k c v p d:e) (b:r cN) (N:cN) (T:K) (G:q->K->Prop),cO T c k b->gB (c5 b) p d->p<=50->d<=99->b[v]? =g N->N.J.aL=4->CU c k b (p+3) d ca T G->D 125 [x k,I v] T G
theorem VT (cq:cv aO):M6 (bC aO (a+2)):=by
 intro aq aS v dv dx b N T dz aI bD cU cV aw bV bE;have bX:=x2 (a:=a) cq;refine cz (cq.cy 72 rfl) rfl ?_;generalize bC aO (a+1)=a8 at bX⊢;have bY:=bD.Bf (ah cU rfl) cV;have a':=bY.cp;have bG:=bF aw;have b0:=(co.mp aw).1;obtain⟨W,q⟩:=(bD.dD _ (r' bG)).eL (D bV);have cu:=bY.fJ N bG W (by rw[q];exact fC _);obtain⟨ax,Y⟩:∃ax,b[W]? =g ax:=⟨_,cY cu⟩;have bp:=bF Y;have aM:∀{cA},cA<200->cA<aa:=λT=>by unfold aa;exact ah T rfl
 have b2:=bY.bU ax bp;have cX:b≠[]:=λay=>by rw[ay] at b0;cases b0
 have b3:=aI.jb;have aU:=aI.ic;have cB:∀(aA:K) (aC:bu) (ae:r cN) (y P bJ:e) (b4:gZ),aE (λy=>aS<=y) T aA->cO aA aS aq ae->ae.length<100->ae[v]? =g N->aC 0=g (x aq)->aC 1=g (I v)->aC 3=g (x bJ)->bJ≠aq->M aA bJ (V [I y,I P])->(∀p cC,aE (λy=>aS<=y) T p->cO p aS aq cC->c5 cC=((c5 ae++[dZ y N.J,dZ P N.J]).set v (c2 [ae.length,ae.length+1]))->∀cD,b4 cr cD p)->a7 a8 (s (el dC 4 (f 3) (s (du (b1 57 (f 0) (n (.V (n (u (j 4)) (n (.V (n (f 4) z)) (n (as (as (f 0) (f 1)) (u (j 2))) (n (as (as (f 0) (f 1)) (u (j 3))) (n (u (j 0)) z)))))) z))) L)) (s (es (f 0) (f 1) (bh 113 (n (.V (n (bR eE (cT bo (n (f 0) z)) (u (j 2))) (n (bR eE (cT bo (n (f 0) z)) (u (j 1))) z))) z))) L)) aC aA b4:=by
  intro aA aC ae y P bJ b4 bM av b5 cE c0 c3 c6 c7 c8 bE;have bw:=(co.mp cE).1;have da:ae≠[]:=λay=>by rw[ay] at bw;cases bw
  refine pe [I y,I P] (λbb be aG=>be 0=g (x aq)/\be 1=g (I v)/\aE (λy=>y=aq) aA aG/\∃F:r cN,F.map (·.J)=[dZ y N.J,dZ P N.J].take bb/\cO aG aS aq (ae++F)) (m c6) (aM (show 2<200 by decide)) (λbb cD T dc=>oX dc λ_ _ W _=>c8.G W c7) ⟨c0,c3,.dO,[],rfl,by rw[eP];exact av⟩ ?_ ?_
  ·rintro bb cF be p dA dB ⟨bq,aC,bx,F,aV,k⟩ cH;obtain⟨br,dd,rfl,cI⟩:∃br,[dZ y N.J,dZ P N.J][bb]? =g (dZ br N.J)/\cF=I br/\bb<2:=by clear cH aV;revert bb cF;exact nX (d7 y rfl rfl (by decide)) (nX (d7 P rfl rfl (by decide)) xd)
   have b6:F.length=bb:=by have:=cS qC aV;rw[au,lD] at this;simp at this;exact this.trans (vZ (H 1 cI))
   have bN:(ae++F)[v]? =g N:=by rw[iz bw];exact cE
   have cL:=bF bN;have aj:(ae++F).length<1000:=by rw[dw];exact ah (al 1 (t (cZ (ep 1 (E 1 (ab b6) cI)) _) b5)) rfl
   have bO:∀{aG},aE ca p aG->cO aG aS aq (ae++F):=λW=>k.G W λ_ _=>id;have cM:∀{aG},aE ca p aG->ag a8 (be.aP 4 (I br)) aG (as (f 0) (f 1)) (x N.a9):=λW=>jX (bO W) aj (m bq) (m aC) bN;refine kq<|rh (m bq) (mB k.cW (t b3 aU) (ap rfl)) (ux (a:=4) (d:=N.J.hG) (w:=0) (Q:=[br]) (aB:=N.J.eR) U (X (m rfl) a5) (aM (show 1<200 by decide)) (λaG W=>Ut (bO W) cL (cM W)) (λaG W=>Uk (bO W) cL (cM W)) (λ_ _=>U) λbt bz=>ta (bO bz.o).cW (t b3 aU) (by rw[au];unfold aa;exact ah aj rfl) λbB bk=>cH.dK _ _ ⟨bq,aC,(bx.az (bz.o.a0 λ_ _=>ed)).az bk.o,F++[⟨p.i+1,p.i,dZ br N.J⟩],?_,?_⟩)
   ·rw[eq,aV,iB,dd];rfl
   rw[<-gx];exact k.n7 (λay=>da (List.append_eq_nil_iff.mp ay).1) bz.o bz.aF bz.cp (ge _) (bv _) bk
  rintro be p ⟨bq,aC,bx,F,aV,k⟩;have aV:F.map (·.J)=[dZ y N.J,dZ P N.J]:=aV;have b6:F.length=2:=by rw[<-au (f:=(·.J)),aV];rfl
  have aj:(ae++F).length=ae.length+2:=by exact c (dw ..) (c b6 rfl)
  have cP:∀{aQ:e},aQ<=2->ag a8 be p (bR eE (cT bo (n (f 0) z)) (u (j aQ))) (I (ae.length+2- aQ)):=λ{aQ} de=>by have:=pd (kQ (l:=a8) k (ah (al 1 (t (ab aj) (al 1 b5))) rfl) (m bq)) (U (C:=j aQ));rw[aj,show((ae.length+2:e):B)- (aQ:B)=((ae.length+2- aQ:e):B) from(tG (t de (fS 2 _))).symm] at this;exact this
  refine tj (sU (g5 (m6 (X (cP (aQ:=2) (by decide)) (X (cP (aQ:=1) (by decide)) a5) _ ⟨aM (show 2<200 by decide),cJ λbt aW=>?_⟩))));have df:M bt p.i (V (bg [ae.length,ae.length+1])):=aW.aF;refine z5 ?_;dsimp only;refine bX p.i [ae.length,ae.length+1] bt _ λbB bk=>?_;have bl:=(k.G aW.o λ_ _=>id).G bk.o λ_ _=>id;have b7:=aW.i;have aY:=k.jv;refine(m bq) _ ((m aC) _ (c4 bl.cW (i9 (t b3 aU) (pt _) (by refine c (au ..) ?_;refine(?_:v<_);exact H 2 (E 2 bw (D aj))) (by refine c (au ..) ?_;unfold aa;exact ah (al 1 (t (ab aj) (al 1 b5))) rfl) (hJ bl.cW λdg cQ=>?_))));have dh:=bl.WG (af:=c2 [ae.length,ae.length+1]) (w:=v) (Z:=bt.i) (bA:=p.i) (H 2 (E 2 bw (D aj))) cQ bk.aF (df.G bk.o id) (H 2 (E 1 (E 1 aU aY.1) (D b7))) (H 1 (E 1 aU aY.1)) (λN aw=>by have:=(aY.2 N aw).1;exact aD (H 1 (E 1 this (D b7)))) (λN aw=>by have:=(aY.2 N aw).2;exact aD this) (a3 (H 1 (E 1 aY.1 (D b7)))) (a3 aY.1);refine bE dg _ (((bM.cb bx (λ_ _ T=>T) λy _ ay=>by exact c ay<|aU).az ((aW.o.az bk.o).a0 λ_ _=>ed)).cb cQ.o (λ_ _ T=>T) λy _ ay=>by exact c ay<|aU) dh ?_ be;refine(?_:List.map _ _=_);exact c (kx ..) (c (eq ..) (c aV rfl))
 have di:ag a8 ((bu.aP (λ_=>R) 0 (x aq)).aP 1 (I v)) T (as (as (as (f 0) (f 1)) (u (j 1))) (u (j 0))) (I W):=e4 (d:=0) (lX aI bG (jX aI (ah (al 1 a') rfl) (m rfl) (m rfl) aw)) U (aI.a9 N bG).2 (by exact c q<|aM (show 1<200 by decide)) (by refine c q ?_;rfl);refine dL di (nl (X (m rfl) (X (m rfl) a5)) (aM (show 2<200 by decide)) λaA b8=>?_);have av:=aI.G b8.o λ_ _=>id;have b9:∀{p:K} {b':bu},cO p aS aq b->b' 0=g (x aq)->b' 2=g (I W)->ag a8 b' p (as (f 0) (f 2)) (x ax.a9):=λaI dj p=>jX aI (ah (al 1 a') rfl) (m dj) (m p) Y;have bM:aE (λy=>aS<=y) T aA:=b8.o.a0 λ_ _=>ed;have aY:=aI.jv;refine ec (ko (cx (u7 av bp (b9 av rfl rfl)) U) λ_=>jc (kp (lX av bp (b9 av rfl rfl)) (av.a9 ax bp).2 (by exact c (au ..)<|aM (ah (al 1 b2) rfl))) U) (λbP=>?_) λ_=>eV ?_
 ·rw[ps,hB,hB,au] at bP;have dm:ax.J.aL=2:=(iW (n:=2)).mp bP.1;obtain⟨y,aZ,cf⟩:∃y aZ,ax.J.ao=y::aZ:=by
   cases dn:ax.J.ao with
   |nil=>rw[dn] at bP;have:=bP.2;simp at this
   |cons y dp=>exact js y dp rfl
  refine kq (sV bX av cX (ah (al 1 a') rfl) (m rfl) (Q:=aZ) (λdE dq=>z6 (lX av bp (b9 av rfl rfl)) (av.a9 ax bp).2 (by exact c (au ..)<|aM (ah (al 1 b2) rfl)) λp cR=>dq aA.i p (bv _) cR.o (by have:=cR.aF;rw[cf] at this;exact this)) λp bQ bT bx k=>?_);have bN:(b++[⟨bQ,bT,c2 aZ⟩])[v]? =g N:=by exact c (iz b0)<|aw
  have cg:(b++[⟨bQ,bT,c2 aZ⟩])[W]? =g ax:=by exact c (iz cu)<|Y
  have aj:(b++[(⟨bQ,bT,c2 aZ⟩:cN)]).length=b.length+1:=dw;have dr:=k.jv.1;refine nl (ai:=[I y,I b.length]) (X (e4 (d:=0) (lX k (bF cg) (jX k (ah (al 1 (d9 1 (ab aj) a')) rfl) (m rfl) (m rfl) cg)) U (k.a9 ax (bF cg)).2 (by exact c (au ..)<|aM (ah (al 1 b2) rfl)) (by refine c cf ?_;rfl)) (X (by have:=pd (kQ (l:=a8) (h:=(((bu.aP (λ_=>R) 0 (x aq)).aP 1 (I v)).aP 2 (I W)).aP 3 (x T.i)) (A:=f 0) k (ah (al 1 (d9 1 (ab aj) a')) rfl) (m rfl)) (U (C:=j 1));rw[aj,show((b.length+1:e):B)- 1=((b.length:e):B) by exact uc] at this;exact this) a5)) (aM (show 2<200 by decide)) λbt aW=>?_;have dt:=(bM.cb bx (λ_ _ T=>T) λy _ ay=>by exact c ay<|aU).az (aW.o.a0 λ_ _=>ed);refine SV (cB bt _ _ y b.length p.i _ dt (k.G aW.o λ_ _=>id) (ah (al 1 (d9 1 (ab aj) a')) rfl) bN rfl rfl rfl (a3 dr) aW.aF λbB cj ck bl cm _=>bE cj bB (ck.a0 λ_ _=>ap) bl ?_);refine c cm (c aj (c (show c5 (b++[⟨bQ,bT,c2 aZ⟩])=c5 b++[c2 aZ] from eq) ?_));have cn:(c5 b).length=b.length:=au ..;have:=PF bD (lZ aw) bV q (lZ Y) dm cf;rw[eg,cn] at this;simpa [gx] using this
 refine cB aA _ b W W T.i _ bM av (ah (al 1 a') rfl) aw rfl rfl rfl (a3 aY.1) b8.aF λbB cj ck bl cm _=>bE cj bB (ck.a0 λ_ _=>ap) bl ?_;have cn:(c5 b).length=b.length:=au ..;have:=PG bD (lZ aw) bV q;rw[eg,cn] at this;exact c cm<|this.a0 (ty rfl)
theorem QU (K:ag l h b A (x a)) (v:M b a (aT (d3 I Q hx))) (C:Q.Nodup) (D:Q.length<64) (Z:∀k H,k.Nodup->(∀W,W∈k↔W∈Q)->k.length=Q.length->hb b H (V (bg k))->an (x b.i) H):aM l (cT oc (n A z)) h b an:=by
 have o:o3 ((d3 I Q hx).map (·.1))=g (Q.map λW:e=>(W:B)):=by
  clear v C D Z
  induction Q with
  |nil=>rfl
  |cons Y Q t=>refine(?_:(o3 ((d3 I Q hx).map (·.1))).map ((Y:B)::·)=_);refine c t ?_;rfl
 refine K _ (c4 v (fa o ⟨by refine c (au ..) ?_;exact D,cJ λH X=>?_⟩));have J:(ob (Q.map λW:e=>(W:B))).Perm (Q.map λW:e=>(W:B)):=Ij ..;have p:((ob (Q.map λW:e=>(W:B))).map kw).Perm Q:=by have:=J.map kw;rwa [l',show(kw∘λW:e=>(W:B))=id from rfl,YP] at this
 have d:(ob (Q.map λW:e=>(W:B))).map q.j=bg ((ob (Q.map λW:e=>(W:B))).map kw):=by rw[bg,l'];refine BS λF y=>ax (e5.mp (J.mem_iff.mp y)) λw _ m=>?_;refine bp m ?_;rfl
 rw[d] at X;exact Z _ H (p.nodup_iff.mpr C) (λW=>p.mem_iff) p.length_eq X
theorem QE (U:e->Prop) (D:Q.length<1000) (C:Q.Nodup) (v:M b a (V (bg Q))) (T:∀W ab,W∈Q->aE ca b ab->∀an:q->K->Prop,(∀ag p,aE ca ab p->(ag=true->U W)->an (aK ag) p)->aM l A (h.aP d (I W)) ab an) (Z:∀ao X ab,aE ca b ab->b.i<=ao->X.Nodup->X.length<=Q.length->(∀W∈X,W∈Q/\U W)->M ab ao (V (bg X))->an (x ao) ab):g4 dC (x a) b λt k=>∃aI,hS (λh b aq=>aM l (f d) h b aq) (λh b aq=>aM l A h b aq) h d aI t [] k λX p=>X.length<aa/\gG p (V X) an:=by
 have ay:(bg Q).length<aa:=by refine c (au ..) ?_;unfold aa;exact ah D rfl
 refine c4 v (wT (λw=>f3 a w) (λw=>I (Q.getD w 0)) Q.length (λw ae ab=>aE ca b ab/\∃X,ae=bg X/\X.Nodup/\X.length<=w/\∀W∈X,W∈Q.take w/\U W) (λw ae ab aL ai P Z=>?_) (λae ab aL P Z=>?_) ⟨.dO,[],rfl,kz,bv _,λ_=>em⟩ (λw ae ab aO aV ai P aQ aS=>?_) (λae ab P=>?_) (by unfold aa;exact ah D rfl) λw ae ab P=>?_)
 ·refine c4 (v.G P.1 id) ⟨ay,?_⟩;refine c (dp ..) (c (cY ai) ?_);rw[tI,cY ai] at Z;exact Z
 ·refine c4 (v.G P.1 id) ⟨ay,?_⟩;exact c (r6 (px (au ..)))<|Z
 ·refine zX P λW X m aj Y af=>?_;subst m
  have av:Q[w]? =g (Q.getD w 0):=by refine c (tI ..) (c (cY ai) ?_);rfl
  have J:Q.take (w+1)=Q.take w++[Q.getD w 0]:=by refine c (iB ..) (c av ?_);rfl
  generalize Q.getD w 0=ax at av J⊢
  refine T ax ab (bF av) W _ λag p aA N=>?_
  have aB:∀F∈X,F∈Q.take (w+1)/\U F:=λF y=>⟨by exact c J<|jm _ (af F y).1,(af F y).2⟩
  cases ag with
  |true=>
   refine(fa ii ?_:aM l (f d) (bu.aP h d (I ax)) p aO);refine aQ _ _ (by refine c (au ..) ?_;unfold aa;exact bJ 1047576 (H 1 (E 1 (E 1 Y ai) D))) ⟨W.az aA,X++[ax],F4,iA.mpr (ch aj (il _ _) (λa aU ag aC aw=>?_)),by simp;exact Y,λF y=>?_⟩
   ·rw[e6] at aC;subst aC;subst aw;have k:=(af a aU).1;have aD:(Q.take (w+1)).Nodup:=C.sublist (YW ..);rw[J,iA] at aD;exact aD.2.2 a k a (fC _) rfl
   refine bi (d2.mp y) (λb=>aB F b) λb=>?_;rw[e6] at b;subst b;exact⟨by exact c J<|xx,N rfl⟩
  |false=>exact aS _ ⟨W.az aA,X,rfl,aj,bJ 1 Y,aB⟩
 ·refine zX P λW X m aj Y af=>?_;refine c m ?_;exact⟨by refine c (au ..) ?_;unfold aa;exact ah (E 1 Y D) rfl,cJ λp aG=>Z ab.i X p (W.az aG.o) W.cq aj Y (λF y=>⟨yn (af F y).1,(af F y).2⟩) aG.aF⟩
 refine zX P λ_ X m _ Y _=>?_;exact c m<|c (au ..)<|Y
theorem wZ (Z:aM l A h b λJ k=>g4 hM J k λt k=>∃C,hS (λh b G=>aM l dI h b G) (λh b G=>aM l aw h b G) h a C t [] k λX p=>X.length<aa/\gG p (V X) an):aM l (fx hM dI a A aw) h b an:=Z
theorem AB (X:r q) (o:e->q) (v:M b a (V X)) (D:X.length<aa) (T:∀w J,X[w]? =g J->w<X.length->ag l (h.aP d J) b A (o w)) (Z:∀H,hb b H (V ((eQ X.length).map o))->an (x b.i) H):g4 dC (x a) b λt k=>∃C,hS (λh b G=>aM l A h b G) (λh b G=>aM l (u (aK true)) h b G) h d C t [] k λX p=>X.length<aa/\gG p (V X) an:=c4 v (wS X v D (λ_=>true) o (λw J m I Q W E F=>T w J Q W _ (E rfl)) ⟨by exact c (m9 ..)<|c (au ..)<|c (k7 ..)<|D,cJ λH y=>Z H (by rw[m9] at y;exact y)⟩)
structure hC (b:K) (d a:e) (a':r cN) (c:r (e×cN)):Prop where
 cW:M b a (V (a'.map (λN=>x N.a9)++c.map λeC=>x eC.1))
 a9:∀N∈a',M b N.a9 (iS N.J N.bU)/\M b N.bU (V (bg N.J.ao))
 eC:∀eC∈c,M b eC.1 (iS eC.2.J eC.2.bU)
 cp:∀N∈a',d<=N.a9/\d<=N.bU
 xu:∀eC∈c,d<=eC.1
 dN:(a'.map (·.a9)++c.map (·.1)).Nodup
 cJ:(a'.map (·.bU)).Nodup
 ic:d<=a
 jb:0<d
 d8:a'≠[]
noncomputable def oa:dY->e
 |V (x _::_)=>1
 |V (j _::x _::_)=>2
 |V _=>3
 |_=>4
theorem M.oa (A:M b a bN) (w:M b d lz) (F:Mine.Tactic.P.oa bN≠Mine.Tactic.P.oa lz):a≠d:=λZ=>F (by rw[Z] at A;exact c (A.cm w) rfl)
theorem Bm (o:r e):Mine.Tactic.P.oa (V (bg o))=3:=by
 match o with
 |[]=>rfl
 |[y]=>rfl
 |y::a::h=>rfl
theorem hC.Ud (m:cO b a d a') (C:a'≠[]):hC b a d a' []:=⟨by exact c (BU ..)<|c (eP ..)<|m.cW,m.a9,λ_=>em,m.cp,λ_=>em,by exact c (BU ..)<|c (eP ..)<|m.dN,m.cJ,m.ic,m.jb,C⟩
theorem hC.Xn (k:hC b a d a' []):cO b a d a':=⟨by have:=k.cW;rwa [BU,eP] at this,k.a9,k.cp,by have:=k.dN;rwa [BU,eP] at this,k.cJ,k.ic,k.jb⟩
theorem hC.G (k:hC b a d a' fX) (W:aE ca b aj):hC aj a d a' fX:={k with cW:=k.cW.G W id,a9:=λN A=>⟨(k.a9 N A).1.G W id,(k.a9 N A).2.G W id⟩,eC:=λU c=>(k.eC U c).G W id}
theorem hC.Hh (k:hC b a d a' fX):oa (V (a'.map (λN=>q.x N.a9)++fX.map λU=>x U.1))=1:=by
 have:=k.d8
 cases a' with
 |nil=>exact absurd rfl this
 |cons N h=>rfl
theorem hC.P6 (k:hC b a d a' fX) (W:aE ca b aj) (Q:M aj w (iS bD.J bD.bU)) (q:b.i<=w) (X:e8 aj cs d (V ((a'.map (λbD=>x bD.a9)++fX.map λU=>x U.1)++[x w]))):hC cs a d a' (fX++[(w,bD)]):=by
 have C:=k.Hh;have l:=k.cW.bj;have h:∀{P I},M b P I->oa I≠1->P≠d:=λv Z=>v.oa k.cW (by exact c C<|Z);have K:=k.ic;refine⟨by refine c (eq ..) (bp (gx ..) ?_);exact X.aF,λbD A=>⟨((k.a9 bD A).1.G W id).G X.o (h (k.a9 bD A).1 (by refine(?_:2≠1);decide)),((k.a9 bD A).2.G W id).G X.o (h (k.a9 bD A).2 (by rw[Bm];decide))⟩,λU m=>?_,k.cp,λU m=>?_,?_,k.cJ,k.ic,k.jb,k.d8⟩
 ·refine bi (d2.mp m) (λm=>?_) λm=>?_
  ·exact((k.eC U m).G W id).G X.o (h (k.eC U m) (by refine(?_:2≠1);decide))
  exact gR m<|Q.G X.o (by refine(?_:w≠d);exact a3 (t l q))
 ·refine bi (d2.mp m) (λm=>k.xu U m) λm=>?_;rw[e6] at m;subst m;refine(?_:a<=w);exact H 1 (t (E 1 K l) q)
 rw[eq,<-gx,iA];refine ch k.dN (il _ _) (λy p P D F=>?_);obtain rfl:P=w:=by simpa using D
 subst F;refine bi (d2.mp p) (λp=>?_) λp=>?_
 ·refine ax (e5.mp p) λbD A F=>?_;have:=(k.a9 bD A).1.bj;rw[F] at this;exact aS (E 1 q this)
 refine ax (e5.mp p) λU m F=>?_;have:=(k.eC U m).bj;rw[F] at this;exact aS (E 1 q this)
theorem hC.bp (k:hC b a d a' ((w,bD)::fX)) (W:aE ca b aj) (T:M aj Z (V (bg Q))) (Y:b.i<=Z) (X:e8 aj cs w (iS (cU bD.J Q) Z)):hC cs a d (a'++[⟨w,Z,cU bD.J Q⟩]) fX:=by
 have C:=k.Hh;have l:=k.cW.bj;have m:=k.eC _ ky;have K:=k.ic;have N:=m.bj;have D:∀{P I},M b P I->oa I≠2->P≠w:=λv af=>v.oa m af;have ab:=k.dN;rw[r8,iA] at ab;refine gq ab λag q ae=>?_;have ah:=lE.mp q;refine⟨?_,λh p=>?_,λU aa=>((k.eC U (jA _ aa)).G W id).G X.o λF=>ah.1 (e5.mpr (a8 U aa F)),λh p=>?_,λU aa=>k.xu U (jA _ aa),?_,?_,k.ic,k.jb,BK _ (qA _ _)⟩
 ·have:=(k.cW.G W id).G X.o (D k.cW (by refine c C ?_;decide));refine c (eq ..) (c (gx ..) ?_);exact this
 ·refine bi (d2.mp p) (λp=>?_) λp=>?_
  ·exact⟨((k.a9 h p).1.G W id).G X.o (ae h.a9 (r' p) w ky),((k.a9 h p).2.G W id).G X.o (D (k.a9 h p).2 (by rw[Bm];decide))⟩
  exact gR p<|⟨X.aF,T.G X.o (by refine(?_:¬Z=w);exact a3 (t N Y))⟩
 ·refine bi (d2.mp p) (λp=>?_) λp=>?_
  ·exact k.cp h p
  exact gR p<|⟨k.xu _ ky,by refine(?_:a<=Z);exact H 1 (t (E 1 K l) Y)⟩
 ·rw[eq,gx,iA];exact ch ag q ae
 rw[eq,iA];refine ch k.cJ (il _ _) (λy ai P ao F=>?_);obtain rfl:P=Z:=by simpa using ao
 refine ax (e5.mp ai) λbD A aq=>?_;have:=(k.a9 bD A).2.bj;rw[aq,F] at this;exact aS (E 1 Y this)
theorem hC.J (k:hC b a d a' fX) (D:a'.length+fX.length<1000) (K:ag l h b A (x d)) (o:ag l h b aw (I w)) (Q:(a'.map (λN=>q.x N.a9)++fX.map λU=>x U.1)[w]? =g C):ag l h b (as A aw) C:=e4 K o k.cW (by rw[dw,au,au];unfold aa;exact ah D rfl) Q
theorem hC.jv (k:hC b a d a' fX) (D:a'.length+fX.length<1000) (K:ag l h b A (x d)) (o:ag l h b aw (I w)) (c:a'[w]? =g bD):ag l h b (as A aw) (x bD.a9):=k.J D K o (by rw[iz (by rw[au];exact(co.mp c).1),dp,c];rfl)
theorem hC.bo (k:hC b a d a' fX) (D:a'.length+fX.length<1000) (K:ag l h b A (x d)):ag l h b (cT .bo (n A z)) (I (a'.length+fX.length)):=by have:=kp K k.cW (by rw[dw,au,au];unfold aa;exact ah D rfl);rwa [dw,au,au] at this
theorem FY (A:M b d (aT (d3 I aB λW=>I (fI ad a Q W)))) (K:∀W,W∈aB↔W=a\/W∈Q) (v:∀J,ag l (h.aP 7 J) b (f 6) (x d)) (c:M b w (V (bg c0))) (D:c0.length<1000) (Z:∀H,hb b H (V (bg (c0.map (fI ad a Q))))->an (x b.i) H):g4 dC (x w) b λt k=>∃y,hS (λh b G=>aM l (b1 59 (f 6) (n (f 7) (n (f 7) z))) h b G) (λh b G=>aM l (u (aK true)) h b G) h 7 y t [] k λQ p=>Q.length<aa/\gG p (V Q) an:=by
 refine AB (bg c0) (λo=>((c0[o]?).map λW=>I (fI ad a Q W)).getD bI) c (by rw[au];unfold aa;exact ah D rfl) (λo J E _=>?_) λH X=>Z H (by rw[au,p',show(c0.map λW=>I (fI ad a Q W))=bg (c0.map (fI ad a Q)) by simp[H0]] at X;exact X);refine hK E λW q=>?_;have:=xJ (v (I W)) (m (a:=7) ii) (m (a:=7) ii) A (C:=I W) (b2:=I W) rfl;rw[q];rw[iH g6] at this;by_cases N:W∈aB
 ·rw[aZ N] at this;exact this
 rw[ay N] at this;have F:fI ad a Q W=W:=by unfold fI;rw[ay λF=>N ((K W).mpr (ap F)),ay λF=>N ((K W).mpr (ar F))]
 refine(?_:ag l _ b _ (I (fI ad a Q W)));rw[F];exact this
def M5 (D:b4):Prop:=∀(k c v p d:e) (b:r cN) (N:cN) (T:K) (G:q->K->Prop),cO T c k b->gB (c5 b) p d->2*b.length+2<=p->p<=50->d<=99->b[v]? =g N->N.J.aL=3->CU c k b p d ca T G->D 124 [x k,I v] T G
theorem VS (aq:cv aO):M5 (bC aO (a+2)):=by
 intro bk c v p fa ae N T fb aW cM aG P ej A dE Z;have cO:=x2 (a:=a) aq;have cP:=VR (a:=a) aq;refine cz (aq.cy 71 rfl) rfl ?_;generalize bC aO (a+1)=cQ at cO cP⊢;have b':=cM.Bf (ah P rfl) ej;have cf:=bF A;have b2:=(co.mp A).1;have ek:ae≠[]:=λF=>by rw[F] at b2;cases b2
 have K:=aW.jb;have bA:=aW.ic;have b3:=b'.bU N cf;obtain⟨F,aI,bB⟩:∃F aI,N.J.ao=F::aI:=by
  have:=(cM.dD _ (r' cf)).rE dE
  cases en:N.J.ao with
  |nil=>exact absurd en this
  |cons y cg=>exact js y cg rfl
 have aY:∀{dF},dF<200->dF<aa:=λT=>by unfold aa;exact ah T rfl
 refine dL (e4 (d:=0) (C:=I F) (lX aW cf (jX aW (y9 aG P) (m rfl) (m rfl) A)) U (aW.a9 N cf).2 (by rw[au];exact aY (ah (al 1 b3) rfl)) (by rw[bB];rfl)) ?_;refine gP (X (m rfl) (X (m rfl) a5)) (cP bk c v ae T _ aW b' b2 λaM fc b cj a7 dG dH cR=>?_);have dI:=is dH cR;refine fA (wZ (QU (m rfl) dG dH (LW aG P dI) λfe aj ck cV dJ b4=>QE (λW=>W≠v) (LX aG P dI dJ) ck b4.aF (λW aQ q cX dM bD=>?_) λb5 af aQ cX eo cn Y cZ c0=>?_))
 ·have bx:=cR W ((cV W).mp q);have eu:=(aW.G (cj.az b4.o) λ_ _=>id).G cX λ_ _=>id;refine z1 (qf (m rfl) (m rfl)) (λcu=>z3 (m rfl) (fG (X (m rfl) (X (m rfl) a5)) (cP bk c W ae aQ _ eu b' bx λff fg c3 cx _ ew _ _=>c4 ew ⟨rfl,bD _ c3 cx λ_ F=>dq cu (by rw[F])⟩))) λ_=>bD false aQ .dO λT=>(eY T)
 have cA:aE ca T aQ:=(cj.az b4.o).az cX;have b6:∀ai∈af,ai<ae.length/\ai≠v:=λai av=>⟨cR ai ((cV ai).mp (cZ ai av).1),(cZ ai av).2⟩;have a':af.length<=ae.length:=is cn λW q=>(b6 W q).1;have c6:T.i<=b5:=t (t cj.cq b4.o.cq) eo;clear cZ Y cV ck dJ dG b4 cj;refine rM λc3 cB=>?_;have cx:aE ca T c3:=cA.az cB.o;have ey:=aW.G cx λ_ _=>id;have dN:0<aQ.i:=t (E 1 (c8 bk) aW.cW.bj) cA.cq;refine jg (kQ ey (y9 aG P) (m rfl)) (m rfl) (m rfl) cB.aF dN rfl (by decide) λc7 cC=>?_;have bE:(c5 ae).length=ae.length:=au ..;have fh:=cB.i;have ez:M c7 aQ.i (aT (d3 I (v::af.take 0) λW=>I (fI (c5 ae) v af W))):=by have:=cC.aF;rw[show et (I v) (I ae.length) []=d3 I (v::af.take 0) λW=>I (fI (c5 ae) v af W) by refine(?_:[(I v,I ae.length)]=[(I v,I (fI (c5 ae) v af v))]);rw[fI,aZ rfl,bE]] at this;exact this
 have dP:aE ca T c7:=cx.cb cC.o (λ_ _ T=>T) λy dQ F=>by have:=cA.cq;exact aS (E 1 (t this (D F)) dQ)
 have eA:=aW.G dP λ_ _=>id;have eB:=(c0.G cB.o id).G cC.o (by have:=c0.bj;exact aD this);refine kq (sV cO eA ek (y9 aG P) (m rfl) (Q:=[F]) (λdM bD=>m6 (X (m rfl) a5 _ ⟨aY (show 1<200 by decide),cJ λcD dR=>bD c7.i cD (bv _) dR.o dR.aF⟩)) λcD eD eF da dS=>?_);have dc:T.i<=aQ.i:=cA.cq;have bG:=aW.cW.bj;have dT:b5<aQ.i:=c0.bj;have fi:=cC.i;obtain⟨aC,dU⟩:∃aC:cN,aC=⟨eD,eF,c2 [F]⟩:=⟨_,rfl⟩;rw[<-dU] at dS;have bJ:(ae++[aC]).length=ae.length+1:=dw;have eG:=ez.G da (a3 (t bG dc));have dV:=eB.G da (a3 (t bG c6));have eI:aE (λy=>c<=y\/ca y) T cD:=dP.cb da (λ_ _=>ed) λy _ F=>ap (by rw[F];exact bA);have eJ:ae++[aC]≠[]:=BK _ (qA _ _);have dX:(bg af).length<aa:=by rw[au];exact aY (LZ aG P a')
 have dY:∀{W:e} {aq:cN},ae[W]? =g aq->(ae++[aC])[W]? =g aq:=λT=>by rw[iz (co.mp T).1];exact T
 have dZ:∀{ai W:e},af[ai]? =g W->fI (c5 ae) v af W=ae.length+1+ai:=λ{ai W} q=>by
  have bx:=bF q;unfold fI;rw[ay (b6 W bx).2,aZ bx,bE];have:af.idxOf W=ai:=by have av:=(co.mp q).1;rw[<-(co.mp q).2];exact cn.idxOf_getElem ai av
  rw[this]
 let cE:bu->Prop:=λh=>h 0=g (x bk)/\h 1=g (I v)/\h 2=g (I F)/\h 5=g (x b5)/\h 6=g (x aQ.i);have d0:∀{h bl},cE h->cE (h.aP 4 bl):=λT=>T;refine pe (bg af) (λai bM bN=>cE bM/\aE (λy=>y=bk\/y=aQ.i) cD bN/\M bN aQ.i (aT (d3 I (v::af.take ai) λW=>I (fI (c5 ae) v af W)))/\∃fX:r (e×cN),hC bN c bk (ae++[aC]) fX/\fX.length=ai/\∀(bb:e) (aM:e×cN),fX[bb]? =g aM->∃W,af[bb]? =g W/\ae[W]? =g aM.2) (m rfl) dX (λai h T dd=>gq dd λ_ W _=>dV.G W (dm (a3 (t bG c6)) (aD dT))) ⟨(i9 rfl rfl rfl rfl rfl),.dO,eG,[],.Ud dS eJ,rfl,λbb aM T=>ce T⟩ ?_ ?_
 ·refine λai bl bM de eK b7 df dg=>Qt df λav cF bO fX k aU dh=>hK b7 λW q=>?_;have av:=d0 (bl:=I W) av;have bq:=(co.mp q).1;have bx:=b6 W (bF q);obtain⟨aq,br⟩:∃aq,ae[W]? =g aq:=⟨_,cY bx.1⟩;have eL:W∉v::af.take ai:=λT=>by
   rcases eZ.mp T with F|T
   ·exact bx.2 F
   obtain⟨bb,bP,F⟩:=Ii.mp T;have:=(r7 (t bP (qH _ _)) cn).mp ((cY (t bP (qH _ _):bb<af.length)).trans ((cS g F).trans q.symm));exact aS (t (E 1 (D this) bP) (qG _ _))
  have ck:(v::af.take ai).Nodup:=lE.mpr ⟨λT=>(b6 v (yn T)).2 rfl,cn.sublist (YW ..)⟩;refine jg (k.bo (Di aG P a' bJ aU bq) (m av.1)) (m av.2.2.2.2) (m rfl) bO dN rfl (by rw[ld];simp;unfold aa;exact L0 aG P a') λbz di=>?_;have bt:=di.aF;rw[bJ,aU,mp g6 ck,s4 eL,oU (b:=λeM=>I (fI (c5 ae) v af eM)) λfj _=>by
   unfold hF;split
   ·rename_i F;rw[F,dZ q]
   rfl,show v::af.take ai++[W]=v::af.take (ai+1) by rw[iB,q];rfl] at bt
  have b8:hC bz c bk (ae++[aC]) fX:=by
   have cH:∀{cg af},M de cg (V af)->M bz cg (V af):=λv=>v.G di.o λF=>by rw[F] at v;exact dW (v.cm bO) rfl
   exact{k with cW:=cH k.cW,a9:=λN A=>⟨cH (k.a9 N A).1,cH (k.a9 N A).2⟩,eC:=λaM a7=>cH (k.eC aM a7)}
  have cI:=bF (dY br);refine kq (rh (m av.1) (mB b8.cW (t K bA) (ap rfl)) (wZ (hE (b8.jv (Di aG P a' bJ aU bq) (m av.1) (m rfl) (dY br)) (AB [I aq.J.aL,x aq.bU,S (bg aq.J.eR),I aq.J.hG,I aq.J.fO] (λai=>(([I aq.J.aL,x aq.bU,S (bg aq.J.eR),I aq.J.hG,I aq.J.fO][ai]?).map id).getD bI) (b8.a9 aq cI).1 (aY (show 5<200 by decide)) (λai bl b7 _=>by rw[b7];exact m ii) λdj aw=>?_))));have d1:=aw.aF;rw[p',YP] at d1;refine ta (b8.G aw.o).cW (t K bA) (by rw[dw,au,au];exact aY (L1 aG P a' bJ aU bq)) λb9 aV=>dg.dK _ _ ⟨av,((cF.cb di.o (λ_ _ T=>T) λ_ _=>ar).az (aw.o.a0 λ_ _=>ed)).cb aV.o (λ_ _ T=>T) λ_ _=>ap,(bt.G aw.o id).G aV.o (a3 (t bG dc)),fX++[(bz.i,aq)],b8.P6 aw.o d1 (bv _) aV,by rw[dw,aU];rfl,λbb aM a7=>?_⟩;by_cases bP:bb<fX.length
  ·rw[iz bP] at a7;exact dh bb aM a7
  have:=(co.mp a7).1;simp at this;obtain rfl:bb=fX.length:=d4 (ep 1 this) (qq bP);simp at a7;exact bp a7<|a8 W (by rw[aU];exact q) br
 rintro fk de ⟨d2,cF,bO,fX,eN,aU,dh⟩;rw[au] at aU;rw[au,jn] at bO;have d6:∀W,W∈v::af↔W=v\/W∈af:=λW=>eZ;have d7:=dV.G cF (dm (a3 (t bG c6)) (aD dT));refine pe (bg af) (λai bM bN=>cE bM/\aE (λy=>c<=y/\y≠aQ.i/\y≠b5) de bN/\∃aA:r cN,hC bN c bk (ae++[aC]++aA) (fX.drop ai)/\c5 aA=(af.take ai).map λW=>cU (lY (c5 ae) W) ((lY (c5 ae) W).ao.map (fI (c5 ae) v af))) (m d2.2.2.2.1) dX (λai h T dd=>gq dd λ_ W _=>d7.G W λT=>T.2.2 rfl) ⟨d2,.dO,[],by rw[eP];exact eN,rfl⟩ ?_ ?_
 ·rintro ai bl bM bz eK b7 ⟨av,bQ,aA,k,bT⟩ dg
  refine hK b7 λW q=>?_
  have av:=d0 (bl:=I W) av
  have bq:=(co.mp q).1
  obtain⟨aM,a7⟩:∃aM,fX[ai]? =g aM:=⟨_,cY (t bq (D aU))⟩
  refine ax (dh ai aM a7) λbV eO br=>?_
  obtain rfl:bV=W:=bm (eO.symm.trans q)
  obtain⟨be,aq⟩:=aM
  have eQ:fX.drop ai=(be,aq)::fX.drop (ai+1):=by rw[tH (t bq (D aU))];rw[(co.mp a7).2]
  rw[eQ] at k
  have dn:aA.length=ai:=by have:=cS qC bT;rw[au,au,lD] at this;exact Dj bq this
  have eS:(fX.drop (ai+1)).length=fX.length- (ai+1):=Ig
  have d9:(ae++[aC]++aA)[bV]? =g aq:=by rw[gx,iz (co.mp br).1];exact br
  have cI:=bF d9
  have Y:(ae++[aC]++aA).length=ae.length+1+ai:=by rw[dw,bJ,dn]
  have cu:(ae++[aC]++aA).length+((be,aq)::fX.drop (ai+1)).length<1000:=by rw[Y,hm,eS];exact L2 aG P a' aU bq
  have bt:=bO.G bQ λT=>T.2.1 rfl
  have eT:=b'.bU aq (bF br)
  refine tj (wZ (hE (e4 (d:=1) (C:=x aq.bU) (k.jv cu (m av.1) (m rfl) d9) U (k.a9 aq cI).1 (aY (show 5<200 by decide)) rfl) (FY bt d6 (λbl=>m av.2.2.2.2) (k.a9 aq cI).2 (ah (al 1 eT) rfl) λdj aw=>?_)))
  have d':=k.G aw.o
  have eV:ag cQ (bM.aP 4 (I bV)) dj (as (f 0) (as (f 6) (f 4))) (x be):=d'.J (w:=ae.length+1+ai) cu (m av.1) (u5 (m av.2.2.2.2) (m rfl) (bt.G aw.o id) rfl (by rw[iH g6,aZ (jA _ (bF q)),dZ q])) (by rw[oq (by rw[au,Y];exact bv _),au,Y,pA];rfl)
  have bY:=d'.eC _ ky
  have dp:=k.xu _ ky
  have fl:be<bz.i:=(k.eC _ ky).bj
  refine eV _ (U _ (c4 bY ⟨by refine(?_:0<be);have:c<=be:=dp;exact t K dp,by decide,show 1<5 by decide,aY (show 5<200 by decide),hJ bY λb9 aV=>dg.dK _ _ ⟨av,(bQ.az (aw.o.a0 λ_ _=>ed)).cb aV.o (λ_ _ T=>T) (λy _ F=>by
   rw[F];refine ch dp (λZ=>?_) (λZ=>?_)
   ·rw[show be=aQ.i from Z] at bY;exact dW (bY.cm (bt.G aw.o id)) rfl
   have b:=(d7.G bQ λT=>T.2.2 rfl).G aw.o id;rw[show be=b5 from Z] at bY;have aj:=cS oa (bY.cm b);rw[Bm] at aj;exact ei aj rfl),aA++[⟨be,bz.i,cU aq.J (aq.J.ao.map (fI (c5 ae) v af))⟩],by rw[<-gx];exact k.bp aw.o aw.aF (bv _) aV,?_⟩⟩))
  refine(?_:List.map _ (aA++_)=_)
  rw[eq,show List.map (λW:cN=>W.J) aA=_ from bT,iB,q,eq]
  congr 1
  have:lY (c5 ae) bV=aq.J:=by unfold lY;rw[lZ br];rfl
  refine(?_:[cU aq.J _]=[cU (lY (c5 ae) bV) ((lY (c5 ae) bV).ao.map (fI (c5 ae) v af))])
  rw[this]
 refine λeW bz df=>wV df λav bQ aA k bT=>?_;rw[au,List.drop_eq_nil_of_le (ab aU)] at k;rw[au,jn] at bT;have ea:=k.Xn;have dn:aA.length=af.length:=by have:=cS qC bT;rw[au,au] at this;exact this
 have Y:(ae++[aC]++aA).length=ae.length+1+af.length:=by rw[dw,bJ,dn]
 have dr:(ae++[aC]++aA)[v]? =g N:=by rw[gx,iz b2];exact A
 have eb:=bF dr;have bt:=bO.G bQ λT=>T.2.1 rfl;have e0:ae++[aC]++aA≠[]:=by simp
 refine kq (sV cO ea e0 (Dk aG P a' Y) (m av.1) (Q:=F::aI.map (fI (c5 ae) v af)) (λdM bD=>mr (m6 (X (m av.2.2.1) a5 _ ⟨aY (show 1<200 by decide),cJ λdj aw=>?_⟩))) λb9 dt dv e1 b0=>?_)
 ·have dx:=ea.G aw.o λ_ _=>id;refine wZ (z6 (lX dx eb (jX dx (Dk aG P a' Y) (m av.1) (m av.2.1) dr)) (dx.a9 N eb).2 (by rw[au];exact aY (ah (al 1 b3) rfl)) λb9 aV=>?_);have ec:=aV.aF;rw[bB,show(bg (F::aI)).drop 1=bg aI from rfl] at ec;have ee:aI.length<100:=by rw[bB,hm] at b3;exact ah b3 rfl
  refine FY ((bt.G aw.o id).G aV.o id) d6 (λbl=>m av.2.2.2.2) ec (ah ee rfl) λcL bw=>c4 ((aw.aF.G aV.o id).G bw.o id) (c4 bw.aF ⟨by rw[au,au];exact aY (by refine(?_:1+_<_);exact ah (qD ee 1) rfl),cJ λe3 ef=>bD _ e3 (t (t aw.o.cq aV.o.cq) bw.o.cq) (aw.o.az (aV.o.az (bw.o.az ef.o))) ef.aF⟩)
 ·have dz:(ae++[aC]++aA++[(⟨dt,dv,c2 (F::aI.map (fI (c5 ae) v af))⟩:cN)])[v]? =g N:=by rw[iz (H 1 (t (E 1 b2 (bX _ _)) (D Y)))];exact dr
  have dA:=bF dz
  have dB:(ae++[aC]++aA++[(⟨dt,dv,c2 (F::aI.map (fI (c5 ae) v af))⟩:cN)]).length=ae.length+1+af.length+1:=by rw[dw,Y];rfl
  have e5:ag cQ eW b9 (bR eE (cT bo (n (f 0) z)) (u (j 1))) (I (ae.length+1+af.length)):=by have:=pd (kQ (l:=cQ) b0 (by exact Dl aG P a' dB) (m av.1)) (U (C:=j 1));rw[dB,show((ae.length+1+af.length+1:e):B)- 1=((ae.length+1+af.length:e):B) by exact L3] at this;exact this
  have eh:=(b0.cp N dA).2
  refine xR (d:=0) e5 (lX b0 dA (jX b0 (Dl aG P a' dB) (m av.1) (m av.2.1) dz)) U (b0.a9 N dA).2 (t K eh) (by rw[bB];exact eH _) (by rw[au];exact aY (ah (al 1 b3) rfl)) λcL bw=>?_
  have e6:e8 b9 cL N.bU (V (bg ((ae.length+1+af.length)::aI))):=by rw[bB,show(bg (F::aI)).set 0 (I (ae.length+1+af.length))=bg ((ae.length+1+af.length)::aI) from rfl] at bw;exact bw
  have e7:=b0.Bl dz e6
  have e':aE (λy=>c<=y\/ca y) T cL:=(((eI.cb cF (λ_ _ T=>T) λy dQ F=>ap (by rcases F with rfl|rfl;{exact bA};{exact H 1 (t (E 1 bA bG) dc)})).cb bQ (λ_ _ T=>T) λy _ T=>ap T.1).cb e1 (λ_ _ T=>T) λy _ F=>ap (by rw[F];exact bA)).cb bw.o (λ_ _ T=>T) λy _ F=>ap (by rw[F];exact eh)
  refine Z _ cL e' e7 ?_
  have:=PL cM (lZ A) dE bB (aB:=af) (by rw[bE];exact b6) (by rw[bE];exact a') (by rw[bE];exact aG)
  rw[bE] at this
  rewrite [show c5 ((ae++[aC]++aA++[(⟨dt,dv,c2 (F::aI.map (fI (c5 ae) v af))⟩:cN)]).set v (N.cU ((ae.length+1+af.length)::aI)))=eg (c5 ae) (no (c5 ae) v af F aI) v (cU N.J ((ae.length+1+af.length)::aI)) from ?_]
  ·exact this
  ·refine(?_:List.map _ _=_);rw[kx,eq,eq,eq,show List.map (λW:cN=>W.J) aA=_ from bT];refine(?_:List.set (c5 ae++[aC.J]++_++[c2 _]) v _=_);rw[dU];unfold eg no;simp only[gx,Yx,List.nil_append];rfl
theorem FW (v:M b a (V ai)) (y:ai.length<aa) (Z:∀o,hb b o (V ai.reverse)->an (x b.i) o):g4 fr (x a) b λF J=>∃C,hS (λh b G=>aM l (f d) h b G) (λh b G=>aM l (u (aK true)) h b G) h d C F [] J λai p=>ai.length<aa/\gG p (V ai) an:=by
 have N:ai.reverse.length=ai.length:=mQ;have K:=wT (j5:=λh b G=>aM l (f d) h b G) (ly:=λh b G=>aM l (u (aK true)) h b G) (h:=h) (b:=b) (a:=d) (lx:=λai p=>ai.length<aa/\gG p (V ai) an) (λw=>.fr a (ai.length- w)) (λw=>(ai.reverse[w]?).getD bI) ai.length (λw q o=>o=b/\q=ai.reverse.take w) (λw q o A W P Z=>?_) (λq o A P Z=>?_) ⟨rfl,rfl⟩ (λw q o m I W P Q T=>?_) (λq o P=>?_) y λw q o P=>by exact c (P.2 ..)<|List.length_take_le ..
 ·exact c4 v ⟨y,K⟩
 ·refine c (P.1 ..) (c (qX W) ?_);refine c4 v ?_;have k:ai.length- 1- w<ai.length:=by exact y' W
  rw[YH W,cY k] at Z;rw[show ai.length- (w+1)=ai.length- 1- w by exact Dm] at Z⊢;refine(?_:dj ai[ai.length- 1- w]? _);exact c (cY k)<|Z
 ·exact c (P.1 ..)<|c (pA ..)<|Z
 ·obtain⟨rfl,rfl⟩:=P;refine(fa ii ?_:aM l (f d) (bu.aP h d _) o m);refine Q _ _ (by exact c (lD ..)<|H 1 (E 1 (E 1 (qG _ _) W) y)) ⟨rfl,?_⟩;refine c (iB ..) (c (cY (t W (D N))) ?_);rfl
 refine c (P.1 ..) (c (P.2 ..) (bp N (c (jn ..) ?_)));exact⟨by exact c N<|y,cJ Z⟩
theorem QT (K:ag l h b A (x a)) (o:ag l h b aw (I d)) (v:M b a (V ai)) (D:ai.length<aa) (Z:∀H,hb b H (V (ai.drop d))->an (x b.i) H):aM l (j0 A aw (u bI)) h b an:=K _ (o _ (c4 v ⟨D,cJ Z⟩))
theorem EW (K:ag l h b A (x a)) (o:ag l h b aw (I d)) (v:M b a (V ai)) (D:ai.length<aa) (Z:∀H,hb b H (V (ai.take d))->an (x b.i) H):aM l (j0 A (u bI) aw) h b an:=K _ (o _ (c4 v ⟨D,cJ Z⟩))
theorem wI (t:M b a (V ai)) (c:M b d (V d')) (D:ai.length+d'.length<aa) (Z:∀H,hb b H (V (ai++d'))->an (x b.i) H):mo c9 (x a) (x d) b an:=c4 t (c4 c ⟨D,cJ Z⟩)
theorem AE (m:cO b a d a') (D:a'.length<1000) (K:ag l h b A (x d)) (q:ag l h b aw (I w)) (k:a'[w]? =g bD) (T:M b Z (V (bg Q))) (p:a<=Z/\∀bD∈a',bD.a9<Z/\bD.bU<Z) (v:∀H,aE (λy=>a<=y) b H->cO H a d (a'.set w ⟨bD.a9,Z,cU bD.J Q⟩)->a7 l aC h H aA):Bk l (as A aw) (u (j 1)) aC h aA (x Z) b:=
 have N:=bF k
 have i:=(m.cp bD N).1
 have C:=m.jb
 jX m D K q k _ (U _ (c4 (m.a9 bD N).1 (i9 (t C i) (by decide) (show 1<5 by decide) (show 5<aa by decide) (hJ (m.a9 bD N).1 λH X=>v H (X.o.a0 λy _ A=>by exact c A<|i) (m.WH k X T p.1 (λbD k=>iX (p.2 bD k).2) λbD k=>iX (p.2 bD k).1)))))
theorem Gy (K:ag l h b A (I a)) (y:1<=a):ag l h b (bR eE A (u (j 1))) (I (a- 1)):=by have:=pd K (U (C:=j 1));rw[show((a:e):B)- 1=((a- 1:e):B) by exact L5 y] at this;exact this
theorem ke.dO (U:gB ad a w) (T:a<=d):ke ad ad d w:=⟨{U with c:=λN A=>by have:=U.c N A;exact pN this,bo:=ej U.bo T},bv _,λ_ _ _ _ _=>Iff.rfl,λ_ N T l=>a8 N T l⟩
def M7 (D:b4):Prop:=∀(Q k c p d:e) (b:r cN) (T:K) (G:q->K->Prop),gj T Q->Q<c->cO T c k b->gB (c5 b) p d->22<=p->p<=45->d<=48->2<=b.length->(∀E H,aE (λy=>c<=y\/y=Q) T H->gj H Q->cO H c k E->ke (c5 b) (c5 E) (p+3) d->G bI H)->D 126 [x Q,x k] T G
theorem VU (bt:cv aO):M7 (bC aO (a+3)):=by
 intro cH av aB b6 b7 b T cI da cL aY aZ dc b8 b9 bk dd;have b3:=t7 (a:=a+1) bt;have b4:=x2 (a:=a+1) bt;have p:=G0 (a:=a+1) bt;have cM:=VS (a:=a) bt;have cP:=VT (a:=a) bt;refine cz (bt.cy 73 rfl) rfl ?_;generalize bC aO (a+2)=bE at b3 b4 p cM cP⊢;have cQ:=aZ.Bf (ah b8 rfl) (ah b9 rfl);have ai:=cQ.cp;have b':(c5 b).length=b.length:=au ..;have de:=aY.jb;have bw:=aY.ic;have cf:b≠[]:=λF=>by rw[F] at bk;simp at bk
 refine fA (nT (d:=6) b3 rfl da (by decide) λbG bz _ cg=>fA (m7 (d:=60) b3 (m rfl) U cg.P (by decide) λbA dt _ cj=>fA (m7 (d:=60) b3 (m rfl) U cj.P (by decide) λay aq _ cR=>?_)));have ck:=cg.az (cj.az cR);clear cg cj cR;have M:=aY.G ck.o λy df F=>aS (t (t cL df) (ab F));have dg:=ck.P;have dh:aE (λy=>aB<=y\/y=cH) T aq:=ck.o.a0 λ_ _=>ar;have cm:=M.jv;have bl:∀a3 aQ,aE (λy=>aB<=y\/ca y) aq aQ->cO aQ aB av a3->ke (c5 b) (c5 a3) (b6+3) b7->cI bI aQ:=λa3 aQ W bJ aw=>dd a3 aQ (dh.cb W (λ_ _ T=>T) λ_ _ T=>ap (T.elim id ed)) (dg.G W λT=>T.elim (l3 cL) id) bJ aw;have bB:cI bI aq:=bl b aq .dO M (.dO aZ (bX _ _));have a7:∀N∈b,N.J.ao.length<=99:=cQ.bU;have k:∀{cS},cS<200->cS<aa:=λT=>by unfold aa;exact ah T rfl
 have cn:∀{v:e} {N aI:cN},b[v]? =g N->(b++[aI])[v]? =g N:=λT=>by exact c (iz (co.mp T).1)<|T
 have a8:∀{aA:bu} {T:K} {cq:r cN} {v:e} {N:cN},cO T aB av cq->cq.length<1000->aA 1=g (x av)->aA 5=g (I v)->cq[v]? =g N->ag bE aA T (as (as (f 1) (f 5)) (u (j 1))) (x N.bU):=λaY di bz aG ae=>lX aY (bF ae) (jX aY di (m bz) (m aG) ae);have cV:∀{aA:bu} {v:e} {N:cN},aA 1=g (x av)->aA 5=g (I v)->b[v]? =g N->N∈b->(bg N.J.ao).length<aa->ag bE aA aq (cT bo (n (as (as (f 1) (f 5)) (u (j 1))) z)) (I N.J.ao.length):=λ{aA v N} bz aG ae aC Y=>by have:=kp (a8 M (ah (al 1 ai) rfl) bz aG ae) (M.a9 N aC).2 Y;rw[au] at this;exact this
 have cu:∀{aA:bu} {T:K} {aI:cN},cO T aB av (b++[aI])->aA 1=g (x av)->ag bE aA T (bR eE (cT bo (n (f 1) z)) (u (j 1))) (I b.length):=λ{aA T aI} aY bz=>by have:=pd (kQ (l:=bE) (h:=aA) (A:=f 1) aY (by refine c (dw ..) ?_;simp;exact ah (al 2 ai) rfl) (m bz)) (U (C:=j 1));rw[dw,l9,show((b.length+1:e):B)- 1=((b.length:e):B) by exact uc] at this;exact this
 have bM:∀{aI:cN},(b++[aI]).length<1000:=by intro aI;exact c (dw ..)<|c (l9 ..)<|ah (al 2 ai) rfl
 have cW:decide ((bG:B)=5)=true->bG=5:=λT=>by have:=dq T;exact L6 this
 have b5:∀{v:e},0<v->decide ((0:B)<(v:B))=true:=λT=>oF (Dn T);refine ec (cx (m rfl) U) (λ_=>?_) λ_=>ec (cx (m rfl) U) (λ_=>?_) λ_=>ec (cx (m rfl) U) (λ_=>?_) λ_=>ec (cx (m rfl) U) (λ_=>?_) λ_=>?_
 ·refine gP (X (m rfl) (X (m rfl) (X (ea (X U a5) (k (show 1<200 by decide))) (X U a5)))) (p av aB bA 1 [3] b aq _ M bk ai a7 (ex (xI (jc (m rfl) U) rfl) rfl bB) λv N _ ae af _=>?_);have af:N.J.aL=3:=by simpa using af
  refine ec (ko (jc (m rfl) U) λ_=>n6 (kQ M (ah (al 1 ai) rfl) (m rfl)) U) (λbN=>?_) λ_=>bB;rw[ps,hB,hB] at bN;exact tl (X (m rfl) (X (m rfl) a5)) (cM av aB v b6 b7 b N aq _ M aZ (L7 dc bN.2) (ah b8 rfl) (ah b9 rfl) ae af λa3 aQ W bJ aw=>bl a3 aQ W bJ (aw.a0 (bX _ _)))
 ·refine gP (X (m rfl) (X (m rfl) (X (ea (X U (X U (X U (X U (X U (X U (X U a5))))))) (k (show 7<200 by decide))) (X U a5)))) (p av aB bA 1 [2,3,4,5,6,7,8] b aq _ M bk ai a7 (ex (jc (m rfl) U) rfl bB) λv N bp ae af Y=>?_);have af:N.J.aL≠0:=λF=>by rw[F] at af;simp at af
  have aC:=bF ae;have aU:=a7 N aC;have cA:ay%N.J.ao.length<N.J.ao.length:=v0 _ Y;obtain⟨W,cX⟩:∃W,N.J.ao[ay%N.J.ao.length]? =g W:=⟨_,cY cA⟩;have aV:(bg N.J.ao).length<aa:=by exact c (au ..)<|k (ah (al 1 aU) rfl)
  refine g8 (jc (m rfl) U) (b5 bp) (dL (C:=I (ay%N.J.ao.length)) (λa' bD=>pc (am:=ay) (bx:=N.J.ao.length) (m rfl) (cV rfl rfl ae aC aV) (L8 cA) a' bD) (kq (sV b4 M cf (ah (al 1 ai) rfl) (m rfl) (Q:=[W]) (λa' bO=>m6 (X (e4 (a8 M (ah (al 1 ai) rfl) rfl rfl ae) (m rfl) (M.a9 N aC).2 aV (by refine c (dp ..) (c cX ?_);rfl)) a5 _ ⟨k (show 1<200 by decide),cJ λaM ax=>bO aq.i aM (bv _) ax.o ax.aF⟩)) λaM bb be bP aj=>?_)));have aD:=cn (aI:=(⟨bb,be,c2 [W]⟩:cN)) ae;have c0:=(aj.cp N (bF aD)).2;refine xR (cu aj rfl) (a8 aj bM rfl rfl aD) (m rfl) (aj.a9 N (bF aD)).2 (t de c0) (by exact c (au ..)<|cA) aV λaG q=>?_;rw[show(bg N.J.ao).set (ay%N.J.ao.length) (I b.length)=bg (N.J.ao.set (ay%N.J.ao.length) b.length) from(kx ..).symm] at q;have aw:=PI aZ (lZ ae) af cX;rw[b'] at aw;refine bl _ aG ((bP.a0 λy _ F=>ap (by exact c F<|bw)).cb q.o (λ_ _ T=>T) λy _ F=>ap (by exact c F<|c0)) (aj.Bl aD q) ?_;have F:c5 ((b++[(⟨bb,be,c2 [W]⟩:cN)]).set v (N.cU (N.J.ao.set (ay%N.J.ao.length) b.length)))=eg (c5 b) [c2 [W]] v (cU N.J (N.J.ao.set (ay%N.J.ao.length) b.length)):=by refine(?_:List.map _ _=_);refine c (kx ..) (c (eq ..) ?_);rfl
  refine c F<|aw.a0 (ty rfl)
 ·refine gP (X (m rfl) (X (m rfl) (X (ea (X U (X U a5)) (k (show 2<200 by decide))) (X U a5)))) (p av aB bA 2 [2,3] b aq _ M bk ai a7 (ex (jc (m rfl) U) rfl bB) λv N bp ae af Y=>?_);have af:N.J.aL=2\/N.J.aL=3:=by simpa using af
  have aC:=bF ae;have aU:=a7 N aC;have c3:=v0 ay (show N.J.ao.length- 1>0 by exact ep 1 (t Y vv));obtain⟨w,cB⟩:∃w,w=1+ay%(N.J.ao.length- 1):=⟨_,rfl⟩;have aV:(bg N.J.ao).length<aa:=by rw[au];exact k (ah (al 1 aU) rfl)
  refine g8 (jc (m rfl) U) (b5 bp) (dL (C:=I w) (λa' bD=>mE (am:=1) (bx:=((ay%(N.J.ao.length- 1):e):B)) U (λa' bD=>pc (am:=ay) (bx:=((N.J.ao.length- 1:e):B)) (m rfl) (Gy (cV rfl rfl ae aC aV) (dr Y rfl)) (L9 c3) a' bD) a' (by rw[cB] at bD;exact bD)) (kq (sV b4 M cf (ah (al 1 ai) rfl) (m rfl) (Q:=N.J.ao.drop w) (λa' bO=>QT (a8 M (ah (al 1 ai) rfl) rfl rfl ae) (m rfl) (M.a9 N aC).2 aV λaM ax=>bO aq.i aM (bv _) ax.o (by rw[bg,YO];exact ax.aF)) λaM bb be bP aj=>?_)));have aD:=cn (aI:=(⟨bb,be,c2 (N.J.ao.drop w)⟩:cN)) ae;have bq:=aj.jv;refine tj (mr (EW (a8 aj bM rfl rfl aD) (m rfl) (aj.a9 N (bF aD)).2 aV λaG q=>m6 (X (cu (aj.G q.o λ_ _=>id) rfl) a5 _ ⟨k (show 1<200 by decide),cJ λcC aW=>wI (q.aF.G aW.o id) aW.aF (by rw[lD,au];exact k (by simp;exact ah (al 2 (t (qH _ _) aU)) rfl)) λdj bQ=>?_⟩)));have bT:=q.o.az (aW.o.az bQ.o);have cD:=aj.G bT λ_ _=>id;have cE:=q.i;have br:=aW.i;refine AE cD bM (m rfl) (m rfl) aD (Q:=N.J.ao.take w++[b.length]) (by have:=bQ.aF;rw[<-Ih] at this;rw[bg,eq];exact this) ⟨H 3 (E 1 (E 1 (E 1 bw bq.1) (D cE)) (D br)),λN ae=>⟨by have:=(bq.2 N ae).1;exact H 2 (E 1 (E 1 this (D cE)) (D br)),by have:=(bq.2 N ae).2;exact H 2 (E 1 (E 1 this (D cE)) (D br))⟩⟩ λbV bY b0=>?_;have aw:=PK aZ (lZ ae) af (Z:=w) (t (bX _ _) (D cB)) (Ma c3 cB);rw[b'] at aw;refine bl _ bV (((bP.a0 λy _ F=>ap (by exact c F<|bw)).az (bT.a0 λ_ _=>ed)).cb bY (λ_ _ T=>T) λ_ _=>ap) b0 ?_;have F:c5 ((b++[(⟨bb,be,c2 (N.J.ao.drop w)⟩:cN)]).set v (⟨N.a9,cC.i,cU N.J (N.J.ao.take w++[b.length])⟩:cN))=eg (c5 b) [c2 (N.J.ao.drop w)] v (cU N.J (N.J.ao.take w++[b.length])):=by refine(?_:List.map _ _=_);refine c (kx ..) (c (eq ..) ?_);rfl
  exact c F<|aw.a0 (ty rfl)
 ·refine gP (X (m rfl) (X (m rfl) (X (ea (X U a5) (k (show 1<200 by decide))) (X U a5)))) (p av aB bA 1 [4] b aq _ M bk ai a7 (ex (jc (m rfl) U) rfl bB) λv N bp ae af _=>?_);have af:N.J.aL=4:=by simpa using af
  exact g8 (jc (m rfl) U) (b5 bp) (tl (X (m rfl) (X (m rfl) a5)) (cP av aB v b6 b7 b N aq _ M aZ (ah b8 rfl) (ah b9 rfl) ae af λa3 aQ W bJ aw=>bl a3 aQ W bJ aw))
 obtain⟨b2,dm,c4⟩:∃b2:r e,ag bE (((((bu.aP (λ_=>R) 0 (x cH)).aP 1 (x av)).aP 2 (I bG)).aP 3 (I bA)).aP 4 (I ay)) aq (.bc (aJ bL (f 2) (u (j 5))) (.S (n (u (j 2)) z)) (.S (n (u (j 2)) (n (u (j 3)) z)))) (S (bg b2))/\(∀c6∈b2,c6=2\/c6=3)/\(bG=5->b2=[2]):=by
  by_cases aG:bG=5
  ·exact d7 ([2]) (u6 (cx (m rfl) U) (λ_=>ea (X U a5) (k (show 1<200 by decide))) (λF=>absurd F (by refine c aG ?_;decide))) (sH (by decide)) (λ_=>rfl)
  ·exact d7 ([2,3]) (u6 (cx (m rfl) U) (λF=>absurd (cW F) aG) (λ_=>ea (X U (X U a5)) (k (show 2<200 by decide)))) (DW (ap rfl) (ar rfl)) (λF=>absurd F aG)
 refine gP (X (m rfl) (X (m rfl) (X dm (X U a5)))) (p av aB bA 1 b2 b aq _ M bk ai a7 (nD (xI (jc (m rfl) U) rfl) rfl (ex (jc (m rfl) U) rfl bB)) λv N bp ae af _=>?_);have aC:=bF ae;have aU:=a7 N aC;have aV:(bg N.J.ao).length<aa:=by rw[au];exact k (ah (al 1 aU) rfl)
 have c7:=(M.a9 N aC).2;refine ec (ko (jc (m rfl) U) λ_=>cx (m rfl) U) (λbN=>?_) λ_=>g8 (jc (m rfl) U) (b5 bp) ?_
 ·rw[ps] at bN;have af:N.J.aL=2:=by have:=af;rw[c4.2 (cW bN.2)] at this;simpa using this
  refine tj (mr (a8 M (ah (al 1 ai) rfl) rfl rfl ae _ (FW c7 aV λaM ax=>a8 (M.G ax.o λ_ _=>id) (ah (al 1 ai) rfl) rfl rfl ae _ (wI ax.aF (c7.G ax.o id) (by rw[mQ,au];exact k (ah (al 1 (d9 99 (cZ aU _) aU)) rfl)) λaG q=>?_))));have c8:=ax.o.az q.o;have cF:=ax.i;have dn:=M.G c8 λ_ _=>id;refine AE dn (ah (al 1 ai) rfl) (m rfl) (m rfl) ae (Q:=N.J.ao.reverse++N.J.ao) (by have:=q.aF;rw[<-BV] at this;rw[bg,eq];exact this) ⟨H 2 (E 1 (E 1 bw cm.1) (D cF)),λN ae=>⟨by have:=(cm.2 N ae).1;exact H 1 (E 1 this (D cF)),by have:=(cm.2 N ae).2;exact H 1 (E 1 this (D cF))⟩⟩ λbV bY b0=>?_;refine bl _ bV ((c8.a0 λ_ _=>ed).az (bY.a0 λ_ _=>ap)) b0 ?_;have F:c5 (b.set v (⟨N.a9,aM.i,cU N.J (N.J.ao.reverse++N.J.ao)⟩:cN))=eg (c5 b) [] v (cU N.J (N.J.ao.reverse++N.J.ao)):=by refine(?_:List.map _ _=_);rw[kx,eg,eP]
  refine c F<|(PJ aZ (lZ ae) af).a0 (bX _ _)
 have af:N.J.aL=2\/N.J.aL=3:=c4.1 _ af;refine kq (sV b4 M cf (ah (al 1 ai) rfl) (m rfl) (Q:=[]) (λa' bO=>m6 (a5 _ ⟨k (show 0<200 by decide),cJ λaM ax=>bO aq.i aM (bv _) ax.o ax.aF⟩)) λaM bb be bP aj=>?_);have aD:=cn (aI:=(⟨bb,be,c2 []⟩:cN)) ae;have bq:=aj.jv;refine tj (mr (a8 aj bM rfl rfl aD _ (m6 (X (cu aj rfl) (X U a5) _ ⟨k (show 2<200 by decide),cJ λcC aW=>wI ((aj.a9 N (bF aD)).2.G aW.o id) aW.aF (by rw[au];exact k (by simp;exact ah (al 3 aU) rfl)) λdj bQ=>?_⟩))));have bT:=aW.o.az bQ.o;have cD:=aj.G bT λ_ _=>id;have br:=aW.i;refine AE cD bM (m rfl) (m rfl) aD (Q:=N.J.ao++[b.length,0]) (by have:=bQ.aF;rw[bg,eq];exact this) ⟨H 2 (E 1 (E 1 bw bq.1) (D br)),λN ae=>⟨by have:=(bq.2 N ae).1;exact H 1 (E 1 this (D br)),by have:=(bq.2 N ae).2;exact H 1 (E 1 this (D br))⟩⟩ λbV bY b0=>?_;have aw:=PH aZ (lZ ae) af;rw[b'] at aw;refine bl _ bV (((bP.a0 λy _ F=>ap (by exact c F<|bw)).az (bT.a0 λ_ _=>ed)).cb bY (λ_ _ T=>T) λ_ _=>ap) b0 ?_;have F:c5 ((b++[(⟨bb,be,c2 []⟩:cN)]).set v (⟨N.a9,cC.i,cU N.J (N.J.ao++[b.length,0])⟩:cN))=eg (c5 b) [c2 []] v (cU N.J (N.J.ao++[b.length,0])):=by refine(?_:List.map _ _=_);refine c (kx ..) (c (eq ..) ?_);rfl
 exact c F<|aw.a0 (ty rfl)
theorem Ty (v:M b a (V ai)) (K:0<a) (D:ai.length<aa) (Q:ai[d]? =g C) (Z:∀H,e8 b H a (V (ai.eraseIdx d))->an C H):o' l 58 (x a) [I d] b an:=c4 v (iq K (pt d) D (fa Q (hJ v Z)))
theorem Ur (k:ag l h b A (I a)) (p:ag l h b aw (I d)) (q:a<2^63) (i:d<2^63):ag l h b (bR rF A aw) (I (a*d)):=λG Z=>k _ (p _ (ch (by simp;lia) (by simp;lia) (by exact c (show(a:B)*(d:B)=((a*d:e):B) by simp)<|Z)))
theorem QR (k:ag l h b A (j 1)) (p:ag l h b aw (I a)) (N:1<=a) (c:a<1000) (Z:∀H,hb b H (V (bg (yg 1 (a- 1))))->an (x b.i) H):aM l (rD (n A (n aw z))) h b an:=k _ (p _ ⟨aQ rfl,aQ rfl,by lia,by unfold aa;lia,cJ λH X=>Z H (by
 have d:((eQ ((a:B)- 1).toNat).map λ(v:e)=>q.j (1+(v:B)))=bg (yg 1 (a- 1)):=by rw[show((a:B)- 1).toNat=a- 1 by exact Mc,List.range'_eq_map_range,bg,l'];refine BS λv _=>?_;rfl
 exact bp (d ..)<|X)⟩)
theorem QQ (p:ag l h b A (I a)) (c:a<1000) (Z:∀H,hb b H (V (bg (eQ a)))->an (x b.i) H):aM l (rD (n A z)) h b an:=p _ (ch (by lia) (by unfold aa;exact Mb c) (cJ λH X=>Z H X))
theorem TA (o:eG->tB) (X:r eG) (w:e):(X.eraseIdx w).map o=(X.map o).eraseIdx w:=by exact c (BM ..) (c (BM ..) (c (eq ..) (c (Ih ..) (c (YO ..) rfl))))
theorem Q5 (W:a<dA.length):(dA[a]::dA.eraseIdx a).Perm dA:=by refine c (BM ..) ?_;have:=(List.perm_middle (a:=dA[a]) (l₁:=dA.take a) (l₂:=dA.drop (a+1))).symm;rwa [<-tH W,YU] at this
structure MD (b:K) (Q a i:e) (d:bu) (aj:K) (Z c k:e) (A Y:r e):Prop where
 cD:d 2=g (I Z)
 eD:d 3=g (x c)
 eW:d 4=g (x k)
 zt:Z<9973
 o:aE (λy=>y=Q) b aj
 P:gj aj Q
 nZ:M aj c (V (bg A))
 Ap:M aj k (V (bg Y))
 TJ:b.i<=c
 Ge:b.i<=k
 d8:c≠k
 EA:Y[0]? =g 0
 A7:(Y++A).Perm (eQ a)
 i:i=A.length
def M8 (D:b4):Prop:=∀(Q b:e) (T:K) (G:q->K->Prop),gj T Q->1<=b->b<=60->(∀(a:r e) (U:e) (H:K),aE (λy=>y=Q) T H->gj H Q->M H U (V (bg a))->T.i<=U->a.length=b->a.Nodup->(∀W∈a,W<b)->a[0]? =g 0->G (x U) H)->D 127 [x Q,I b] T G
theorem VV (aM:cv aO):M8 (bC aO (a+2)):=by
 intro aP ae T bG aV aW ay aA;have aY:=t7 (a:=a) aM;refine cz (aM.cy 74 rfl) rfl ?_;generalize bC aO (a+1)=aj at aY⊢;have J:=aV.bj;refine fA (nT (d:=9973) aY rfl aV (aQ rfl) λZ be bk aB=>fA ?_);refine QR U (m rfl) aW (ah (al 1 ay) rfl) λp aC=>fA (m6 (X U a5 _ ⟨aQ rfl,cJ λbJ N=>?_⟩));have bl:=aC.aF;have bp:=aB.o;have aZ:=aB.i;have a3:=aC.i;have a7:=aC.o.az N.o;refine pf (λa8 ao af=>∃Z aq k A Y,MD T aP ae a8 ao af Z aq k A Y) (ae- 1) ⟨Z,be.i,p.i,yg 1 (ae- 1),[0],rfl,rfl,rfl,bk,bp.az (a7.a0 λ_ _=>ed),aB.P.G a7 id,bl.G N.o id,N.aF,D aZ,H 1 (E 1 (D aZ) (D a3)),aD (D a3),rfl,?_,?_⟩ ?_
 ·rw[show eQ ae=0::yg 1 (ae- 1) by refine c (X8 ..) (c (show ae=(ae- 1)+1 by exact d4 vv (pm aW)) ?_);rfl];exact .refl _
 ·exact c (List.length_range' ..) rfl
 refine λa8 ao af bq=>zZ bq λZ aq k A Y Q=>?_;have av:=Q.A7.length_eq;rw[dw,k7] at av;have aG:(bg A).length<aa:=by refine c (au ..) ?_;unfold aa;exact ah (al 1 (t (t (fS _ _) (ab av)) ay)) rfl
 have br:(bg Y).length<aa:=by refine c (au ..) ?_;unfold aa;exact ah (al 1 (t (t (bX _ _) (ab av)) ay)) rfl
 refine d7 (!(bg A).isEmpty) (λbM aA=>m Q.eD _ (aA _ (rR Q.nZ aG))) (λa9 bN bt=>?_) (λK=>?_)
 ·have a':A.length≠0:=λF=>by rw[BQ.mp F] at a9;exact eY a9
  refine aU (⟨_,rfl⟩:∃w,w=Z%A.length) λw bb=>?_;have aw:w<A.length:=by exact c bb<|v0 _ (tM a')
  have h:=Q.TJ;have W:=Q.Ge;have bu:ag aj ao af (bR ht (f 2) (cT bo (n (f 3) z))) (I w):=by have:=pc (m (l:=aj) (b:=af) Q.cD) (kp (m Q.eD) Q.nZ aG) (by exact c (au ..)<|Do aw);rw[au,show(Z:B)%(A.length:B)=((Z%A.length:e):B) by simp,<-bb] at this;exact this
  refine kq (rh (m Q.eW) (mB Q.Ap (t (E 1 (c8 _) J) W) (ap rfl)) (rh (m Q.eD) (mB Q.nZ (t (E 1 (c8 _) J) h) (ar (ap rfl))) (bu _ (Ty (C:=I A[w]) Q.nZ (t (E 1 (c8 _) J) h) aG (by refine c (dp ..) (c (cY aw) ?_);rfl) λv ax=>ta (Q.Ap.G ax.o λF=>Q.d8 F.symm) (t (E 1 (c8 _) J) W) br λai q=>?_))));have bw:M ai aq (V (bg (A.eraseIdx w))):=by have:=ax.aF.G q.o (λF=>Q.d8 F);rw[bg,TA];exact this
  have bx:M ai k (V (bg (Y++[A[w]]))):=by have:=q.aF;rw[bg,eq];exact this
  have bz:aE (λy=>y=aP) T ai:=(Q.o.cb ax.o (λ_ _ T=>T) λy aI F=>(aS (E 1 (t h (D F)) aI)).elim).cb q.o (λ_ _ T=>T) λy aI F=>(aS (E 1 (t W (D F)) aI)).elim;have bA:(Y++[A[w]]++A.eraseIdx w).Perm (eQ ae):=by exact c (gx ..)<|((Q5 aw).append_left Y).trans Q.A7
  have bB:(Y++[A[w]])[0]? =g 0:=by have:=Q.EA;exact c (iz (co.mp this).1)<|this
  have bD:ag aj ao ai (bR ht (bR c9 (bR rF (f 2) (u (j 7))) (u (j 3))) (u (j 9973))) (I ((Z*7+3)%9973)):=by have:=pc (mE (Ur (m (l:=aj) (b:=ai) Q.cD) (U (C:=j 7)) (by have:=Q.zt;lia) (aQ rfl)) (U (C:=j 3))) (U (C:=j 9973)) (aQ rfl);exact this
  refine dL bD (bt.dK _ _ ⟨A.length- 1,by have:=Q.i;exact t (pm (tM a')) (D this),(Z*7+3)%9973,aq,k,A.eraseIdx w,Y++[A[w]],rfl,Q.eD,Q.eW,v0 _ (aQ rfl),bz,?_,bw,bx,h,W,Q.d8,bB,bA,?_⟩)
  ·exact(Q.P.G ax.o λF=>aS (t (t J h) (D F))).G q.o λF=>aS (t (t J W) (D F))
  exact c (List.length_eraseIdx_of_lt aw) rfl
 have bE:A=[]:=by cases A with|nil=>rfl|cons y bO=>exact kW K
 subst bE;have aL:=Q.A7;rw[eP] at aL;exact c3 (m Q.eW) (aA Y k af Q.o Q.P Q.Ap Q.Ge (by simpa using av) (aL.nodup_iff.mpr BX) (λbP bF=>mU.mp (aL.mem_iff.mp bF)) Q.EA)
noncomputable def Gz:r q:=[(S [(aV "1")]),(S [(aV "1"),(aV "p")]),(S [(aV "1"),(aV "p"),(aV "q")]),(S [(aV "2")]),(S [(aV "2"),(aV "p")])]
theorem UC (C:e) (h:C<5):∃X P,my Gz (C:B)=g (S X)/\X.length<64/\vo X=g P/\(∀N∈P,N.cps.size<1024)/\ck "s"++ox (ck ".") P=gt C/\(ox (ck ".") P).cps.size<aa:=by revert C;exact kk ⟨_,_,rfl,aQ rfl,rfl,aQ rfl,by kernel_rfl,by decide+kernel⟩ (kk ⟨_,_,rfl,aQ rfl,rfl,aQ rfl,by kernel_rfl,by decide+kernel⟩ (kk ⟨_,_,rfl,aQ rfl,rfl,aQ rfl,by kernel_rfl,by decide+kernel⟩ (kk ⟨_,_,rfl,aQ rfl,rfl,aQ rfl,by kernel_rfl,by decide+kernel⟩ (uU ⟨_,_,rfl,aQ rfl,rfl,aQ rfl,by kernel_rfl,by decide+kernel⟩))))
theorem Uq (a:ag l h b A (S ai)) (I:ai.length<64) (M:vo ai=g k3) (c:∀N∈k3,N.cps.size<1024) (i:ck "s"++ox (ck ".") k3=ac) (d:(ox (ck ".") k3).cps.size<aa):ag l h b (bR c9 (u (aV "s")) (b1 50 (u (aV ".")) (n A z))) (bW ac):=λH Z=>by subst i;refine(show s' 50 (aV ".") b/\aM l (n A z) h b _ from⟨ar rfl,?_⟩);refine a _<|⟨I,fa M (i9 c (aQ rfl) (aQ rfl) d Z)⟩
theorem HH (l:M b a (aT (iw b3))) (t:ev b w d a Q):bK:=by
 have A:=l.cm t.aF;injection A with A
 have D:(iw b3)[0]? =(n0 (j1 Q))[0]? :=by exact c A rfl
 injection D with D;injection D with _ q;exact l1 q rfl
def DL (D:b4):Prop:=∀(t:f0) (w A Q d o h c:e) (E:r e) (b:i1) (m:e->e) (T:K) (G:q->K->Prop),g0 t A Q E T b d o h->o<=T.i->ev T t.eh A Q E->m4 t->M T w (aT (iw t))->c<b.br.length->b.br.length<=39->(∀(C:e) N,(b.br.map (·.J))[C]? =g N->N.aL≠3->∀W∈N.ao,m W<m C)->(∀k l H a,aE (λy=>gl b.aq A Q y\/y=d) T H->ev H t.eh A Q (E++l)->g0 t A Q (E++l) H b a o h->(a=d\/T.i<=a)->k<64->(∀P,k.testBit P=true↔dU (cH t) (b.br.map (·.J)) P c)->G (I k) H)->D 129 [x w,x b.aq,x (b.aq+14),I c] T G
theorem G1 (M:cv aO):DL (bC aO (a+12)):=by
 intro ae w A Q d o h c af b aL T bG Y aM ai aj l aQ aU N Z;have ao:=GY (a:=a+7) M;have aw:=VI (a:=a+9) M;have ax:=VF (a:=a) M;refine cz (M.cy 76 rfl) rfl ?_;generalize bC aO (a+11)=aW at ao aw ax⊢;have C:=Y.ef;have v:=Y.fV;have aY:=Y.ud;have aZ:¬(w=A\/w=Q):=λF=>by
  refine bi F (λF=>?_) λF=>?_
  ·subst F;exact dW (l.cm ai.a9) rfl
  subst F;exact HH l ai
 refine Qz (UC ae.eo aj.eo) λa7 P a8 a' bb be bg bk=>?_;have bl:ag aW (((((bu.aP (λ_=>R) 0 (x w)).aP 1 (x b.aq)).aP 2 (x (b.aq+14))).aP 3 (I c)).aP 4 (x ae.eh)) T (as (u (S Gz)) (as (f 0) (u (aV "spot")))) (S a7):=jd U (kR l (m rfl) rfl rfl) (show 5<aa by decide) a8;refine dL (kR l (m rfl) rfl rfl) (dL (Uq bl a' bb be bg bk) ?_);refine gP (X (m rfl) (X (kR l (m rfl) rfl rfl) a5)) (ao ae.eh A Q ae.j3 af T _ ai aj.j3 λay ah k W bq br=>?_);refine gP (X (m rfl) (X (kR (l.G W aZ) (m rfl) rfl rfl) a5)) (ao ae.eh A Q ae.nV (af++ah) k _ bq aj.nV λbt K p bw aA aB=>?_);have au:aE (λy=>y=A\/y=Q) T p:=W.az bw;rw[gx] at aA aB;have bx:g0 ae A Q (af++(ah++K)) p b d o h:=Y.rp au (λy k _=>dm (a3 (t C.1 k)) (a3 (t C.2.1 k))) (aY.elim (λJ=>dm (a3 (H 12 (E 12 C.1 (D J)))) (a3 (H 12 (E 12 C.2.1 (D J))))) λJ=>dm (a3 (H 19 (t (E 1 (E 18 C.1 v.1) v.2.2.2) J))) (a3 (H 19 (t (E 1 (E 18 C.2.1 v.1) v.2.2.2) J)))) λy k p=>(k.elim (λq=>aS (H 19 (E 1 (E 18 (E 1 (t p (ab q)) C.1) v.1) v.2.2.2))) λq=>aS (H 19 (E 1 (E 18 (E 1 (t p (ab q)) C.2.1) v.1) v.2.2.2))).elim;have bz:fi (af++(ah++K)) ay ae.j3:=by exact bp (gx ..)<|br.mn
 have aC:=au.cq;refine hu (EQ (m rfl) (fG (X (m rfl) (X (m rfl) (X (m rfl) (X (m rfl) (X (m rfl) (X (m rfl) a5)))))) (ax ae A Q d o h c (af++(ah++K)) b ay bt aL p _ bx (t aM aC) aA bz aB aQ aU N λbA aD aF aG bB bD av i bE aI bF=>?_)));refine aw ae.eh A Q aD bA (af++(ah++K)++aF) aG _ av aI ?_;rw[gx] at av i;exact Z aD ((ah++K)++aF) aG bB ((au.a0 λy _ F=>ap (by unfold gl;exact F.elim (λq=>ar (ar (ar (ap (d4 (ab q) (D q)))))) λq=>ar (ar (ar (ar (d4 (ab q) (D q))))))).az bD) av i (ar (t aC bE)) aI.bj bF
theorem vi (q:dA[a]? =g dH) (F:mO l5=mO dH):(dA.set a l5).map mO=dA.map mO:=by
 refine c (kx ..) (c F ?_);refine Ia λM=>c (tJ ..) ?_;split
 ·rename_i T;subst T;rw[dp,q,aZ (by exact c (au ..)<|(co.mp q).1)];rfl
 rfl
theorem wg {F:eG} (q:dA[a]? =g dH) (T:F∈dA.set a l5):F=l5\/∃M,M≠a/\dA[M]? =g F:=by
 refine aU (j9.mp T) λM N=>?_;rw[tJ] at N;split at N
 ·rw[aZ (co.mp q).1] at N;exact ap (bm N).symm
 rename_i b;exact ar (a8 M (λZ=>b Z.symm) N)
theorem g0.AJ (Y:g0 b3 a d Q b aW w Z bA) (q:aW.br[db]? =g dE) (l:dE.J.aL=3) (aC:hi<aW.br.length) (aE:dE.J.ao.length+1<100) (ax:e8 b aj dE.cL (V (bg (dE.J.ao++[hi])))):g0 b3 a d Q aj {aW with br:=aW.br.set db ⟨dE.cL,cU dE.J (dE.J.ao++[hi]),dE.lp,dE.b7,dE.g7⟩} w Z bA:=by
 have av:=bF q;have p:=Y.dN dE av;have ai:=p.f5;have t:=p.cL;have K:=Y.qb;have ag:∀{y:e} {I:dY},y≠dE.cL->M b y I->M aj y I:=λk A=>A.G ax.o k;have C:∀{y:e} {I:dY},M b y I->(∀X,I≠V X)->M aj y I:=λA az=>ag (λF=>by subst F;exact az _ (A.cm t)) A;have W:∀{y:e} {X},M b y (aT X)->M aj y (aT X):=λA=>C A λ_ F=>dW F rfl;have aw:∀{y U:e} {X},M b y (cw U X)->M aj y (cw U X):=λA=>C A λ_ F=>dW F rfl;have aG:=(Y.dD dE av).rE l;have aI:∀I,M b dE.cL I->vk I=true:=λI A=>by
  rw[A.cm t]
  cases m:dE.J.ao with
  |nil=>exact absurd m aG
  |cons y aS=>rfl
 refine g3 Y.kD λaM aO aP=>⟨⟨(js aM aO (aw aP)),W Y.gL,W Y.mC,?_,?_,?_,?_,W Y.ij,W Y.fJ,aw Y.cW,aw Y.eC,W Y.fM,W Y.i7,K,λae h=>?_,?_,Y.ef⟩,Y.ud,aw Y.lj,Y.fV,λae h=>?_,λae h=>?_,?_,λae h=>?_,Y.od⟩
 ·rw[vi q (by rfl)];exact ag (y:=aW.aq+1) (ai.elim (λaa=>aD (D aa)) λaa=>aD (H 16 aa)) Y.jH
 ·rw[vi q (by rfl)];exact ag (y:=aW.aq+3) (ai.elim (λaa=>a3 (al 1 (ab aa))) λaa=>aD (H 14 aa)) Y.P
 ·rw[vi q (by rfl)];exact ag (y:=aW.aq+4) (ai.elim (λaa=>a3 (bJ 1 (al 1 (ab aa)))) λaa=>aD (H 13 aa)) Y.h7
 ·rw[vi q (by rfl)];exact ag (y:=aW.aq+5) (ai.elim (λaa=>a3 (bJ 2 (al 1 (ab aa)))) λaa=>aD (H 12 aa)) Y.gM
 ·rcases wg q h with rfl|⟨ay,N,h⟩
  ·exact⟨ax.aF,ai,λv=>absurd (show 4<=dE.J.aL from v) (l3 (al 1 (ab l))),⟨λv=>absurd (show dE.J.aL=4 from v) (aD (al 1 (ab l))),λv=>absurd (show dE.J.aL=7 from v) (aD (ah (al 1 (ab l)) rfl)),λv=>absurd (show dE.J.aL=8 from v) (aD (ah (al 1 (ab l)) rfl))⟩⟩
  have aA:=bF h;have E:ae.cL≠dE.cL:=λF=>N ((r7 (by rw[au];exact(co.mp h).1) Y.ti).mp (by rw[dp,dp,h,q];simp[F]));have:=(Y.dN ae aA).gs (aB:=[]) (ax.o.gs λy aQ az I A=>by subst aQ;exact aI I A) (λI A=>ag E A) (λI i A=>by refine fF ((Y.dN ae aA).jw.lg i) λ_ _ T _ _=>C A λX F=>by rw[F] at A;exact dW (A.cm T) rfl) (λ_ _ b=>b) (λ_=>rfl) λ_=>rfl;rw[eP] at this;exact this
 ·rw[vi q (by rfl)];exact Y.ti
 ·rcases wg q h with rfl|⟨ay,_,h⟩
  ·exact⟨(Y.th dE av).1,λv=>absurd (show dE.J.aL=7 from v) (aD (ah (al 1 (ab l)) rfl))⟩
  exact Y.th ae (bF h)
 ·rw[mR];rcases wg q h with rfl|⟨ay,_,h⟩
  ·have af:=Y.dD dE av;exact⟨af.uP,λae h=>by refine bi (d2.mp h) (λb=>?_) λb=>?_;{exact af.bU ae b};{rw[e6.mp b];exact aC},λv=>absurd (show dE.J.aL=0 from v) (a3 (dr (D l) rfl)),λ_ F=>by simp[cU] at F,λv=>absurd (show 4<=dE.J.aL from v) (l3 (al 1 (ab l))),af.cL,af.bM,af.qn,af.qo,af.lW⟩
  exact Y.dD ae (bF h)
 ·rw[mR];exact Y.bo
 rcases wg q h with rfl|⟨ay,_,h⟩
 ·refine(?_:(dE.J.ao++[hi]).length<100);rw[dw];exact aE
 exact Y.c ae (bF h)
theorem GL (b:jF df) (A:ad[a]? =g af) (C:af.ao≠[]) (h:∀W∈af.ao,W∈Q) (i:dU df ad d w):dU df (ad.set a (cU af Q)) d w:=by
 have m:Q≠[]:=λF=>by
  cases Y:af.ao with
  |nil=>exact C Y
  |cons y k=>have:=h y (by exact c Y<|fC _);rw[F] at this;exact em this
 have q:=b.cU af Q (iff_of_false C m)
 have E:(ad.set a (cU af Q))[a]? =g (cU af Q):=vU (co.mp A).1
 induction i with
 |@eX w M X G I H=>
  by_cases F:w=a
  ·subst F;rw[A] at G;obtain rfl:=bm G;exact eX E (q.trans I) H
  exact eX (by exact c (qB (Ne.symm F))<|G) I H
 |@c1 w W X G I H _ t=>
  by_cases F:w=a
  ·subst F;rw[A] at G;obtain rfl:=bm G;exact c1 E (q.trans I) (h _ H) t
  exact c1 (by exact c (qB (Ne.symm F))<|G) I H t
theorem Ui (k:ag l h b A (I a)) (p:ag l h b aw (I d)) (q:a<2^63) (c:d<2^63):ag l h b (bR pY A aw) (I (a|||d)):=λG Z=>k _ (p _ (i9 pO (by lia) pO (by lia) Z))
def DM (D:b4):Prop:=∀(t:f0) (w A Q d o h a c k:e) (l:ci) (E:r e) (b:i1) (W:lN) (m:e->e) (T:K) (G:q->K->Prop),g0 t A Q E T b d o h->o<=T.i->ev T t.eh A Q E->m4 t->M T w (aT (iw t))->c<b.br.length->b.br.length<=39->(∀(C:e) N,(b.br.map (·.J))[C]? =g N->N.aL≠3->∀W∈N.ao,m W<m C)->b.br[a]? =g W->W.J.aL=3->W.J.ao.length<=98->k<128->(∀P,k.testBit P=true->dU (cH t) (b.br.map (·.J)) P c)->(l=true->dU (i5 t) (b.br.map (·.J)) 0 c)->(∀H,G (aK true) H)->D 130 [x w,x b.aq,x (b.aq+14),x h,I a,I c,I k,aK l] T G
theorem VX (aG:cv aO):DM (bC aO (a+13)):=by
 intro aA w aI Q d a' bb aw aB be bV aP ae W aQ T cJ Y bX aS bY bl aV bp b0 q ay v cM b2 b3 Z
 have bq:=G1 (a:=a) aG
 have bw:=GX (a:=a+9) aG
 refine cz (aG.cy 77 rfl) rfl ?_
 generalize bC aO (a+12)=az at bq bw⊢
 have bx:=bF q
 have p:=Y.dN W bx
 have aW:=p.f5
 have aY:=p.cL
 have bz:=Y.ef
 have bA:∀{C},C<200->C<aa:=λT=>by unfold aa;exact ah T rfl
 refine g3 Y.kD λcN cO bB=>?_
 have b4:(bg W.J.ao).length<aa:=by rw[au];exact bA (ah (al 1 v) rfl)
 have b5:∀{ai:bu},ai 1=g (x ae.aq)->ag az ai T (cT bo (n (aH (f 1) 16) z)) (I ae.br.length):=λ{ai} b6=>by have:=kp (l:=az) (h:=ai) (A:=aH (f 1) 16) (bk (m b6) bB rfl) Y.jH (by rw[au];exact bA (ah (al 1 bp) rfl));rw[au] at this;exact this
 refine aU (⟨_,rfl⟩:∃F,F=(aw+aB)%ae.br.length) λF bD=>?_
 have bE:F<ae.br.length:=by rw[bD];exact v0 _ (E 1 (c8 _) aV)
 have b8:∀{ai:bu},ai 4=g (I aw)->ai 5=g (I aB)->ai 8=g (I ae.br.length)->ag az ai T (bR ht (bR c9 (f 4) (f 5)) (f 8)) (I F):=λ{ai} b9 b' cb=>by have:=pc (mE (m (l:=az) (b:=T) b9) (m b')) (m cb) (Do bE);rw[show((aw:B)+(aB:B))%(ae.br.length:B)=(F:B) by rw[bD];exact rfl] at this;exact this
 refine dL (b5 rfl) (kq (rh (Y.dh Y.P q (bk (m rfl) bB rfl) (m rfl)) (mB aY (aW.elim (λaf=>dr (E 2 (c8 _) (D af)) rfl) λaf=>dr (E 18 (c8 _) af) rfl) (ap rfl)) (b8 rfl rfl rfl _ (ta aY (aW.elim (λaf=>dr (E 2 (c8 _) (D af)) rfl) λaf=>dr (E 18 (c8 _) af) rfl) b4 λk aC=>?_))))
 have cf:e8 T k W.cL (V (bg (W.J.ao++[F]))):=by rw[bg,eq];exact aC
 have bG:=Y.AJ q ay bE (al 2 v) cf
 refine aU (⟨_,rfl⟩:∃aj:i1,aj={ae with br:=ae.br.set aw ⟨W.cL,cU W.J (W.J.ao++[F]),W.lp,W.b7,W.g7⟩}) λaj aE=>?_
 have bJ:aj.aq=ae.aq:=by rw[aE]
 have a0:aj.br.length=ae.br.length:=by rw[aE];exact mR
 have a3:aj.br.map (·.J)=(ae.br.map (·.J)).set aw (cU W.J (W.J.ao++[F])):=by rw[aE];exact kx ..
 have a7:(ae.br.map (·.J))[aw]? =g W.J:=by rw[dp,q];rfl
 have bM:=(Y.dD W bx).rE ay
 rw[<-aE] at bG
 have cg:=aC.i
 have a8:∀{bN:e} {bO:dY},M T bN bO->(∀cj,bO≠V cj)->bN≠W.cL:=λA ck av=>by subst av;exact ck _ (A.cm aY)
 have cn:ev k aA.eh aI Q aP:=by refine ax aS.lu λcP _ cp=>aS.G aC.o (a8 cp λ_ av=>dW av rfl) (aW.elim (λaf=>aD (H 2 (E 2 bz.1 (D af)))) λaf=>aD (H 18 (E 18 bz.1 af))) (a8 aS.aF λ_ av=>dW av rfl)
 have cq:=bl.G aC.o (a8 bl λ_ av=>dW av rfl)
 have cu:∀(C:e) N,(aj.br.map (·.J))[C]? =g N->N.aL≠3->∀W∈N.ao,aQ W<aQ C:=λC N y bP=>by
  rw[a3,tJ] at y;split at y
  ·rw[aZ (co.mp a7).1] at y;obtain rfl:=bm y;exact absurd ay bP
  exact b0 C N y bP
 have bQ:=bq aA w aI Q d a' bb aB aP aj aQ k
 rw[bJ] at bQ
 refine fA (fG (X (m rfl) (X (m rfl) (X (m rfl) (X (m rfl) a5)))) (bQ _ bG (t bX (D cg)) cn bY cq (t aV (D a0)) (t (ab a0) bp) cu λbT K cx cA _ _ cB _ cQ cC=>?_))
 have cD:bT|||be=bT:=yr λA=>by
  rw[B9]
  cases cE:be.testBit A with
  |false=>exact c (BH ..) rfl
  |true=>exact c (Bool.or_true ..)<|((cC A).mpr (by exact c a3<|GL (xi aA) a7 bM (λcF a9=>jm _ a9) (b2 A cE))).symm
 refine ex (mF (n6 (m rfl) U) λ_=>qf (Ui (m rfl) (m rfl) (by lia) (by lia)) (m rfl)) (by refine c cD ?_;simp) ?_
 have bU:=bw aA aI Q cA a' bb aB (aP++K) aj cx
 rw[bJ] at bU
 refine hu (fG (X (m rfl) (X (m rfl) (X (m rfl) a5))) (bU _ cB (t aV (D a0)) λcH ay _ cI=>?_):aM az (hh (bh 105 _) _) _ _ _)
 cases cH with
 |true=>exact Z ay
 |false=>
  cases bV with
  |false=>exact rK (l:=az) (bt:=false) (m rfl) _ (Z ay)
  |true=>exact absurd (cI.mpr (by exact c a3<|GL (xh aA) a7 bM (λcF a9=>jm _ a9) (b3 rfl))) fR
structure jK (c b:r dB) (a U:r e):Prop where
 jQ:c.length=b.length
 kN:a.length=b.length
 bj:∀W∈a,W<b.length
 A4:∀(v W:e),a[v]? =g W->U[W]? =g v
 nk:∀(v:e) W,c[v]? =g W->∃(w:e) (N:dB),U[v]? =g w/\b[w]? =g N/\W=nf a N
 bU:∀N∈b,∀W∈N.ao,W<b.length
theorem jK.dh (b:jK ad eJ Q aB) (h:a<eJ.length):Q[a]? =g (ih Q a)/\aB[ih Q a]? =g a:=by
 have:Q[a]? =g (ih Q a):=by
  have D:a<Q.length:=by exact c (b.kN ..)<|h
  rw[ih,cY D];rfl
 exact⟨this,b.A4 _ _ this⟩
theorem xj (q:jF df) (a:r e) (N:dB):df (nf a N)=df N:=q.cU N _ ⟨λT=>by refine c T ?_;rfl,λT=>ym.mp T⟩
theorem jK.RO (c:jK ad eJ Q aB) (q:jF df) (i:dU df ad a d):∀w,aB[d]? =g w->dU df eJ a w:=by
 induction i with
 |@eX d M X G I H=>intro w W;refine fF (c.nk d X G) λU N b aj m=>?_;subst m;rw[W] at b;obtain rfl:=bm b;exact eX aj ((xj q Q N).symm.trans I) H
 |@c1 d k X G I H _ t=>intro w W;refine fF (c.nk d X G) λU N b aj m=>?_;subst m;rw[W] at b;obtain rfl:=bm b;refine ax (e5.mp H) λA h m=>?_;subst m;exact c1 aj ((xj q Q N).symm.trans I) h (t A (c.dh (c.bU N (bF aj) A h)).2)
theorem jK.J (i:jK ad eJ Q aB) (y:Q[a]? =g d) (A:eJ[a]? =g af):ad[d]? =g (nf Q af):=by
 have E:d<ad.length:=by exact c i.jQ<|i.bj d (bF y)
 refine fF (i.nk d _ (cY E)) λU h b aj l=>?_;rw[i.A4 _ _ y] at b;obtain rfl:=bm b;rw[A] at aj;refine c (bm aj)<|c (cY E) (c l rfl)
theorem jK.Pr (b:jK ad eJ Q aB) (q:jF df) (i:dU df eJ a d):∀C,Q[d]? =g C->dU df ad a C:=by
 induction i with
 |@eX d M N G I H=>exact λC y=>eX (b.J y G) ((xj q Q N).trans I) H
 |@c1 d A N G I H _ t=>exact λC y=>c1 (b.J y G) ((xj q Q N).trans I) (r' H) (t _ (b.dh (b.bU N (bF G) A H)).1)
theorem jK.hI (b:jK ad eJ Q aB) (q:jF df) (y:Q[d]? =g w):dU df ad a w↔dU df eJ a d:=⟨λT=>b.RO q T d (b.A4 _ _ y),λT=>b.Pr q T w y⟩
theorem jK.iQ (a:jK ad eJ Q aB) (K:∀(C:e) N,eJ[C]? =g N->N.aL≠3->∀W∈N.ao,dn W<dn C):∀(C:e) N,ad[C]? =g N->N.aL≠3->∀W∈N.ao,dn ((aB[W]?).getD 0)<dn ((aB[C]?).getD 0):=by intro C X y l W q;refine fF (a.nk C X y) λw N k p m=>?_;subst m;refine ax (e5.mp q) λA h m=>?_;exact bp m<|c k<|c ((a.dh (a.bU N (bF p) A h)).2)<|K w N p l A h
theorem sF.b8 (w:sF a a'):gB (c5 a') (a+1) 4:=by
 have D:=w.bo;refine ax w.cI λb K k=>?_;refine⟨by rw[lZ K,k],λN A=>?_,λN A=>?_,⟨id,λC N y l W q=>?_⟩,by rw[au];exact px D⟩
 ·refine ax (e5.mp A) λX I m=>?_;refine bp m ?_;rw[au,D];exact w.dD X I
 ·refine ax (e5.mp A) λX I m=>?_;exact bp m<|w.c X I
 ·rw[dp] at y
  cases I:a'[C]? with
  |none=>rw[I] at y;exact ce y
  |some X=>rw[I] at y;obtain rfl:=bm y;exact w.fV C X I l W q
theorem gB.GS (U:gB (c5 a') a d) (P:a<=40) (h:d<100) (K:a'≠[]) (b:Q.length=a'.length) (C:Q.Nodup) (k:∀W∈Q,W<a'.length) (i:Q[0]? =g 0):sE a' Q:=by
 have D:=U.bo;rw[au] at D;refine⟨by cases a' with|nil=>exact absurd rfl K|cons _ _=>exact eH _,t D P,?_,λN A=>⟨?_,?_⟩,b,C,k,i⟩
 ·have:=U.cI
  rw[dp] at this
  cases I:a'[0]? with
  |none=>rw[I] at this;exact ce this
  |some X=>rw[I] at this;exact a8 X rfl (bm this)
 ·have:=U.dD N.J (r' A);rw[au] at this;exact this
 have:=U.c N.J (r' A);exact E 1 this h
noncomputable abbrev zO:b0:=.V (n (as (f 20) (u (j 0))) (n (fx dC (f 21) 21 (as (f 20) (u (j 1))) (u (aK true))) (n (as (f 20) (u (j 2))) (n (as (f 20) (u (j 3))) (n (as (f 20) (u (j 4))) z)))))
theorem QG (af:h 20=g (x bD.a9)) (Q:M b bD.a9 (iS bD.J bD.bU)) (T:M b bD.bU (V (bg bD.J.ao))) (ah:(bg bD.J.ao).length<aa) (Z:∀y P d,aE ca b d->b.i<=y->b.i<=P->M d y (iS bD.J P)->M d P (V (bg bD.J.ao))->an (x y) d):aM l zO h b an:=by
 have t:∀{b:K} {C:e} {Y:q},M b bD.a9 (iS bD.J bD.bU)->[I bD.J.aL,x bD.bU,S (bg bD.J.eR),I bD.J.hG,I bD.J.fO][C]? =g Y->ag l h b (as (f 20) (u (j C))) Y:=λv ab=>e4 (m af) U v (show 5<aa by decide) ab;refine m6 (t (C:=0) Q rfl _ ?_);refine t (C:=1) Q rfl _ (AB (A:=f 21) (bg bD.J.ao) (λw=>((bg bD.J.ao)[w]?).getD bI) T ah (λw Y ab W=>by exact c ab<|m ii) λk F=>?_);have a:=F.aF;rw[show(eQ (bg bD.J.ao).length).map (λw=>((bg bD.J.ao)[w]?).getD bI)=bg bD.J.ao from Ia λai=>by
  refine c (dp ..) ?_;refine bi (pz ai (bg bD.J.ao).length) (λN=>?_) λN=>?_
  ·refine c (BO N) (c (cY N) (c (yy ..) (c (cY N) ?_)));rfl
  rw[r6 (by exact c (k7 ..)<|N),r6 N];rfl] at a
 have E:=Q.G F.o id;refine X (t (C:=2) E rfl) (X (t (C:=3) E rfl) (X (t (C:=4) E rfl) a5)) _ ⟨show 5<aa by decide,cJ λp ae=>?_⟩;exact Z k.i b.i p (F.o.az ae.o) (by have:=F.i;exact H 1 (D this)) (bv _) ae.aF (a.G ae.o id)
structure wh (b aj:K) (F:r cN):Prop where
 o:aE ca b aj
 a9:∀N∈F,M aj N.a9 (iS N.J N.bU)/\M aj N.bU (V (bg N.J.ao))
 cp:∀N∈F,b.i<=N.a9/\b.i<=N.bU
 dN:(F.map (·.a9)).Nodup
 cJ:(F.map (·.bU)).Nodup
theorem Gf {o:cN->eG} (T:(a'.map o).Nodup) (y:∀aC∈a',o aC≠o bD):((a'++[bD]).map o).Nodup:=by rw[eq,iA];refine ch T (il _ _) (λa U P E=>?_);refine ax (e5.mp U) λaC A N=>?_;refine bp N ?_;rw[List.map_singleton,e6] at E;exact c (E ..)<|y aC A
theorem wh.n7 (U:wh b aj a') (W:aE ca aj cs) (k:aj.i<=a) (Y:aj.i<=d) (Q:M cs a (iS af d)) (T:M cs d (V (bg af.ao))):wh b cs (a'++[⟨a,d,af⟩]):=by
 have D:=U.o.cq;refine⟨U.o.az W,λh p=>?_,λh p=>?_,Gf U.dN λaf A=>?_,Gf U.cJ λaf A=>?_⟩
 ·exact bi (d2.mp p) (λp=>⟨(U.a9 h p).1.G W id,(U.a9 h p).2.G W id⟩) λp=>c (e6.mp p)<|⟨Q,T⟩
 ·exact bi (d2.mp p) (λp=>U.cp h p) λp=>c (e6.mp p)<|⟨ej D k,ej D Y⟩
 ·have:=(U.a9 af A).1.bj;refine(?_:af.a9≠a);exact aD (t this k)
 have:=(U.a9 af A).2.bj;refine(?_:af.bU≠d);exact aD (t this Y)
theorem QF (m:cO b a d a') (D:a'.length<1000) (Y:∀N∈a',N.J.ao.length<1000) (K:ag l h b A (x d)) (Z:∀av ay ae,aE ca b ae->b.i<=av->cO ae b.i av ay->c5 ay=c5 a'->an (x av) ae):aM l (fx dC zO 20 A (u (aK true))) h b an:=by
 have k:∀{C},C<1000->C<aa:=λb=>by unfold aa;exact ah b rfl
 have aB:0<b.i:=by have:=m.cW.bj;exact E 1 (c8 _) this
 have aA:(a'.map λN=>q.x N.a9).length<aa:=by exact c (au ..)<|k D
 have aC:=wT (j5:=λh b aw=>aM l zO h b aw) (ly:=λh b aw=>aM l (u (aK true)) h b aw) (h:=h) (b:=b) (a:=20) (lx:=λX p=>X.length<aa/\gG p (V X) an) (λw=>f3 d w) (λw=>((a'.map λN=>q.x N.a9)[w]?).getD bI) a'.length (λw af ae=>∃F:r cN,wh b ae F/\c5 F=(c5 a').take w/\af=F.map λN=>x N.a9) (λw af ae aD W P Z=>?_) (λaf ae aD P Z=>?_) (d7 ([]) ⟨.dO,λ_=>em,λ_=>em,kz,kz⟩ rfl rfl) (λw af ae aS I W P aG aV=>?_) (λaf ae P=>?_) (k D) λw af ae P=>?_
 ·exact K _ (c4 m.cW aC)
 ·refine eT P λF U v _=>c4 (m.cW.G U.o id) ⟨aA,?_⟩;have aI:w<(a'.map λN=>q.x N.a9).length:=by exact c (au ..)<|W
  rw[cY aI] at Z⊢;exact Z
 ·refine eT P λF U v _=>c4 (m.cW.G U.o id) ⟨aA,?_⟩;rw[r6 (show(a'.map λN=>q.x N.a9).length<=a'.length by exact c (au ..)<|bv _)];exact Z
 ·refine eT P λF U v aj=>?_;subst aj;refine aU (⟨_,cY W⟩:∃N,a'[w]? =g N) λN ai=>?_;have ax:=bF ai;refine c (dp ..) (c ai ?_);refine QG (bD:=N) ii ((m.a9 N ax).1.G U.o id) ((m.a9 N ax).2.G U.o id) (by exact c (au ..)<|k (Y N ax)) λy aL p aO aP aQ Q T=>?_;have M:F.length=w:=by have:=cS qC v;rw[au,lD,au] at this;exact Dj W this
  refine aG _ _ (by exact c (au ..)<|c M<|k (H 1 (E 1 W D))) (d7 (F++[⟨y,aL,N.J⟩]) (U.n7 aO aP aQ Q T) ?_ ?_)
  ·exact c (iB ..)<|c (lZ ai)<|bp v<|eq
  refine c (eq ..) ?_;rfl
 ·refine eT P λF U v aj=>?_;subst aj;rw[show a'.length=(c5 a').length from(au ..).symm,jn] at v;have M:F.length=a'.length:=by have:=cS qC v;rwa [au,au] at this
  refine⟨by exact c (au ..)<|c M<|k D,cJ λp aq=>Z ae.i F p (U.o.az aq.o) U.o.cq ⟨aq.aF,λN ai=>⟨(U.a9 N ai).1.G aq.o id,(U.a9 N ai).2.G aq.o id⟩,U.cp,U.dN,U.cJ,U.o.cq,aB⟩ v⟩
 refine eT P λF U v aj=>?_;subst aj;have:=cS qC v;rw[au,lD] at this;exact c (au ..)<|t (ab this) (qG _ _)
section
structure sy (b:i1) (o:e->e) (C:e) (a:r dB):Prop where
 bo:b.br.length<=39
 iQ:∃iQ:e->e,∀(C:e) N,(b.br.map (·.J))[C]? =g N->N.aL≠3->∀W∈N.ao,iQ W<iQ C
 hI:∀Y,jF Y->∀P v,v<C->(dU Y (b.br.map (·.J)) P (o v)↔dU Y a P v)
 bj:∀v,v<C->o v<b.br.length
structure sG where
 ia:K
 bq:f0
 oi:e
 cL:e
 gk:e
 gh:e
 uS:e
 zc:e
 zd:e
 ug:e
 mq:e
 fs:r cN
 mA:r e
 sL:r ci
 f5:r e
 lQ:i1
 kj:i1
 uE:e
 vl:e
 tq:e
def pL (d:sG) (y:e):Prop:=y=d.cL\/gl d.lQ.aq d.gk d.gh y\/gl d.kj.aq d.gk d.gh y\/y=d.lQ.aq+12\/y=d.kj.aq+12\/d.ia.i<=y
structure i3 (d:sG):Prop where
 ef:cO d.ia d.uS d.bq.iD d.fs
 u2:sF d.mq d.fs
 eC:4<=d.mq/\d.mq<=7
 zQ:M d.ia d.oi (aT (iw d.bq))
 bq:m4 d.bq
 FA:M d.ia d.zc (V (bg d.mA))
 FC:M d.ia d.zd (V (d.sL.map aK))
 FN:M d.ia d.ug (V (bg d.f5))
 AF:d.mA.length=d.fs.length
 AG:d.sL.length=d.fs.length
 AK:d.fs.length<=d.f5.length/\d.f5.length<=39
 Bw:∀(v P a:e),d.mA[v]? =g a->(a.testBit P=true↔dU (cH d.bq) (c5 d.fs) P v)
 F8:∀a∈d.mA,a<128
 Bx:∀(v:e) P,d.sL[v]? =g P->(P=true↔dU (i5 d.bq) (c5 d.fs) 0 v)
 rV:sy d.lQ id d.fs.length (c5 d.fs)
 mN:sy d.kj (ih d.f5) d.fs.length (c5 d.fs)
 Fv:∀(v:e) N,d.fs[v]? =g N->N.J.aL=3->∃W,d.kj.br[ih d.f5 v]? =g W/\W.J.aL=3/\W.J.ao.length<=98
 tc:∀y,y=d.oi\/y=d.zc\/y=d.zd\/y=d.ug\/y=d.bq.iD\/(∃N∈d.fs,y=N.a9\/y=N.bU)->¬pL d y
 mG:d.cL<d.lQ.aq/\d.cL≠d.gk/\d.cL≠d.gh
 sZ:d.uE<=d.kj.aq
structure f6 (d:sG) (b:K) (E:r e) (c a:e):Prop where
 o:aE (pL d) d.ia b
 P:gj b d.cL
 gm:ev b d.bq.eh d.gk d.gh E
 jt:g0 d.bq d.gk d.gh E b d.lQ c d.uE d.vl
 lU:g0 d.bq d.gk d.gh E b d.kj a d.ia.i d.tq
 p9:c=d.lQ.aq+12\/d.ia.i<=c
 kl:a=d.kj.aq+12\/d.ia.i<=a
 uW:c≠a
variable {bn:sG}
theorem f6.p6 (Y:f6 bn b Q a d) (C:i3 bn):bn.lQ.aq+19<=bn.kj.aq:=t (E 1 Y.jt.fV.1 Y.jt.fV.2.2.2) C.sZ
theorem f6.uF (Y:f6 bn b Q a d):bn.kj.aq+19<=bn.ia.i:=E 1 Y.lU.fV.1 Y.lU.fV.2.2.2
theorem f6.Gu (Y:f6 bn b Q a d) (C:i3 bn) (F:bn.cL=a):bK:=Y.p9.elim (λw=>aS (H 12 (E 1 (t (D w) (D F)) C.mG.1))) λw=>aS (t (E 1 (t w (D F)) C.mG.1) (t (H 19 (Y.p6 C)) (H 19 Y.uF)))
theorem f6.Gv (Y:f6 bn b Q a d) (C:i3 bn) (F:bn.cL=d):bK:=Y.kl.elim (λw=>aS (H 12 (E 1 (t (D w) (D F)) (t C.mG.1 (H 19 (Y.p6 C)))))) λw=>aS (t (E 1 (t w (D F)) C.mG.1) (t (H 19 (Y.p6 C)) (H 19 Y.uF)))
theorem f6.bp (Y:f6 bn b Q a d) (C:i3 bn) (W:aE c7 b aj) (N:∀y,c7 y->y=bn.cL) (p:gj aj bn.cL):f6 bn aj Q a d:=by
 have c:=C.mG;have h:=C.sZ;have i:=Y.jt.fV;have m:=Y.jt.rp (aB:=[]) W (λy k _ l=>by have:=N y l;exact aS (t (t c.1 k) (ab this))) (λl=>Y.Gu C (N _ l).symm) λy l v=>by have:=N y l;exact(aS (H 19 (t (t (E 1 (E 18 c.1 i.1) i.2.2.2) v) (ab this)))).elim
 have w:=Y.lU.rp (aB:=[]) W (λy k _ l=>by have:=N y l;exact aS (H 19 (t (t (t (E 1 (E 18 c.1 i.1) i.2.2.2) h) k) (ab this)))) (λl=>Y.Gv C (N _ l).symm) λy l v=>(aS (t (E 1 (t v (ab (N y l))) c.1) (t (H 19 (Y.p6 C)) (H 19 Y.uF)))).elim;rw[eP] at m w;refine⟨Y.o.cb W (λ_ _ b=>b) λy _ b=>ap (N y b),p,Y.gm.G W (λl=>?_) (λl=>by have:=N _ l;exact c.2.1 (d4 (D this) (ab this))) (λl=>by have:=N _ l;exact c.2.2 (d4 (D this) (ab this))),m,w,Y.p9,Y.kl,Y.uW⟩;have F:=N _ l;refine ax Y.gm.lu λI _ A=>ax Y.P.cp λX q _=>?_;rw[F] at A;exact dW (A.cm q) rfl
theorem f6.en (Y:f6 bn b Q a d) (C:i3 bn) (W:aE ca b aj):f6 bn aj Q a d:=Y.bp C W (λ_=>ed) (Y.P.G W id)
theorem f6.mL (Y:f6 bn b Q a d) (C:i3 bn) (W:ml b aj bn.cL):f6 bn aj Q a d:=Y.bp C W.o (λ_ b=>b) W.P
theorem f6.wB (Y:f6 bn b Q a d) (C:i3 bn) (W:aE (λy=>gl bn.lQ.aq bn.gk bn.gh y\/y=a) b aj) (M:ev aj bn.bq.eh bn.gk bn.gh (Q++aB)) (A:g0 bn.bq bn.gk bn.gh (Q++aB) aj bn.lQ w bn.uE bn.vl) (J:w=a\/b.i<=w):f6 bn aj (Q++aB) w d:=by
 have X:=Y.jt.ef;have U:=Y.p6 C;have q:=Y.uF;have N:=Y.p9;have E:=Y.lU.rp (aB:=aB) W (λy k p l=>l.elim (λm=>m.en X.1 X.2.1 (H 4 U) k) λF=>N.elim (λh=>aS (t (H 6 U) (t k (ab (F.trans h))))) λh=>aS (t p (t h (D F)))) (λl=>l.elim (λm=>m.en X.1 X.2.1 (H 4 U) (Y.kl.elim (λh=>H 12 (D h)) λh=>t (H 19 q) h)) λF=>Y.uW F.symm) λy l v I K=>l.elim (λm=>(m.en X.1 X.2.1 (t (H 4 U) (H 19 q)) v).elim) λF=>by subst F;refine c (K.cm Y.jt.mC) ?_;rfl
 refine⟨Y.o.cb W (λ_ _ b=>b) λy _ l=>?_,Y.P.G W λl=>l.elim (λm=>m.uZ C.mG.1 C.mG.2.1 C.mG.2.2) (Y.Gu C),M,A,E,J.elim (λF=>F▸N) λh=>ar (t Y.o.cq h),Y.kl,J.elim (λF=>F▸Y.uW) λh F=>aS (t Y.lU.mC.bj (t h (ab F)))⟩;refine l.elim (λl=>ar (ap l)) λF=>c F<|N.elim (λh=>ar (ar (ar (ap h)))) λh=>ar (ar (ar (ar (ar h))))
theorem f6.uj (Y:f6 bn b Q a d) (C:i3 bn) (W:aE (λy=>gl bn.kj.aq bn.gk bn.gh y\/y=d) b aj) (M:ev aj bn.bq.eh bn.gk bn.gh (Q++aB)) (N:g0 bn.bq bn.gk bn.gh (Q++aB) aj bn.kj w bn.ia.i bn.tq) (J:w=d\/b.i<=w):f6 bn aj (Q++aB) a w:=by
 have X:=Y.jt.ef;have U:=Y.p6 C;have K:=Y.uF;have h:=Y.kl;refine g3 Y.lU.kD λ_ _ T=>?_;have Z:=Y.jt.rp (aB:=aB) W (λy k p l=>l.elim (λm=>m.e3 k X.1 X.2.1 p C.sZ) λF=>aS (t p (t C.sZ (h.elim (λq=>H 12 (t (D q) (D F))) λq=>t (H 19 K) (t q (D F)))))) (λl=>l.elim (λm=>Y.p9.elim (λq=>m.e3 (H 12 (D q)) X.1 X.2.1 (E 1 (ab q) (H 6 U)) (bv _)) λq=>m.en (t X.1 (H 19 U)) (t X.2.1 (H 19 U)) (H 4 K) q) Y.uW) λy l v I A=>by
  refine l.elim (λm=>?_) λF=>?_
  ·rcases m with rfl|rfl|rfl|l|l
   ·refine c (A.cm T) ?_;rfl
   ·refine c (A.cm Y.lU.gL) ?_;rfl
   ·refine c (A.cm Y.lU.cW) ?_;rfl
   ·exact(aS (H 19 (E 1 (t (t (E 1 Y.jt.fV.1 Y.jt.fV.2.2.2) v) (ab l)) X.1))).elim
   exact(aS (H 19 (E 1 (t (t (E 1 Y.jt.fV.1 Y.jt.fV.2.2.2) v) (ab l)) X.2.1))).elim
  subst F;refine c (A.cm Y.lU.mC) ?_;rfl
 refine⟨Y.o.cb W (λ_ _ b=>b) λy _ l=>?_,Y.P.G W λl=>l.elim (λm=>m.uZ (t C.mG.1 (H 19 U)) C.mG.2.1 C.mG.2.2) (Y.Gv C),M,Z,N,Y.p9,J.elim (λF=>F▸h) λq=>ar (t Y.o.cq q),J.elim (λF=>F▸Y.uW) λq F=>aS (t Y.jt.mC.bj (t q (D F)))⟩;refine l.elim (λl=>ar (ar (ap l))) λF=>c F<|h.elim (λq=>ar (ar (ar (ar (ap q))))) λq=>ar (ar (ar (ar (ar q))))
end
variable {bE:sG}
structure jI (bE:sG) (h:bu):Prop where
 eI:h 1=g (x bE.cL)
 cD:h 2=g (x bE.oi)
 eD:h 3=g (x bE.bq.iD)
 eW:h 4=g (I bE.mq)
 kT:h 5=g (x bE.zc)
 jY:h 6=g (x bE.zd)
 mI:h 7=g (x bE.lQ.aq)
 mJ:h 8=g (x (bE.lQ.aq+14))
 va:h 9=g (x bE.vl)
 xY:h 13=g (x bE.ug)
 tm:h 14=g (x bE.kj.aq)
 Bc:h 15=g (x (bE.kj.aq+14))
 Bd:h 16=g (x bE.tq)
theorem jI.aP (U:jI bE h) (K:a=12\/a=17\/a=18\/a=19):jI bE (h.aP a C):=by rcases K with rfl|rfl|rfl|rfl<;>exact⟨U.eI,U.cD,U.eD,U.eW,U.kT,U.jY,U.mI,U.mJ,U.va,U.xY,U.tm,U.Bc,U.Bd⟩
theorem z2 (Z:aM l A h b λW k=>aM l aw h k λa p=>rc lA W a p an):aM l (aJ lA A aw) h b an:=Z
theorem TO (Z:an (aK false) b):rc d8 (aK bt) (aK bt) b an:=by cases bt<;>exact Z
theorem Gg (Z:an (aK false) b):rc d8 (I a) (I a) b an:=by refine(?_:an (aK (decide ((a:B)≠a))) b);exact c (jE (λb=>b rfl))<|Z
theorem ES (Q:kf l h b A ai) (Z:∀y:q->K->Prop,(∀k,aE ca b k->y (aK bt) k)->l a ai b y) (E:∀k,aE ca b k->ag l h k aw (aK bt)) (i:∀k,aE ca b k->an (aK false) k):aM l (aJ d8 (bh a A) aw) h b an:=z2 (fG Q (Z _ λk W=>E k W _ (TO (i k W))))
theorem QO (Z:∀y:q->K->Prop,(∀k,aE ca b k->y (aK false) k)->aM l A h b y) (d:∀k,aE ca b k->aM l aw h k an):aM l (hh A aw) h b an:=Z _ λk W=>d k W
theorem i3.dh (C:i3 bE) (W:a<bE.fs.length):∃M P,bE.mA[a]? =g M/\bE.sL[a]? =g P/\bE.f5[a]? =g (ih bE.f5 a):=by
 have b:a<bE.mA.length:=by exact c C.AF<|W
 have A:a<bE.sL.length:=by exact c (C.AG ..)<|W
 have J:a<bE.f5.length:=gy W C.AK.1;exact hf _ _ (cY b) (cY A) (by rw[ih,cY J];rfl)
theorem i3.bo (C:i3 bE):bE.fs.length=bE.mq+1/\bE.fs.length<=8:=by have:=C.u2.bo;have:=C.eC;exact⟨C.u2.bo,t (ab C.u2.bo) (al 1 C.eC.2)⟩
theorem A0 (C:i3 bE) (U:jI bE h) (W:aE (pL bE) bE.ia b) (E:bE.sL[a]? =g bt) (K:ag l h b A (I a)):ag l h b (as (f 6) A) (aK bt):=e4 (m U.jY) K (C.FC.G W (C.tc _ (ar (ar (ap rfl))))) (by refine c (au ..) (c C.AG ?_);have:=C.bo;unfold aa;exact ah (al 1 this.2) rfl) (by refine c (dp ..) (c E ?_);rfl)
theorem y2 (C:i3 bE) (U:jI bE h) (W:aE (pL bE) bE.ia b) (E:bE.mA[a]? =g d) (K:ag l h b A (I a)):ag l h b (as (f 5) A) (I d):=e4 (m U.kT) K (C.FA.G W (C.tc _ (ar (ap rfl)))) (by refine c (au ..) (c C.AF ?_);have:=C.bo;unfold aa;exact ah (al 1 this.2) rfl) (by refine c (dp ..) (c E ?_);rfl)
theorem xH (C:i3 bE) (U:jI bE h) (W:aE (pL bE) bE.ia b) (E:bE.f5[a]? =g d) (K:ag l h b A (I a)):ag l h b (as (f 13) A) (I d):=e4 (m U.xY) K (C.FN.G W (C.tc _ (ar (ar (ar (ap rfl)))))) (by refine c (au ..) ?_;have:=C.AK;unfold aa;exact ah (al 1 this.2) rfl) (by refine c (dp ..) (c E ?_);rfl)
theorem zs (k:bt=true↔bd) (p:iT=true↔de) (T:bd↔de):bt=iT:=by exact(hN ..).mpr<|k.trans (T.trans p.symm)
theorem Gb (k:∀P,a.testBit P=true↔c7 P) (p:∀P,d.testBit P=true↔vJ P) (T:∀P,c7 P↔vJ P):a=d:=yr λP=>zs (k P) (p P) (T P)
theorem S6 (G:DI l) (C:i3 bE) (aa:jI bE h) (Y:f6 bE b Q a d) (Z:∀ab H,jI bE ab->f6 bE H Q a d->a7 l aC ab H aA):a7 l (s (el dk 17 (n (bR c9 (f 4) (u (j 1))) z) (s (bc (hh (aJ d8 (bh 105 (n (f 7) (n (f 17) (n (f 9) z)))) (as (f 6) (f 17))) (aJ d8 (bh 105 (n (f 14) (n (as (f 13) (f 17)) (n (f 16) z)))) (as (f 6) (f 17)))) (s (aR (u (aK false))) L) L) L)) aC) h b aA:=by have ae:=C.bo;refine u9 (bE.mq+1) (ah (al 2 C.eC.2) rfl) (λ_ h b=>jI bE h/\f6 bE b Q a d) (mE (m aa.eW) U) ⟨aa,Y⟩ ?_ λh b af=>bl af λaa Y=>Z h b aa Y;refine λw h b F ag ai aj=>bl ai λaa Y=>?_;have T:jI bE (h.aP 17 (I w)):=aa.aP (ar (ap rfl));have K:w<bE.fs.length:=t ag (D ae.1);refine fF (C.dh K) λM P aq A J=>?_;have E:=C.Bx w P A;exact QO (λy ao=>ES (bt:=P) (X (m T.mI) (X (m ii) (X (m T.va) a5))) (λy Z=>G bE.bq bE.gk bE.gh a bE.uE bE.vl w Q bE.lQ b _ Y.jt (C.rV.bj w K) λN k W v=>c (zs v E (C.rV.hI _ (xh bE.bq) 0 w K))<|Z k W) (λk W=>A0 C T (Y.en C W).o A (m ii)) ao) λk W=>ES (bt:=P) (X (m T.tm) (X (xH C T (Y.en C W).o J (m ii)) (X (m T.Bd) a5))) (λy Z=>G bE.bq bE.gk bE.gh d bE.ia.i bE.tq (ih bE.f5 w) Q bE.kj k _ (Y.en C W).lU (C.mN.bj w K) λN p q v=>c (zs v E (C.mN.hI _ (xh bE.bq) 0 w K))<|Z p q) (λp q=>A0 C T ((Y.en C W).en C q).o A (m ii)) λp q=>aj.dK _ _ ⟨T,(Y.en C W).en C q⟩
theorem abn (Z:an (I (a+d)) b):mo c9 (I a) (I d) b an:=Z
noncomputable abbrev Pa:bO:=s (ba 18 (bR eE (f 4) (bh 110 (n (f 1) (n (bR c9 (f 4) (u (j 1))) z))))) (s (bc (aJ d8 (bh 129 (n (f 2) (n (f 7) (n (f 8) (n (f 18) z))))) (as (f 5) (f 18))) (s (aR (u (aK false))) L) L) (s (bc (aJ d8 (bh 129 (n (f 2) (n (f 14) (n (f 15) (n (as (f 13) (f 18)) z))))) (as (f 5) (f 18))) (s (aR (u (aK false))) L) L) L))
theorem S4 (av:oJ l) (aw:DL l) (aa:i3 bE) (af:jI bE h) (Y:f6 bE b Q a d) (Z:∀aj ax Q a d ae,jI bE aj->f6 bE ax Q a d->aj 18=g (I ae)->ae<=bE.mq->a7 l aC aj ax aA) (aI:h 18=g (I 0)):a7 l (s (el dk 12 (n (bR c9 (u (j 1)) (bh 110 (n (f 1) (n (u (j 2)) z)))) z) Pa) aC) h b aA:=by have aL:=aa.bo;refine xV (g5 (mr (hE (U (C:=j 1)) (m7 av (m af.eI) (U (C:=j 2)) Y.P (by decide) λF k ao aq=>wE (a:=1+F) (za) ?_))));refine AC (ah (al 1 (cZ (H 1 ao) 1)) rfl) (λ_ h b=>∃Q a d ae,jI bE h/\f6 bE b Q a d/\h 18=g (I ae)/\ae<=bE.mq) ⟨Q,a,d,0,af,Y.mL aa aq,aI,c8 _⟩ ?_ λh b aM=>EO aM λQ a d ae af Y aO y=>Z h b Q a d ae af Y aO y;refine λw h b bw _ aQ aS=>EO aQ λQ a d ae af Y _ _=>?_;have K:jI bE (h.aP 12 (I w)):=af.aP (ap rfl);refine fA (mr (hE (m K.eW) (m7 av (m K.eI) (mE (m K.eW) (U (C:=j 1))) Y.P (fS _ _) λF k ao aq=>D6 (a:=bE.mq- F) (Dp ao) ?_)));have J:=Y.mL aa aq;refine aU (⟨_,rfl⟩:∃ae,ae=bE.mq- F) λae y=>bp y ?_;have ay:ae<=bE.mq:=t (ab y) (mW _ _);have ai:ae<bE.fs.length:=E 1 ay (D aL.1);have T:jI bE ((h.aP 12 (I w)).aP 18 (I ae)):=K.aP (ar (ar (ap rfl)));refine fF (aa.dh ai) λaz ag au _ aV=>?_;have aB:=λag=>aa.Bw ae ag az au;refine aU aa.rV.iQ λaW aY=>aU aa.mN.iQ λaZ a0=>?_;have aD:∀{b},aE (pL bE) bE.ia b->M b bE.oi (aT (iw bE.bq)):=λW=>aa.zQ.G W (aa.tc _ (ap rfl));have aF:=J.lU.fV;have a3:=aa.sZ;have a8:=J.o.cq;refine z2 (fG (X (m T.cD) (X (m T.mI) (X (m T.mJ) (X (m ii) a5)))) (aw bE.bq bE.oi bE.gk bE.gh a bE.uE bE.vl ae Q bE.lQ aW k _ J.jt (H 19 (t (E 1 (E 18 a3 aF.1) aF.2.2.2) a8)) J.gm aa.bq (aD J.o) (aa.rV.bj ae ai) aa.rV.bo aY λv bx p bz q a9 a' bb N be=>?_));obtain rfl:v=az:=Gb be aB λag=>aa.rV.hI _ (xi bE.bq) ag ae ai;have c:=J.wB aa q a9 a' bb;have bg:=c.o.cq;refine y2 aa T c.o au (m ii) _ (Gg ?_);refine z2 (fG (X (m T.cD) (X (m T.tm) (X (m T.Bc) (X (xH aa T c.o aV (m ii)) a5)))) (aw bE.bq bE.oi bE.gk bE.gh d bE.ia.i bE.tq (ih bE.f5 ae) _ bE.kj aZ p _ c.lU bg c.gm aa.bq (aD c.o) (aa.mN.bj ae ai) aa.mN.bo a0 λbk bA bB bC bl A br bt _ bu=>?_));obtain rfl:bk=v:=Gb bu aB λag=>aa.mN.hI _ (xi bE.bq) ag ae ai;have aG:=c.uj aa bl A br bt;refine y2 aa T aG.o au (m ii) _ (Gg ?_);exact aS.dK _ _ ⟨_,_,_,ae,T,aG,ii,ay⟩
noncomputable abbrev Pb:bO:=(s (ba 19 (bh 122 (n (f 3) (n (f 18) (n (.S (n (u (j 3)) z)) (n (u (j 1)) z)))))) (s (bc (aJ bL (f 19) (u (j 0))) (s (aR (u (aK true))) L) L) (s (aR (bh 130 (n (f 2) (n (f 14) (n (f 15) (n (f 16) (n (as (f 13) (f 19)) (n (as (f 13) (f 18)) (n (as (f 5) (f 18)) (n (as (f 6) (f 18)) z)))))))))) L)))
theorem S5 (p:DK l) (aw:DM l) (C:i3 bE) (aq:jI bE h) (Y:f6 bE b Q a d) (au:h 18=g (I w)) (y:w<=bE.mq) (Z:∀ax H,aA (.aR (aK true)) ax H):a7 l Pb h b aA:=by
 have ae:=C.bo;have t:w<bE.fs.length:=E 1 y (D ae.1);have ab:=C.tc;have ay:cO b bE.uS bE.bq.iD bE.fs:=C.ef.su Y.o (ab _ (by simp)) λN A=>⟨ab _ (ar (ar (ar (ar (ar (a8 N A (ap rfl))))))),ab _ (ar (ar (ar (ar (ar (a8 N A (ar rfl)))))))⟩;have az:M b bE.oi (aT (iw bE.bq)):=C.zQ.G Y.o (ab _ (ap rfl));have k:=C.eC;refine gP (X (m aq.eD) (X (m au) (X (ea (X U a5) (show 1<aa by decide)) (X U a5)))) (p bE.bq.iD bE.uS w 1 [3] bE.fs b _ ay (dr (E 1 k.1 (D ae.1)) rfl) (ah ae.2 rfl) (λN A=>by have:=C.u2.c N A;exact ah this rfl) (g8 (bt:=decide ((0:B)=0)) (cx (m ii) U) rfl (c3 U (Z _ _))) λv N aB A K _=>?_);have K:N.J.aL=3:=by simpa using K
 have aC:=(co.mp A).1;have T:jI bE (h.aP 19 (I v)):=aq.aP (ar (ar (ar rfl)));refine fF (C.dh t) λaf P ai av aD=>fF (C.dh aC) λ_ _ _ _ aE=>eT (C.Fv v N A K) λW q F aF=>aU C.mN.iQ λaG aI=>?_;have aj:ag l (h.aP 19 (I v)) b (f 18) (I w):=m au;refine ex (cx (m ii) U) (jE (Md aB))<|hu (fG (X (m T.cD) (X (m T.tm) (X (m T.Bc) (X (m T.Bd) (X (xH C T Y.o aE (m ii)) (X (xH C T Y.o aD aj) (X (y2 C T Y.o ai aj) (X (A0 C T Y.o av aj) a5)))))))) (aw bE.bq bE.oi bE.gk bE.gh d bE.ia.i bE.tq (ih bE.f5 v) (ih bE.f5 w) af P Q bE.kj W aG b _ Y.lU Y.o.cq Y.gm C.bq az (C.mN.bj w t) C.mN.bo aI q F aF (C.F8 af (bF ai)) (λP ao=>(C.mN.hI _ (xi bE.bq) P w t).mpr ((C.Bw w P af ai).mp ao)) (λao=>(C.mN.hI _ (xh bE.bq) 0 w t).mpr ((C.Bx w P av).mp ao)) λH=>Z _ H))
structure wi (b W:r dB) (p d:e):Prop where
 b8:gB W p d
 cq:b.length<=W.length
 hI:∀Y,jF Y->∀P C,C<b.length->(dU Y W P C↔dU Y b P C)
 uO:∀(v:e) N,b[v]? =g N->N.aL=3->∃h,W[v]? =g h/\h.aL=3
theorem wi.ez {c:r dB} (U:wi ad eJ a w) (W:ke eJ c d w) (F:2*w+2=Z):wi ad c d Z:=F▸⟨W.b8,ej U.cq W.cq,λY b P C y=>(W.hI Y b P C (gy y U.cq)).trans (U.hI Y b P C y),λv N o l=>by obtain⟨h,k,p⟩:=U.uO v N o l;exact W.uO v h k p⟩
theorem QD (Z:aM l aw h b λJ k=>g4 hM J k λv k=>∃C,hS (λh b G=>aM l A h b G) (λh b G=>aM l dI h b G) h a C v [] k λX p=>X.length<aa/\gG p (V X) an):aM l (fx hM A a aw dI) h b an:=Z
theorem QK (p:ag l h b A (S ai)) (D:ai.length<aa) (Z:∀H,hb b H (V ai)->an (x b.i) H):aM l (cT .V (n A z)) h b an:=p _ ⟨D,cJ Z⟩
theorem Uj (m:cO b a d a') (c:a'.length=w+1) (G:w<900) (K:ag l h b A (x d)):ag l h b (bR eE (cT bo (n A z)) (u (j 1))) (I w):=by have:=Gy (kQ m (ah (al 1 (t (ab c) G)) rfl) K) (E 1 (c8 _) (D c));rw[c,Iq] at this;exact this
theorem Uh (K:ag l h b A (I a)):ag l h b (bR c9 A (u (j 1))) (I (a+1)):=mE K U
theorem jK.gb (b:aW.br.length=a'.length) (d:∀(v W:e),Q[v]? =g W->aB[W]? =g v) (m:∀(v:e) W,aW.br[v]? =g W->∃(w:e) (N:cN),aB[v]? =g w/\a'[w]? =g N/\W.J=nf Q N.J) (a:sE a' Q):jK (aW.br.map (·.J)) (c5 a') Q aB:=by
 have i:(c5 a').length=a'.length:=au ..;refine⟨by exact c (au ..) (c b (c i rfl)),by exact c (a.kN ..) (c i rfl),by exact c i<|a.bj,d,λv W q=>?_,λN A W q=>?_⟩
 ·refine hK q λo h=>?_;obtain⟨w,N,k,p,l⟩:=m v o h;exact hf w N.J k (lZ p) l
 obtain⟨X,I,rfl⟩:=e5.mp A;exact c i<|(a.dD X I).1.bU W q
theorem sy.gb (h:jK (aW.br.map (·.J)) ad Q aB) (U:gB ad a d) (k:a<=39) (y:w<=ad.length) (M:∀v,v<w->dn v=ih Q v) (i:∀Y,jF Y->∀P v,v<w->(dU Y ad P v↔dU Y eJ P v)):sy aW dn w eJ:=by have A:=h.jQ;rw[au] at A;have D:=U.bo;obtain⟨m,N⟩:=U.iQ;exact⟨t (t (ab A) D) k,⟨_,h.iQ N⟩,λY b P v o=>c (M v o)<|(h.hI b (h.dh (gy o y)).1).trans (i Y b P v o),λv o=>c (M v o)<|c A<|h.bj _ (bF (h.dh (gy o y)).1)⟩
structure DA (Q w a y b c U d i:e) (h:bu):Prop where
 eI:h 1=g (x Q)
 cD:h 2=g (x w)
 eD:h 3=g (x a)
 eW:h 4=g (I y)
 kT:h 5=g (x b)
 jY:h 6=g (x c)
 mI:h 7=g (x U)
 mJ:h 8=g (x (U+14))
 va:h 9=g (x d)
 pg:h 11=g (x i)
noncomputable abbrev EH:r B:=[0,5,3,16,1,0,6,0,1,3,0,0,5,32,0,1,0,0,0,1,0,0,0,1]
theorem S1 (ax:cv aO) (bl:r B) (cJ:bl.length<=63):a7 (bC aO (a+13)) wL (bu.aP (λ_=>R) 0 (x 0)) ⟨1,λ_=>V (bl.map j)⟩ λeA _ _=>eA=.aR (aK true):=by
 have cL:=t7 (a:=a+12) ax;have dp:=VW (a:=a+10) ax;have dq:=VP (a:=a+11) ax;have dt:=VQ (a:=a+11) ax;have cM:=VM (a:=a+8) ax;have dv:=VU (a:=a+10) ax;have dx:=VV (a:=a+11) ax;have dz:=GX (a:=a+10) ax;have dA:=G1 (a:=a+1) ax;have dB:=G0 (a:=a+12) ax;have dD:=VX (a:=a) ax;generalize bC aO (a+13)=fX at cL dp dq dt cM dv dx dz dA dB dD⊢;unfold wL;have dE:M (⟨1,λ_=>V (bl.map j)⟩:K) 0 (V (bl.map j)):=⟨Iv,rfl⟩;generalize (⟨1,λ_=>V (bl.map j)⟩:K)=fZ at dE⊢;have cN:∀{cP},cP<1000->cP<aa:=λT=>by unfold aa;exact ah T rfl
 refine fA (QD (mr (EW (d:=45) (m rfl) (U (C:=j 45)) dE (by rw[au];exact cN (ah (al 1 cJ) rfl)) λk eB=>QK (U (C:=S (EH.map j))) (show 24<aa by decide) λp dF=>wI (eB.aF.G dF.o id) dF.aF (by rw[lD,au];exact cN (by refine(?_:_+24<1000);exact ah (al 25 (qG _ _)) rfl)) λl dG=>FW dG.aF (by rw[dw,lD,au];exact cN (by refine(?_:_+24<1000);exact ah (al 25 (qG _ _)) rfl)) λv dH=>?_)));obtain⟨Q,af⟩:∃Q,Q=l.i:=⟨_,rfl⟩;rw[<-af];have eF:=dG.i;have W:=dH.i;have eG:gj v Q:=⟨t (E 1 (c8 _) (D eF)) (D af),(bl.take 45++EH).reverse,by rw[af,BV,eq,Ih];exact dH.aF,by rw[mQ,dw,lD];refine(?_:_+24<1000);exact ah (al 25 (qG _ _)) rfl⟩;refine gP (X (m rfl) a5) (dp Q v _ eG λai w av aw aA b eH eJ eK bN bY eL aV b0 bO bp aB br cQ aI=>?_);have aC:=br.bo;have eM:b≠[]:=λF=>by rw[F] at aC;exact ei aC rfl
 refine dL (kR bp (m rfl) rfl rfl) (dL (Uj aB aC (ah (al 1 aI) rfl) (m rfl)) ?_);refine gP (X (m rfl) (X (m rfl) a5)) (dq ai.iD v.i w aA b ai eH _ aB br aI bp bN (by have:=bp.bj;exact E 1 (c8 _) this) λbt dI eN dJ b2 eO eP eR eS=>?_);have eT:=aB.G b2 λ_ _=>id;have dM:=bp.G b2 id;refine gP (X (m rfl) (X (m rfl) a5)) (dt ai.iD v.i w aA b ai eN _ eT br aI dM bN (by have:=dM.bj;exact E 1 (c8 _) this) λbw dN b3 dP dQ b4 eV eY=>?_);have aY:=b2.az dQ;refine xS (sU (g5 (hE (m rfl) (g5 (hE (m rfl) (g5 (QQ (a:=aA+1) (Uh (m rfl)) (ah (al 2 aI) rfl) λeZ b5=>?_)))))));have aZ:=b5.i;have b6:=aY.az b5.o;have cR:=aB.G b6 λ_ _=>id;have b7:=bp.G b6 id;have b9:=bO.G b6 id id id;have cU:=br.b8;have e0:(eQ (aA+1)).length=b.length:=by exact c (k7 ..) (c aC rfl)
 have dR:sE b (eQ (aA+1)):=cU.GS (ah (al 1 aI) rfl) (by decide) eM e0 BX (λbx q=>by rw[mU] at q;exact t q (D aC)) (by exact c (BO (fS _ _)) rfl);refine a5 _<|cM w ai.iD b3.i v.i av aw b (eQ (aA+1)) ai [] eZ _ cR b7 b5.aF b9 bN dR λaL cV b' cW aj f5 bP cb cX bz bA e1 _ e3 e4=>x9 rfl<|ex (rK (m rfl)) rfl ?_
 have ag:=cR.eh b9;have dS:=cR.su bP (Dq ag.1.1 ag.1.2.1) λN A=>by have:=ag.2 N A;exact Me this.1.1 this.1.2.1 this.2.1 this.2.2.1
 have a':w≠av/\w≠aw:=⟨λF=>(by subst F;exact dW (b7.cm b9.a9) rfl),λF=>(by subst F;exact HH b7 b9)⟩;have cY:=b7.G bP (Dq a'.1 a'.2);have dT:gj aj Q:=(eK.G b6 id).G bP (dm (aD (t (E 1 (ab af) (D W)) aV)) (aD (t (E 1 (ab af) (D W)) b0)));refine fA (QF dS (ah (al 1 (d9 1 (ab aC) aI)) rfl) (λN A=>by have:=br.c N A;exact ah (al 1 this) rfl) (m rfl) λbQ dU f7 dV _ e5 dX=>?_);have f9:dU.length=b.length:=by have:=cS qC dX;rwa [au,au] at this
 have e6:=dT.G dV id;have c0:Q<aj.i:=dT.bj;refine xV (g5 (mr (hE (U (C:=j 1)) (m7 cL (m rfl) (U (C:=j 3)) e6 (by decide) λdY f' aM c2=>wE (a:=1+dY) (za) ?_))));refine AC (ah (al 1 (cZ (H 1 aM) 1)) rfl) (λaW dZ bT=>DA Q w ai.iD aA bt bw aL.aq b' bQ dZ/\∃aQ,aE (λy=>aj.i<=y\/y=Q) aj bT/\gj bT Q/\cO bT aj.i bQ aQ/\wi (c5 b) (c5 aQ) (22+3*aW) (6*2^aW- 2)) ⟨⟨rfl,rfl,rfl,rfl,rfl,rfl,rfl,rfl,rfl,rfl⟩,dU,(dV.a0 λ_ _=>ed).az (c2.o.a0 λ_ _=>ar),c2.P,e5.G c2.o λy bB F=>aS (t (t c0 bB) (ab F)),?_⟩ ?_ ?_
 ·exact c dX<|⟨cU.a0 (H 14 (t (al 15 aI) (bX _ _))),bv _,λ_ _ _ _ _=>Iff.rfl,λay N T l=>a8 N T l⟩
 ·rintro aW d0 T gc d1 ⟨ae,aQ,bx,e7,e8,c3⟩ e';have c4:DA Q w ai.iD aA bt bw aL.aq b' bQ (d0.aP 12 (I aW)):=⟨ae.eI,ae.cD,ae.eD,ae.eW,ae.kT,ae.jY,ae.mI,ae.mJ,ae.va,ae.pg⟩;have cf:2^aW<=2^2:=Ix (by decide) (Mg aM d1);have fa:=ID aW;have aU:=c3.cq;rw[au,au] at aU;exact tl (X (m c4.eI) (X (m c4.pg) a5)) (dv Q bQ aj.i (22+3*aW) (6*2^aW- 2) aQ T _ e7 c0 e8 c3.b8 (bX _ _) (Mh aM d1) (ah (t (mW _ _) (fT 6 cf)) rfl) (dr (t (E 1 cQ (D aC)) aU) rfl) λfb bT fc fe ff fg=>e'.dK _ _ ⟨c4,fb,bx.az fc,fe,ff,c3.ez fg (by exact c (Nat.pow_succ ..)<|Mi fa)⟩)
 rintro d0 fh ⟨ae,aQ,d2,fi,d3,bb⟩;have cf:2^(1+dY)<=2^3:=Ix (by decide) (Mj aM);have aU:=bb.cq;have cg:=bb.b8.bo;rw[au] at cg;rw[au,au] at aU;have fj:aQ≠[]:=λF=>by rw[F] at aU;exact Zc aA (t (D aC) aU)
 refine gP (X (m ae.eI) (X (kQ d3 (Mk aM cg) (m ae.pg)) a5)) (dx Q aQ.length fh _ fi (dr (t (E 1 cQ (D aC)) aU) rfl) (Ml aM cg) λcj ck d6 d' fk c6 fl c7 fm fo fp=>?_);have cn:aE (λy=>aj.i<=y\/y=Q) aj d6:=d2.az (d'.a0 λ_ _=>ar);obtain⟨_,_,fq⟩:=cb.lu;have fs:=fq.bj;have cu:=cb.a9.bj;have da:=cb.aF.bj;have ea:=cY.bj;have ft:=cb.G cn (dm (l3 fs) (a3 (t (E 1 (ab af) (D W)) eL))) (dm (l3 cu) (a3 (t (E 1 (ab af) (D W)) aV))) (dm (l3 da) (a3 (t (E 1 (ab af) (D W)) b0)));have fu:=cY.G cn (dm (l3 ea) (a3 (t (E 1 (ab af) (D W)) bY)));have fv:=d3.G d' λy bB F=>a'.1 (d4 (H 2 (t (E 1 (t (t (t ea bB) (ab F)) (ab af)) (D W)) aV)) (H 2 (t (E 1 (t (t (t cu bB) (ab F)) (ab af)) (D W)) bY)));have eb:sE aQ cj:=bb.b8.GS (Mm aM) (ah (al 1 (t (mW _ _) (fT 6 cf))) rfl) fj c7 fm fo fp;refine xS (fG (X (m ae.cD) (X (m ae.pg) (X (m rfl) a5))) (cM w bQ ck aj.i av aw aQ cj ai ([]++cW) d6 _ fv fu c6 ft bN eb λdc gd fw ec bD gg cx fy fz cy fB fE _ fF fH=>x9 rfl ?_));refine ex (rK (m rfl)) rfl ?_;have bE:=cX.fV;have be:=cX.ef;have cz:=cn.cq;have fI:=d2.cq;have ee:=cx.cq;have cA:aE (λy=>aj.i<=y\/y=Q\/y=av\/y=aw) aj bD:=(cn.a0 λy _ T=>T.elim (λaG=>ap aG) λaG=>ar (ap (d4 (ab aG) (D aG)))).az (cx.a0 λy _ T=>T.elim (λaG=>ar (ar (ap (d4 (ab aG) (D aG))))) λaG=>ar (ar (ar (d4 (ab aG) (D aG)))));have bG:∀y,v.i<=y->y≠Q:=λy T F=>aS (t (t (E 1 (ab af) (D W)) T) (ab F));have eg:v.i<=ai.iD:=aB.ic;have cB:=eO.G dQ id;have cC:bt≠av/\bt≠aw:=⟨λF=>(by
  have:=cB.cm (F▸(bO.G aY id id id).a9)
  injection this with this
  cases dI with
  |nil=>exact vu this
  |cons y dd=>injection this with Z _;exact l1 Z rfl),λF=>(by have:=cB.cm (F▸(bO.G aY id id id).aF);exact dW this rfl)⟩
 have cE:bw≠av/\bw≠aw:=⟨λF=>(by
  have:=b4.cm (F▸(bO.G aY id id id).a9)
  injection this with this
  cases dN with
  |nil=>exact vu this
  |cons y dd=>injection this with Z _;exact l1 Z rfl),λF=>(by have:=b4.cm (F▸(bO.G aY id id id).aF);exact dW this rfl)⟩
 have ek:=cB.bj;have en:=b4.bj;have eo:=b2.cq;have cF:=eJ.cq;have ep:=(bp.G aY id).bj;have bg:=(aB.G aY λ_ _=>id).jv;have bV:∀y,y<b3.i->v.i<=y->y≠av->y≠aw->¬(aj.i<=y\/y=Q\/y=av\/y=aw):=λy k p l v=>dm (λbx=>aS (t (t (t k (H 1 (D aZ))) bP.cq) bx)) (dm (λF=>aS (t (al 1 (t (ab F) (ab af))) (t (D W) p))) (dm l v));have fJ:cO bD v.i ai.iD b:=dS.su cA (bV _ bg.1 eg ag.1.1 ag.1.2.1) λN A=>⟨bV _ (bg.2 N A).1 (aB.cp N A).1 (ag.2 N A).1.1 (ag.2 N A).1.2.1,bV _ (bg.2 N A).2 (aB.cp N A).2 (ag.2 N A).2.1 (ag.2 N A).2.2.1⟩;have fK:=cY.G cA (bV _ ep bY a'.1 a'.2);have et:∀{y},y<b3.i->v.i<=y->y≠av->y≠aw->∀cH,M b3 y cH->M bD y cH:=λk p l v cH ay=>((ay.G b5.o id).G bP (dm l v)).G cA (bV _ k p l v);have de:aj.i<=ck:=ej fI fl;have fL:=c6.bj;have fM:=c6.G cx (dm (a3 (t cu de)) (a3 (t da de)));have fN:=jK.gb e1 e3 e4 dR;have df:=jK.gb fE fF fH eb;have eu:(c5 b).length=b.length:=au ..;let cI:sG:=⟨bD,ai,w,Q,av,aw,v.i,bt,bw,ck,aA,b,dI,dN,cj,aL,dc,cV,b',fw⟩;have dg:aL.aq+17<aj.i:=nz bE.1 (t bE.2.2.2 (ab bA));have bM:∀y,y<aL.aq->y≠Q->y≠av->y≠aw->¬pL cI y:=λy k p l v F=>Vl k (t (H 18 dg) (t cz cy)) (t (H 18 dg) (t cz ee)) p l v F;have fO:¬pL cI ck:=λF=>Vm c0 cu da dg de fL cy ee F
 have di:i3 cI:={
  ef:=fJ
  u2:=br
  eC:=⟨cQ,aI⟩
  zQ:=fK
  bq:=bN
  FA:=et ek (t cF dJ) cC.1 cC.2 _ cB
  FC:=et en (t (t cF eo) dP) cE.1 cE.2 _ b4
  FN:=fM
  AF:=eP
  AG:=eV
  AK:=⟨by refine(?_:b.length<=cj.length);exact t aU (D c7),t (ab c7) (t cg (ah (cZ (fT 3 (cZ (H 1 aM) 1)) 22) rfl))⟩
  Bw:=eR
  F8:=eS
  Bx:=eY
  rV:=sy.gb (dn:=id) fN cU (ah (al 1 aI) rfl) (by exact c (eu ..)<|bv _) (λay bk=>by have bk:ay<b.length:=bk;refine(?_:ay=_);rw[ih,BO (t bk (ab aC))];rfl) λ_ _ _ _ _=>Iff.rfl
  mN:=sy.gb df bb.b8 (ah (cZ (fT 3 (cZ (H 1 aM) 1)) 22) rfl) (by exact c (au ..)<|aU) (λ_ _=>rfl) λY fP dd ay bk=>bb.hI Y fP dd ay (by exact c eu<|bk)
  Fv:=λay N A fQ=>by obtain⟨ew,k,p⟩:=bb.uO ay N.J (lZ A) fQ;have bk:=(co.mp k).1;have:=df.J (df.dh bk).1 k;refine rU this λbx q ey=>?_;have fR:=bb.b8.c ew (bF k);refine d7 bx q (by exact c ey<|p)<|c ey<|(?_:(ew.ao.map _).length<=98);exact c (au ..) (ah (t fR (t (mW _ _) (fT 6 cf))) rfl)
  tc:=λy bB=>by
   rcases bB with T|T|T|T|T|⟨N,A,T|T⟩<;>refine c T ?_
   ·exact bM w (H 1 (t (E 1 ep (D aZ)) bz)) (bG _ bY) a'.1 a'.2
   ·exact bM bt (H 1 (t (E 1 ek (D aZ)) bz)) (bG _ (t cF dJ)) cC.1 cC.2
   ·exact bM bw (H 1 (t (E 1 en (D aZ)) bz)) (bG _ (t (t cF eo) dP)) cE.1 cE.2
   ·exact fO
   ·exact bM ai.iD (by have:=bg.1;exact H 1 (t (E 1 bg.1 (D aZ)) bz)) (bG _ eg) ag.1.1 ag.1.2.1
   ·exact bM N.a9 (by have:=(bg.2 N A).1;exact H 1 (t (E 1 this (D aZ)) bz)) (bG _ (aB.cp N A).1) (ag.2 N A).1.1 (ag.2 N A).1.2.1
   exact bM N.bU (by have:=(bg.2 N A).2;exact H 1 (t (E 1 this (D aZ)) bz)) (bG _ (aB.cp N A).2) (ag.2 N A).2.1 (ag.2 N A).2.2.1
  mG:=ch (by refine(?_:Q<aL.aq);exact H 1 (E 1 (t (E 1 (ab af) (D W)) aV) be.1)) (by refine(?_:Q≠av);exact aD (t (E 1 (ab af) (D W)) aV)) (by refine(?_:Q≠aw);exact aD (t (E 1 (ab af) (D W)) b0))
  sZ:=by refine(?_:cV<=dc.aq);exact t (t (ab bA) cz) cy}
 have fU:g0 ai av aw ([]++cW++ec) bD aL (aL.aq+12) cV b':=cX.rp cA (λy k p=>dm (l3 (t p (ab bA))) (dm (a3 (H 1 (t (E 1 (t (E 1 (ab af) (D W)) aV) be.1) k))) (dm (a3 (t be.1 k)) (a3 (t be.2.1 k))))) (dm (l3 (H 6 (t (E 1 bE.1 bE.2.2.2) (ab bA)))) (dm (a3 (bJ 12 (H 1 (E 1 (t (E 1 (ab af) (D W)) aV) be.1)))) (dm (a3 (bJ 12 be.1)) (a3 (bJ 12 be.2.1))))) λy _ p cH ay=>by have:=ay.bj;exact(aS (t (E 1 p this) (D bA))).elim
 have Y:f6 cI bD ([]++cW++ec) (aL.aq+12) (dc.aq+12):=⟨.dO,fk.G cx (dm (aD (t (E 1 (ab af) (D W)) aV)) (aD (t (E 1 (ab af) (D W)) b0))),fy,fU,fB▸fz,ap rfl,ap rfl,aD (bJ 12 (H 6 (t (t (t (E 1 bE.1 bE.2.2.2) (ab bA)) cz) cy)))⟩;refine S6 dz di (h:=_) ⟨ae.eI,ae.cD,ae.eD,ae.eW,ae.kT,ae.jY,ae.mI,ae.mJ,ae.va,rfl,rfl,rfl,rfl⟩ Y λdZ bT dj fW=>dL U (S4 cL dA di (dj.aP (ar (ar (ap rfl)))) fW (λgh gi gk gm gn cP dj Y F cJ=>S5 dB dD di dj Y F cJ λ_ _=>rfl) ii)
end P
end Mine.Tactic
end
section
open PySem PySem.W PyProof.Rows
namespace Mine.Tactic
theorem S2:Dz:=λm H y=>P.S1 (a:=87) (Xl m) H y
theorem abw:v2.Holds:=Az S2
end Mine.Tactic
end
end
theorem PySem.Challenge.cw_xm0475_01_holds : PySem.Challenge.rw_xm0475_01.Holds :=
 Mine.Tactic.abw
