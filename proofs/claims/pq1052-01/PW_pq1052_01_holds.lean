import PyProof.Rows.All
import Wide.All
import OpenK.AllK
import Wide.FinOn
import KE.BytesMake
import Open.Split
import KE.KPar
import KE.KIsNot
import PyProof.ExcAttrAll.Exception
import PyProof.Rows.Range3
import PyProof.RulesAs
import PyProof.CompFree
import KE.KSortTup
import KE.KDictSum
import Lean
import PySem.Challenge.RW_pq1052_01
set_option maxRecDepth 100000
set_option Elab.async false
set_option linter.all false
set_option maxHeartbeats 400000
set_option bootstrap.genMatcherCode false
set_option compiler.extract_closed false
set_option genSizeOf false
set_option genInjectivity false
open And renaming elim->ai,intro->cj
open Array renaming any_toList->OK,getD_eq_getD_getElem?->Pu,getElem?_eq_getElem->uA,getElem?_eq_none->GU,getElem?_setIfInBounds_ne->GJ,getElem?_toList->lY,isEmpty->Oq,length_toList->Gk,toList_append->W0,toList_push->aaa
open BEq renaming comm->uZ
open Bool renaming and_assoc->W8,and_comm->abp,and_eq_true->kc,and_eq_true_iff->bm,and_false->ny,and_true->qi,casesOn->aX,decide_and->aa6,eq_false_iff->mi,eq_iff_iff->Bl,false->F,false_and->abf,false_ne_true->kS,false_or->Bt,noConfusion->ak,not_eq_true'->Oo,not_false->abv,not_not->GN,or_eq_false_iff->ye,or_eq_true->GO,or_eq_true_iff->uS,or_false->yf,or_true->PT,true->T,true_and->BS
open Classical renaming choose->PN,choose_spec->PO
open Eq renaming trans->rY
open Except renaming casesOn->uI
open Exists renaming elim->af,imp->Bb
open ForInStep renaming yield->GW
open Iff renaming rfl->nN
open Int renaming add_assoc->mf,add_comm->Bk,add_nonneg->PW,add_sub_cancel->W5,add_zero->uT,ediv_one->X0,eq_ofNat_of_zero_le->uM,fdiv_eq_ediv_of_nonneg->W2,le_add_of_nonneg_right->Hm,le_antisymm->uU,le_min->yi,le_of_eq->PL,le_of_lt->nA,le_refl->cX,le_total->aaA,le_trans->cV,lt_add_one_iff->abt,lt_iff_le_and_ne->abu,lt_irrefl->uX,lt_of_le_of_lt->lW,lt_of_lt_of_le->xC,lt_trans->ql,min_eq_left->xD,min_eq_right->abj,natAbs_of_nonneg->W4,natCast_add->BJ,natCast_nonneg->cR,natCast_pow->BV,ne_of_gt->Os,not_le->xB,not_lt->bT,ofNat->xZ,ofNat_inj->fL,ofNat_le->dG,ofNat_lt->cM,ofNat_sub->aa8,sub_add_cancel->Pp,sub_nonneg_of_le->Pq,sub_nonpos_of_le->aau,toNat_le->sa,toNat_le_toNat->aby,toNat_lt->Pa,toNat_natCast->GP,toNat_of_nonneg->uD,toNat_of_nonpos->aaz,zero_add->aay
open List renaming all_cons->nB,all_eq_false->PR,all_eq_true->im,all_map->Bm,any_cons->uE,any_eq_false->V1,any_eq_true->Pr,append_assoc->ip,append_cons->aa4,append_nil->fm,casesOn->aS,cons->Bf,contains_iff_mem->Bc,drop_eq_getElem_cons->xY,drop_eq_nil_of_le->aav,drop_of_length_le->Hg,eq_nil_of_length_eq_zero->abs,eraseIdxIfInBounds_toArray->Gu,eraseIdx_eq_take_drop_succ->PH,eraseIdx_sublist->Hi,ext_getElem?->PC,filterMap_cons->OS,filter_congr->yc,filter_cons->abo,filter_cons_of_neg->xE,filter_cons_of_pos->xF,filter_eq_nil_iff->PP,filter_eq_self->qm,filter_filter->aaW,filter_map->He,filter_nil->abn,filter_sublist->xG,find?_append->abx,find?_cons->fG,find?_cons_of_neg->aaC,find?_eq_none->qu,find?_map->aa3,find?_some->sg,findIdx?_cons->Pj,findIdx?_toArray->aaG,foldl->Gi,forIn_cons->BF,getD_eq_getElem?_getD->yd,getElem?_append->OQ,getElem?_append_left->xV,getElem?_append_right->uQ,getElem?_eq_getElem->bX,getElem?_eq_none->iP,getElem?_eq_none_iff->uL,getElem?_eq_some_iff->cW,getElem?_inj->Z4,getElem?_map->gy,getElem?_of_mem->Oz,getElem?_range->GK,getElem?_replicate->Y9,getElem?_set_ne->aap,getElem?_set_self->Ph,getElem?_take->aaL,getElem_mem->kZ,getLast?_concat->Hp,getLast?_eq_none_iff->PU,getLast?_map->PV,isEmpty_iff->On,length->qp,length_append->bV,length_cons->iN,length_drop->abr,length_eq_zero_iff->abi,length_eraseIdx_le->OA,length_filter_le->lg,length_filter_lt_length_iff_exists->aaX,length_map->aL,length_nil->jF,length_range->sE,length_set->GV,length_singleton->sG,length_take->Bo,length_zipIdx->sH,lookup->Z0,lookup_cons->nH,map_append->cK,map_congr_left->uY,map_cons->oO,map_id->yh,map_inj_left->PZ,map_map->km,map_nil->PM,mem_append->cp,mem_append_left->V2,mem_append_right->xx,mem_cons->bJ,mem_cons_of_mem->xN,mem_filter->dZ,mem_filterMap->xA,mem_iff_getElem?->oV,mem_map->bZ,mem_map_of_mem->ya,mem_of_find?_eq_some->md,mem_of_getElem?->du,mem_range->kg,mem_replicate->aaM,mem_singleton->cJ,mem_zipIdx_iff_getElem?->Hk,nil_append->qv,nodup_append->Hn,nodup_cons->fq,nodup_nil->gW,not_mem_nil->aJ,of_mem_zip->aa2,pairwise_append->BU,pairwise_cons->sC,pairwise_iff_getElem->BR,pairwise_map->qt,perm_insertIdx->aa7,range->cE,range_succ_eq_map->W7,replicate->fj,replicate_succ->V4,set_set->aaK,size_toArray->lZ,take->PJ,take_append_drop->Hf,take_of_length_le->Ow,toArray->BQ,zipIdx_append->Hj,zipIdx_cons->abk,zipIdx_map_fst->Hl,zip_cons_cons->OP
open List.Mem renaming head->bw,tail->cq
open List.Pairwise renaming nil->yb
open List.Perm renaming eq_of_pairwise->abm
open List.Sublist renaming refl->abw
open Nat renaming add_assoc->fZ,add_comm->fF,add_le_add->sv,add_le_add_left->gM,add_le_add_right->sA,add_lt_add_left->aag,add_lt_add_right->aaT,add_mod_right->aba,add_right_comm->oL,add_sub_cancel->aaR,add_sub_cancel'->BO,add_zero->OF,and_comm->abd,beq->dQ,beq_refl->PG,ble->et,ble_eq_true_of_le->Hq,blt->fh,blt_eq->fY,casesOn->fK,div_lt_of_lt_mul->aaS,dvd_of_mod_eq_zero->aa9,eq_of_beq_eq_true->PB,le_add_left->oM,le_add_right->eF,le_antisymm->kj,le_div_iff_mul_le->aaU,le_of_ble_eq_true->kn,le_of_eq->dr,le_of_lt->bU,le_of_lt_succ->kh,le_of_not_lt->dw,le_of_succ_le->abl,le_of_succ_le_succ->Bg,le_refl->cD,le_succ->si,le_succ_of_le->kU,le_trans->am,le_zero->Gh,lt_add_of_pos_right->jh,lt_irrefl->jZ,lt_of_le_of_lt->cN,lt_of_le_of_ne->sD,lt_of_lt_of_le->cO,lt_of_not_le->BP,lt_of_succ_le->aaQ,lt_of_succ_lt->se,lt_of_succ_lt_succ->sB,lt_or_eq_of_le->BM,lt_succ_iff->abg,lt_succ_iff_lt_or_eq->V3,lt_succ_of_le->oU,lt_succ_of_lt->uG,lt_succ_self->iO,lt_trans->lX,lt_trichotomy->BI,min_eq_left->aad,min_le_left->aaN,min_self->W9,mod_eq_of_lt->Pt,mul_le_mul_left->yg,ne_of_beq_eq_false->BX,ne_of_gt->uJ,ne_of_lt->fu,not_lt->je,not_lt_zero->lV,pow_le_pow_right->PF,shiftRight_add->abe,shiftRight_eq_div_pow->PD,shiftRight_zero->BW,sub_add_cancel->Hb,sub_le->nK,sub_lt_sub_left->uR,sub_lt_sub_right->aaV,sub_pos_of_lt->aaP,sub_self->xW,sub_sub_self->aaO,succ->rZ,succ_le_succ->nG,succ_lt_succ->aat,succ_pos->kf,testBit_or->abc,testBit_two_pow_sub_one->abb,two_pow_pos->sF,zero_add->da,zero_le->bW,zero_testBit->Hh
open Nat.succ renaming inj->nM
open Ne renaming symm->eE
open Option renaming bind_eq_some_iff->gV,casesOn->aV,filter_eq_some_iff->mj,filter_some->iQ,isSome_iff_exists->xv,isSome_map->Z5,map->uV,map_eq_none_iff->aa5,map_eq_some_iff->jf,map_some->X4,mem_toList->xy,none->N,not_isNone->Ho,or_none->OR,some->S,some_ne_none->abh
open Option.some renaming inj->aA
open Or renaming elim->dP
open Prod renaming ext->uW,fst->uK,snd->ji
open Prod.mk renaming inj->Pz
open PyProof renaming noPylong_small->W3
open PyProof.Rows renaming Call_Name->sy,Subscript_->OV,assign_Name->Pi,callWith_type->GM,mirror_perm->Ha,seqObj->jH,slot_tuple_getitem->Bp,subscriptTail->Ov,tail_any->oN
open PySem renaming Around->aI,Comprehension->PY,DictEntry->gL,FuncData->ss,Model->nu,NameKind->oQ,OsState->Gg,Program->gK,Result->jC,Scope->jG,Shared->ah,World->fg,assignEach->GT,atKey->qk,backTo->qr,behindInMarks->xO,bm_if_false->kX,builtinLookup_eq_fast->qo,builtinsNs->xu,cLine->dY,call->V0,callWith->sw,call_meets->Bh,callerA->uy,cameBackBy->BK,cellsFrom->OT,checkBuiltinCall->Gf,classAt->xt,codeAny->gN,codeAny_call_builtin->Pg,codeAny_mono->GB,codeAny_of_tree->OH,compareOp->Gq,entryFor->uz,entryFor_of_fast->OB,entryFor_of_tree->OE,entryOfKey->Gs,evalArgs->GL,execs->gP,foldedSetIterable->aaB,frameOf->Y8,getItem->uB,getMethod->GF,getMethod_builtin->BC,holding->ux,intKind->oJ,isInstance->Pd,isSubtype->xH,isSubtype_type->Gw,leftWithCleanup->Gb,leftWithCleanup_false_of_bare->U9,letOwnedTupleGo->Pl,loadName->GD,mainGlobals->lU,model->ao,noFill_tuple_add->V6,noteFrame->GH,notedBy->nJ,operate->Bs,outcomeOf->Gc,pastItsLine_dict->ON,plainId_quiet->OI,preSum->Bw,pyNext->xU,raiseStmt->Ps,rawInt->mh,recursionLimit->su,setAttr->By,sizeLine->jD,sizeLine_eq->oK,slot_dict_contains->Ox,slot_dict_getitem->Oy,slot_list_getitem->Gn,slot_list_setitem->aar,standAt->BD,starEach->nI,subscripted->Br,swappedStores->Pk,swapsWith->GR,sysModules->nv,table->qf,tupleKind->Be,tupleKind_room_in1->Bu,typeIs_int->Gj,typeLookup->oP,typeLookup_type->qn,typeOf->qs,unbindBehindTheSuite->aaH,wpAny->aj,wpAny_Compare1->OW,wpAny_Constant_int->OU,wpAny_Constant_none->BA,wpAny_Constant_str->aaf,wpAny_Name->xP,wpAny_Try_except->aaI,wpAny_UnaryOp->Po,wpAny_alloc->Pe,wpAny_bind->ag,wpAny_call->uH,wpAny_callSpecial?_slot->Gm,wpAny_call_entry->uC,wpAny_dictEntries->Bv,wpAny_execs_cons->aaq,wpAny_execs_nil->xX,wpAny_field->kR,wpAny_getItem_list->X5,wpAny_getItem_list_slice->X3,wpAny_getItem_of->X6,wpAny_handleBy_cons->aaJ,wpAny_holding->eT,wpAny_isInstance->Gy,wpAny_isOneOf_keyiter->aa0,wpAny_isTrue_Compare1->OX,wpAny_letGo->OG,wpAny_load->uF,wpAny_loadPart->xJ,wpAny_lookBehind->Gx,wpAny_mono->bK,wpAny_newFunctionEnv_cells->aa1,wpAny_newObj_type->nC,wpAny_notOrdered_dict->Z7,wpAny_of_eq->gw,wpAny_point->BL,wpAny_pure->av,wpAny_pyIter_list->Y1,wpAny_pyIter_range->aaw,wpAny_rule->Bq,wpAny_sequenceKey->X2,wpAny_setField->xL,wpAny_setItem_pairs->aas,wpAny_specialOf->sf,wpAny_standAt->gO,wpAny_truthy_bool->qj,wpAny_typeNameOfWhole_keyiter->Px,wpAny_typeNameOf_keyiter->Py,wpAny_update->OJ,wpAny_updatePart->Y7,wpAt_bind->aaj,wpAt_of_wpAny->aak
open PySem.Around renaming frames_deeper->Qa,under_plainId->Y4
open PySem.Bind renaming madeBy->aah
open PySem.Builtin renaming bitNot->Bj,bitOr->W6
open PySem.Builtin.Bytes renaming bindOptional->Y3,buffer?->abR,decodersThatHold->Ga,exported->abI,fitsIndex->abS,ownRelease->abQ,payload->abO,sameRef->abK,tooLong->abT,write->abP
open PySem.Builtin.Bytes.exported renaming match_1->abJ
open PySem.Builtin.Dict renaming showsAll->aaZ,takeOut->X7
open PySem.Builtin.Dict_items renaming ownsTuple->abX
open PySem.Builtin.List renaming listFitsIndex->V5
open PySem.Builtin.Range renaming rangeFitsLong->abU,rangeSize->Pn,small->abV
open PySem.Builtin.Slice renaming sliceAdjust->X1,sliceApplied->abL,slicePlaces->Ot
open PySem.Builtin.Tuple renaming tupleCompareSizes->abW,tupleExact->Ou,tupleIsExact->abN,tupleItemsOf->abM
open PySem.Calls renaming callWith_builtin->BB,callWith_function->Pc,call_function_entry->X9,call_len_list->abC,spliced_cons->oR,spliced_nil->xR
open PySem.Challenge renaming rw_pq1052_01->Qd
open PySem.Code renaming builtin->xw,quiet_builtin->GA
open PySem.Data renaming casesOn->aai
open PySem.DictEntry renaming refKey->Y6
open PySem.Env renaming blockKind->abA
open PySem.ExcName renaming means->Ge
open PySem.ExceptHandler renaming casesOn->abY
open PySem.Expr renaming pos->yj
open PySem.F renaming args_tuple_add_2->V9,attr_Exception->aan,bm_called->OY,entry_tuple_add->V8,excCall_Exception->aao,plainAttrs_dict->aae,plainAttrs_list->OZ,slot_dict_get->Z8,slot_dict_iter->aaY,slot_dict_keyiterator_next->Pw,slot_dict_len->Y0,slot_dict_pop->Z6,slot_int_rmul->W1,slot_list_append->Z9,slot_list_insert->aac,slot_list_pop->aab,slot_tuple_add->V7,store_object->BG
open PySem.Flow renaming casesOn->xI
open PySem.Heap renaming SameBut->ma,get?_none_of_le->gq,get?_push_of_some->cu,get?_push_size->eD,get?_update_other->so,get?_update_self->kW,lt_size->ii,size_push->Y2
open PySem.Heap.SameBut renaming update->kT
open PySem.IsRange renaming new->aax
open PySem.NameKind renaming cell->Bz,free->GY
open PySem.Obj renaming data_mapDictKeys->X8,data_mapFields->OO,dropName->aaD,dropNameByArray->aaF,dropName_eq->aaE,isFreed_of_fields->xM,mapBytearray->Y5,mapFields->kY,mapSeq->nD
open PySem.Sem renaming wp->qe,wp_bind'->Oj,wp_mono->rX
open PySem.SeqAt renaming RcNeAt->Bn
open PySem.Shared renaming forget_eq->Ol,heap->abz
open PySem.Str renaming ofString->br
open PySem.Value renaming builtin->Pf,casesOn->aam,int->Bd,none->jE,ref->sq,type->xz
open PySem.W renaming Looks->dy,any_some->GE,check_slot->GQ,clsIn->uN,dictOf->qg,emptyDict->xS,findCls->BH,findIn->ij,hasDictIn->GC,instObj->qh,kas_ask->Hc,kas_rev->GZ,kat_cons->Hd,layAllW_rest->Gd,looks_clsIn->xK,looks_findIn->xT,looks_mroIn->uO,mroIn->jg,pre_splitW->Om,set_plain->OL,specialIn->BE,typeIn->sj,typeIs_bytes->Bx
open PySem.W.Looks renaming here->OM,ld->oS,of_pure->uP
open PySem.W.WData renaming int->Qb,layableAll->Ok
open PySem.World renaming params->abD
open PySem.callAny renaming viaDunder->aal
open ToString renaming toString->xQ
open PySem PySem.W PySem.Calls PyProof.Rows PySem.SeqAt PySem.MeetsSeq
namespace Mine
section
local macro_rules (kind:=Lean.Parser.Command.in)
 |s=>return let d:=s[2][1].setArg 0 (s[2][1][0].setInfo .none);let l:=s[0][1][0].getId.getString!.toList;.node .none `null ((Array.range 807).map fun k=>s[2].setArg 1 (d.setArg 1 (d[1].setArg 0 (Lean.mkIdent (.str `fin ("tw"++Nat.repr (((l.drop (k*11)).take 11).foldr (fun c n=>n*62+c.toNat-65) 0)))))))
include «|LGXCgHDQzL`qeFuUsY||LkVXuZNk|\BMdbrPjQrgqMB]^FlaZHD|MBcOyU\gxXgFMhafcXyVDVHMMRI~}HaNDJMEew~aJITPJMntTDsJ^BEMMLMu`]CXbgMMDTjnccRGXPMNcqyQVBy_PMwNankoc^uRMsXB]PX[zETMjV{]kpTg_OBDbuhd^{{NWMHmCwQEiUDXMFshTDhOxFXMJdVX~ZyVgXMvIVzmasGsXM_QuR~BjsGZMDENA}nh_Y^MnMtnvVLz}`MdmghzlUQaaMJPojwjpAfdMkFpblUZGfeMOGxSxLN[dfMy]orZTftBhMPofBn|ezLlMbspQdvXFVmMd[x_ysOUTnMMze~YAxYXoMaVnbw{HvdoMbr{uBfVGMsMJhNpNcbhgtMYO{bU{kK`uMupruPVoVEvMkQlsg}KYYwMyxwcVIIC~xMRmgwGd^|bzMLsRKStwnX|MkQwZIDpN[SB_KJVAit]t}M}PBsi[G}n~MYMc[ftXJEBNkHbaUCDjRBNUX}VqVIyHCNYOlx_S}a]GNbbeRfDl|YINimuP\geSBJNHUD}hTekaJN\~jS{kJGfJNAsXIri^okTBGziO|iWn^MN_xFRUv[SNIA`SuZqowy\RNNVuKEyGbqRNZ|NTAZf{iTNynNYM~JFtTN\XrAN{a[sUNDiMTm}BqEWNkVLoK]HtjWNpOojXGzsLXNRLrA_h^tZXNdwoi[H\ZF\NXMCSXSCaF\NRMVvDrfuVVBVulbDjFgP]NwnHlBAEK[`NtKS_`xdKg`NFQbfFNzVLaNKFdtfcjkqdNLxFuFW{qKfNP|uRR]YUNfN{J~~NJiLniNpJdzMoO[ErNENC{hue|AsNKAIX{cIw^tNClBVNqRcqzN~K{GhUNFCAOnKUVaniSkBOzDvbnaTzFFOIrzFqnPmrIO}QbFvRdjxKOfmWdNxvpbLOeAoBjGuwgMOU}^_rikJuMOyFxYsnh\CPOSDL`payPmROzENHaLlVv[BFekHABCdtXO|ZVr]}o[EYOErRmQ_EbW\BG{]EX]esN[OXK\vGXQdK\OCk}GuUNmj\BWy\JqPC{^^OKm_hlMIAr`O]}YKq\hWLcOHX\pgfEEQcOEdODyG~uscOqO]|_nY}igOQNf}e}ry[hOCbf^ZrVWAiOQz}IwO{hFiOvSx`kBvuHmOQqDA]uQ\nmOofENw]~lomOKUvSN[PCe^BbtDYiOGCRqOIJzj`UkEdtOujCTbWZw~tOMMorzXKpquOdD^cuAVS]wOKpgwwdBVnwOovNmv]kmAxOVCUGEQ`Fc_BnUBYhZIjI|OC}H\YDami|OcST}h]VlY}OeSCcBv{wo~O~Mbk|_{BkBPjyfECPjF~CPBwu`^zZI]EP[GWiWbwgzFPd_uoedIdyHPe```br]WfIPqHGrq`_XbJPMB[|ooQICLPy]Cd`u_`KLP\ci{GoLUOLPqwRvF\fo}LPK`_BoICqXMPujAzqFgdIOPBdS~NAD}QQPX[pgbFZRnRPgIg``BJgDSP]Xn_[c_VETPjZYToCGrUTPS{`kjg^JjUPlhK~vkcoKVP|jmMWPptWZPH|mDStoeY[PGA`auzLXc\PoPR_K_WKu]PYYaFPRoLE_PtiJXUYhew`Phk_zekuDOdPEIDsHcHQLhPAUhUKALnBkPeXbz|~QOzkP{a]oSXxjQlP[^wIWwLk[lPIFWCRGmculPHeq^q{qRCnPNOCzyEVgWnPUrq{vcQdopPr|IcjiIN]sPVqWmY~]FzsPYRIBDZSFEuPJVwijuv]KuPyx\py{PM^wPedpJDEh{OxPuGEb[DbKqxPbBoatmrN{yPAW`eq{akh{PavhJJiqmr}Pc\K|marUg~PVcBN`T]r[fBdIIWcdw^uCQmXNwwKH~~CQrQF}m}fBXFQY}GC^vwQ_GQNPrIWD]iBHQIsgEBQbpLKQW~az}gNyIMQKEUTyZVGEOQKUxVz|VVQPQFQjsiIC]]PQXOcaD^X~EUQR`UHXh\IuVQgrLy{\TRo[QBssqQ[vR]]QAmCq]~soe]QqOQuuqraOKATKJ`wV|\faQG{xjrSjF[cQSqEjp\_lkcQJS^yW\ZmkiBZ[OlOTWjmeQHqfWO]qjEfQbdhgxwJjNjBRAX|kzGCdlQFiGYyINUslQDpnRCBA^opQcfATifNrQsQoWs_dtWx]uQzG|}r{ia[wQqpXae`fU^wQ^Hf`[ljBqzQH\Y|Tu~MElBHcGUV^`ow|Qa\LvV]QCT}Q_|d|AypTA~QW~m^UHXSL~QshlxnpxWwARzzsxncXvMCRbBrP_wPqXCRem[luzqqtERE\gQ_DhaDFRgfG_MEQtmFR\||jxaYPvFR]YpymI}[FMRg]e[qolIZNR[ai\DzsAqORFaAAJ~gUZSRXkPu}n[|JURssVBFUJefVRVnqDn_MoiWR~K`IkWihyWR_}B}ouxPR\RlR`~ylo\X]RJtFyuAi|s]RPXeIOTUUb^RYuuloCcjZ_RlrHRUfvjaoBATbCiv{lBcRueOhnWZ^sdR~LafP_IVSgR|HaejkzJqgRYK}EkIVWXiRpHCjQjmjGkR`R`coQQqWlRHMAR[G}l_lR]hCor_o_UoRoXsuMnOtioRxmLkoMzQzrRQ~uDlKS]ttRnknxpHOReuRjbmaHogP_xRQ^q}f^L[L|RcEjWYBKGN}RFOgILQwBF~RGVkRx[{zoCS}{s\bWW{IDSxjtmbKBhXDSRnthTyND{GS|C|TL`ZhDISuX{E_[]ESISR[tmcPu}WJSzV]^\\OojJSZL\Atu_NuJSGR[GrMKZSMS{nEF~JxfkMSEGBQ_qXoxOSGnWQVU_l^RSVvXek_M\HSSn_gJNocfVVSuhgTfOunfVSMCrLLdsxJYS]]|yZGKuFuBkiJRxMD^A[SJLzxMuHETuBL|}AqNvnQ\SC}APTwY^A]S{Y|WGqInp_SX]tYkXmnp_SVJ~FJPKQO`SdtNj`hCvO`Sre}ybxvf^`ShaDfnhKcobSzgZ[SPXl{bSUcMJ}haJjdSXVEn~FzoRvB]N{pVQ`I{jSpH^jhTr~xkS{KTjR[t_ylSvHF}V\gJvoSx\bAJc\~pwB|xNo`[POVuSyO~yPOAxd|STK^hiWrrfLTVopH^]{FBMTnkC`e{OPONTadjWJyoFKzBg~OlwylwjOTpySpHRN{wQTT[qn[l{\JSTlLR[my]k[STAN^amRcdFTTBGqbunx{vUTojWH[IoH`VTuMVfqyAxC{BDNIudw~ieWT{x{jlZpjwWTiDTBsyURTYT`begkLY^j[TqSZ{rcF[q{B`NqYu|iam_T^mNbcFKtj`TWoOjzQIChbTuab{e\cHS|Bj\\ALLAGhdTcqp^_`izNeTxgIPYM}GFfTcbz|yNfqhiT`~a\sReriiTFFYzA]GeNBA_O{jyeNEIjTbPhcB~hNijTfzMSI}ahulTZjRSkyO`xmTapUVqs_XGoTZLd__GrgjpTeNPT}ClYqpTOo\tGs~[GrT\YBNnYQSKsTj`{VvDi^H~BaGcRg[QTTyTBQFuITGmy}TKCpSJl`bD~TKSFJ{kxJzAUtEeBnDkewHUKEujEYNHyIUgPtG}ySCUJUHRn~W`_q}KU}kk[bHF{mMUHlcKBMN`ySUNKDVpXj{tXUfQTRvHQjzXUR^yCQXBVyYUKGki[uhl[ZUfREDi~IRcCCIUtjsr~kdZUM{K^hMO}][UdIQGY`Diw[UZjL\GjaD|\UCumEI{^Fc^UWMwhpR_KX_U}}|~hWhvx_USmRSdpkAw`Ux|ELjsvwHaUjd`gIdqeIbUbkwDFLCPDdUtT}LttOwddU{}qo^K}srgUqp}wS}CwOjUB|GAAEcCQjUyyJsTZja^jUYvafUgbLLkUu}paw]OZekUL``kScs}QpUO]Gn`hNl}qUNtl_}ke|JsU^txa{dlJktUPLkFUH]Q|uUpSphy_cqcvUIrqwWyhTjvUzzNitxFRYxUyRcEGB[H|zU`FjYtkOC}zUB}xiK{sLy}U[ujUqQox~}UTCWtP^cQNAV{yvr`]fKyAVEzts{\|KUCVGdt[lCZL^GCao[N]PzmnCVfRHUqTrEYFVpTf[}MnP[FVeerSdwuQgFVe^aX~~VmrGV\U|M_v|rqLVzPdOvUCG\HCmu`[^rT[BNVabeIKK`^eNVTuUa~eO`_OV]`ay|oIPJPVAEvSShQwZRVvENGSRGkESVXSqmTH[}ySVfqPXjumjCUVrAWbVC\_HVV\QMZV[M_pWV{L_rZeFJBZVi|GxwhG^eZVzbRDlq{vqZVMNDgUjhSC]VvNk_JzzFa]VybFuBoOoObVtUwYUpyvqbVl]ry]YmJIcVIO{I\eubCdVwPokadxY]dVToMsPxDDmiVfPAqjyGIGkVNA`CqP_ZkmV{OTRS|i{boVtxqJynlp_tV{~FczNhtOxV}_X{[|}razVlm^OIoupwNA[ywyFs}zYPCHFtegjW|yRCrUUQJda~zRCtkUD`bmZAWCje{URx^{NXCwzwNFF`GYYCHqtBHe}nTZC|fkSkwV`K\CsCMgpBg^b\C\a_HHiMMo]Cgp[hjsPrI_CUlFhkFIKZ_CHiYCMmsuX`CqRIYwsML]cCvuGCk}Wa~PAB~dqnBjf^fCDPrZeQPPwgC|Tf|{xflSQAVMfE{MbWxhCUBNvz}CFOoCtJfQf\b|UoCtn}OI_U`ZoCMM`oV^c{`pCiENNDdHYrsC|~nANVVXwsCmXpxDU~nCtC[ruDBR{s]tCZrsDv~IGgtCJF_vamHv]wC_mAwlaxdUyCtDhBRKSK{zC}kzsKtrh|}C[ehAQwNve~CU}^idguXv~CWhRoYEucfSACnM`]OmcZAD`Re~VSmo^BDhY[|wECV`DDp\ChmHx`GED|sCQr[xDTGD|yZ]nWkQlGDvIEj[[R_VHDUpE~mnpwdHDPPo|KgYHQKDAG]\AZegjTAvbpUao{MWLDVj~}JbeAcMDf`GqgOOiSODjPbtlT\QLUAOtp}C_WVBTDshvmEcwgCUDeF}`VFQtjWDubOUu_ivmZDnqvemVaAI\DH]Fu}e{z}\Dyrs`deAf~]DxHtt|DrMsVAEykFDPE~RdD^OwmTvOv}dD`eBXP]a{~eDHQX[xS]IVfD{w]wmoCpsfD]YFdW]vzymD}}kt}pqxJnDJiMNJSss[qDUdu\W|bzTsDIxfSZqtcPtDMU|ue|YECuD]YYXk{]yDvDut\HWvbcuvDfhOShPtk[xDep{ibtVKTzDIk]uEkni{zDXmKAXPwj_YA[wNbAGyxE}DuLEJD|ishYAZ]yb^szA~}DuLBy{qjwKBERBxb^tO[HDEP~\yhZHWaDEvWWdiohMbFEj`rsqW\^bHEUqJn~T^vBLETGOeHU}zPMEvKPb|D\}QME\NMi_s~ehNEaGBtV[nnSOEzxFq[X]ltOEkTyb^lefnREmORQAL|XsREDObfHFRYzRE\pCH^bJywXE^Dkd|]KoHYElSdRuFwhc\AJ|n}vS{KM]EKE~\PWS]K^EnBEZTIHZz^EMazgy|UUS_EZEpfnUA}H]Atw`]n~l\VbEpyWIW]SY^bEyr{ZW{G]_bEoruOLkBIfbEQZ~K`Kne\dEKUpOjECT{eEkGinFmi[YfEMWGVUqDqAhEzkYY}vg}eiEDqNXtdYx}kESjDwqIb]OmEs^[fFpEjdnEzAmeBj]linEaSCEbculWpERKrjxgHnipEl`yCOTtC_qEoRbV}iy[]sEtoTT|S}XxwEVpVbMyLOjyEu\epwdhTL{EdQdEC\w}O{EBRGoCXyFo_AM^nMfixu]|E|yunZOcAF}EmzHuxncUK}EPY_Z\MXyq}En_rC\UXOz_AuqdS~WJc}AFsFp|ayxrbBFmsQ^JIZzQ`AusaLTbWjg`A\yntT|XZvHFd`iaddxQwHFnxItbkmVIIFJ_hnnECUfIFK{SemSalgJFMr_hw^sQsJFdosoLXE[lOFzDgt|pj_uQFNmj`CHZJASF`^JRa~bNNSFXWI|W`OiWWFITMh`cp|OZFswOZOjo{l^FkAMgaoZ[q_F}kajMfSdsaFNYvOF_eelbFZoxrjYLhcfFfLQ[nBNfVAAXLvZv{TWfgFnZLFU_qCNjFoIULgZdmfjF`izUKKjYQkFGUNyTIhtVkFq]EswgLHplFfk}]PMqMadAfCt_xtqACpFY~dwJbeBhrFSD|iGWSUWsFNm\Prv]|]sFwrozPuwCEeADp{dmMLfWtFAcvTQOoAttFW}q~^yk^ovF`TMHtBUqGwF{e~b`||xkxFzh[q~a}Cr{FiIEZ|y~}~eAx~mjAsX^L}FGa`yVnrAsCGvez[~GJ[hEGpVi{^UKUzEGsisHZ|IGMFGhU}kkt|JxJGHYTixRK^uLG^US_dUm_[gACzDBmJF[LOGl{X~}HFLbPGglGSU\quwPGN}`}SYqnDRGGPoRIOD|]SGbQUBrsnqBTGLNakNTQwCVGkdBx}IStxYGHODJ_DhDWZG~iQA`hoTMiAKiOwCCa}QbG]dV[uBkoUdGxBVfbcOq~dGN`T{XwEYXgGv]qnbngigiG}jBIbgQzcjG]qZA[XW^MmGOB}qiDfyWoG~mJNsn|w]pGmJ_ISel_cpG{E|rkftlipGIPC]BhGnSqGmwzZFILggtGLF}JDKo`JuGqE[Dy{^pkwGQv}zQYZhwxGnskt]\sGxyGD{`X\hvOJlAu~PX\uDIjBHercyaUG|UDHkUz\SPycZEHFZ]F`ykx]GHcGa{gRWThHHYLQDpfR\bNH}sU\z~XuvNHbOQDFmNvTOHYFJvSTWQRPHrcpHoeAlhRHCSLUOKaIiRHm`SSLC|egSH^gX|RwqyQnAjgqoliwhvTHuw~ApDzzaYHMp|kV}wUEZHr[|pr_VK`ZHb}N\KNOGD[HYcSSdRn~W[H[jPl~Zdee_HrVunGJCnHbHPcKVZu{f^cHQqazeKSKWfHyLD]k{L}YfHouuZz~HrlfHuWbdhFM|xfHMgSPlGW\ZjHcJB^[iZWZkHVgLELNqLPmHAwHkU{\IVpHe[Mpm_^TEqH^oTiQ_wp^qH}Ff|}~iE_AAyQtuxVEKHtHSTil]KfoytHiCao^]{T_AAOLji_JSLRzHgB{ljoMjc{HLyefmYunarAFxOgsY]i]~HibymTmRzt~Hm}s\lH[YSAItcniNbKFuDIipgoKXaAvDI~ylu]uzCzFIkgou~fdljLI~Ofmo]\[FMITQpk_A{h_RI|N^{KWlZvRIGCbFuFiLqSI^vlMf^s\HVIuhC}]nmaqWIs\aaXv^fKXIdKiJEoayUXIzdgAHfpKo_IyQpdSaoRMcILBVEKgocYdI`VLGx~F_bhIbpNAmbhktiIaypCQJrhjjICXY[`}GD~jIyt|q`BUYlmIAcuh{V{zumIKbPCBuH{qnIsHNZURKb{nIifWAgzohuoIBjynJQRtotIKcXYDopa{wA_G|rwopUdvIxaUKWbaPAwI\lCUXj}r^wIMhYt\TLbFxA}J_zZehumxIyvGn}XEosxIFOz{RglKZ|I\OsRgcIla~IuhP\}{m[zxA|\{vue}b\EJvWMcOYreHGJVC^mLxaXIHJbrleinxQ~HJ_wZHLYQeAJJOeAxumLCjJJH]|Y_kzsOKJn{TSpbVHDMJQf}vlY\nOQJuW\DKQRSmQJCVBpwSLENRJeZ{KrPYr]SJ}Zmxm_T[\TJmqSk~JJP]UJ`zFNhkhW]UJQJOKp|\WwzAGrTCfwJz\VJtpeDmKPLeVJ~CZvaTO_WWJMOL[LRGBxYJhBaaGK{tp\JfHrzPpkdv\JqADUwkv]O`J}wodtO`~C|AJwiCfcXugaJuvWOTHJJhaJzNtUTEkVRbJUJ_zfwYDXcJTtizbgV}scJkzTdgQ]kX|ATz`x}ohA|eJmE`KPcMtTfJF]AWLKw]agJRdImrBS`i|AIyq]gcTVLiJNam]m[LMTkJYJUlqrfwSnJeTqNGCydz}AuVfrFM`XUtJq_MZUQBgPuJnW_iO`jeHvJU_arBkU`K~AcLJf`Us]pvJ}Bhp^{I_SwJBqv`rPobVwJSA{UYNba_zJNMu\`u_l[{JJ}sgs[|YA|JO|\hRNXOV}JNNBKLRY]R~JJ`OBzpe|\AKhHQMS\UrnBK{{g]]^MDaABHIRUk]dDVFKq_O~JrjCxFK]cF^ufrgkABKVzkLjA}nIKAlSvgVJkSMKEIAVASnOANKfJLzjPuJfNKzl_rLU}fdOKGEYQRMceXQKYSJWWBRezQKWCJQUSSBmBBjhNp~BSTpSKI]KZHcSw]TKltNJYn\HnTKzlLzzsYNUUKxVhaJfY^~YKGBPTTNFCnCBGatiBgEWP]KwvgVnBflV]KKFhdBWnifDBmrhIraNYLfK[hdEYmPuuDBd[FqZIhYwDBu{KUywB`wgK~rM{W\OsPhKrJZrIqYsziKX^Ai[oKnJEBD~[vh]yEsmKJO{ZsiYk}mKBKvRZjpfQrK~b_MjxMMNvKuD^G[`_^ovK^^zGH]fpA~KyolzpvVPM~K_f[^ihHXIBLRPnUrZhsrELqi^eUgffJHLibCtiZb^RHL{K\~XReeyHLEF]pRpJKRJLuzAInAX}jJL}soKdh|sWKLsKB{rlj{UOLqXvPlZ[mFPLytUwkzbjIPL\yOrEvbQoPLfsqe}osMuHBjd}Q_zeotSLlfEsYpOFYULRglGPWaJZULN_iEjBzW^ULg|\mdaiYeVLEpGFC[znBXLaetHpATeZYLdlSOV[PTdZLIOXmdl~SA\LGGRc`FOO|\LbCRqTwYHc`Lvl[bGXOYQbL`_UdK|jk\dLYr`{dEApNeL[chhsrXlYeLBCxWGWsjLfLSLusiDdyAgLYu|LKoebulLFrQZctYTumLMRHr^A}RSsLuqRu{qfxesL]tvPxB~}zvLvv}igmmebyLCNOd]JWFvLB» in theorem x:True:=trivial
end
end Mine
section
local macro_rules (kind:=Lean.Parser.Command.declaration)
 |s=>s.getPos?.elim Lean.Macro.throwUnsupported fun _=>return let t:=s.rewriteBottomUp (.setInfo .none);if t[1][0].isToken "def"||t[1][0].isToken "abbrev" then t.setArg 0 (t[0].setArg 4 (Lean.mkNullNode #[t])) else t
namespace Mine.Tactic
theorem J{a:α}:a=a:=Eq.refl a
@[elab_as_elim] theorem aa{D:Sort u}{a b:D}{P:D->Prop}(h:a=b)(m:P b):P a:=Eq.ndrec (motive:=P) m h.symm
@[elab_as_elim] theorem au{D:Sort u}{a b:D}{P:D->Prop}(h:a=b)(m:P a):P b:=Eq.ndrec (motive:=P) m h
theorem tt:T=T:=J
theorem ff:F=F:=J
theorem aT{a:D}:S a=S a:=J
theorem mw{p:D->w->Prop}{C:Prop}(h:∃x y,p x y)(k:∀x y,p x y->C):C:=h.elim λx h=>h.elim λy h=>k x y h
theorem eG{p:D->w->Prop}(x:D)(y:w)(a:p x y):∃x y,p x y:=⟨x,y,a⟩
theorem aU{p q:D->Prop}{C:Prop}(h:∃x,p x/\q x)(k:∀x,p x->q x->C):C:=h.elim λx h=>k x h.1 h.2
theorem aG{p q:D->Prop}(x:D)(a:p x)(b:q x):∃x,p x/\q x:=⟨x,a,b⟩
theorem eN{p q r:D->Prop}{C:Prop}(h:∃x,p x/\q x/\r x)(k:∀x,p x->q x->r x->C):C:=h.elim λx h=>k x h.1 h.2.1 h.2.2
theorem bl{p q r:D->Prop}(x:D)(a:p x)(b:q x)(c:r x):∃x,p x/\q x/\r x:=(aG x a ⟨b,c⟩)
theorem mZ{p q:D->w->Prop}{C:Prop}(h:∃x y,p x y/\q x y)(k:∀x y,p x y->q x y->C):C:=h.elim λx h=>h.elim λy h=>k x y h.1 h.2
theorem dm{p q:D->w->Prop}(x:D)(y:w)(a:p x y)(b:q x y):∃x y,p x y/\q x y:=(eG x y ⟨a,b⟩)
theorem ie{p:D->w->c->Prop}{C:Prop}(h:∃x y z,p x y z)(k:∀x y z,p x y z->C):C:=h.elim λx h=>h.elim λy h=>h.elim λz h=>k x y z h
theorem xg{p:D->w->c->Prop}(x:D)(y:w)(z:c)(a:p x y z):∃x y z,p x y z:=(eG x y ⟨z,a⟩)
theorem iC{p q r:D->w->Prop}{C:Prop}(h:∃x y,p x y/\q x y/\r x y)(k:∀x y,p x y->q x y->r x y->C):C:=h.elim λx h=>h.elim λy h=>k x y h.1 h.2.1 h.2.2
theorem fN{p q r:D->w->Prop}(x:D)(y:w)(a:p x y)(b:q x y)(c:r x y):∃x y,p x y/\q x y/\r x y:=(dm x y a ⟨b,c⟩)
theorem sZ{p q r s:D->Prop}{C:Prop}(h:∃x,p x/\q x/\r x/\s x)(k:∀x,p x->q x->r x->s x->C):C:=h.elim λx h=>k x h.1 h.2.1 h.2.2.1 h.2.2.2
theorem yQ{p q r s:D->Prop}(x:D)(a:p x)(b:q x)(c:r x)(d:s x):∃x,p x/\q x/\r x/\s x:=(bl x a b ⟨c,d⟩)
theorem Wa{p q:D->w->c->Prop}{C:Prop}(h:∃x y z,p x y z/\q x y z)(k:∀x y z,p x y z->q x y z->C):C:=h.elim λx h=>h.elim λy h=>h.elim λz h=>k x y z h.1 h.2
theorem Cc{p q:D->w->c->Prop}(x:D)(y:w)(z:c)(a:p x y z)(b:q x y z):∃x y z,p x y z/\q x y z:=(xg x y z ⟨a,b⟩)
theorem eg{p q r:D->w->c->Prop}{C:Prop}(h:∃x y z,p x y z/\q x y z/\r x y z)(k:∀x y z,p x y z->q x y z->r x y z->C):C:=h.elim λx h=>h.elim λy h=>h.elim λz h=>k x y z h.1 h.2.1 h.2.2
theorem lH{p q r s:D->w->Prop}{C:Prop}(h:∃x y,p x y/\q x y/\r x y/\s x y)(k:∀x y,p x y->q x y->r x y->s x y->C):C:=h.elim λx h=>h.elim λy h=>k x y h.1 h.2.1 h.2.2.1 h.2.2.2
theorem kA{p q r s:D->w->Prop}(x:D)(y:w)(a:p x y)(b:q x y)(c:r x y)(d:s x y):∃x y,p x y/\q x y/\r x y/\s x y:=(fN x y a b ⟨c,d⟩)
theorem jy{p q r:Prop}{C:Prop}(h:p/\q/\r)(k:p->q->r->C):C:=k h.1 h.2.1 h.2.2
theorem bp{p q r:Prop}(a:p)(b:q)(c:r):p/\q/\r:=⟨a,b,c⟩
theorem zG{p q r s:Prop}{C:Prop}(h:p/\q/\r/\s)(k:p->q->r->s->C):C:=k h.1 h.2.1 h.2.2.1 h.2.2.2
theorem ot{p q r s:Prop}(a:p)(b:q)(c:r)(d:s):p/\q/\r/\s:=(bp a b ⟨c,d⟩)
theorem Ca{p q r s t:Prop}(a:p)(b:q)(c:r)(d:s)(e:t):p/\q/\r/\s/\t:=(ot a b c ⟨d,e⟩)
def rh:List String:=["bytearray.__contains__","bytearray.__mod__","bytearray.__rmod__","_struct.pack_into.held","bytearray.find.held"]++Ga
def wj:Code->Bool
 |.builtin id _=>!rh.contains id
 |_=>T
def Dv(l:List<|Code×Pos):Prop:=∀x∈l,wj x.1=T
def bf{D:Type}(M:nu)(A:aI)(t:Sem D)(Q:D->ah->Prop)(E:Value->ah->Prop)(s:ah):Prop:=∀n p,n.In A->wj n.code=T->Dv n.below->qe M n t (λa _ u=>Q a u) (λe _ u=>E e u) p s
def eC(M:nu)(A:aI)(c:Code)(R:jC->ah->Prop)(s:ah):Prop:=∀n p,n.code=c->n.Below A->Dv n.below->wpCode M n R p s
section
variable {α β:Type} {M:nu} {A:aI} {E:Value ->ah ->Prop} {s:ah}
theorem bD{t:Sem α}{Q:α->ah->Prop}(h:aj M A t Q E s):bf M A t Q E s:=λn p o _ _=>h n p o
theorem hH{t:Sem α}{Q C:α->ah->Prop}{g:Value->ah->Prop}(h:bf M A t Q E s)(l:∀a s,Q a s->C a s) (w:∀e s,E e s->g e s):bf M A t C g s:=λn p o c b=>rX M n t (λa _ s=>l a s) (λe _ s=>w e s) p s<|h n p o c b
theorem bQ{m:Sem α}{f:α->Sem β}{Q:β->ah->Prop}(h:bf M A m (λa u=>bf M A (f a) Q E u) E s):bf M A (m>>=f) Q E s:=λn p o c b=>by exact aa (Oj ..)<|rX M n m (λa z u C=>C n z o c b) (λ_ _ _ C=>C) p s<|h n p o c b
theorem zZ{m:Sem α}{k:Value->Sem Unit}{Q:α->ah->Prop}(h:bf M A m Q (λe u=>bf M A (k e) (λ_ a=>E e a) E u) s):bf M A (m.onRaise k) Q E s:=λn p o c b=>by exact aa (Sem.wp_onRaise ..)<|rX M n m (λ_ _ _ C=>C) (λe z u C=>C n z o c b) p s<|h n p o c b
theorem rC{Z:List Value}{m:Sem α}{Q:α->ah->Prop}(h:bf M A m Q E s):bf M A (ux Z m) Q E s:=λn p o c b=>by exact aa (Sem.wp_holding ..)<|h n p o c b
theorem DX{Q:α->ah->Prop}{c:Prop}[Decidable c]{a b:Sem α}(h:¬c)(q:aj M A b Q E s):aj M A (ite c a b) Q E s:=(if_neg h).symm▸q
theorem wt{c:Code}{R L:jC->ah->Prop}(h:eC M A c R s)(j:∀r s,R r s->L r s):eC M A c L s:=
 λn p a o b=>by exact let d:=_;((af (h n p a o b) λr e=>af (e) λu y=>ai (λG f=>(dm r u G<|j _ _ f))<|y):d)
end
theorem Rs{t:Sem Fin}{s:ah}{R:jC->ah->Prop}(b:s.asleep)(h:bf (ao H w) uy t (λa u=>∃f,a= .done f/\(R (.ok f) u/\Gb u.gens=F)) (λe u=>R (.error e) u/\Gb u.gens=F) s):∀P:Prop,(∀n r u M,runN (denote qf) H w n s ⟨t,.builtin "claim.caller" {},default,[]⟩= .halted (Gc r) u->schedN (denote qf) H w n (.single s ⟨t,.builtin "claim.caller" {},default,[]⟩)= .halted (Gc r) u->u.forget=M.forget->R r M->P)->P:=by{
refine let p:=_;(?_:p)
have c:qe (ao H w) ⟨.builtin "claim.caller" {},N,N,[],N⟩ t
  (Sem.finPost (ao H w) ⟨.builtin "claim.caller" {},N,N,[],N⟩ λr u=>R r u/\Gb u.gens=F)
  (λe _ u=>R (.error e) u/\Gb u.gens=F) default s:=by
 refine let d:=_;(?_:qe _ _ _ d _ _ _)
 refine rX _ _ t (λa z u C=>?_) (λ_ _ _ C=>C) default s (h _ default caller_in (by decide+kernel) (λx l=>by obtain⟨⟩:=l));refine aU C λf o G=>?_;refine aa o ?_;exact G
refine ie (wp_halts_full b c) λn r i Z=>?_;obtain⟨g,B,O,m,j⟩:=Z;exact λP k=>k n r g i O B m j}
theorem SH{c:ClaimW}{n:List Value->Sem Fin}{w:fg}{s:ah}{q:Addr->Prop}{G:Prop}{p:Heap->Prop}(E:s.asleep)(I:s.gens= #[])(t:∀args,c.pre args=T->Ok args=T->∀M:List gL->List gL,(∀l,(M l).Perm l)->∀P:Prop,(∀Z d,layAllW c.records (xt s.heap) w.params M args s=S (Z,d)->bf (ao c.prog w) uy (n Z) (λa u=>∃f,a= .done f/\(c.Ends s args Z d (.ok f) u/\u.os=s.os/\AllBare u.gens/\p u.heap)) (λe u=>c.Ends s args Z d (.error e) u/\u.os=s.os/\AllBare u.gens/\p u.heap) d->P)->P):c.CallFrom (λZ=>⟨n Z,.builtin "claim.caller" {},default,[]⟩) w q G p s:=by{
intro args O g M H;refine t args O g M H _ λZ d R z=>Rs (s:=d)
 (R:=λr u=>c.Ends s args Z d r u/\u.os=s.os/\p u.heap)
 (ah.asleep_of_life (Gd _ _ _ R).2.2.2 E)
 (hH z (λa u=>Bb λf h=>cj h.1 ⟨(bp h.2.1 h.2.2.1 h.2.2.2.2),U9 h.2.2.2.1⟩)
  λe u h=>⟨(bp h.1 h.2.1 h.2.2.2),U9 h.2.2.1⟩) _ λk r u L A B m j=>?_
exact⟨Z,d,R,k,_,u,B,(Or.imp (Bb λv h=>(Ca (congrArg Gc h.1) h.2.1 h.2.2.1 h.2.2.2.1 ⟨λb o y _=>h.2.2.2.2.1 b o y,h.2.2.2.2.2⟩)) (Bb λe=>Bb λQ=>Bb λC h=>(Ca (congrArg Gc h.1) h.2.1 h.2.2.1 h.2.2.2.1 ⟨h.2.2.2.2.1,λb o y _=>h.2.2.2.2.2 b o y⟩))<|j.1.congr (Ol m).1),(λ_ i x D=>by rw[I] at D;simp at D),(Ol m).1▸j.2.2,by exact aa ((runN_life _ _ _ A).trans (Gd _ _ _ R).2.2.2) J,ah.rest_eq<|(Ol m).2.2.2.1▸j.2.1⟩}
theorem abE{r:RowW}{x:Value->List Value->Sem Value}{h1:List Value->Sem Fin}{q:gK}{U d l:List Str}{h2:Bool}{y:ah->Bool}{A:(Str->Option Value)->Heap->Prop}{D:Type}{Yf:ah->D}{Ya:fg->D}{X:fg->Heap->Prop}{h8:Nat}(left:LeftO r.prog q U y Yf Ya h8) (hY:∀L s,Yf s=Ya L->X L s.heap) (h9:∀L h C,X L h->(∀b o,h.get? b=S o->C.get? b=S o)->X L C) (hX:∀s,y s=T->A (s.heap.nsMap lU) s.heap) (h3:∀t h C,A t h->(∀b o,h.get? b=S o->C.get? b=S o)->A t C)(z0:∀s,y s=T->RecFacts r.records s.heap) (h4:(!h2||r.records.isEmpty)=T) (ok:(chainsOk q&&opensWell r.prog&&(frees r&&r.within.isEmpty))=T) (hb:r.prog.bare) (hw:r.promised)(ht:∀Z (L:fg) (s:ah) t f (Q:Fin->ah->Prop) (E:Value->ah->Prop),s.heap.Ns lU t->t r.name=S f->bf (ao r.prog L) uy (x f Z) (λv u=>Q (.done<|.ret v) u) E s->bf (ao r.prog L) uy (h1 Z) Q E s)(z1:∀L s,s.heap.isNs lU=T->Ground q U [] A L s (s.heap.nsMap lU) (s.heap.nsMap xu) s.heap->∀n∈d,isTheDefsW r.prog s.heap n)(z2:∀(L:fg) (m i:ah) (t mb:Str->Option Value),Ground q U r.records A L m t mb i.heap->X L i.heap->∀(args:List WData) (Z:List Value) (H:List Addr),r.claim.pre args=T->Ok args=T->Laid r.records L m i args Z H->nv<m.heap.objs.size->∃f,t r.name=S f/\bf (ao r.prog L) uy (x f Z) (λv u=>GoodWG r.claim (xt m.heap) (Ge m.heap) args i (.ok<|.ret v) u) (λe u=>GoodWG r.claim (xt m.heap) (Ge m.heap) args i (.error e) u) i):r.claim.HoldsOpenBy (λZ=>⟨h1 Z,.builtin "claim.caller" {},default,[]⟩) d l h2:=by
 refine let za:=_;let zb:=_;(?_:W.ClaimW.HoldsOpenBy za _ _ _ zb)
 have Y:=bm.mp (bm.mp ok).1;have hk:=bm.mp (bm.mp ok).2;have j:=frees_parts hk.1;refine(bp ⟨hb,Y.2,by show r.makers.map _=[];refine j.2.2.2.2▸?_;rfl⟩ hw.witness λL=>⟨(left.behind hX Y.1 L).1,λu z3=>?_⟩);refine af ((left.behind (XP:=λt h=>A t h/\RecFacts r.records h) (λs B=>⟨hX s B,z0 s B⟩) Y.1 L).2 u z3) λm h0=>af h0.2.2 λs k=>?_;have a:=k.2.2.2.2.1;have G0:Ground q U [] A L s (s.heap.nsMap lU) (s.heap.nsMap xu) s.heap:=⟨a.T,a.B,a.D,a.TE,a.TD,a.W,a.X.1,a.cls,a.has,a.apart,a.once,a.K⟩;refine⟨m,h0.1,h0.2.1,s,k.1,z1 L s k.2.2.2.1 G0,a.X.2.1,a.X.2.2.1,(let za:=_;(?_:W.ClaimW.CallFrom _ _ _ _ _ za _))⟩;have h5:=Array.eq_empty_of_size_eq_zero<|beq_iff_eq.mp k.2.2.1;have G:=a.X.2.ground G0;refine SH (c:=r.claim) k.2.1 h5 λargs O h6 M h7 P kk=>af (xv.mp<|layAllW_isSome (P:=L.params) (ord:=M) G.has args r.args s (Om O).1) λp R=>?_;have c:=layAllW_keeps _ _ _ R;refine af (reads_layAllW h7 _ _ _ R h6 p.2.heap λ_ _ e=>e) λH I=>?_;have w:Laid r.records L s p.2 args p.1 H:=⟨(aG M h7 R),I.1,I.2.1,I.2.2,c,(Gd _ _ _ R).1.trans h5,(Gd _ _ _ R).2.2.1⟩;exact af (z2 L s p.2 _ _ (G.keeps h3 c) (h9 _ _ _ (hY L s k.2.2.2.2.2) c) args p.1 H O h6 w G.low) λf h=>kk p.1 p.2 R<|ht p.1 L p.2 _ f _ _ (G.keeps h3 c).T.g h.1 (hH h.2 (λv u g=>(aG _ J (have z:=g.laid j.1 (On.mp hk.2) (ident_freeW j.2.1 j.2.2.1 j.2.2.2.1) w;⟨z.1,z.2.1,z.2.2,λq=>⟨namesKept_of k.1 k.2.2.2.1 l c g.2.1.old,noTable h4 q⟩⟩))) λe u g=>have z:=g.laid j.1 (On.mp hk.2) (ident_freeW j.2.1 j.2.2.1 j.2.2.2.1) w;⟨z.1,z.2.1,z.2.2,λq=>⟨namesKept_of k.1 k.2.2.2.1 l c g.2.1.old,noTable h4 q⟩⟩)
abbrev abG (q:gK) (U:List Str) (A:(Str->Option Value)->Heap->Prop) (X:fg->Heap->Prop) (r:RowW) (d:DefRec) (k:List (Str×Expr)) (x:Value->List Value->Sem Value):Prop:=
 ∀(w:fg) (b i:ah) (t z:Str->Option Value),Ground q U r.records A w b t z i.heap->X w i.heap->∀(a:Addr) (o:Obj) (y G Q B I:Value),i.heap.get? a=S o->o.data= .func {docDef d.name d.params d.body d.scope y G Q with defaults:=B,kwdefaults:=I}->i.heap.CodeRec G d.name->Dflts t i.heap d.params k B I->t d.name=S (.ref a)->i.gens= #[]->∀(args:List WData) (m:List Value) (H:List Addr),r.claim.pre args=T->Ok args=T->ReadsAllW r.records (xt b.heap) i.heap m args H->WellAll w.params i.heap m args->(∀a∈H,(a==nv)=F)->bf (ao r.prog w) uy (x (.ref a) m) (λv u=>GoodWG r.claim (xt b.heap) (Ge b.heap) args i (.ok (.ret v)) u)
    (λe u=>GoodWG r.claim (xt b.heap) (Ge b.heap) args i (.error e) u) i
theorem Tactic.PySem.W.q0{r:OpenRow}{q:gK}{U:List Str}{y:ah->Bool}{A:(Str->Option Value)->Heap->Prop}{D:Type}{e:ah->D}{v:fg->D}{X:fg->Heap->Prop}{d:DefRec}{k:List (Str×Expr)}{c:Nat}(left:LeftO r.prog q U y e v c) (hY:∀L s,e s=v L->X L s.heap) (h0:∀L h C,X L h->(∀b o,h.get? b=S o->C.get? b=S o)->X L C)(hX:∀s,y s=T->A (s.heap.nsMap lU) s.heap) (h2:∀t h C,A t h->(∀b o,h.get? b=S o->C.get? b=S o)->A t C)(H:defOf q r.name=S (d,k)) (hp:r.prog.theDef r.name=S (d.params,d.body,d.scope)) (hk:kwWritten? d.params.kwonlyargs d.params.kw_defaults=S k) (h3:∀s,y s=T->RecFacts r.records s.heap) (h4:(!r.writes||r.records.isEmpty)=T)(k1:r.wellSaid=T) (l:(chainsOk q&&opensWell r.prog&&(frees r.toRowW&&r.within.isEmpty))=T) (hb:r.prog.bare) (u:r.toRowW.promised)(P:abG q U A X r.toRowW d k λf Z=>V0 f Z):r.Holds:=by{
refine⟨k1,u,abE left hY h0 hX h2 h3 h4 l hb u
 (λZ L s t f Q E R hf h=>bQ (bD (wpAny_nsGet R (by refine hf▸?_;exact bQ<|hH h (λ_ _ x=>bD<|av x) λ_ _ x=>x))))
 (λL s R G n O=>?_) λL m i t z G Y args Z as h5 g w h6=>?_⟩
.obtain rfl:n=r.name:=by split at O<;>simp_all
 exact pinned_of_view R G H hp hk
.refine let p:=_;(?_:p)
 refine ie (G.fn H) λa o pm zr=>?_;obtain⟨cd,h7,B,I,h1,M,h8,h9,j⟩:=zr;exact(aG (.ref a) h1<|P L m i t z G Y a o pm cd h7 B I M h8 h9 j (defOf_name H▸h1) w.gens args Z as h5 g w.reads w.well<|w.low h6)}
section
variable {α β:Type} {M:nu} {A:aI} {E:Value ->ah ->Prop} {s:ah}
theorem ZF{c:Code}{h:Option Value}{Q:Flow->ah->Prop}(d:eC M (A.mark h) c (λr u=>match r with|.ok f=>Q f u|.error e=>E e u) s) (H:h≠S byPass:=by intro x;cases x):bf M A (run c h) Q E s:=λn p o k b=>by exact aa (Sem.wp_run ..) (d _ p J (o.enter c h p H) (λx a=>by rcases bJ.mp a with rfl|a;exact k;exact b x a))
theorem Yr (a:eC M A c (λr u=>match r with|.ok (.ret v)=>Q v u|.ok _=>False|.error e=>E e u) s):bf M A (runValue c) Q E s:=λn p o k b=>by exact aa (Sem.wp_runValue ..) (a _ p J (o.enter c N p (by intro x;cases x)) (λx f=>by rcases bJ.mp f with rfl|f;exact k;exact b x f))
theorem vA (b:eC M A (.call f ⟨h9,a⟩) (λr u=>match r with|.ok (.ret v)=>Q v u|.ok _=>False|.error e=>E e u) s):bf M A (call f h9 a) Q E s:=Yr b
def AB(M:nu)(A:aI)(R:jC->ah->Prop)(a:Fin)(u:ah):Prop:=match a with|.done f=>R (.ok f) u|.again B=>B.quiet=T/\eC M A B R u
theorem rG(w:wj c=T)(h:bf M (A.under c) (M.den c) (AB M A R) (λe u=>R (.error e) u) s):eC M A c R s:=λn p d o b=>by{
rw[wpCode_iff_wp,d];refine rX M n _ (λa z u C=>?_) (λ_ _ _ C=>C) p s<|h n p (d▸o.in) (d▸w) b
induction a with
|done f=>exact C
|again B=>exact⟨C.1,C.2 (n.goto B) z J (o.goto B) b⟩}
end
theorem Ni{c:String}(a:rh.contains c=F)(D:uz qf c=S b)(h:bf (ao H w) (A.under<|.builtin c args) (b args) (AB (ao H w) A R) (λe u=>R (.error e) u) s):eC (ao H w) A (.builtin c args) R s:=by exact rG (show(!rh.contains c)=T from congrArg (!·) a) ((D▸h):bf _ _ (match uz qf c with|some b=>b args|none=>unsupported<|(withoutEnding? c "#data").getD c) _ _ s)
theorem La{c:String}(a:rh.contains c=F)(o:(xw c args).quiet=T)(D:uz qf c=S b)(h:aj (ao H w) A.in1 (Gf c args) (λ_ i=>bf (ao H w) (A.under<|.builtin c args) (b args) (AB (ao H w) A R) (λe u=>R (.error e) u) i) (λe u=>R (.error e) u) s):eC (ao H w) A (.call (.builtin c) args) R s:=rG tt<|bQ<|bD<|bK h (λ_ i X=>bD<|av<|cj o<|Ni a D X) λ_ _ C=>C
theorem ZJ(h:Q F s):bf (ao H w) A (abI v) Q E s:=λn p _ k b=>by{
have U:∀f,(∀c q,wj c=T->f (c,q)=F)->∀l,Dv l->l.any f=F:=by intro f G l o;rw[V1];intro x d;rw[G x.1 x.2<|o x d];decide
refine(?_:Q (((n.code,p)::n.below).any _) s);rw[U _ ?_ _ (λx d=>by rcases bJ.mp d with rfl|d;exact k;exact b x d)]
.exact h
.intro c q u
 induction c with
 |builtin id args=>{
have g:rh.contains id=F:=by rw[<-Oo];exact u
have X:∀x:String,rh.contains x=T->¬id=x:=λx d e=>by rw[<-e,g] at d;exact ak d
have C:Ga.contains id=F:=by{
induction e:Ga.contains id using aX with
|false=>rfl
|true=>have:id∈rh:=xx _<|Bc.mp e;rw[<-Bc,g] at this;exact ak this}
obtain⟨h9,a⟩:=args;delta abJ;refine rY (dif_neg (X "bytearray.__contains__" (by decide))) (rY (dif_neg (X "bytearray.__mod__" (by decide))) (rY (dif_neg (X "bytearray.__rmod__" (by decide))) (rY (dif_neg (X "_struct.pack_into.held" (by decide))) (rY (dif_neg (X "bytearray.find.held" (by decide))) ?_))));clear u X g U b k p h Q s E
induction h9 using aS with
|nil=>rfl
|cons i r=>refine(?_:(abK i v&&Ga.contains id)=F);rw[C,ny]}
 |_=>rfl}
section
theorem aD{D:Type}{b:D}{P:Prop}(e:N=S b):P:=(by cases e)
inductive V where
 |none|bool (b:Bool)|int (i:Int)|str (n:Nat)|bytes (n:Nat)|tup (l:List V)|ref (a:Addr)|scr (l:List Int)
inductive aY where
 |s (n:Nat)|i (i:Int)|t (l:List Int)
 deriving DecidableEq
inductive MO where
 |list (l:List V)
 |dict (es:List (aY×V))
 |inst (c:Nat) (dx:Addr) (fs:List (Nat×V))
 |exc (c:Nat) (dx:Option Addr) (tb:Option Addr) (fs:List (Nat×V))
 |bytearr (n:Nat)
abbrev MH:=Addr->Option MO
def MH.set(H:MH)(a:Addr)(o:MO):MH:=λb=>if b=a then S o else H b
def MH.d8(H:MH)(a:Addr):MH:=λb=>if b=a then N else H b
def MO.d7:MO->List Addr
 |.inst _ i _=>[i]
 |.exc _ i I _=>i.toList++I.toList
 |_=>[]
theorem mQ{c:Nat}{i I:Option Addr}{D:List (Nat×V)}{d:Addr}(h:i=S d):d∈(MO.exc c i I D).d7:=cp.mpr<|.inl<|xy.mpr h
theorem nY{c:Nat}{i I:Option Addr}{D:List (Nat×V)}{d:Addr}(h:I=S d):d∈(MO.exc c i I D).d7:=cp.mpr<|.inr<|xy.mpr h
theorem wT{P:Prop}{c:Nat}{i I:Option Addr}{D:List (Nat×V)}{d:Addr}(h:d∈(MO.exc c i I D).d7)(G:i=S d->P)(M:I=S d->P):P:=(cp.mp h).elim (λz=>G<|xy.mp z) λz=>M<|xy.mp z
def cg(H:MH)(a:Addr):Prop:=H a≠N\/∃b o,H b=S o/\a∈o.d7
set_option genCtorIdx false
structure CD where
 addr:Addr
 fields:List Nat
 meths:List (Nat×Nat)
 init:Nat
 isExc:Bool:=false
structure St where
 prog:gK
 w:fg
 K:Frag
 base:Heap
 mg:Str->Option Value
 mb:Str->Option Value
 os:Gg
 drawn:Drawn
 sd:Nat->Str
 N:Nat
 inj:∀a b,a<N->b<N->sd a=sd b->a=b
 ct:Nat->Option CD
def St.d9(U:St)(c:Nat):Addr:=match U.ct c with|some d=>d.addr|none=>0
def St.f7(U:St)(c:Nat):List Nat:=match U.ct c with|some d=>d.fields|none=>[]
inductive vI {α:Type} (P:α->Prop) (Q:List α->Prop) (es:List α):Prop
 |mk (e:α) (r:List α) (h:es=e::r) (p:P e) (q:Q r)
inductive oE {α:Type} (P P':α->Prop) (Q:List α->Prop) (es:List α):Prop
 |mk (e:α) (r:List α) (h:es=e::r) (p:P e) (p':P' e) (q:Q r)
theorem vI.imp{a:Type}{P R:a->Prop}{Q D:List a->Prop}{j:List a}(x:vI P Q j)(f:∀e,P e->R e)(g:∀r,Q r->D r):vI R D j:=by obtain⟨e,r,h,p,q⟩:=x;exact⟨e,r,h,f e p,g r q⟩
theorem oE.imp{a:Type}{P b L:a->Prop}{Q D:List a->Prop}{j:List a}(x:oE P b Q j)(f:∀e,b e->L e)(g:∀r,Q r->D r):oE P L D j:=by obtain⟨e,r,h,p,z,q⟩:=x;exact⟨e,r,h,p,f e z,g r q⟩
inductive vc (h:Heap) (v:Value) (P:List Value->Prop):Prop
 |mk (a:Addr) (vs:Array Value) (ep:Nat) (e:v= .ref a) (g:h.get? a=some {cls:=.type "tuple",data:=.seq vs ep}) (r:P vs.toList)
inductive zm (h:Heap) (v:Value) (l:List Int):Prop
 |mk (a:Addr) (vs:Array Value) (e:v= .ref a) (g:h.IsList a vs) (z:vs.size=l.length) (r:∀(i:Nat) (x:Int),l[i]?=some x->∃t,vs[i]?=some (Bd x t))
mutual
noncomputable def aE(st:St)(h:Heap):V->Value->Prop
 |.none,v=>v= .none
 |.bool b,v=>v= .bool b
 |.int i,v=>∃t,v= .int i t
 |.str n,v=>n<st.N/\∃t,v= .str (st.sd n) t
 |.bytes n,v=>∃b t,v= .bytes b t/\b.size=n
 |.tup l,v=>vc h v<|RepL st h l
 |.ref a,v=>v= .ref a
 |.scr l,v=>zm st.base v l
noncomputable def RepL(st:St)(h:Heap):List V->List Value->Prop
 |[],vs=>vs=[]
 |x::l,vs=>vI (aE st h x) (RepL st h l) vs
end
def gR(U:St)(h:Heap):List (Nat×V)->List gL->Prop
 |[],j=>j=[]
 |x::l,j=>oE (λe=>x.1<U.N/\∃t,e.key= .str (U.sd x.1) t) (λe=>aE U h x.2 e.val) (gR U h l) j
inductive mv (st:St) (h:Heap) (dx:Addr) (fs:List (Nat×V)):Prop
 |mk (es:List gL) (n:Nat) (g:h.get? dx=some (qg es n)) (r:gR st h fs es)
def de{u:Type}(R:aY->u->Prop)(U:St)(h:Heap):List (aY×V)->List (u×Value)->Prop
 |[],j=>j=[]
 |x::l,j=>oE (λe=>R x.1 e.1) (λe=>aE U h x.2 e.2) (de R U h l) j
def nU(U:St):aY->Str->Prop:=λk a=>∃n,k= .s n/\n<U.N/\a=U.sd n
def ti:aY->Int->Prop:=λk a=>k= .i a
def gm(U:St)(h:Heap):List (aY×V)->List (List Int×Addr×Value)->Prop
 |[],j=>j=[]
 |x::l,j=>oE (λe=>x.1= .t e.1) (λe=>aE U h x.2 e.2.2/\aE U h (.tup<|e.1.map .int) (.ref e.2.1)) (gm U h l) j
inductive gi (st:St) (h:Heap) (a:Addr) (es:List (aY×V)):Prop
 |s (kvs:List (Str×Value)) (r:de (nU st) st h es kvs) (d:h.DictOf (strKind st.prog st.w) a kvs)
 |i (kvs:List (Int×Value)) (r:de ti st h es kvs) (d:h.DictOf (oJ st.prog st.w) a kvs)
 |t (kvs:List (List Int×Addr×Value)) (r:gm st h es kvs) (d:h.DictOfH (Be (oJ st.prog st.w)) a kvs)
inductive Xq (h:Heap) (vs:Array Value) (T:Addr):Prop
 |mk (e:vs[1]?=some (.ref T)) (oT:Obj) (ts:Array Value) (g:h.get? T=some oT) (d:oT.data= .fields ts) (z:3<ts.size)
def oq(h:Heap)(Z:Array Value):Option Addr->Prop
 |none=>Z[1]?=S .none
 |some D=>Xq h Z D
def zD(U:St)(h:Heap):Option Addr->List (Nat×V)->Prop
 |none,D=>D=[]
 |some i,D=>mv U h i D
inductive E3 (st:St) (h:Heap) (a:Addr) (l:List V):Prop
 |mk (vs:Array Value) (e:h.PlainList a vs) (r:RepL st h l vs.toList)
inductive SR (st:St) (c:Nat):Prop
 |mk (d:CD) (e:st.ct c=some d) (x:d.isExc=false) (lt:c<1000)
inductive D7 (st:St) (c:Nat) (vs:Array Value):Prop
 |mk (d:CD) (e:st.ct c=some d) (x:d.isExc=true) (k:c<1000->vs[2]?=some .none)
structure Ri (st:St) (h:Heap) (a:Addr) (c:Nat) (dx:Addr) (fs:List (Nat×V)):Prop where
 k:SR st c
 g:h.get? a=some (qh (st.d9 c) dx)
 r:mv st h dx fs
 f:∀p∈fs,p.1∈st.f7 c
inductive QL (st:St) (h:Heap) (a:Addr) (c:Nat) (dx tb:Option Addr) (fs:List (Nat×V)):Prop
 |mk (vs:Array Value) (k:D7 st c vs) (g:h.get? a=some ⟨.ref (st.d9 c),dx,.fields vs,#[]⟩) (z:5<vs.size) (t:oq h vs tb) (r:zD st h dx fs) (f:∀p∈fs,p.1∈st.f7 c)
inductive Ui (h:Heap) (a:Addr) (n:Nat):Prop
 |mk (b:Array UInt8) (k:Nat) (g:h.get? a=some {cls:=.type "bytearray",data:=.bytearray b k}) (z:b.size=n)
def jv(U:St)(h:Heap)(a:Addr):MO->Prop
 |.list l=>E3 U h a l
 |.dict j=>gi U h a j
 |.inst c i D=>Ri U h a c i D
 |.exc c i I D=>QL U h a c i I D
 |.bytearr n=>Ui h a n
structure wP (H:MH):Prop where
 self:∀b o,H b=some o->∀d∈o.d7,H d=none
 other:∀b o b' o',H b=some o->H b'=some o'->b≠b'->∀d∈o.d7,d∉o'.d7
abbrev ae:=List (Option V)
def ae.at(l:ae)(i:Nat):Option V:=(l[i]?).join
structure aF where
 env:Env
 vis:List (Nat×Str)
 own:List Addr
 wr:List Addr
 frames:List Env
def aF.fs(U:aF):List Addr:=U.frames.filterMap (·.frame)
inductive Lh (st:St) (h:Heap) (x:V) (v:Option Value):Prop
 |mk (y:Value) (e:v=some y) (r:aE st h x y)
def ud(U:St)(h:Heap):Option V->Option Value->Prop
 |none,v=>v=N
 |some x,v=>Lh U h x v
def jX(U:St)(h:Heap):Option V->Option Value->Prop
 |none,_=>True
 |some x,v=>Lh U h x v
theorem ud.loc{U:St}{h:Heap}{x:Option V}{v:Option Value}(r:ud U h x v):jX U h x v:=by{
induction x using aV with
|none=>trivial
|some _=>exact r}
inductive zF (st:St) (env:Env) (h:Heap) (x:Str) (v:Option V):Prop
 |mk (m:Str->Option Value) (g:h.Ns env.locals m) (r:jX st h v (m x))
inductive jm (st:St) (env:Env) (h:Heap) (x:Str) (v:Option V):Prop
 |mk (c:Addr) (o:Obj) (y:Option Value) (e:env.cells.lookup x=some c) (g:h.get? c=some o) (d:o.data= .cell y) (r:jX st h v y)
def dq(U:St)(env:Env)(h:Heap)(x:Str)(v:Option V):Prop:=
 match env.kindOf x with
 |some .local=>zF U env h x v
 |some .cell=>jm U env h x v
 |some .free=>jm U env h x v
 |_=>False
def kB(env:Env)(x:Str):Option Addr:=
 match env.kindOf x with
 |some .local=>S env.locals
 |some .cell=>env.cells.lookup x
 |some .free=>env.cells.lookup x
 |_=>N
inductive DH (st:St) (H:MH) (s:ah) (a:Addr):Prop
 |mk (f:¬cg H a/\st.base.get? a=none) (o:Obj) (e:s.heap.get? a=some o) (q:∀vs n,o.data≠.seq vs n)
inductive wS (H:MH) (s:ah) (a:Addr):Prop
 |mk (f:¬cg H a) (o:Obj) (es:Array gL) (ep:Nat) (e:s.heap.get? a=some o) (q:o.data= .dict es ep)
theorem DH.off{U:St}{H:MH}{s:ah}{a:Addr}(h:DH U H s a):¬cg H a:=by(have f:=(h).1);exact f.1
theorem wS.off{H:MH}{s:ah}{a:Addr}(h:wS H s a):¬cg H a:=by(have f:=(h).1);exact f
structure aq (st:St) (fr:aF) (l:ae) (H:MH) (s:ah):Prop where
 base:st.base.StaysIn s.heap
 rep:∀a o,H a=some o->jv st s.heap a o
 apart:wP H
 fresh:∀a,cg H a->st.base.get? a=none
 loc:∀p∈fr.vis,dq st fr.env s.heap p.2 (l.at p.1)
 own:∀p∈fr.vis,∀a,kB fr.env p.2=some a->a∈fr.own
 ownAt:∀a∈fr.own,DH st H s a
 wrOwn:∀a∈fr.wr,a∈fr.own
 frm:s.heap.FunFrames st.base fr.frames
 frmAt:∀a∈fr.fs,wS H s a
 lim:s.gens= #[]/\s.os=st.os/\s.drawn=st.drawn
structure Go (fs wr:List Addr) (H:MH) (s:ah) (H':MH) (s':ah):Prop where
 there:∀a o,s.heap.get? a=some o->∃o',s'.heap.get? a=some o'
 keep:∀a o,¬cg H a->a∉wr->a∉fs->s.heap.get? a=some o->s'.heap.get? a=some o
 slots:∀a o,¬cg H a->a∉wr->s.heap.get? a=some o->∃sl,s'.heap.get? a=some {o with slots:=sl}
 mono:∀a,cg H' a->cg H a\/s.heap.get? a=none
theorem ug{h C:Heap}(t:∀a o,h.get? a=S o->∃B,C.get? a=S B){a:Addr}(e:C.get? a=N):h.get? a=N:=by{
induction q:h.get? a using aV with
|none=>rfl
|some o=>(refine af (t a o q) λB A=>?_);replace A:=e▸A;exact aD A}
theorem Go.refl{D w:List Addr}{H:MH}{s:ah}:Go D w H s H s:=⟨λ_ o e=>⟨o,e⟩,λ_ _ _ _ _ e=>e,λ_ o _ _ e=>⟨o.slots,e⟩,λ_ h=>.inl h⟩
theorem Go.off{D w:List Addr}{H Y:MH}{s u:ah}(x:Go D w H s Y u){a:Addr}{o:Obj}(G:¬cg H a)(e:s.heap.get? a=S o):¬cg Y a:=(λq=>by refine dP ((x.mono a) q) (λz=>G z) λz=>?_;replace z:=e▸z;cases z)
theorem Go.trans{D w:List Addr}{H Y d:MH}{s u M:ah}(x:Go D w H s Y u)(y:Go D w Y u d M):Go D w H s d M where
 there:=λa o e=>(x.there a o e).elim λB A=>y.there a B A
 keep:=λa o G c i e=>y.keep a o (x.off G e) c i<|x.keep a o G c i e
 slots:=λa o G c e=>(x.slots a o G c e).elim λf g=>(y.slots a _ (x.off G e) c g).elim λb I=>⟨b,I⟩
 mono:=λa h=>(y.mono a h).elim (x.mono a) λq=>.inr<|ug x.there q
theorem Go.d5{D w:List Addr}{H Y:MH}{s u:ah}(x:Go D [] H s Y u):Go D w H s Y u:=⟨x.there,λa o G _ B e=>x.keep a o G aJ B e,λa o G _ e=>x.slots a o G aJ e,x.mono⟩
theorem Go.of{D w:List Addr}{H Y:MH}{s u:ah}(E:∀a o,s.heap.get? a=S o->∃B,u.heap.get? a=S B)(k:∀a o,¬cg H a->a∉w->s.heap.get? a=S o->u.heap.get? a=S o)(m:∀a,cg Y a->cg H a\/s.heap.get? a=N):Go D w H s Y u:=⟨E,λa o G b _ e=>k a o G b e,λa o G b e=>⟨o.slots,k a o G b e⟩,m⟩
theorem Go.toks{D w:List Addr}{H:MH}{s:ah}{t:Nat}:Go D w H s H {s with toks:=t}:=.of (λ_ o e=>⟨o,e⟩) (λ_ _ _ _ e=>e) λ_ h=>.inl h
theorem iT{H:MH}{a:Addr}{o:MO}(e:H a=S o):cg H a:=.inl (by refine aa e ?_;exact λq=>(by cases q))
def ee(h C:Heap):Prop:=∀a o Z D,h.get? a=S o->o.cls= .type "tuple"->o.data= .seq Z D->C.get? a=S o
theorem vc.keep{h C:Heap}(k:ee h C){v:Value}{P b:List Value->Prop}(f:∀Z,P Z->b Z)(r:vc h v P):vc C v b:=by obtain⟨a,Z,D,g,I,R⟩:=r;exact⟨a,Z,D,g,k a _ Z D I J J,f _ R⟩
mutual
theorem aE.keep{st:St}{h h':Heap}(k:ee h h'):∀{x:V} {v:Value},aE st h x v->aE st h' x v
 |.none,_,r=>r
 |.bool _,_,r=>r
 |.int _,_,r=>r
 |.str _,_,r=>r
 |.bytes _,_,r=>r
 |.tup _,_,r=>vc.keep k (λ_=>RepL.keep k) r
 |.ref _,_,r=>r
 |.scr _,_,r=>r
theorem RepL.keep{st:St}{h h':Heap}(k:ee h h'):∀{l:List V} {vs:List Value},RepL st h l vs->RepL st h' l vs
 |[],_,r=>r
 |_::_,_,r=>vI.imp r (λ_=>aE.keep k) λ_=>RepL.keep k
end
theorem gR.keep{U:St}{h C:Heap}(k:ee h C){D:List (Nat×V)}:∀{j:List gL},gR U h D j->gR U C D j:=by{
induction D with
|nil=>exact id
|cons x l Z=>exact λr=>oE.imp r (λ_=>aE.keep k) λ_=>Z}
theorem jX.keep{U:St}{h C:Heap}(k:ee h C){x:Option V}{v:Option Value}(r:jX U h x v):jX U C x v:=by{
induction x using aV with
|none=>trivial
|some _=>obtain⟨y,e,r⟩:=r;exact⟨y,e,r.keep k⟩}
theorem de.keep{u:Type}{R:aY->u->Prop}{U:St}{h C:Heap}(k:ee h C){D:List (aY×V)}:∀{j:List (u×Value)},de R U h D j->de R U C D j:=by{
induction D with
|nil=>exact id
|cons x l Z=>exact λr=>oE.imp r (λ_=>aE.keep k) λ_=>Z}
theorem gm.keep{U:St}{h C:Heap}(k:ee h C){D:List (aY×V)}:∀{j:List (List Int×Addr×Value)},gm U h D j->gm U C D j:=by{
induction D with
|nil=>exact id
|cons x l Z=>exact λr=>oE.imp r (λ_ x=>cj (x.1.keep k)<|x.2.keep k) λ_=>Z}
theorem HD{p:gK}{w:fg}{u:Type}[DecidableEq u]{D:KeyKind p w u}{h C:Heap}{a:Addr}{c:List (u×Value)}(e:∀Q,h.get? a=S Q->C.get? a=S Q)(r:h.DictOf D a c):C.DictOf D a c:=by
 refine let b:=_;(?_:b)
 exact af (r) λo L=>af (L) λj y=>af (y) λd x=>ai (λY M=>(Cc o j d (e _ Y) M))<|x
theorem gi.keep{U:St}{h C:Heap}{a:Addr}{j:List (aY×V)}(k:ee h C)(e:∀Q,h.get? a=S Q->C.get? a=S Q)(r:gi U h a j):gi U C a j:=by{
refine let p:=_;(?_:p)
induction r using gi.casesOn with
|s c r d=>exact .s c (r.keep k)<|HD e d
|i c r d=>exact .i c (r.keep k)<|HD e d
|t c r d=>
 refine eg d λo j D Y l Z=>?_;obtain⟨A,v,m,R⟩:=Z;refine .t c (r.keep k) ⟨o,j,D,e _ Y,l,A,v,λx f=>?_,R⟩;refine let p:=_;(?_:p)
 refine eg (m x f) λB M n q b Z=>?_;obtain⟨g,y⟩:=Z;exact⟨_,M,n,k _ B M n q b g,b,g,y⟩}
theorem mv.keep{U:St}{h C:Heap}{a:Addr}{D:List (Nat×V)}(k:ee h C)(e:∀Q,h.get? a=S Q->C.get? a=S Q)(r:mv U h a D):mv U C a D:=by obtain⟨j,n,X,M⟩:=r;exact⟨j,n,e _ X,M.keep k⟩
theorem oq.keep{h C:Heap}{Z:Array Value}{a:Option Addr}(e:∀D∈a.toList,∀Q,h.get? D=S Q->C.get? D=S Q)(r:oq h Z a):oq C Z a:=by{
induction a using aV with
|none=>exact r
|some D=>obtain⟨u,y,I,O,x,d⟩:=r;exact⟨u,y,I,e D (bw _) _ O,x,d⟩}
theorem zD.keep{U:St}{h C:Heap}(k:ee h C){i:Option Addr}{a:List (Nat×V)}(e:∀D∈i.toList,∀Q,h.get? D=S Q->C.get? D=S Q)(r:zD U h i a):zD U C i a:=by{
induction i using aV with
|none=>exact r
|some i=>exact mv.keep k (e i<|bw _) r}
theorem jv.keep{U:St}{h C:Heap}{a:Addr}{o:MO}(k:ee h C)(e:∀b,b=a\/b∈o.d7->∀Q,h.get? b=S Q->C.get? b=S Q)(r:jv U h a o):jv U C a o:=by{
have f:=e a<|.inl J
induction o using MO.casesOn with
|list l=>obtain⟨Z,⟨n,X⟩,M⟩:=r;exact⟨Z,⟨n,f _ X⟩,M.keep k⟩
|dict j=>exact gi.keep k f r
|inst c i d=>exact⟨r.k,f _ r.g,r.r.keep k<|e i<|.inr<|bw _,r.f⟩
|exc c i I d=>obtain⟨Z,q,X,M,A,v,g⟩:=r;exact⟨Z,q,f _ X,M,A.keep λD u=>e D<|.inr<|xx _ u,v.keep k λD u=>e D<|.inr<|V2 _ u,g⟩
|bytearr n=>obtain⟨b,m,X,M⟩:=r;exact⟨b,m,f _ X,M⟩}
inductive Af (h:Heap) (a:Addr):Prop
 |mk (o:Obj) (e:h.get? a=some o) (q:∀vs n,o.cls= .type "tuple"->o.data≠.seq vs n)
theorem MY{U:St}{h:Heap}{a:Addr}{D:List (Nat×V)}(r:mv U h a D):Af h a:=by obtain⟨j,n,g,_⟩:=r;exact⟨_,g,λ_ _ _=>λz=>(by cases z)⟩
theorem LQ{p:gK}{w:fg}{u:Type}[DecidableEq u]{D:KeyKind p w u}{h:Heap}{a:Addr}{c:List (u×Value)}(r:h.DictOf D a c):Af h a:=by refine eg r λo j b Y _ Z=>?_;obtain⟨m,_⟩:=Z;exact⟨_,Y,λ_ _ _=>by refine aa m ?_;exact λz=>(by cases z)⟩
theorem Le{a b:String}(h:a≠b):xz a≠.type b:=λz=>h<|xz.inj z
theorem Kw{a:Addr}{x:Option Addr}(h:a∈x.toList):x=S a:=by{
induction x using aV with
|none=>cases h
|some y=>cases h with
 |head=>rfl
 |tail _ h=>cases h}
theorem K9{U:St}{h:Heap}{a d:Addr}{o:MO}(r:jv U h a o)(m:d∈o.d7):Af h d:=by{
refine let p:=_;(?_:p)
induction o using MO.casesOn with
|inst c i D=>{
cases m with
|head=>exact MY r.r
|tail _ h=>cases h}
|exc c i b D=>{
obtain⟨k,_,_,_,A,v,_⟩:=r;refine dP (cp.mp m) (λE=>?_) λE=>?_
.cases Kw E;exact MY v
.cases Kw E;obtain⟨_,y,I,O,x,_⟩:=A;exact⟨_,O,λ_ _ _=>by refine aa x ?_;exact λz=>(by cases z)⟩}
|list l=>cases m
|dict j=>cases m
|bytearr n=>cases m}
theorem aq.k7{f:St}{U:aF}{l:ae}{H:MH}{s:ah}(Y:aq f U l H s){a:Addr}(h:cg H a):Af s.heap a:=by{
rcases h with h|⟨b,Q,h,E⟩
.induction q:H a using aV with
 |none=>exact absurd q h
 |some x=>exact(by{
have r:=Y.rep a x q;refine let p:=_;(?_:p)
induction x using MO.casesOn with
|list l=>obtain⟨Z,⟨n,X⟩,_⟩:=r;exact⟨_,X,λ_ _ z=>absurd z (Le (by decide))⟩
|dict j=>{
induction r using gi.casesOn with
|s e r d=>exact LQ d
|i e r d=>exact LQ d
|t e r d=>(refine eg d λx j u g _ o=>?_;obtain⟨t,_⟩:=o);exact⟨_,g,λ_ _ _=>by refine aa t ?_;exact λz=>(by cases z)⟩}
|inst c i D=>exact⟨_,r.g,λ_ _ z=>(by cases z)⟩
|exc c i I D=>obtain⟨Z,_,X,_⟩:=r;exact⟨_,X,λ_ _ z=>(by cases z)⟩
|bytearr k=>obtain⟨b,m,X,_⟩:=r;exact⟨_,X,λ_ _ z=>absurd z (Le (by decide))⟩})
.exact K9 (Y.rep b Q h) E}
theorem aq.at{b:St}{U:aF}{l:ae}{H:MH}{s:ah}(Y:aq b U l H s){a:Addr}(h:cg H a):∃o,s.heap.get? a=S o:=by obtain⟨o,e,_⟩:=Y.k7 h;exact⟨o,e⟩
theorem aq.off{b:St}{U:aF}{l:ae}{H:MH}{s:ah}(Y:aq b U l H s){a:Addr}(h:s.heap.get? a=N):¬cg H a:=λq=>by obtain⟨o,e,_⟩:=Y.k7 q;replace e:=h▸e;exact aD e
theorem aq.i8{b:St}{U:aF}{l:ae}{H:MH}{s:ah}(Y:aq b U l H s){a:Addr}(h:s.heap.get? a=N):H a=N:=by{
induction q:H a using aV with
|none=>rfl
|some o=>exact absurd (iT q)<|Y.off h}
theorem aq.j3{d:St}{U:aF}{l:ae}{H Y:MH}{s u:ah}(b:aq d U l H s)(G:Go U.fs U.wr H s Y u):ee s.heap u.heap:=λa o Z n e g m=>
 G.keep a o ((λf=>by obtain⟨B,A,q⟩:=b.k7 f;rw[e] at A;(obtain rfl:=aA A);exact q Z n g m)) (λc=>(by obtain⟨_,B,A,q⟩:=(b.ownAt a<|b.wrOwn a c);rw[e] at A;(obtain rfl:=aA A);exact q Z n m)) (λc=>(by obtain⟨_,B,j,D,A,q⟩:=(b.frmAt a c);replace A:=e▸A;(obtain rfl:=aA A);replace q:=m▸q;cases q)) e
theorem aq.d6{a:St}{U:aF}{l:ae}{H Y:MH}{s u:ah}(b:aq a U l H s)(G:Go U.fs [] H s Y u):ee s.heap u.heap:=b.j3 G.d5
theorem Ip{c h C:Heap}{D:List Env}:(∀a∈D.filterMap (·.frame),∀o,h.get? a=S o->∃f,C.get? a=S {o with slots:=f})->h.FunFrames c D->C.FunFrames c D:=by{
induction D with
|nil=>exact λ_ _=>trivial
|cons env r Z=>rintro k ⟨G,⟨w,o,g,I,Y,Q⟩,i⟩;obtain⟨f,e⟩:=k w (xA.mpr<|aG env (bw _) g) o Y;refine⟨G,(kA w _ g I e Q),Z (λa R=>k a ?_) i⟩;refine aU (xA.mp R) λx b n=>?_;exact xA.mpr<|aG x (cq _ b) n}
theorem jm.keep{U:St}{env:Env}{h C:Heap}{x:Str}{v:Option V}(k:ee h C)(e:∀a,env.cells.lookup x=S a->∀o,h.get? a=S o->∃f,C.get? a=S {o with slots:=f}) (r:jm U env h x v):jm U env C x v:=by obtain⟨c,o,y,q,X,M,A⟩:=r;obtain⟨f,g⟩:=e _ q o X;exact⟨c,_,y,q,g,M,A.keep k⟩
theorem dq.keep{U:St}{env:Env}{h C:Heap}{x:Str}{v:Option V}(k:ee h C)(e:∀a,kB env x=S a->∀o,h.get? a=S o->∃f,C.get? a=S {o with slots:=f}) (r:dq U env h x v):dq U env C x v:=by{
unfold dq at r ⊢;unfold kB at e;generalize env.kindOf x=z at r e ⊢
induction z using aV with
|none=>exact r
|some z=>induction z with
 |«local»=>exact(by{
refine let p:=_;(?_:p)
obtain⟨m,⟨o,j,D,X,M⟩,A⟩:=r;obtain⟨f,g⟩:=(e _ aT) o X;exact⟨m,(Cc _ j D g M),A.keep k⟩})
 |cell=>exact jm.keep k e r
 |free=>exact jm.keep k e r
 |_=>exact r}
theorem CG{c h:Heap}(b:c.StaysIn h){a:Addr}(q:h.get? a=N):c.get? a=N:=ug (λa o e=>⟨o,b a o e⟩) q
theorem aq.next{d:St}{U:aF}{l:ae}{H Y:MH}{s u:ah}(b:aq d U l H s)(G:Go U.fs [] H s Y u)(D:d.base.StaysIn u.heap)(I:∀a o,Y a=S o->jv d u.heap a o)(R:wP Y)
  (g:u.gens=s.gens/\u.os=s.os/\u.drawn=s.drawn):aq d U l Y u where
 base:=D
 rep:=I
 apart:=R
 fresh:=λa h=>(G.mono a h).elim (b.fresh a)<|CG b.base
 loc:=λp O=>(b.loc p O).keep (b.d6 G) λa w o e=>G.slots a o (b.ownAt a<|b.own p O a w).off aJ e
 own:=b.own
 ownAt:=λa h=>(by
  obtain⟨⟨c,C⟩,o,e,M⟩:=(b.ownAt a h);exact af (G.slots a o c aJ e) λf A=>⟨⟨G.off c e,C⟩,_,A,M⟩)
 wrOwn:=b.wrOwn
 frm:=Ip (λa h o e=>G.slots a o (b.frmAt a h).off aJ e) b.frm
 frmAt:=λa h=>(by
  obtain⟨c,o,j,i,e,M⟩:=(b.frmAt a h);exact af (G.slots a o c aJ e) λf A=>⟨G.off c e,_,j,i,A,M⟩)
 lim:=(bp (g.1.trans b.lim.1) (g.2.1.trans b.lim.2.1)<|g.2.2.trans b.lim.2.2)
theorem aq.toks{a:St}{U:aF}{l:ae}{H:MH}{s:ah}(Y:aq a U l H s)(t:Nat):aq a U l H {s with toks:=t}:=Y.next Go.toks Y.base Y.rep Y.apart (bp J J J)
structure kN (st:St) (fr:aF) (l:ae) (H:MH) (s:ah) (H':MH) (s':ah):Prop where
 S:aq st fr l H' s'
 G:Go fr.fs [] H s H' s'
theorem kN.elim{a:St}{U:aF}{l:ae}{H Y:MH}{s u:ah}{P:Prop}(h:kN a U l H s Y u)(k:aq a U l Y u->Go U.fs [] H s Y u->P):P:=k h.S h.G
theorem aq.ext{c:St}{U:aF}{l:ae}{H:MH}{s:ah}(Y:aq c U l H s){C:Heap}{t:Nat}(k:∀b o,s.heap.get? b=S o->C.get? b=S o):kN c U l H s H {s with heap:=C,toks:=t}:=by have G:Go U.fs [] H s H {s with heap:=C,toks:=t}:=.of (λa o e=>⟨o,k a o e⟩) (λa o _ _ e=>k a o e) λ_ h=>.inl h;exact⟨Y.next G (λb o e=>k b o<|Y.base b o e) (λa o e=>(Y.rep a o e).keep (Y.d6 G) λb _ Q O=>k b Q O) Y.apart<|bp J J J,G⟩
theorem MH.c5{H:MH}{a:Addr}{o:MO}:(H.set a o) a=S o:=if_pos J
theorem MH.c9{H:MH}{a b:Addr}{o:MO}(h:b≠a):(H.set a o) b=H b:=if_neg h
inductive qA (H:MH) (a:Addr) (o:MO) (b:Addr) (ob:MO):Prop
 |self (e:b=a) (q:ob=o)
 |old (n:b≠a) (e:H b=some ob)
theorem pX{H:MH}{a b:Addr}{o Q:MO}(h:(H.set a o) b=S Q):qA H a o b Q:=by{
by_cases q:b=a
.rw[q,MH.c5] at h;(refine aa (aA h) ?_);exact .self q J
.rw[MH.c9 q] at h;exact .old q h}
theorem tX{H:MH}{a b:Addr}{o:MO}(h:cg (H.set a o) b):cg H b\/b=a\/b∈o.d7:=by{
rcases h with h|⟨c,y,h,E⟩
.by_cases q:b=a
 .exact .inr<|.inl q
 .rw[MH.c9 q] at h;exact .inl<|.inl h
.induction pX h using qA.casesOn with
 |self e q=>refine au q ?_;exact .inr<|.inr E
 |old n e=>exact .inl<|.inr<|dm c y e E}
theorem wP.set{H:MH}{a:Addr}{o:MO}(A:wP H)(x:∀d∈o.d7,d≠a/\H d=N)(y:∀b Q,H b=S Q->b≠a->∀d∈Q.d7,d≠a/\d∉o.d7):wP (H.set a o) where
 self:=λb Q e d m=>by
  induction pX e using qA.casesOn with
  |self _ q=>subst q;exact(MH.c9 (x d m).1).trans (x d m).2
  |old n e=>exact(MH.c9 (y b Q e n d m).1).trans<|A.self b Q e d m
 other:=λb Q C O e c X d m R=>by
  clear x
  induction pX e using qA.casesOn with
  |self z q=>
   cases pX c with
   |self Z _=>exact X<|z.trans Z.symm
   |old n I=>subst q;exact(y C O I n d R).2 m
  |old n I=>
   cases pX c with
   |self _ q=>subst q;exact(y b Q I n d m).2 R
   |old _ Y=>exact A.other b Q C O I Y X d m R
theorem aq.new{g:St}{U:aF}{l:ae}{H:MH}{s:ah}(Y:aq g U l H s){C:Heap}{t:Nat}{a:Addr}{o:MO}(k:∀b Q,s.heap.get? b=S Q->C.get? b=S Q)(R:s.heap.get? a=N) (c:∀d∈o.d7,s.heap.get? d=N/\d≠a) (I:jv g C a o):kN g U l H s (H.set a o) {s with heap:=C,toks:=t}:=by{
have G:Go U.fs [] H s (H.set a o) {s with heap:=C,toks:=t}:=.of (λa o e=>⟨o,k a o e⟩) (λa o _ _ e=>k a o e) λb h=>by{
rcases tX h with h|rfl|h
.exact .inl h
.exact .inr R
.exact .inr (c b h).1}
refine⟨Y.next G ((Y.ext k).S).base (λb Q e=>?_) (Y.apart.set (λd m=>⟨(c d m).2,Y.i8 (c d m).1⟩) λb Q e n d m=>?_)<|bp J J J,G⟩
.clear G
 induction pX e using qA.casesOn with
 |self e q=>refine aa e ?_;refine aa q ?_;exact I
 |old _ e=>exact((Y.ext k).S).rep b Q e
.have f:cg H d:=.inr (dm b Q e m);exact⟨λq=>Y.off R<|au q f,λq=>Y.off (c d q).1 f⟩}
theorem aq.m7{v:St}{U:aF}{l:ae}{H:MH}{s:ah}(Y:aq v U l H s){C:Heap}{t:Nat}{a:Addr}{o B:MO}(u:H a=S o)(f:∀d∈B.d7,d∈o.d7\/s.heap.get? d=N)(k:∀b,b≠a->b∉o.d7->∀Q,s.heap.get? b=S Q->C.get? b=S Q) (w:∀b Q,s.heap.get? b=S Q->∃O,C.get? b=S O) (I:ee s.heap C->jv v C a B):kN v U l H s (H.set a B) {s with heap:=C,toks:=t}:=by{
have g:∀b Q,¬cg H b->s.heap.get? b=S Q->C.get? b=S Q:=λb Q i e=>k b (λq=>i<|aa q<|iT u) (λq=>i<|.inr<|dm a o u q) Q e;have G:Go U.fs [] H s (H.set a B) {s with heap:=C,toks:=t}:=.of w (λb Q i _ e=>g b Q i e) λb h=>by{
rcases tX h with h|rfl|h
.exact .inl h
.exact .inl<|iT u
.exact(f b h).imp (λq=>.inr<|dm a o u q) id}
have X:∀b Q,H b=S Q->b≠a->∀d∈Q.d7,d≠a/\d∉o.d7:=λb Q e n d m=>⟨λz=>(by have:=Y.apart.self b Q e d m;replace this:=u▸z▸this;cases this),Y.apart.other b Q a o e u n d m⟩
refine let P:=_;let x:=_;(?_:kN _ _ _ _ _ P x)
refine⟨Y.next G (λb Q e=>g b Q (λq=>by replace e:=(Y.fresh b q)▸e;exact aD e)<|Y.base b Q e) (λb Q e=>?_) (Y.apart.set (λd m=>?_) λb Q e n d m=>?_)<|bp J J J,G⟩
.refine let p:=_;(?_:p)
 induction pX e using qA.casesOn with
 |self e q=>subst e q;exact I<|Y.d6 G
 |old n e=>{
refine(Y.rep b Q e).keep (Y.d6 G) λc r y j=>?_;rcases r with rfl|r
.exact k _ n (λE=>by have:=Y.apart.self a o u _ E;replace this:=e▸this;cases this) y j
.exact k c (X b Q e n c r).1 (X b Q e n c r).2 y j}
.rcases f d m with q|q
 .have z:=Y.apart.self a o u d q;exact⟨λe=>(by replace z:=u▸e▸z;cases z),z⟩
 .exact⟨λe=>Y.off q<|aa e<|iT u,Y.i8 q⟩
.refine⟨(X b Q e n d m).1,λE=>?_⟩;rcases f d E with q|q
 .exact(X b Q e n d m).2 q
 .exact Y.off q<|.inr<|dm b Q e m}
theorem aq.upd{c:St}{U:aF}{l:ae}{H:MH}{s:ah}(Y:aq c U l H s){C:Heap}{t:Nat}{a:Addr}{o B:MO}(u:H a=S o)(f:B.d7=o.d7)(k:∀b,b≠a->b∉o.d7->∀Q,s.heap.get? b=S Q->C.get? b=S Q) (E:∀b Q,s.heap.get? b=S Q->∃O,C.get? b=S O) (I:ee s.heap C->jv c C a B):kN c U l H s (H.set a B) {s with heap:=C,toks:=t}:=Y.m7 u (λd m=>.inl<|au f m) k E I
theorem nn{H:MH}{b:Addr}{o:MO}(h:H b=S o):H b≠N:=λz=>aD<|z.symm.trans h
def S9(x:V):Nat:= @V.casesOn (λ_=>Nat) x 0 (λ_=>0) (λ_=>4) (λ_=>0) (λ_=>0) (λ_=>5) (λ_=>3) λ_=>0
def xo(o:MO):Nat:= @MO.casesOn (λ_=>Nat) o (λl=> @aS V (λ_=>Nat) l 2 λx _=>S9 x) (λ_=>6) (λ_ _ _=>1) (λ_ _ _ _=>7) λ_=>8
theorem tE{H:MH}{a b:Addr}{o B:MO}(h:H a=S o)(C:H b=S B)(n:xo o≠xo B):a≠b:=λz=>n<|congrArg xo<|aA<|h.symm.trans<|(congrArg H z).trans C
theorem bM{P:Nat->Prop}{n:Nat}(h:∀i,i<n->P i)(z:P n):∀i,i<n+1->P i:=λi Z=>(V3.mp Z).elim (h i) λe=>aa e z
theorem pE{P:Nat->Prop}:∀i,i<0->P i:=λ_ z=>absurd z<|lV _
end
section
set_option genCtorIdx true
inductive Op where
 |add|sub|mul|fdiv|mod|pow|shl|shr|band|bor
inductive Cm where
 |eq|ne|lt|le|gt|ge|in_|notIn
inductive Bi where
 |len|max|min|tuple|list|sorted|sum|bytes|bytearray
set_option genCtorIdx false
inductive Tg where
 |one (i:Nat)|two (i j:Nat)
mutual
inductive ME where
 |none|bool (b:Bool)|int (i:Int)|str (n:Nat)|bytes0
 |loc (i:Nat)
 |attr (e:ME) (n:Nat)
 |idx (e i:ME)|sliceTo (e n:ME)|sliceFrom (e n:ME)
 |tup (es:MEs)|list (es:MEs)|dict (kvs:MEs)
 |bin (o:Op) (a b:ME)|not (a:ME)
 |cmp (a:ME) (o:Cm) (b:ME)|cmp2 (a:ME) (o1:Cm) (b:ME) (o2:Cm) (c:ME)
 |isNone (a:ME)|notNone (a:ME)
 |bop (isAnd:Bool) (es:MEs)
 |ite (c a b:ME)
 |callF (f:Nat) (es:MEs)
 |new (c:Nat) (es:MEs)
 |callM (e:ME) (m:Nat) (es:MEs)
 |callC (c m:Nat) (es:MEs)
 |excInit (es:MEs)
 |bi (b:Bi) (es:MEs)
 |isinst (e:ME) (c:Nat)
 |isinstT (e:ME) (isStr:Bool)
 |kstr (e:ME)
 |comp (elt:ME) (tg:Tg) (it:MIt) (c:ME)
inductive MEs where
 |nil|cons (e:ME) (r:MEs)
inductive MIt where
 |ex (e:ME)|range1 (a:ME)|range3 (a b:ME)
end
mutual
inductive MS where
 |expr (e:ME)|ret (e:ME)|ret0
 |asg (i:Nat) (e:ME)
 |asgT (is:List Nat) (e:ME)
 |setA (o:ME) (n:Nat) (e:ME)
 |setI (o i e:ME)
 |aug (i:Nat) (o:Op) (e:ME)
 |augA (ob:ME) (n:Nat) (o:Op) (e:ME)
 |ite (c:ME) (a b:MSs)
 |while_ (c:ME) (b:MSs)
 |for_ (t:Tg) (it:MIt) (b:MSs)
 |raise (e:ME)
 |try_ (b:MSs) (c:Nat) (i:Nat) (h:MSs)
 |tryR (b:MSs) (c:Nat) (e:ME)
inductive MSs where
 |nil|cons (s:MS) (r:MSs)
end
def V.f9:V->Bool
 |.none=>T
 |_=>F
def gn(x:V)(P:Int->Prop):Prop:=match x with|.int i=>P i|_=>False
def iS(x:V)(P:Addr->Prop):Prop:=match x with|.ref i=>P i|_=>False
def Dc(x:V)(P:List V->Prop):Prop:=match x with|.tup i=>P i|_=>False
def KY(x:V)(P:Nat->Prop):Prop:=match x with|.bytes i=>P i|_=>False
def cB{D:Type}(o:Option D)(P:D->Prop):Prop:=match o with|some x=>P x|none=>False
def vX{D:Type}(o:Option D)(P:Prop):Prop:=match o with|some _=>False|none=>P
def Tv(o:MO)(P:List V->Prop):Prop:=match o with|.list i=>P i|_=>False
def tV(o:Option MO)(P:List V->Prop):Prop:=match o with|some o=>Tv o P|none=>False
def RQ(o:MO)(P:List (aY×V)->Prop):Prop:=match o with|.dict i=>P i|_=>False
def Fj(o:Option MO)(P:List (aY×V)->Prop):Prop:=match o with|some o=>RQ o P|none=>False
def U6(o:MO)(P:Nat->Option Addr->Option Addr->List (Nat×V)->Prop):Prop:=match o with|.exc c d t D=>P c d t D|_=>False
def lj(o:Option MO)(P:Nat->Option Addr->Option Addr->List (Nat×V)->Prop):Prop:=match o with|some o=>U6 o P|none=>False
def tQ(x:V):Option Int:=match x with|.int i=>S i|_=>N
def TJ(o:MO):Option (List V):=match o with|.list l=>S l|_=>N
def eS(o:Option MO):Option (List V):=match o with|some o=>TJ o|none=>N
def sI(l:List V):Option Bool:=if l.length<=1000000 then S (!l.isEmpty) else N
def yq(H:MH):V->Option Bool
 |.none=>S F
 |.bool b=>S b
 |.int i=>S<|i !=0
 |.tup l=>sI l
 |.ref a=>(eS<|H a).bind sI
 |_=>N
def cQ(f:V->V->Option Bool):List V->List V->Option Bool
 |[],[]=>S T
 |[],_::_=>S F
 |_::_,[]=>S F
 |x::l,y::m=>match f x y,cQ f l m with
  |some a,S b=>S<|a&&b
  |_,_=>N
def Se(y:V):Option Bool:=match y with|.none=>S T|_=>N
def Tj(a:Bool)(y:V):Option Bool:=match y with|.bool b=>S (a==b)|_=>N
def XT(a:Int)(y:V):Option Bool:=match y with|.int b=>S (a==b)|_=>N
def RK(a:Nat)(y:V):Option Bool:=match y with|.str b=>S (a==b)|_=>N
def Vk(f:V->V->Option Bool)(l:List V)(y:V):Option Bool:=match y with|.tup m=>cQ f l m|.str _=>S F|_=>N
def XU(f:V->V->Option Bool)(o p:Option MO):Option Bool:=(eS o).bind λl=>(eS p).bind λm=>if l.length=m.length then cQ f l m else S F
def P6(f:V->V->Option Bool)(H:MH)(a:Addr)(y:V):Option Bool:=match y with|.ref b=>XU f (H a) (H b)|_=>N
def N0(f:V->V->Option Bool)(H:MH)(x y:V):Option Bool:=match x with
 |.none=>Se y
 |.bool a=>Tj a y
 |.int a=>XT a y
 |.str a=>RK a y
 |.tup l=>Vk f l y
 |.ref a=>P6 f H a y
 |_=>N
def cA:Nat->MH->V->V->Option Bool
 |0,_=>λ_ _=>N
 |n+1,H=>N0 (cA n H) H
def Cs(x:V):Option Nat:=match x with|.str i=>S i|_=>N
def sS(n:Nat):List V->Option Bool
 |[]=>S F
 |x::r=>(Cs x).bind λm=>(sS n r).map (m==n||·)
def vm(_:MH)(x:V)(l:List V):Option Bool:=(Cs x).bind λn=>sS n l
def vN:List V->Option (List Int)
 |[]=>S []
 |x::r=>(tQ x).bind λi=>(vN r).map (i::·)
def iK:V->Option aY
 |.str n=>S<|.s n
 |.int i=>S<|.i i
 |.tup l=>(vN l).map .t
 |_=>N
def aY.f8:aY->V
 |.s n=>.str n
 |.i k=>.int k
 |.t l=>.tup<|l.map .int
def aY.kind:aY->Nat
 |.s _=>0|.i _=>1|.t _=>2
def cY(j:List<|aY×V)(k:aY):Option V:=(j.find? λe=>decide<|e.1=k).map (·.2)
def kC(j:List<|aY×V)(k:aY)(x:V):List (aY×V):=if j.any (λe=>decide<|e.1=k) then j.map (λe=>if e.1=k then(e.1,x) else e) else j++[(k,x)]
def tZ(j:List<|aY×V)(k:aY):List (aY×V):=j.filter λe=>decide<|e.1≠k
def dL(j:List<|aY×V)(k:aY):Bool:=j.all λe=>e.1.kind==k.kind
def ww(x y:V)(f:Int->Int->Bool):Option Bool:=(tQ x).bind λa=>(tQ y).bind λb=>S<|f a b
def yk(x:V)(j:List<|aY×V):Option Bool:=match iK x with
   |some k=>if dL j k then S (cY j k).isSome else N
   |none=>N
def Ab(H:MH)(x:V)(o:MO):Option Bool:=match o with
  |.list l=>vm H x l
  |.dict j=>yk x j
  |_=>N
def qS(H:MH)(x y:V):Option Bool:=match y with
 |.tup l=>vm H x l
 |.ref a=>(match H a with
  |some o=>Ab H x o
  |none=>N)
 |_=>N
def wv(H:MH)(o:Cm)(x y:V):Option Bool:=match o with
 |.eq=>cA 9 H x y
 |.ne=>(cA 9 H x y).map (!·)
 |.lt=>ww x y λa b=>decide<|a<b
 |.le=>ww x y λa b=>decide<|a<=b
 |.gt=>ww x y λa b=>decide<|a>b
 |.ge=>ww x y λa b=>decide<|a>=b
 |.in_=>qS H x y
 |.notIn=>(qS H x y).map (!·)
def dH(f g:V->V->Option Bool):List V->List V->Option Bool
 |[],[]=>S F
 |[],_::_=>S T
 |_::_,[]=>S F
 |x::l,y::m=>match f x y with
  |some T=>dH f g l m
  |some F=>g x y
  |none=>N
def cF:Nat->V->V->Option Bool
 |0,_,_=>N
 |n+1,x,y=>match x,y with
  |.int a,.int b=>S<|decide<|a<b
  |.tup l,.tup m=>dH (cA 9 λ_=>N) (cF n) l m
  |_,_=>N
def J8:V->Nat
 |.int _=>1
 |.tup _=>2
 |_=>0
def Ir:List V->Nat
 |x::_=>2*J8 x
 |[]=>0
def jQ:V->Nat
 |.int _=>1
 |.tup l=>Ir l
 |_=>0
def zW(x y:V):Bool:=dQ (jQ x) (jQ y)&&fh 0 (jQ x)
abbrev QV:=V->MH->Prop
abbrev QE:=Addr->MH->Prop
def gB(H:MH)(o:MO)(Q:QV):Prop:=∀c,H c=N->Q (.ref c) (H.set c o)
def i2(x y:V)(f:Int->Int->Prop):Prop:=gn x λa=>gn y λb=>f a b
def a1(args:List V)(f:V->Prop):Prop:=match args with
 |x::r=>(match r with|[]=>f x|_=>False)
 |_=>False
def a2(args:List V)(f:V->V->Prop):Prop:=match args with
 |x::r=>a1 r<|f x
 |_=>False
def Lv(Q:QV)(H:MH)(x y:V):Prop:=match x with
 |.int a=>gn y λb=>Q (.int<|a+b) H
 |.tup a=>Dc y λb=>(a++b).length<=1000000/\Q (.tup<|a++b) H
 |.ref a=>iS y λb=>∃u v,eS (H a)=S u/\eS (H b)=S v/\(u++v).length<=1000000/\gB H (.list<|u++v) Q
 |_=>False
def Mh(Q:QV)(H:MH)(x y:V):Prop:=match x with
 |.int a=>gn y λb=>(a.natAbs<2^64/\b.natAbs<2^64)/\Q (.int<|a*b) H
 |.ref a=>gn y λn=>∃u,eS (H a)=S [u]/\(0<=n/\n<=1000000)/\gB H (.list<|fj n.toNat u) Q
 |_=>False
def wo(Q:QV)(H:MH)(o:Op)(x y:V):Prop:=match o with
 |.add=>Lv Q H x y
 |.sub=>i2 x y λa b=>Q (.int<|a-b) H
 |.mul=>Mh Q H x y
 |.fdiv=>i2 x y λa b=>(0<b/\b<2^30)/\Q (.int<|a/b) H
 |.mod=>i2 x y λa b=>0<b/\Q (.int<|a %b) H
 |.pow=>i2 x y λa n=>(0<=n/\n<=1000/\a.natAbs<1000)/\Q (.int<|a^n.toNat) H
 |.shl=>i2 x y λa n=>(0<=n/\n<=1000000/\a.natAbs<2^64)/\Q (.int<|a*2^n.toNat) H
 |.shr=>i2 x y λa n=>0<=n/\Q (.int<|a/2^n.toNat) H
 |.band=>i2 x y λa b=>(0<=a/\0<=b)/\Q (.int (a.toNat&&&b.toNat:Nat)) H
 |.bor=>i2 x y λa b=>(0<=a/\0<=b)/\Q (.int (a.toNat|||b.toNat:Nat)) H
def Hv(Q:V->Prop)(l:List V)(k:V):Prop:=gn k λi=>(0<=i/\i<2^60)/\cB l[i.toNat]? Q
def UX(Q:V->Prop)(k:V)(o:MO):Prop:=match o with
  |.list l=>Hv Q l k
  |.dict j=>cB (iK k) λk=>dL j k=T/\cB (cY j k) Q
  |_=>False
def wK(Q:QV)(H:MH)(v k:V):Prop:=match v with
 |.tup l=>Hv (λx=>Q x H) l k
 |.ref a=>cB (H a)<|UX (λx=>Q x H) k
 |.scr l=>gn k λi=>(0<=i/\i<2^60)/\cB l[i.toNat]? λx=>Q (.int x) H
 |_=>False
def Ek(Q:QV)(H:MH)(v k:V):Prop:=match v with
 |.tup l=>gn k λn=>(0<=n/\n<=l.length/\l.length<=1000000)/\Q (.tup<|l.take n.toNat) H
 |.ref a=>gn k λn=>tV (H a) λl=>(0<=n/\l.length<=1000000)/\gB H (.list<|l.take n.toNat) Q
 |_=>False
def EO(Q:QV)(H:MH)(v k:V):Prop:=match v with
 |.tup l=>gn k λn=>(1<=n/\n<=l.length/\l.length<=1000000)/\Q (.tup<|l.drop n.toNat) H
 |.ref a=>gn k λn=>tV (H a) λl=>(0<=n/\l.length<=1000000)/\gB H (.list<|l.drop n.toNat) Q
 |_=>False
def cy(D:List<|Nat×V)(n:Nat):Option V:=(D.find? λe=>e.1==n).map (·.2)
def cf:List (Nat×V)->Nat->V->List (Nat×V)
 |[],n,x=>[(n,x)]
 |e::r,n,x=>if e.1==n then(e.1,x)::r else e::cf r n x
def Vu(Q:V->Prop)(n:Nat)(o:MO):Prop:=match o with
  |.inst _ _ D=>cB (cy D n) Q
  |.exc _ _ _ D=>cB (cy D n) Q
  |_=>False
def vH(Q:QV)(H:MH)(v:V)(n:Nat):Prop:=iS v λa=>cB (H a)<|Vu (λx=>Q x H) n
def tY:List V->Option Int
 |[]=>S 0
 |x::r=>(tQ x).bind λi=>(tY r).map (i+·)
def O7(Q:Nat->Prop)(o:MO):Prop:=match o with
  |.list l=>l.length<=1000000/\Q l.length
  |.dict j=>j.length<=1000000/\Q j.length
  |.bytearr n=>n<=1000000/\Q n
  |_=>False
def EL(Q:QV)(H:MH)(x:V):Prop:=match x with
 |.tup l=>l.length<=1000000/\Q (.int l.length) H
 |.scr l=>l.length<=1000000/\Q (.int l.length) H
 |.ref a=>cB (H a)<|O7 λn=>Q (.int n) H
 |_=>False
def zH(H:MH)(x:V)(f:List V->Prop):Prop:=iS x λa=>∃l,eS (H a)=S l/\f l
def zy:Option MO->Option (List V)
 |some (.list l)=>S l
 |some (.dict j)=>S (j.map (·.1.f8))
 |_=>N
def Kz(Q:QV)(H:MH)(x:V):Prop:=iS x λa=>∃l,zy (H a)=S l/\(l.length<64/\(∀x∈l,∀y∈l,zW x y=T/\(cF 9 x y).isSome=T))/\∀r,r.Perm l->r.Pairwise (λx y=>cF 9 y x=S F)->gB H (.list r) Q
def Na(Q:QV)(H:MH)(b:Bi)(args:List V):Prop:=match b with
 |.len=>a1 args<|EL Q H
 |.max=>a2 args λx y=>i2 x y λa b=>Q (.int<|max a b) H
 |.min=>a2 args λx y=>i2 x y λa b=>Q (.int<|min a b) H
 |.tuple=>a1 args λx=>zH H x λl=>l.length<=1000000/\Q (.tup l) H
 |.list=>a1 args λx=>zH H x λl=>l.length<=1000000/\gB H (.list l) Q
 |.sorted=>a1 args<|Kz Q H
 |.sum=>a1 args λx=>zH H x λl=>∃i,tY l=S i/\Q (.int i) H
 |.bytes=>a1 args λx=>gn x λn=>(0<=n/\n<=1000000)/\Q (.bytes n.toNat) H
 |.bytearray=>a1 args λx=>KY x λn=>n<=1000000/\gB H (.bytearr n) Q
def AH(m:Nat):Bool:=m==211||m==282||m==283
def yx(m:Nat):Bool:=m==281||m==282
def wf(Q:QV)(a:Addr):QV:=λr H=>match r with|.none=>Q (.ref a) H|_=>False
def A1(Q:QV)(H:MH)(a:Addr)(l:List V)(x:V):Prop:=gn x λi=>(0<=i/\i<2^60/\l.length<=1000000)/\cB l[i.toNat]? λx=>Q x<|H.set a<|.list<|l.eraseIdx i.toNat
def QU(Q:QV)(H:MH)(a:Addr)(l:List V)(i x:V):Prop:=gn i λi=>(0<=i/\i<=l.length/\l.length<=1000000)/\Q .none (H.set a<|.list<|l.insertIdx i.toNat x)
def vy(Q:QV)(H:MH)(a:Addr)(m:Nat)(args:List V):Prop:=
 tV (H a) λl=>
  if m=211 then a1 args λx=>l.length<=1000000/\Q .none (H.set a<|.list<|l++[x])
  else if m=282 then a1 args λx=>A1 Q H a l x
  else a2 args λi x=>QU Q H a l i x
def Cg(Q:QV)(H:MH)(a:Addr)(j:List<|aY×V)(M:List Int):Prop:=cB (cY j<|.t M) λx=>j.length<=1000000/\Q x (H.set a<|.dict<|tZ j<|.t M)
def Of(k:aY)(P:List Int->Prop):Prop:=match k with|.t M=>P M|_=>False
def tR(Q:QV)(H:MH)(a:Addr)(m:Nat)(args:List V):Prop:=Fj (H a) λj=>a1 args λk=>cB (iK k) λk=>Of k λM=>dL j (.t M)=T/\(if m=281 then Q ((cY j<|.t M).getD .none) H else Cg Q H a j M)
structure Cx where
 ct:Nat->Option CD
 call:Bool->Nat->List V->QV->QE->MH->Prop
 hn:Bool
def vj:List V->Option (List<|aY×V)
 |[]=>S []
 |k::v::r=>(iK k).bind λk=>(vj r).bind λr=>S<|(k,v)::r
 |_=>N
def vC(j:List<|aY×V):Bool:=j.all λe=>match e.1 with|.s _=>T|_=>F
def ID(i j:Nat)(l:ae)(L:List V):Option ae:=match L with
 |a::r=>(match r with
  |b::r=>(match r with
   |[]=>if i<l.length/\j<l.length/\i≠j then S ((l.set i<|S a).set j<|S b) else N
   |_::_=>N)
  |[]=>N)
 |[]=>N
def Jg(x:V):Option (List V):=match x with|.tup l=>S l|_=>N
def cT(t:Tg)(v:V)(l:ae):Option ae:=match t with
 |.one i=>if i<l.length then S (l.set i<|S v) else N
 |.two i j=>(Jg v).bind<|ID i j l
def jJ:Nat->List V
 |0=>[]
 |n+1=>jJ n++[.int n]
def AJ(b:Int):Nat->List V
 |0=>[]
 |n+1=>.int (b+n+1)::AJ b n
def kF(a:V->Option ae)(i:MH->Prop)(c:(Bool->MH->Prop)->ae->MH->Prop)(k:QV->ae->MH->Prop)(u:List V->MH->Prop):List V->List V->MH->Prop
 |[],m,H=>i H/\u m H
 |v::r,m,H=>i H/\m.length<=1000000/\cB (a v) λl=>c (λb Y=>if b=T then k (λx G=>kF a i c k u r (m++[x]) G) l Y else kF a i c k u r m Y) l H
def fM:QE:=λ_ _=>False
def fD(t:Tg)(l:ae):ae:=match t with
 |.one i=>l.take i++fj (i+1-l.length) N
 |.two i _=>l.take i++[N,N]
def bR(u:Bool->MH->Prop):QV:=λx H=>cB (yq H x) λb=>u b H
def kD(o:Cm)(u:Bool->MH->Prop)(x:V):QV:=λy H=>cB (wv H o x y) λb=>u b H
def lm(a b:MH->Prop):Bool->MH->Prop
 |true=>a
 |false=>b
def oo(cx:Cx)(X:QE)(Q:QV)(c:Nat)(Z:List V)(H:MH)(d:CD):Prop:=
 if d.isExc then Z.length<=10/\(∀a,H a=N->cx.call cx.hn d.init (.ref a::Z) (wf Q a) X (H.set a<|.exc c N N []))
 else(∀a i,H a=N->cx.call cx.hn d.init (.ref a::Z) (wf Q a) X (H.set a<|.inst c i []))
def Zd(cx:Cx)(X:QE)(B:(List V->MH->Prop)->Prop)(Q:QV)(a:Addr)(c:Nat)(D:List<|Nat×V)(m:Nat):Prop:=cB ((cx.ct c).bind λd=>d.meths.lookup m) λf=>vX (cy D m)<|B λZ H=>cx.call cx.hn f (.ref a::Z) Q X H
def LJ(cx:Cx)(X:QE)(B:(List V->MH->Prop)->Prop)(Q:QV)(a:Addr)(m:Nat)(o:MO):Prop:=match o with
 |.inst c _ D=>Zd cx X B Q a c D m
 |.list _=>AH m=T/\B (λZ H=>vy Q H a m Z)
 |.dict _=>yx m=T/\B (λZ H=>tR Q H a m Z)
 |_=>False
def Ew(u:Nat->Prop)(o:MO):Prop:=match o with|.inst c _ _=>u c|_=>False
def vB(u:Bool->Prop)(s:Bool)(v:V):Prop:=match v with
   |.str _=>u s
   |.bool _=>u<|!s
   |.none=>u F
   |.int _=>u F
   |.tup _=>u F
   |_=>False
def Am(u:List V->(MH->Prop)->MH->Prop)(v:V)(H:MH):Prop:=match v with
   |.tup Z=>u Z (λ_=>True) H
   |.ref a=>tV (H a) λZ=>u Z (λH=>H a=S (.list Z)) H
   |_=>False
mutual
noncomputable def aP(cx:Cx)(X:QE)(l:ae):ME->QV->MH->Prop
 |.none,Q,H=>Q .none H
 |.bool b,Q,H=>Q (.bool b) H
 |.int i,Q,H=>Q (.int i) H
 |.str n,Q,H=>Q (.str n) H
 |.bytes0,Q,H=>Q (.bytes 0) H
 |.loc i,Q,H=>cB (l.at i) λx=>Q x H
 |.attr e n,Q,H=>aP cx X l e (λv H=>vH Q H v n) H
 |.idx e i,Q,H=>aP cx X l e (λv H=>aP cx X l i (λk H=>wK Q H v k) H) H
 |.sliceTo e i,Q,H=>aP cx X l e (λv H=>aP cx X l i (λk H=>Ek Q H v k) H) H
 |.sliceFrom e i,Q,H=>aP cx X l e (λv H=>aP cx X l i (λk H=>EO Q H v k) H) H
 |.tup es,Q,H=>wpEs cx X l es (λvs H=>vs.length<=1000000/\Q (.tup vs) H) H
 |.list es,Q,H=>wpEs cx X l es (λvs H=>vs.length<=1000000/\gB H (.list vs) Q) H
 |.dict es,Q,H=>wpEs cx X l es (λvs H=>cB (vj vs) λes=>(vC es=true/\(es.map (·.1)).Nodup/\es.length<=15)/\gB H (.dict es) Q) H
 |.bin o a b,Q,H=>aP cx X l a (λx H=>aP cx X l b (λy H=>wo Q H o x y) H) H
 |.not a,Q,H=>aP cx X l a (bR λb H=>Q (.bool !b) H) H
 |.cmp a o b,Q,H=>aP cx X l a (λx H=>aP cx X l b (kD o (λc H=>Q (.bool c) H) x) H) H
 |.cmp2 a o1 b o2 c,Q,H=>aP cx X l a (λx H=>aP cx X l b (λy H=>kD o1 (lm (λH=>aP cx X l c (kD o2 (λb H=>Q (.bool b) H) y) H) λH=>Q (.bool false) H) x y H) H) H
 |.isNone a,Q,H=>aP cx X l a (λx H=>Q (.bool x.f9) H) H
 |.notNone a,Q,H=>aP cx X l a (λx H=>Q (.bool !x.f9) H) H
 |.bop c es,Q,H=>wpB cx X l c es Q H
 |.ite c a b,Q,H=>aP cx X l c (bR<|lm (λH=>aP cx X l a Q H) λH=>aP cx X l b Q H) H
 |.callF f es,Q,H=>wpEs cx X l es (λvs H=>cx.call cx.hn f vs Q X H) H
 |.new c es,Q,H=>wpEs cx X l es (λvs H=>cB (cx.ct c) λd=>oo cx X Q c vs H d) H
 |.callM e m es,Q,H=>aP cx X l e (λv H=>iS v λa=>cB (H a) λo=>LJ cx X (λK=>wpEs cx X l es K H) Q a m o) H
 |.callC c m es,Q,H=>cB ((cx.ct c).bind λd=>d.meths.lookup m) λf=>wpEs cx X l es (λvs H=>cx.call cx.hn f vs Q X H) H
 |.excInit es,Q,H=>wpEs cx X l es (λvs H=>a2 vs λx _=>iS x λa=>lj (H a) λ_ _ _ _=>Q .none H) H
 |.bi b es,Q,H=>cx.hn=true/\wpEs cx X l es (λvs H=>Na Q H b vs) H
 |.isinst e c,Q,H=>aP cx X l e (λv H=>iS v λa=>cB (H a) λo=>Ew (λc'=>Q (.bool<|c'==c) H) o) H
 |.isinstT e s,Q,H=>aP cx X l e (λv H=>vB (λb=>Q (.bool b) H) s v) H
 |.kstr e,Q,H=>aP cx X l e (λv H=>gn v λi=>(0<=i/\i<12)/\Q (.str<|306+i.toNat) H) H
 |.comp elt tg it c,Q,H=>cx.hn=true/\wpI cx X l it (λitems chk H=>
   items.length<=1000000/\kF (λv=>cT tg v<|fD tg l) chk (λK l H=>aP cx fM l c (bR K) H) (λK l H=>aP cx fM l elt K H)
    (λacc H=>gB H (.list acc) Q) items [] H) H
noncomputable def wpEs(cx:Cx)(X:QE)(l:ae):MEs->(List V->MH->Prop)->MH->Prop
 |.nil,Q,H=>Q [] H
 |.cons e r,Q,H=>aP cx X l e (λv H=>wpEs cx X l r (λvs H=>Q (v::vs) H) H) H
noncomputable def wpB(cx:Cx)(X:QE)(l:ae)(c:Bool):MEs->QV->MH->Prop
 |.nil,_,_=>False
 |.cons e r,Q,H=>match r with
  |.nil=>aP cx X l e Q H
  |r=>aP cx X l e (λv H=>bR (λb H=>if b=c then wpB cx X l c r Q H else Q v H) v H) H
noncomputable def wpI(cx:Cx)(X:QE)(l:ae):MIt->(List V->(MH->Prop)->MH->Prop)->MH->Prop
 |.ex e,K,H=>aP cx X l e (λv H=>Am K v H) H
 |.range1 a,K,H=>aP cx X l a (λv H=>gn v λn=>(-1000000<=n/\n<=1000000)/\K (jJ n.toNat) (λ_=>True) H) H
 |.range3 a b,K,H=>aP cx X l a (λv H=>aP cx X l b (λu H=>i2 v u λa b=>(-1000000<=b/\b<=1000000/\-1000000<=a/\a<=1000000)/\K (AJ b (a-b).toNat) (λ_=>True) H) H) H
end
inductive Fl where
 |next|ret (v:V)
def pM(u:ae->MH->Prop)(Q:Fl->ae->MH->Prop)(a:Fl)(l:ae)(H:MH):Prop:=match a with|.next=>u l H|.ret v=>Q (.ret v) l H
def Aw(t:(Bool->MH->Prop)->ae->MH->Prop)(o:(Fl->ae->MH->Prop)->ae->MH->Prop)(Q:Fl->ae->MH->Prop):Nat->ae->MH->Prop
 |0=>λ_ _=>False
 |n+1=>λl H=>t (λb H=>if b=T then o (pM (Aw t o Q n) Q) l H else Q .next l H) l H
def mS(a:V->ae->Option ae)(i:MH->Prop)(o:(Fl->ae->MH->Prop)->ae->MH->Prop)(Q:Fl->ae->MH->Prop):List V->ae->MH->Prop
 |[]=>λl H=>i H/\Q .next l H
 |v::r=>λl H=>i H/\cB (a v l) λl=>o (pM (mS a i o Q r) Q) l H
def uo:List Nat->List V->ae->Option ae
 |[],[],l=>S l
 |i::w,v::Z,l=>if i<l.length then uo w Z (l.set i<|S v) else N
 |_,_,_=>N
def Ji(R:MO->Prop)(c:Nat)(I:Option Addr)(D:List<|Nat×V)(i:Option Addr):Prop:=match i with
    |some i=>R<|.exc c (S i) I D
    |none=>∀i,R<|.exc c (S i) I D
def IV(g:Nat->Option CD)(R:MO->Prop)(n:Nat)(x:V)(o:MO):Prop:=match o with
  |.inst c i D=>cB (g c) λd=>(d.fields.contains n&&et D.length 1000)=T/\R (.inst c i<|cf D n x)
  |.exc c i I D=>cB (g c) λd=>(d.fields.contains n&&et D.length 1000)=T/\Ji R c I (cf D n x) i
  |_=>False
def mC(cx:Cx)(Q:MH->Prop)(H:MH)(v:V)(n:Nat)(x:V):Prop:=iS v λa=>cB (H a)<|IV cx.ct (λo=>Q<|H.set a o) n x
def E0(R:MO->Prop)(k x:V)(o:MO):Prop:=match o with
  |.list l=>gn k λi=>(0<=i/\i.toNat<l.length/\i<2^60)/\R (.list<|l.set i.toNat x)
  |.dict j=>cB (iK k) λk=>(dL j k=T/\j.length<=1000000)/\R (.dict<|kC j k x)
  |_=>False
def vU(Q:MH->Prop)(H:MH)(v k x:V):Prop:=iS v λa=>cB (H a)<|E0 (λo=>Q<|H.set a o) k x
def TG(u:Prop)(o:MO):Prop:=match o with|.exc _ _ I _=>vX I u|_=>False
def Nh(u:Option Addr->List (Nat×V)->Prop)(Q:Nat)(G:Option Addr)(I:Option Addr)(f:List<|Nat×V):Prop:=vX I<|Q<1000/\u G f
mutual
noncomputable def pn(cx:Cx)(X:Addr->ae->MH->Prop):MS->(Fl->ae->MH->Prop)->ae->MH->Prop
 |.expr e,Q,l,H=>aP cx (λa H=>X a l H) l e (λ_ H=>Q .next l H) H
 |.ret e,Q,l,H=>aP cx (λa H=>X a l H) l e (λv H=>Q (.ret v) l H) H
 |.ret0,Q,l,H=>Q (.ret .none) l H
 |.asg i e,Q,l,H=>i<l.length/\aP cx (λa H=>X a l H) l e (λv H=>Q .next (l.set i<|some v) H) H
 |.asgT is e,Q,l,H=>cx.hn=true/\aP cx (λa H=>X a l H) l e (λv H=>Dc v λvs=>cB (uo is vs l) λl=>Q .next l H) H
 |.setA o n e,Q,l,H=>aP cx (λa H=>X a l H) l e (λx H=>aP cx (λa H=>X a l H) l o (λv H=>mC cx (λH=>Q .next l H) H v n x) H) H
 |.setI o i e,Q,l,H=>aP cx (λa H=>X a l H) l e (λx H=>aP cx (λa H=>X a l H) l o (λv H=>aP cx (λa H=>X a l H) l i (λk H=>vU (λH=>Q .next l H) H v k x) H) H) H
 |.aug i o e,Q,l,H=>cB (l.at i) λx=>gn x λx=>aP cx (λa H=>X a l H) l e (λy H=>wo (λv H=>i<l.length/\Q .next (l.set i<|some v) H) H o (.int x) y) H
 |.augA ob n o e,Q,l,H=>aP cx (λa H=>X a l H) l ob (λv H=>vH (λx H=>gn x λx=>aP cx (λa H=>X a l H) l e (λy H=>wo (λr H=>mC cx (λH=>Q .next l H) H v n r) H o (.int x) y) H) H v n) H
 |.ite c a b,Q,l,H=>aP cx (λa H=>X a l H) l c (bR<|lm (λH=>wpSs cx X a Q l H) λH=>wpSs cx X b Q l H) H
 |.while_ c b,Q,l,H=>cx.hn=true/\∃n,Aw (λK l H=>aP cx (λa H=>X a l H) l c (bR K) H)
   (λK l H=>wpSs cx X b K l H) Q n l H
 |.for_ t it b,Q,l,H=>cx.hn=true/\wpI cx (λa H=>X a l H) l it (λitems chk H=>
   items.length<=1000000/\mS (cT t) chk (λK l H=>wpSs cx X b K l H) Q items l H) H
 |.raise e,_,l,H=>cx.hn=true/\aP cx (λa H=>X a l H) l e (λv H=>iS v λa=>cB (H a)<|TG<|X a l H) H
 |.try_ b c i h,Q,l,H=>cx.hn=true/\wpSs cx (λa l H=>lj (H a) λc' dx _ fs=>
   c' %1000=c/\∀tb,i<l.length/\wpSs {cx with hn:=false} (λ_ _ _=>False) h (λfl l H=>i<l.length/\Q fl (l.set i none) H) (l.set i<|some<|.ref a) (H.set a<|.exc c' dx tb fs)) b Q l H
 |.tryR b c e,Q,l,H=>cx.hn=true/\wpSs cx (λa l H=>lj (H a) λc' _ _ _=>
   (c'=c/\c'<1000)/\aP {cx with hn:=false} (λa H=>X a l H) l e (λv H=>iS v λb=>lj (H b) λc2 dx2 tb fs2=>
    Nh (λdx2 fs2=>X b l<|H.set b<|.exc (c2+1000) dx2 none fs2) c2 dx2 tb fs2) (H.d8 a)) b Q l H
noncomputable def wpSs(cx:Cx)(X:Addr->ae->MH->Prop):MSs->(Fl->ae->MH->Prop)->ae->MH->Prop
 |.nil,Q,l,H=>Q .next l H
 |.cons s r,Q,l,H=>pn cx X s (pM (λl H=>wpSs cx X r Q l H) Q) l H
end
structure FD where
 addr:Addr
 n:Nat
 names:List Nat
 dfl:List V
 body:MSs
def pq(d:FD)(Z:List V):Option ae:=
 if Z.length<=d.n/\d.n<=Z.length+d.dfl.length then
  S ((Z++d.dfl.drop (d.dfl.length-(d.n-Z.length))).map S++fj (d.names.length-d.n) N)
 else N
def tB(Q:QV)(a:Fl)(_:ae)(H:MH):Prop:=match a with|.next=>Q .none H|.ret v=>Q v H
def gk(g:Nat->Option CD)(j:Nat->Option FD):Nat->Bool->Nat->List V->QV->QE->MH->Prop
 |0=>λ_ _ _ _ _ _=>False
 |n+1=>λO f Z Q X H=>cB (j f) λd=>cB (pq d Z) λl=>wpSs ⟨g,gk g j n,O⟩ (λa _ H=>X a H) d.body (tB Q) l H
end
inductive bH {α β:Type} (st:St) (fr:aF) (l:ae) (R:Heap->β->α->Prop) (H:MH) (s:ah) (Q:β->MH->Prop) (v:α) (s':ah):Prop
 |mk (x:β) (H':MH) (r:R s'.heap x v) (S:aq st fr l H' s') (G:Go fr.fs [] H s H' s') (q:Q x H')
inductive kQ (P:MH->Prop) (a:Addr) (H:MH):Prop
 |mk (c:Nat) (dx tb:Option Addr) (fs:List (Nat×V)) (tb0:Option Addr) (e:H a=some (.exc c dx tb fs)) (q:P (H.set a (.exc c dx tb0 fs)))
inductive cS (st:St) (fr:aF) (l:ae) (H:MH) (s:ah) (X:QE) (e:Value) (s':ah):Prop
 |mk (a:Addr) (H':MH) (e1:e= .ref a) (S:aq st fr l H' s') (G:Go fr.fs [] H s H' s') (q:kQ (X a) a H')
theorem fP(k:∀b o,h.get? b=S o->C.get? b=S o):ee h C:=λa o _ _ e _ _=>k a o e
theorem dR{Q:QV}(Y:aq a U l H s)(t:Nat)(r:aE a s.heap x v)(q:Q x H):bH a U l (aE a) H s Q v {s with toks:=t}:=⟨x,H,r,Y.toks t,Go.toks,q⟩
theorem qH{Q:QV}(Y:aq a U l H s)(k:∀b o,s.heap.get? b=S o->C.get? b=S o)(r:aE a C x v)(q:Q x H):bH a U l (aE a) H s Q v {s with heap:=C,toks:=t}:=⟨x,H,r,(Y.ext k).S,(Y.ext k).G,q⟩
theorem pU(Y:aq c U l H s)(k:∀b o,s.heap.get? b=S o->C.get? b=S o)(R:s.heap.get? a=N)(f:∀d∈o.d7,s.heap.get? d=N/\d≠a) (r:jv c C a o) (q:gB H o Q):bH c U l (aE c) H s Q (.ref a) {s with heap:=C,toks:=t}:=by obtain⟨E,G⟩:=Y.new k R f r;exact⟨.ref a,_,J,E,G,q a<|Y.i8 R⟩
theorem NJ{Q:QV}(Y:aq c U l H s)(u:H a=S o)(f:B.d7=o.d7)(k:∀b,b≠a->b∉o.d7->∀d,s.heap.get? b=S d->C.get? b=S d)(E:∀b d,s.heap.get? b=S d->∃O,C.get? b=S O) (I:ee s.heap C->jv c C a B) (r:aE c s.heap x v) (q:Q x<|H.set a B):bH c U l (aE c) H s Q v {s with heap:=C,toks:=t}:=by obtain⟨e,G⟩:=Y.upd u f k E I;exact⟨x,_,r.keep<|Y.d6 G,e,G,q⟩
theorem RepL.len:∀{Z:List Value},RepL U h L Z->Z.length=L.length:=by{
induction L with
|nil=>intro Z r;exact congrArg _ r
|cons x L a=>rintro Z ⟨v,I,rfl,_,M⟩;exact congrArg rZ<|a M}
theorem RepL.append:∀{Z:List Value},RepL U h L Z->RepL U h P M->RepL U h (L++P) (Z++M):=by{
induction L with
|nil=>intro Z r I;refine aa r ?_;exact I
|cons x L a=>rintro Z ⟨v,q,rfl,X,b⟩ I;exact⟨v,_,J,X,a b I⟩}
theorem RepL.get:∀{Z:List Value} {i:Nat},RepL U h L Z->L[i]?=S x->∃v,Z[i]?=S v/\aE U h x v:=by{
induction L with
|nil=>intro Z i r e;exact aD e
|cons y L a=>{
rintro Z i ⟨v,q,rfl,X,M⟩ e
induction i using fK with
|zero=>(refine au (aA e) ?_);exact(aG v aT X)
|succ i=>exact a (i:=i) M e}}
theorem RepL.take:∀{Z:List Value} (n:Nat),RepL U h L Z->RepL U h (L.take n) (Z.take n):=by{
induction L with
|nil=>intro Z n r;refine aa r ?_;obtain⟨⟩:=n<;>rfl
|cons x L a=>{
rintro Z n ⟨v,q,rfl,X,M⟩
induction n using fK with
|zero=>rfl
|succ n=>exact⟨v,_,J,X,a n M⟩}}
theorem RepL.drop:∀{Z:List Value} (n:Nat),RepL U h L Z->RepL U h (L.drop n) (Z.drop n):=by{
induction L with
|nil=>intro Z n r;refine aa r ?_;obtain⟨⟩:=n<;>rfl
|cons x L a=>{
intro Z n r
induction n using fK with
|zero=>exact r
|succ n=>obtain⟨v,q,rfl,X,M⟩:=r;exact a n M}}
theorem RepL.set(f:aE U h x v):∀{Z:List Value} (i:Nat),RepL U h L Z->RepL U h (L.set i x) (Z.set i v):=by{
induction L with
|nil=>intro Z n r;exact aa r J
|cons x L a=>{
rintro Z n ⟨w,q,rfl,X,M⟩
induction n using fK with
|zero=>exact⟨v,q,J,f,M⟩
|succ n=>exact⟨w,_,J,X,a n M⟩}}
theorem RepL.erase:∀{Z:List Value} (i:Nat),RepL U h L Z->RepL U h (L.eraseIdx i) (Z.eraseIdx i):=by{
induction L with
|nil=>intro Z n r;exact aa r J
|cons x L a=>{
rintro Z n ⟨w,q,rfl,X,M⟩
induction n using fK with
|zero=>exact M
|succ n=>exact⟨w,_,J,X,a n M⟩}}
theorem Fc:aE U h .none .none:=J
theorem LM(e:b.size=n):aE U h (.bytes n) (.bytes b t):=(dm _ _ J e)
theorem rg:aE U h (.bool b) (.bool b):=J
theorem qT:aE U h (.ref a) (.ref a):=J
theorem Tf{U:St}(e:n<U.N):aE U h (.str n) (.str (U.sd n) t):=⟨e,_,J⟩
theorem ku:aE U h (.int i) (.int i t):=⟨_,J⟩
theorem RepL.one(f:aE U h x v):RepL U h [x] [v]:=⟨v,[],J,f,J⟩
theorem TM{D:Type}(x:D)(L:List D):∀(i:Nat),i<=L.length->L.insertIdx i x=L.take i++x::L.drop i:=by{
induction L with
|nil=>intro i h;cases Gh.mp h;rfl
|cons y L Z=>{
intro i h
induction i using fK with
|zero=>rfl
|succ i=>exact congrArg (Bf y)<|Z i<|Bg h}}
theorem RepL.replicate(f:aE U h x v)(n:Nat):RepL U h (fj n x) (fj n v):=by{
induction n with
|zero=>rfl
|succ n Z=>exact⟨_,_,J,f,Z⟩}
theorem Xm{D:Type}(w:D):∀n:Nat,Gi (λf c=>f++c) #[] (fj n #[w])=(fj n w).toArray:=by{
have g:∀n a,Gi (λf c=>f++c) a (fj n #[w])=a++(fj n w).toArray:=by{
intro n
induction n with
|zero=>intro a;simp
|succ n Z=>intro a;refine aa V4<|aa List.foldl_cons<|aa (Z ..)<|aa V4 ?_;apply Array.ext';simp}
intro n;refine aa (g ..) ?_;simp}
theorem sz(h:n<=1000000):n<=jD:=by exact aa oK (am h (by decide))
def qU:Op->Operator
 |.add=>.Add|.sub=>.Sub|.mul=>.Mult|.fdiv=>.FloorDiv|.mod=>.Mod|.pow=>.Pow|.shl=>.LShift|.shr=>.RShift|.band=>.BitAnd|.bor=>.BitOr
theorem IQ(r:0<=i)(h:i<2^63):V5 i=T:=bm.mpr ⟨decide_eq_true (cV (by decide) r),decide_eq_true h⟩
theorem JA(r:0<=i)(h:i<=1000000):¬(!V5 i)=T:=by refine aa (IQ r (lW h (by decide))) ?_;decide
inductive Sq (x:V) (P:Int->Prop):Prop
 |mk (i:Int) (e:x= .int i) (k:P i)
inductive Zi (x:V) (P:Addr->Prop):Prop
 |mk (i:Addr) (e:x= .ref i) (k:P i)
inductive L8 (x:V) (P:List V->Prop):Prop
 |mk (i:List V) (e:x= .tup i) (k:P i)
inductive abF (x:V) (P:Nat->Prop):Prop
 |mk (i:Nat) (e:x= .bytes i) (k:P i)
inductive EF {α:Type} (x:Option α) (P:α->Prop):Prop
 |mk (i:α) (e:x=some i) (k:P i)
inductive Xx (x:Option MO) (P:List V->Prop):Prop
 |mk (i:List V) (e:x=some (.list i)) (k:P i)
inductive Uo (x:Option MO) (P:List (aY×V)->Prop):Prop
 |mk (i:List (aY×V)) (e:x=some (.dict i)) (k:P i)
inductive Wv (x:Option MO) (P:Nat->Option Addr->Option Addr->List (Nat×V)->Prop):Prop
 |mk (c:Nat) (d t:Option Addr) (fs:List (Nat×V)) (e:x=some (.exc c d t fs)) (k:P c d t fs)
inductive Vd (x:List V) (P:V->Prop):Prop
 |mk (i:V) (e:x=[i]) (k:P i)
inductive UT (x:List V) (P:V->V->Prop):Prop
 |mk (i j:V) (e:x=[i,j]) (k:P i j)
theorem fJ(h:gn x P):Sq x P:=by{
induction x using V.casesOn with
|int i=>exact⟨i,J,h⟩
|_=>exact h.elim}
theorem lJ(h:iS x P):Zi x P:=by{
induction x using V.casesOn with
|ref i=>exact⟨i,J,h⟩
|_=>exact h.elim}
theorem MZ(h:Dc x P):L8 x P:=by{
induction x using V.casesOn with
|tup i=>exact⟨i,J,h⟩
|_=>exact h.elim}
theorem cU{x:Option D}{P:D->Prop}(h:cB x P):EF x P:=by{
induction x using aV with
|some i=>exact⟨i,aT,h⟩
|none=>exact h.elim}
theorem uf(h:tV x P):Xx x P:=by{
induction x using aV with
|none=>exact h.elim
|some x=>induction x using MO.casesOn with
 |list i=>exact⟨i,J,h⟩
 |_=>exact h.elim}
theorem M4(h:Fj x P):Uo x P:=by{
induction x using aV with
|none=>exact h.elim
|some x=>induction x using MO.casesOn with
 |dict i=>exact⟨i,J,h⟩
 |_=>exact h.elim}
theorem Jk(h:lj x P):Wv x P:=by{
induction x using aV with
|none=>exact h.elim
|some x=>induction x using MO.casesOn with
 |exc c d t D=>exact⟨c,d,t,D,J,h⟩
 |_=>exact h.elim}
theorem Fq{x:Option D}(h:vX x P):x=N/\P:=by{
induction x using aV with
|some i=>exact h.elim
|none=>exact⟨J,h⟩}
theorem vu(h:tQ x=S i):x= .int i:=by{
induction x using V.casesOn with
|int i=>(refine aa (aA h) ?_);rfl
|_=>exact aD h}
theorem Lm(h:Cs x=S i):x= .str i:=by{
induction x using V.casesOn with
|str i=>(refine aa (aA h) ?_);rfl
|_=>exact aD h}
theorem qY{l:List V}(h:eS o=S l):o=S (.list l):=by{
induction o using aV with
|none=>exact aD h
|some o=>induction o using MO.casesOn with
 |list i=>(refine aa (aA h) ?_);rfl
 |_=>exact aD h}
theorem pW{l:List V}(h:a1 l f):Vd l f:=by{
induction l using aS with
|nil=>exact h.elim
|cons x r=>induction r using aS with
 |nil=>exact⟨_,J,h⟩
 |cons _ _=>exact h.elim}
theorem Ay{l:List V}(h:a2 l f):UT l f:=by{
induction l using aS with
|nil=>exact h.elim
|cons x r=>obtain⟨y,rfl,C⟩:=pW h;exact⟨_,_,J,C⟩}
inductive YS (H:MH) (x:V) (f:List V->Prop):Prop
 |mk (a:Addr) (l:List V) (e:x= .ref a) (h:H a=some (.list l)) (k:f l)
inductive DM (v u:Value) (f:Int->Int->Prop):Prop
 |mk (a b:Int) (t t':Tok) (e:v= .int a t) (e':u= .int b t') (k:f a b)
theorem lF(r:aE U h x v)(I:aE U h y u)(w:i2 x y f):DM v u f:=by obtain⟨a,rfl,C⟩:=fJ w;clear w;obtain⟨b,rfl,E⟩:=fJ C;obtain⟨t,rfl⟩:=r;obtain⟨M,rfl⟩:=I;exact⟨a,b,t,M,J,J,E⟩
theorem RR(h:Lv Q H x y){C:Prop}(j:∀(a b:Int) (e:x= .int a) (A:y= .int b) (q:Q (.int<|a+b) H),C)(d:∀(a b:List V) (e:x= .tup a) (A:y= .tup b) (z:(a++b).length<=1000000) (q:Q (.tup<|a++b) H),C)(m:∀(a b:Addr) (u v:List V) (e:x= .ref a) (A:y= .ref b) (h:H a=S (.list u)) (c:H b=S (.list v)) (z:(u++v).length<=1000000) (q:gB H (.list<|u++v) Q),C):C:=by{
revert h;generalize f:x=M;intro h
induction M using V.casesOn with
|int a=>obtain⟨b,e,h⟩:=fJ h;exact j a b f e h
|tup a=>obtain⟨b,e,h⟩:=MZ h;exact d a b f e h.1 h.2
|ref a=>obtain⟨b,e,u,v,g,I,h⟩:=lJ h;exact m a b u v f e (qY g) (qY I) h.1 h.2
|_=>exact h.elim}
theorem L5(h:Mh Q H x y){C:Prop}(j:∀(a b:Int) (e:x= .int a) (A:y= .int b) (z:a.natAbs<2^64) (q:Q (.int<|a*b) H),C)(m:∀(a:Addr) (n:Int) (u:V) (e:x= .ref a) (A:y= .int n) (h:H a=S (.list [u])) (z:0<=n/\n<=1000000) (q:gB H (.list<|fj n.toNat u) Q),C):C:=by{
revert h;generalize f:x=M;intro h
induction M using V.casesOn with
|int a=>obtain⟨b,e,h⟩:=fJ h;exact j a b f e h.1.1 h.2
|ref a=>obtain⟨n,e,u,g,h⟩:=fJ h;exact m a n u f e (qY g) h.1 h.2
|_=>exact h.elim}
theorem pN{Q:QV}(Y:aq a U l H s)(q:Q (.int k) H):bH a U l (aE a) H s Q (.int k s.toks) {s with toks:=s.toks+1}:=dR Y _ ku q
theorem ZP(Y:aq h0 U l H s)(r:aE h0 s.heap x v)(I:aE h0 s.heap y h1)(h:wo Q H o x y):aj (ao h0.prog h0.w) A (binaryOp (qU o) v h1) (bH h0 U l (aE h0) H s Q) E s:=by{
refine let m:=_;(?_:aj _ _ _ m _ _)
induction o using Op.casesOn with
|add=>exact(by{
refine let m:=_;let C:=_;let j:=_;(?_:aj m _ C j _ _)
refine RR h (λa b e L q=>?_) (λa b e L z q=>?_) λa b h1 v e L G h2 z q=>?_
.subst e L;(refine af (r) λt h5=>?_;subst h5);obtain⟨M,rfl⟩:=I;exact P.add_int<|dR Y _ ku q
.subst e L;exact(by{
refine let m:=_;let C:=_;let j:=_;(?_:aj m _ C j _ _)
obtain⟨az,Z,D,rfl,g,X⟩:=r;obtain⟨O,d,f,rfl,e2,r2⟩:=I;have R:Z.size=a.length:=X.len;have h3:d.size=b.length:=r2.len;by_cases G:Z.isEmpty=T
.refine let p:=_;(?_:p)
 have:a=[]:=by induction a with|nil=>rfl|cons x r=>simp[Oq,R] at G
 subst this;exact concat_meets ⟨_,g,J⟩ ⟨_,e2,J⟩ V6 seq_tuple_add V7 V8 (V9 _ _) (AutoSeq1.tuple___add___tuple_tuple_0 az Z D O d f G)
  ⟨g,e2,dR (x:=.tup _) Y s.toks ⟨O,d,f,J,e2,r2⟩ q⟩
.by_cases h2:d.isEmpty=T
 .have:b=[]:=by induction b with|nil=>rfl|cons x r=>simp[Oq,h3] at h2
  subst this;rw[fm] at q;exact concat_meets ⟨_,g,J⟩ ⟨_,e2,J⟩ V6 seq_tuple_add V7 V8 (V9 _ _) (AutoSeq1.tuple___add___tuple_tuple_1 az Z D O d f G h2)
   ⟨g,e2,dR (x:=.tup _) Y s.toks ⟨az,Z,D,J,g,X⟩ q⟩
 .have k:∀O o,s.heap.get? O=S o->(s.heap.push {cls:=.type "tuple",data:=.seq (Z++d)}).get? O=S o:=λO o e=>cu _ e;refine P.add_tuple g e2 G h2 (qH Y k ?_ q) (by refine aa R<|h3▸bV▸?_;exact sz z);refine⟨_,Z++d,0,J,eD _ ff,?_⟩;exact W0.symm▸(X.append r2).keep (fP k)})
.subst e L;subst r;subst I;exact(by{
refine let p:=_;(?_:p)
obtain⟨Z,⟨n,B⟩,X⟩:=Y.rep _ _ G;obtain⟨d,⟨n',g2⟩,r2⟩:=Y.rep _ _ h2;have k:∀b o,s.heap.get? b=S o->(s.heap.push {cls:=.type "list",data:=.seq (Z++d)}).get? b=S o:=λb o G=>cu _ G;refine P.add_list B g2 (pU (o:=.list _) Y k (gq<|cD _) (λ_ q=>(by cases q)) ⟨Z++d,⟨0,eD _ ff⟩,?_⟩ q) ?_
.exact au W0.symm<|(X.append r2).keep<|fP k
.replace z:=r2.len▸X.len▸bV▸z;exact sz z})})
|mul=>exact(by{
refine let m:=_;let C:=_;let j:=_;(?_:aj m _ C j _ _)
refine L5 h (λa b e L z q=>?_) λa n h1 e L G z q=>?_
.subst e L;obtain⟨t,rfl⟩:=r;obtain⟨M,rfl⟩:=I;exact P.mul_int (dR Y _ ku q)<|IntMulOk.of_left<|intBits_le z
.subst e L;subst r;obtain⟨M,rfl⟩:=I;exact(by{
refine let p:=_;(?_:p)
obtain⟨Z,⟨i,B⟩,X⟩:=Y.rep _ _ G;obtain⟨w,q',ev,rw,rfl⟩:=X;obtain⟨ls⟩:=Z;subst ev;have e2:Gi (λx1 c=>x1++c) #[] (fj (if(#[w]).isEmpty=T then 0 else n.toNat) #[w])=(fj n.toNat w).toArray:=by exact aa (if_neg (by simp[Oq]))<|Xm w _
have k:∀b o,s.heap.get? b=S o->(s.heap.push {cls:=.type "list",data:=.seq (Gi (λx1 c=>x1++c) #[] (fj (if(#[w]).isEmpty=T then 0 else n.toNat) #[w]))}).get? b=S o:=λb o G=>cu _ G;refine let m:=_;(?_:aj _ _ _ m _ _)
refine wpAny_binaryOp_repeat_ref (by decide) ⟨_,B,J⟩ (λu=>Gj u n M) noFill_list_mul F.fills_int_mul W1 repeat_list F.slot_int_index.lookup
 (Bh W1 (Gj s n M) F.entry_int_rmul (F.args_int_rmul_2 _ _) (int___rmul___int_list n M a #[w] i)
  ⟨B,J,⟨_,B,J⟩,Bh F.slot_list_mul ⟨_,B,J⟩ F.entry_list_mul (F.args_list_mul_2 _ _)
   (AutoListH.list___mul___list_int_3 a #[w] i n M (JA z.1 z.2) (by simp;exact cV z.2 (by decide)) λzz=>je.mpr (am (dr<|Nat.one_mul n.toNat)<|sz<|sa.mpr z.2)<|of_decide_eq_true zz)
   ⟨B,pU (o:=.list<|fj n.toNat h1) Y k (gq<|cD _) (λ_ z=>absurd z aJ) ⟨_,⟨0,eD _ ff⟩,?_⟩ q⟩⟩)
have h4:=RepL.replicate (rw.keep<|fP k) n.toNat;rw[e2] at h4 ⊢;exact h4})})
|sub=>obtain⟨a,b,t,M,rfl,rfl,h⟩:=lF r I h;exact P.sub_int<|pN Y h
|fdiv=>obtain⟨a,b,t,M,rfl,rfl,h⟩:=lF r I h;exact PyProof.Rows.floordiv_int (Os h.1.1) (aa (W2 _<|nA h.1.1)<|pN Y h.2) (.inl (W3 (by have:=h.1;exact cM.mp<|(W4<|nA this.1).symm▸this.2)))
|mod=>obtain⟨a,b,t,M,rfl,rfl,h⟩:=lF r I h;exact PyProof.Rows.mod_int' (Os h.1)<|aa (Int.fmod_eq_emod_of_nonneg _<|nA h.1)<|pN Y h.2
|pow=>obtain⟨a,n,t,M,rfl,rfl,h⟩:=lF r I h;have:=(Int.mul_le_mul (dG.mpr (intBits_le (lX h.1.2.2 (by decide)))) h.1.2.1 h.1.1 (by decide):(Builtin.Int.intBits a:Int)*n<=10*1000);exact PyProof.Rows.pow_int h.1.1 (cV this (by decide))<|pN Y h.2
|shl=>obtain⟨a,n,t,M,rfl,rfl,h⟩:=lF r I h;exact PyProof.Rows.lshift_int_small h.1.1 h.1.2.1 h.1.2.2<|pN Y h.2
|shr=>obtain⟨a,n,t,M,rfl,rfl,h⟩:=lF r I h;refine PyProof.Rows.rshift_int h.1 ?_;exact aa (W2 _ (nA (Int.pow_pos (by decide))))<|pN Y h.2
|band=>obtain⟨a,n,t,M,rfl,rfl,h⟩:=lF r I h;exact PyProof.Rows.and_int<|aa (bitAnd_pp h.1.1 h.1.2)<|pN Y h.2
|bor=>{
obtain⟨a,n,t,M,rfl,rfl,h⟩:=lF r I h;exact PyProof.Rows.or_int (((by{
have e:∀z:Int,Bj (Bj z)=z:=λz=>by unfold Bj;exact aa (Int.neg_sub ..)<|aa (Int.sub_neg ..)<|aa (Bk ..)<|W5 ..
have i:∀z:Int,0<=z->¬0<=Bj z:=λz hz=>by unfold Bj;exact xB.mpr (xC (Int.sub_lt_self _ (by decide))<|Int.neg_nonpos_of_nonneg hz)
delta W6;exact aa (bitAnd_nn (i a h.1.1)<|i n h.1.2) ((e ..).trans<|aa (e ..)<|aa (e ..) J)}:W6 a n=((a.toNat|||n.toNat:Nat):Int)))▸pN Y h.2)}}
theorem Re(x y:Nat):(x+1==y+1)=(x==y):=by rw[Bl,beq_iff_eq,beq_iff_eq,Nat.succ_inj]
inductive TR (f:V->V->Option Bool) (xs ys:List V) (b:Bool):Prop
 |mk (bs:Nat->Bool) (k:∀(j:Nat) (x y:V),xs[j]?=some x->ys[j]?=some y->f x y=some (bs j)) (e:b=((cE (min xs.length ys.length)).all bs&&xs.length==ys.length))
theorem Ms:∀{P:List V} {b:Bool},cQ f L P=S b->TR f L P b:=by{
induction L with
|nil=>intro P b e;induction P using aS with
 |nil=>(injection e with z;subst z);exact .mk (λ_=>T) (λj x y h=>aD h) tt
 |cons _ _=>(injection e with z;subst z);exact .mk (λ_=>T) (λj x y h=>aD h) (ny _).symm
|cons x L Z=>intro P b e;induction P using aS with
 |nil=>(injection e with z;subst z);exact .mk (λ_=>T) (λj x y _ h=>aD h) (ny _).symm
 |cons y P=>
  refine let d:=_;(?_:d)
  unfold cQ at e;generalize G:f x y=o at e;generalize M:cQ f L P=p at e
  induction o using aV with
  |none=>exact aD e
  |some a=>induction p using aV with
   |none=>exact aD e
   |some c=>
    (injection e with z;subst z)
    obtain⟨m,l,i2⟩:=Z M;refine⟨λj=>fK j a m,λj B k g I=>?_,?_⟩
    .induction j using fK with
     |zero=>(injection g with z;subst z);(injection I with z;subst z);exact G
     |succ j=>exact l j B k g I
    .refine aa i2 (aa iN<|aa iN<|aa (Nat.add_min_add_right ..)<|aa W7<|aa nB<|aa Bm<|aa (Re ..)<|aa (W8 ..) ?_);rfl}
theorem Ny(G:∀x y v c,aE U h x v->aE U h y v->f x y=S c->c=T):∀{P:List V} {Z:List Value} {b:Bool},RepL U h L Z->RepL U h P Z->cQ f L P=S b->b=T:=by{
induction L with
|nil=>{
rintro P Z b r q e;subst r
induction P using aS with
|nil=>(injection e with z;subst z);rfl
|cons y P=>obtain⟨v,p,h,_⟩:=q;cases h}
|cons x L d=>{
rintro P Z b ⟨v,p,rfl,X,M⟩ q e
induction P using aS with
|nil=>cases q
|cons y P=>{
obtain⟨E,j,h,u,O⟩:=q;cases h;unfold cQ at e;generalize g:f x y=o at e;generalize i:cQ f L P=p at e
induction o using aV with
|none=>exact aD e
|some a=>induction p using aV with
 |none=>exact aD e
 |some c=>(injection e with z;subst z);refine aa (G _ _ _ _ X u g)<|(d M O i).trans ?_;rfl}}}
inductive ou (n:Nat) (H:MH):V->V->Bool->Prop
 |none:ou n H .none .none true
 |bool (a b:Bool):ou n H (.bool a) (.bool b) (a==b)
 |int (a b:Int):ou n H (.int a) (.int b) (a==b)
 |str (a b:Nat):ou n H (.str a) (.str b) (a==b)
 |tup (l m:List V) (b:Bool) (e:cQ (cA n H) l m=some b):ou n H (.tup l) (.tup m) b
 |tups (l:List V) (m:Nat):ou n H (.tup l) (.str m) false
 |list (a b:Addr) (l m:List V) (c:Bool) (h1:H a=some (.list l)) (h2:H b=some (.list m)) (hl:l.length=m.length) (e:cQ (cA n H) l m=some c):ou n H (.ref a) (.ref b) c
 |lens (a b:Addr) (l m:List V) (h1:H a=some (.list l)) (h2:H b=some (.list m)) (hl:l.length≠m.length):ou n H (.ref a) (.ref b) false
theorem Fv(e:cA (n+1) H x y=S b):ou n H x y b:=by{
induction x using V.casesOn with
|none=>exact(by{
induction y using V.casesOn with
|none=>(injection e with z;subst z);exact .none
|_=>exact aD e})
|bool a=>exact(by{
induction y using V.casesOn with
|bool c=>(injection e with z;subst z);exact .bool a c
|_=>exact aD e})
|int a=>exact(by{
induction y using V.casesOn with
|int c=>(injection e with z;subst z);exact .int a c
|_=>exact aD e})
|str a=>exact(by{
induction y using V.casesOn with
|str c=>(injection e with z;subst z);exact .str a c
|_=>exact aD e})
|tup l=>exact(by{
induction y using V.casesOn with
|tup m=>exact .tup l m b e
|str m=>(injection e with z;subst z);exact .tups l m
|_=>exact aD e})
|ref a=>exact(by{
refine let p:=_;(?_:p)
induction y using V.casesOn with
|ref c=>{
refine iC ((af (gV.mp e) λl L=>ai (λg e=>af (gV.mp e) λm L=>ai (λI e=>(fN l m (qY g) (qY I) e))<|L) (L):∃l m,(H a)=S (.list l)/\(H c)=S (.list m)/\(if l.length=m.length then cQ (cA n H) l m else S F)=S b)) λl m G M e=>?_;by_cases o:l.length=m.length
.rw[if_pos o] at e;exact .list a c l m b G M o e
.rw[if_neg o] at e;(injection e with z;subst z);exact .lens a c l m G M o}
|_=>exact aD e})
|_=>exact aD e}
theorem P3(Y:aq d U l H s)(n:Nat):∀{x y:V} {v:Value} {b:Bool},aE d s.heap x v->aE d s.heap y v->cA n H x y=S b->b=T:=by{
induction n with
|zero=>intro x y v b _ _ e;exact aD e
|succ n i=>{
intro x y v b w C e;have j:=Fv e;clear e
induction j with
|none=>rfl
|bool a c=>subst w;(injection C with z;subst z);exact beq_self_eq_true _
|int a c=>obtain⟨t,rfl⟩:=w;obtain⟨u,h⟩:=C;(injection h with z;subst z);exact beq_self_eq_true _
|str a c=>obtain⟨_,t,rfl⟩:=w;obtain⟨_,u,h⟩:=C;injection h with G p;exact(d.inj _ _ ‹_› ‹_› G)▸beq_self_eq_true _
|tup l m _ e=>{
obtain⟨a,Z,D,rfl,g,X⟩:=w;obtain⟨A,k,f,h,I,M⟩:=C
(injection h with z;subst z);replace I:=g▸I;cases I
exact Ny (λx y v c r q z=>i r q z) X M e}
|tups l m=>obtain⟨a,Z,D,rfl,_⟩:=w;obtain⟨_,u,h⟩:=C;cases h
|list a c l m _ g I o e=>subst w;(injection C with z;subst z);replace I:=g▸I;(injection I with z;injection z with z;subst z);obtain⟨Z,_,X⟩:=Y.rep _ _ g;exact Ny (λx y v c r q z=>i r q z) X X e
|lens a c l m g I o=>subst w;(injection C with z;subst z);replace I:=g▸I;(injection I with z;injection z with z;subst z);exact absurd J o}}
theorem HB{Z:Array Value}(r:RepL U h L Z.toList)(h9:j<Z.size):∃x,L[j]?=S x/\aE U h x Z[j]:=by
 have o:j<L.length:=au r.len h9;refine aU (r.get<|bX o) λv g q=>?_;refine(aG (L[j]) (bX o) ?_);rw[lY,uA h9] at g
 (injection g with z;refine aa z ?_);exact q
structure Oh (A:aI) (s:ah) (v u:Value) (b:Bool):Prop where
 e:EqAt A s v u b
 r:RcAt A s v u b
 n:Bn A s v u (!b)
theorem Nc{U:St}(O:a<U.N)(E:c<U.N):(U.sd a==U.sd c)=(a==c):=by rw[Bl,beq_iff_eq,beq_iff_eq];exact⟨U.inj _ _ O E,λq=>aa q J⟩
theorem Ct(Y:aq c U l H s)(w:aE c s.heap x<|.ref a)(C:aE c s.heap y<|.ref h)(e:cA n H x y=S b)(r:RcAt A s (.ref a) (.ref h) b)(R:Bn A s (.ref a) (.ref h)<|!b):Oh A s (.ref a) (.ref h) b:=by{
refine⟨?_,r,R⟩;by_cases q:a=h
.clear R;subst q;exact aa (P3 Y n w C e)<|.same _
.exact .of_refs q r}
theorem JO{s:ah}{Z Q:Array Value}{f:V->V->Option Bool}{m:Nat->Bool}(X:RepL U s.heap L Z.toList)(M:RepL U s.heap P Q.toList)(l:∀(j:Nat) (x y:V),L[j]?=S x->P[j]?=S y->f x y=S (m j))(c:∀x y v u b,aE U s.heap x v->aE U s.heap y u->f x y=S b->EqAt A s v u b) (j:Nat) (G:j<Z.size) (d:j<Q.size):EqAt A s Z[j] Q[j] (m j):=by
 refine let p:=_;(?_:p)
 exact af (HB X G) λx a=>ai (λB e=>af (HB M d) λy a=>ai (λt O=>c _ _ _ _ _ e O<|l j x y B t)<|a)<|a
theorem zN(Y:aq h0 U l H s)(n:Nat):∀{A:aI} {x y:V} {v u:Value} {b:Bool},A.units+n<dY->aE h0 s.heap x v->aE h0 s.heap y u->cA n H x y=S b->Oh A s v u b:=by{
induction n with
|zero=>intro A x y v u b _ _ _ e;exact aD e
|succ n ih=>{
intro A x y v u b hu w C e;have o:A.in1.units+n<dY:=by show A.units+1+n<dY;exact aa (oL ..) hu
have d:=se<|cN (gM (oM 1 n) _) hu
induction Fv e with
|none=>refine aa w ?_;refine aa C ?_;exact⟨.same _,.none_none,.none_none⟩
|bool a c=>refine aa w ?_;refine aa C ?_;exact⟨.bool_bool _ _,.bool_bool _ _,.bool_bool _ _⟩
|int a c=>obtain⟨t,rfl⟩:=w;obtain⟨M,rfl⟩:=C;exact⟨.int_int _ _ _ _,.int_int _ _ _ _,.int_int _ _ _ _⟩
|str a c=>refine ai (λO h1=>af (h1) λt h2=>?_)<|w;subst h2;obtain⟨E,M,rfl⟩:=C;exact au (Nc O E) ⟨.str_str _ _ _ _,.str_str _ _ _ _,.str_str _ _ _ _⟩
|tups l m=>obtain⟨a,Z,D,rfl,g,X⟩:=w;obtain⟨E,t,rfl⟩:=C;have i:s.heap.IsTuple a Z:=(bl _ g J ⟨D,J⟩);exact⟨.tuple_str _ _ i d,.tuple_str _ _ i d,.tuple_str _ _ i d⟩
|tup L P _ e'=>have h3:=w;have h4:=C;obtain⟨a,Z,D,rfl,g,X⟩:=w;obtain⟨h,Q,f,rfl,I,r2⟩:=C;obtain⟨bs,i1,i2⟩:=Ms e';have i:s.heap.IsTuple a Z:=(bl _ g J ⟨D,J⟩);have k:s.heap.IsTuple h Q:=(bl _ I J ⟨f,J⟩);have p:=JO X r2 i1 λx y v u b r q z=>(ih o r q z).e;replace i2:=r2.len▸X.len▸i2;exact Ct Y h3 h4 e (i2▸RcAt.tuples i k d p)<|i2▸Bn.tuples i k d p
|list a h L P _ g I j e'=>refine aa w ?_;subst C;obtain⟨Z,⟨k1,B⟩,X⟩:=Y.rep _ _ g;obtain⟨Q,⟨R,g2⟩,r2⟩:=Y.rep _ _ I;have i:s.heap.IsList a Z:=(aG _ B ⟨J,k1,J⟩);have k:s.heap.IsList h Q:=(aG _ g2 ⟨J,R,J⟩);obtain⟨bs,i1,i2⟩:=Ms e';have p:=JO X r2 i1 λx y v u b r q z=>(ih o r q z).e;have G:=X.len;rw[<-j,W9,beq_self_eq_true,qi,<-G] at i2;have z:=G.trans<|j.trans (r2.len).symm;exact Ct Y qT qT e (i2▸RcAt.lists i k z d p)<|i2▸Bn.lists i k z d p
|lens a h L P g I j=>
 refine let Gz:=_;(?_:Gz)
 subst w;subst C;obtain⟨Z,⟨k1,B⟩,X⟩:=Y.rep _ _ g;obtain⟨Q,⟨R,g2⟩,r2⟩:=Y.rep _ _ I;have i:s.heap.IsList a Z:=(aG _ B ⟨J,k1,J⟩);have k:s.heap.IsList h Q:=(aG _ g2 ⟨J,R,J⟩);have ne:=bne_iff_ne.mpr λq=>j<|X.len.symm.trans<|q.trans r2.len;exact Ct Y qT qT e (RcAt.lists_lengths i k ne d)<|Bn.lists_lengths i k ne d}}
theorem KP(r:aE U h (.tup L) v):∃a Z D,v= .ref a/\h.get? a=S {cls:=.type "tuple",data:=.seq Z D}/\RepL U h L Z.toList/\Z.size=L.length:=by
 refine let p:=_;(?_:p)
 obtain⟨a,Z,D,e,g,X⟩:=r;exact⟨a,Z,D,e,g,X,X.len⟩
theorem Nl{l:List V}(h:sI l=S b):l.length<=1000000/\b=!l.isEmpty:=by{
unfold sI at h;by_cases q:l.length<=1000000
.rw[if_pos q] at h;(refine aa (aA h) ?_);exact⟨q,J⟩
.rw[if_neg q] at h;exact aD h}
theorem VR(h:yq H x=S b){C:Prop}(g:∀(e:x= .none) (h:b=F),C)(n:∀(e:x= .bool b),C)(j:∀(i:Int) (e:x= .int i) (h:b=(i !=0)),C)(d:∀(l:List V) (e:x= .tup l) (z:l.length<=1000000) (h:b=!l.isEmpty),C)(m:∀(a:Addr) (l:List V) (e:x= .ref a) (k:H a=S (.list l)) (z:l.length<=1000000) (h:b=!l.isEmpty),C):C:=by{
revert h;generalize f:x=M;intro h
induction M using V.casesOn with
|none=>exact g f (aA h).symm
|bool c=>exact n<|f.trans<|congrArg V.bool<|aA h
|int i=>exact j i f (aA h).symm
|tup l=>(refine ai (λz h=>?_)<|Nl h);exact d l f z h
|ref a=>refine af (gV.mp h) λl L=>ai (λe h=>?_)<|L;refine ai (λz h=>?_)<|Nl h;exact m a l f (qY e) z h
|_=>exact aD h}
theorem ML{D w:Type}{L:List D}{Z:Array w}(E:Z.size=L.length):(!L.isEmpty)=!Z.isEmpty:=by{
obtain⟨Z⟩:=Z
induction L using aS with
|nil=>induction Z using aS with
 |nil=>rfl
 |cons _ _=>cases E
|cons _ _=>induction Z using aS with
 |nil=>cases E
 |cons _ _=>rfl}
theorem Je{Z:Array Value}(r:RepL U h L Z.toList)(z:L.length<=1000000):(Z.size:Int)<2^63:=by have e:Z.size=L.length:=r.len;refine aa e ?_;exact lW (dG.mpr z) (by decide)
theorem DW(Y:aq c U l H s)(r:aE c s.heap x v)(d:yq H x=S b)(q:∀t,R b {s with toks:=t}):aj (ao c.prog c.w) A (truthy v) R E s:=by{
refine VR d (λe D=>?_) (λe=>?_) (λi e D=>?_) (λL e z D=>?_) λa L e k z D=>?_
.subst e D;refine aa r ?_;exact λ_ _ _=>q s.toks
.subst e;refine aa r ?_;exact qj<|q s.toks
.subst e D;obtain⟨t,rfl⟩:=r;exact P.truthy_int<|q s.toks
.subst e;obtain⟨a,Z,f,rfl,g,X⟩:=r;rw[D,ML X.len] at q;exact truthy_tuple (bl _ g J ⟨f,J⟩) (Je X z)<|q _
.clear d;subst e;refine aa r ?_;obtain⟨Z,⟨n,B⟩,X⟩:=Y.rep _ _ k;rw[D,ML X.len] at q;exact wpAny_truthy_list (bl _ B J ⟨n,J⟩) (Je X z)<|q _}
theorem J3(h:wK Q H v k){C:Prop}(d:∀(l:List V) (i:Int) (x:V) (e:v= .tup l) (A:k= .int i) (z:0<=i/\i<2^60) (g:l[i.toNat]?=S x) (q:Q x H),C)(c:∀(a:Addr) (l:List V) (i:Int) (x:V) (e:v= .ref a) (h:H a=S (.list l)) (A:k= .int i) (z:0<=i/\i<2^60) (g:l[i.toNat]?=S x) (q:Q x H),C)(m:∀(a:Addr) (j:List<|aY×V) (y:aY) (x:V) (e:v= .ref a) (h:H a=S (.dict j)) (A:iK k=S y) (z:dL j y=T) (g:cY j y=S x) (q:Q x H),C)(b:∀(l:List Int) (i:Int) (x:Int) (e:v= .scr l) (A:k= .int i) (z:0<=i/\i<2^60) (g:l[i.toNat]?=S x) (q:Q (.int x) H),C):C:=by{
revert h;generalize f:v=M;intro h
induction M using V.casesOn with
|tup l=>obtain⟨i,e,z,h⟩:=fJ h;obtain⟨x,g,q⟩:=cU h;exact d l i x f e z g q
|scr l=>obtain⟨i,e,z,h⟩:=fJ h;obtain⟨x,g,q⟩:=cU h;exact b l i x f e z g q
|ref a=>{
obtain⟨o,g,h⟩:=cU h
induction o using MO.casesOn with
|list l=>obtain⟨i,e,z,h⟩:=fJ h;obtain⟨x,w,q⟩:=cU h;exact c a l i x f g e z w q
|dict j=>obtain⟨y,e,z,h⟩:=cU h;obtain⟨x,w,q⟩:=cU h;exact m a j y x f g e z w q
|_=>exact h.elim}
|_=>exact h.elim}
theorem Wn(b:Nat):Ot 0 (b:Int) 1=b:=by
 delta Ot;have G:(1:Int)>0:=by decide
 simp only[G,if_true,X0];split<;>grind
theorem VS{U:St}{s:ah}{b n:Nat}(B:s.heap.IsSliceOf f .none (.int b u) .none)(D:b<=n)(h:R (0,1,b) s):aj (ao U.prog U.w) A (abL (.ref f)<|pure (n:Int)) R E s:=by{
refine let p:=_;(?_:p)
refine af (id B) λm L=>ai (λH y=>ai (λd a=>ag<|ag<|kR H a (x:=.none) J<|ag<|kR H a (x:=.int b u) J<|ag<|kR H a (x:=.none) J<|av<|ag<|slicePart_none ?_)<|y)<|L;refine aa (if_neg (by decide)) ?_;refine ag (slicePart_none (ag (slicePart_int (ag (av (((by{
delta X1;have G:¬((1:Int)<0):=by decide
have M:¬((b:Int)<0):=by exact bT.mpr<|cR b
simp only[G,M,if_false]
congr 1
exact xD (dG.mpr D)}:X1 N (S (b:Int)) 1 (n:Int)=(0,(b:Int))))▸?_))))))
show aj _ _ (pure (0,1,Ot 0 b 1)) _ _ s;exact aa (Wn ..)<|av h}
theorem D4{U:St}{s:ah}{b:Nat}(v:IsTup s.heap t M)(B:s.heap.IsSliceOf f .none (.int b u) .none)(D:b<=M.size)(r:b=M.size->R (.ref t) s) (h:R (.ref s.heap.objs.size) {s with heap:=s.heap.push {cls:=.type "tuple",data:=.seq (M.toList.take b).toArray}})(y:M.size<=jD):aj (ao U.prog U.w) A (uB (.ref t)<|.ref f) R E s:=by{
have c:sizeOk (.seq (M.toList.take b).toArray):=by show(M.toList.take b).toArray.size<=jD;refine aa lZ<|aa Bo<|aa Gk ?_;exact am (Nat.min_le_right _ _) y
refine eN (id B) λm H d a=>?_;delta uB
try with_reducible refine eT ?_
refine ag (X2 v.typeIs (by decide) ?_);refine ag (Gm (name:=br "__getitem__") v.typeIs Bp
 (uC Bp v.typeIs entry_tuple_getitem ?_<|args_tuple_getitem _ _))
refine let P:=_;(?_:aj _ _ _ P _ _)
show aj _ _ (abM (.ref t)>>=_) _ _ s;refine ag<|tupleItemsOf_ v ?_;refine ag<|wpAny_typeOf ((aG m H d)) ?_;refine aa (if_pos (by decide))<|ag<|VS B D ?_;by_cases e:b=M.size
.show aj _ _ (if((0:Int)==0&&(1:Int)==1&&b==M.size)=T then _ else _) _ _ s;refine aa (if_pos (by simp[e]))<|ag (m:=abN _) ?_;refine ag<|wpAny_typeOf v.typeIs<|av ?_;refine aa (if_pos (by decide)) ?_
 first
  |exact ag<|Bq<|av<|aG _ J<|av<|r e
  |exact ag<|Bq<|ag<|av<|av ⟨_,J,av<|r e⟩
.show aj _ _ (if((0:Int)==0&&(1:Int)==1&&b==M.size)=T then _ else _) _ _ s;refine aa (if_neg (by simp[e])) ?_;refine((by{
have e:(λ(k:Nat)=>M[(0+(k:Int)*1).toNat]?)=(λx=>M[x]?)∘λx=>0+x:=by funext k;have:(0+(k:Int)*1).toNat=0+k:=fF _ _;simp only[Function.comp_apply,this]
refine aa e<|au List.filterMap_map<|aa (pick_run M 0 b) ?_;simp}:((cE b).filterMap λ(k:Nat)=>M[((0:Int)+(k:Int)*1).toNat]?).toArray=(M.toList.take b).toArray))▸?_
 first
  |exact ag (m:=Ou _)<|nC (av<|aG _ J<|av h) c
  |exact ag (m:=Ou _)<|nC (ag<|av<|av ⟨_,J,av h⟩) c
  |exact ag<|ag (m:=Ou _)<|nC (av<|av ⟨_,J,av h⟩) c}
def yS(h:Heap)(u:Value)(k Z:Value):Prop:=∃f,u= .ref f/\h.IsSliceOf f k Z .none
theorem Mz(h:Ek Q H v k){C:Prop}(d:∀(l:List V) (n:Int) (e:v= .tup l) (A:k= .int n) (z:0<=n/\n<=l.length/\l.length<=1000000) (q:Q (.tup<|l.take n.toNat) H),C)(c:∀(a:Addr) (l:List V) (n:Int) (e:v= .ref a) (h:H a=S (.list l)) (A:k= .int n) (z:0<=n/\l.length<=1000000) (q:gB H (.list<|l.take n.toNat) Q),C):C:=by{
revert h;generalize f:v=M;intro h
induction M using V.casesOn with
|tup l=>obtain⟨i,e,z,h⟩:=fJ h;exact d l i f e z h
|ref a=>obtain⟨i,e,h⟩:=fJ h;obtain⟨l,g,z,q⟩:=uf h;exact c a l i f g e z q
|_=>exact h.elim}
theorem Oa(h:EO Q H v k){C:Prop}(d:∀(l:List V) (n:Int) (e:v= .tup l) (A:k= .int n) (z:1<=n/\n<=l.length/\l.length<=1000000) (q:Q (.tup<|l.drop n.toNat) H),C)(c:∀(a:Addr) (l:List V) (n:Int) (e:v= .ref a) (h:H a=S (.list l)) (A:k= .int n) (z:0<=n/\l.length<=1000000) (q:gB H (.list<|l.drop n.toNat) Q),C):C:=by{
revert h;generalize f:v=M;intro h
induction M using V.casesOn with
|tup l=>obtain⟨i,e,z,h⟩:=fJ h;exact d l i f e z h
|ref a=>obtain⟨i,e,h⟩:=fJ h;obtain⟨l,g,z,q⟩:=uf h;exact c a l i f g e z q
|_=>exact h.elim}
theorem AE{s:ah}(o:Obj)(b:Addr)(Q:Obj)(e:s.heap.get? b=S Q):(s.heap.push o).get? b=S Q:=cu _ e
theorem Jn{Q:QV}(Y:aq a U l H s)(r:RepL a s.heap L Z)(q:Q (.tup L) H):bH a U l (aE a) H s Q (.ref s.heap.objs.size) {s with heap:=s.heap.push {cls:=.type "tuple",data:=.seq Z.toArray},toks:=t}:=qH (x:=.tup L) Y (AE _) ⟨_,Z.toArray,0,J,eD _ ff,r.keep<|fP<|AE _⟩ q
theorem LO(Y:aq a U l H s)(r:RepL a s.heap L Z)(q:gB H (.list L) Q):bH a U l (aE a) H s Q (.ref s.heap.objs.size) {s with heap:=s.heap.push {cls:=.type "list",data:=.seq Z.toArray},toks:=t}:=pU (o:=.list L) Y (AE _) (gq<|cD _) (λ_ h=>(by cases h)) ⟨Z.toArray,⟨0,eD _ ff⟩,r.keep<|fP<|AE _⟩ q
theorem An(h:0<=i):i=(i.toNat:Int):=(uD h).symm
theorem RU(Y:aq c U l H s)(d:aE c s.heap o v)(G:k= .int i)(I:yS s.heap u .none<|.int i t)(M:Ek Q H o k)(B:∀o i,Br q F o i=Bs [i,o] (uB o i)):aj (ao c.prog c.w) A (Ov m q v u) (bH c U l (aE c) H s Q) E s:=by{
refine let P:=_;let C:=_;let j:=_;(?_:aj P _ C j _ _)
subst G;refine let p:=_;(?_:p)
refine af (I) λf x=>ai (λO b=>?_)<|x;clear x I;subst O;refine Mz M (λL n e r z h=>?_) λa L n e k r z h=>?_
.subst e;(injection r with z;subst z);obtain⟨a,Z,y,rfl,g,X⟩:=d;have w:=X.len;have D:IsTup s.heap a Z:=(bl _ g J ⟨y,J⟩);replace b:=(An z.1)▸b;have R:=w▸sa.mpr z.2.1;refine oN D.typeIs Bp.lookup (D4 D b R (λe=>dR Y s.toks ?_ h) (Jn Y (X.take _) h)<|am (dr w)<|sz z.2.2)<|B _ _;exact⟨a,Z,y,J,g,(au ((Ow<|dr<|w.symm.trans e.symm).symm) X)⟩
.subst e;(injection r with z;subst z);subst d;obtain⟨Z,⟨n,g1⟩,X⟩:=Y.rep _ _ k;have D:s.heap.IsList a Z:=(bl _ g1 J ⟨n,J⟩);replace b:=(An z.1)▸b;refine oN D.typeIs Gn.lookup (X3 D b .none (.int _ _) .none (by decide) ?_<|am (dr X.len)<|sz z.2)<|B _ _;exact aa (slicePick_upto' ..)<|LO Y (X.take _) h}
theorem UQ(Y:aq r U l H s)(d:aE r s.heap o v)(G:k= .int i)(I:yS s.heap u (.int i t) .none)(M:EO Q H o k)(B:∀o i,Br q F o i=Bs [i,o] (uB o i)):aj (ao r.prog r.w) A (Ov m q v u) (bH r U l (aE r) H s Q) E s:=by{
refine let P:=_;let C:=_;let j:=_;(?_:aj P _ C j _ _)
subst G;refine af (I) λf x=>ai (λO b=>?_)<|x;clear x I;subst O;refine Oa M (λL n e w z h=>?_) λa L n e k w z h=>?_
.subst e;(injection w with z;subst z);obtain⟨a,Z,ep,rfl,g,X⟩:=d;have y:=X.len;have D:IsTup s.heap a Z:=(bl _ g J ⟨ep,J⟩);have c:1<=i.toNat:=Int.lt_toNat.mpr (xC (by decide) z.1);have R:=y▸sa.mpr z.2.1;replace b:=(An (cV (by decide) z.1))▸b;exact oN D.typeIs Bp.lookup (getItem_tuple_from D b c R (Jn Y (X.drop _) h)<|am (dr y)<|sz z.2.2)<|B _ _
.refine let p:=_;(?_:p)
 subst e;(injection w with z;subst z);subst d;obtain⟨Z,⟨n,g1⟩,X⟩:=Y.rep _ _ k;have D:s.heap.IsList a Z:=(bl _ g1 J ⟨n,J⟩);replace b:=(An z.1)▸b;refine oN D.typeIs Gn.lookup (X3 D b (.int _ _) .none .none (by decide) ?_<|am (dr X.len)<|sz z.2)<|B _ _;exact aa (slicePick_from' ..)<|LO Y (X.drop _) h}
theorem de.len{u:Type}{R:aY->u->Prop}:∀{j:List (aY×V)} {c:List (u×Value)},de R U h j c->c.length=j.length:=by{
intro j
induction j with
|nil=>intro c r;exact congrArg _ r
|cons x j i=>rintro c ⟨e,r,rfl,_,_,Q⟩;exact congrArg (·+1)<|i Q}
theorem gm.len:∀{j:List (aY×V)} {c:List (List Int×Addr×Value)},gm U h j c->c.length=j.length:=by{
intro j
induction j with
|nil=>intro c r;exact congrArg _ r
|cons x j i=>rintro c ⟨e,r,rfl,_,_,Q⟩;exact congrArg (·+1)<|i Q}
def tS{u:Type}(R:aY->u->Prop):Prop:=∀k a v h,R k a->R v h->(k=v↔a=h)
theorem wG:tS (nU U):=by{
rintro k a v h ⟨n,rfl,O,rfl⟩ ⟨m,rfl,E,rfl⟩;constructor
.intro e;(injection e with z;refine aa z ?_);rfl
.intro e;exact congrArg _<|U.inj n m O E e}
theorem AC:tS ti:=by rintro k a v h rfl rfl;exact⟨λe=>(by injection e),congrArg _⟩
theorem de.get{u:Type}[DecidableEq u]{R:aY->u->Prop}(b:tS R){a:u}(w:R k a):∀{j:List (aY×V)} {c:List (u×Value)},de R U h j c->ud U h (cY j k) (valueAt c a):=by{
intro j
induction j with
|nil=>intro c r;exact aa r J
|cons x j i=>{
rintro c ⟨e,r,rfl,I,Y,Q⟩;have Z:=i Q;unfold cY valueAt at Z ⊢;by_cases q:x.1=k
.have n:=(b _ _ _ _ I w).mp q;simp only[fG,q,n,decide_true,X4];exact⟨_,J,Y⟩
.have n:=λz=>q ((b _ _ _ _ I w).mpr z);simp only[fG,decide_eq_false q,decide_eq_false n];exact Z}}
theorem de.any{u:Type}[DecidableEq u]{R:aY->u->Prop}(b:tS R){a:u}(w:R k a):∀{j:List (aY×V)} {c:List (u×Value)},de R U h j c->(j.any λe=>decide<|e.1=k)=c.any λe=>decide (e.1=a):=by{
intro j
induction j with
|nil=>intro c r;refine aa r ?_;rfl
|cons x j i=>{
rintro c ⟨e,r,rfl,I,Y,Q⟩;refine aa uE<|uE.trans<|aa (i Q) ?_
congr 1
exact decide_eq_decide.mpr<|b _ _ _ _ I w}}
theorem de.o9{u:Type}[DecidableEq u]{R:aY->u->Prop}(b:tS R){a:u}(w:R k a)(f:aE U h x v):∀{j:List (aY×V)} {c:List (u×Value)},de R U h j c->de R U h (j.map (λe=>if e.1=k then(e.1,x) else e)) (c.map λe=>if e.1=a then(e.1,v) else e):=by{
intro j
induction j with
|nil=>intro c r;exact congrArg _ r
|cons y j i=>{
rintro c ⟨e,r,rfl,I,Y,Q⟩;refine⟨_,_,J,?_,?_,i Q⟩<;>dsimp only
.by_cases q:y.1=k
 .exact aa (if_pos q)<|aa (if_pos<|(b _ _ _ _ I w).mp q) I
 .exact aa (if_neg q)<|aa (if_neg λz=>q<|(b _ _ _ _ I w).mpr z) I
.by_cases q:y.1=k
 .exact aa (if_pos q)<|aa (if_pos<|(b _ _ _ _ I w).mp q) f
 .exact aa (if_neg q)<|aa (if_neg λz=>q<|(b _ _ _ _ I w).mpr z) Y}}
theorem de.i9{u:Type}{R:aY->u->Prop}{a:u}(w:R k a)(f:aE U h x v):∀{j:List (aY×V)} {c:List (u×Value)},de R U h j c->de R U h (j++[(k,x)]) (c++[(a,v)]):=by{
intro j
induction j with
|nil=>intro c r;refine aa r ?_;exact⟨_,_,J,w,f,J⟩
|cons y j i=>rintro c ⟨e,r,rfl,I,Y,Q⟩;exact⟨_,_,J,I,Y,i Q⟩}
theorem de.put{u:Type}[DecidableEq u]{R:aY->u->Prop}(b:tS R){a:u}(w:R k a)(f:aE U h x v){c:List (u×Value)}(r:de R U h j c):de R U h (kC j k x) (stored c a v):=by{
delta kC stored;refine aa (r.any b w) ?_
induction(c.any λe=>decide<|e.1=a) using aX with
|true=>exact r.o9 b w f
|false=>exact r.i9 w f}
theorem gm.get:∀{j:List (aY×V)} {c:List (List Int×Addr×Value)},gm U h j c->ud U h (cY j<|.t a) ((qk c a).map (·.2)):=by{
intro j
induction j with
|nil=>intro c r;exact aa r J
|cons x j i=>{
rintro c ⟨e,r,rfl,I,Y,Q⟩;have Z:=i Q;unfold cY qk at Z ⊢;by_cases q:e.1=a
.simp only[fG,I,q,decide_true,X4];exact⟨_,J,Y.1⟩
.have n:¬x.1= .t a:=λz=>q (by replace z:=I▸z;cases z;rfl);simp only[fG,decide_eq_false q,decide_eq_false n];exact Z}}
theorem gm.any:∀{j:List (aY×V)} {c:List (List Int×Addr×Value)},gm U h j c->(j.any λe=>decide<|e.1= .t a)=(qk c a).isSome:=by{
intro j
induction j with
|nil=>intro c r;refine aa r ?_;rfl
|cons x j i=>{
rintro c ⟨e,r,rfl,I,Y,Q⟩;have Z:=i Q;unfold qk at Z ⊢;by_cases q:e.1=a
.simp[fG,I,q]
.have n:¬x.1= .t a:=λz=>q (by replace z:=I▸z;cases z;rfl);simp only[fG,decide_eq_false q,uE,decide_eq_false n,Bt];exact Z}}
theorem gm.put(w:aE U h (.tup<|a.map .int)<|.ref b)(f:aE U h x v)(r:gm U h j c):gm U h (kC j (.t a) x) (storedH c a b v):=by{
delta kC storedH;refine aa r.any ?_;split
.rename_i o;clear o
 induction j generalizing c with
 |nil=>refine r▸?_;rfl
 |cons y j Z=>{
obtain⟨e,I,g,d,Y,Q⟩:=r;subst g;refine⟨_,_,J,?_,?_,Z Q⟩<;>dsimp only
.unfold putAt;by_cases q:e.1=a
 .rw[if_pos q,if_pos (by exact aa d<|aa q J)];exact d
 .exact aa (if_neg q) (aa (if_neg (λz=>q (by rw[d] at z;cases z;rfl))) d)
.unfold putAt;by_cases q:e.1=a
 .rw[if_pos q,if_pos (by exact aa d<|aa q J)];exact⟨f,Y.2⟩
 .exact aa (if_neg q) (aa (if_neg (λz=>q (by rw[d] at z;cases z;rfl))) Y)}
.rename_i o;clear o
 induction j generalizing c with
 |nil=>exact r.symm▸⟨_,_,J,J,⟨f,w⟩,J⟩
 |cons y j Z=>obtain⟨e,I,g,d,Y,Q⟩:=r;subst g;exact⟨_,_,J,d,Y,Z Q⟩}
def Au(c:List<|List Int×Addr×Value)(a:List Int):List (List Int×Addr×Value):=c.filter λe=>decide<|e.1≠a
theorem gm.d8:∀{j:List (aY×V)} {c:List (List Int×Addr×Value)},gm U h j c->gm U h (tZ j<|.t a) (Au c a):=by{
intro j
induction j with
|nil=>intro c r;exact aa r J
|cons x j i=>{
rintro c ⟨e,r,rfl,I,Y,Q⟩;have Z:=i Q;unfold tZ Au at Z ⊢;by_cases q:e.1=a
.have n:x.1= .t a:=by exact aa I (congrArg _ q)
 exact aa (xE (by simpa using n)) (aa (xE (by simpa using q)) Z)
.have n:¬x.1= .t a:=λz=>q (by replace z:=I▸z;cases z;rfl);exact aa (xF (by simpa using n)) (aa (xF (by simpa using q))<|⟨_,_,J,I,Y,Z⟩)}}
inductive CO (h:Heap) (a:Addr):Prop
 |mk (o:Obj) (ep:Nat) (e:h.get? a=some o) (x:o.ExactDict) (d:o.data= .dict #[] ep)
theorem HM{U:St}{u:Type}[DecidableEq u]{k:KeyKind U.prog U.w u}(r:h.DictOf k a []):CO h a:=by
 refine let p:=_;(?_:p)
 refine eg r λo O D Y M Z=>?_;obtain⟨j⟩:=O;obtain⟨A,_,v,_⟩:=Z;cases v;exact⟨o,D,Y,M,A⟩
theorem Ey(r:gi U h a []):CO h a:=by{
refine let p:=_;(?_:p)
induction r using gi.casesOn with
|s c r d=>subst r;exact HM d
|i c r d=>subst r;exact HM d
|t c r d=>subst r;refine eg d λo O D Y M Z=>?_;obtain⟨j⟩:=O;obtain⟨A,v,_⟩:=Z;subst v;exact⟨o,D,Y,M,A⟩}
theorem zL{U:St}{u:Type}[DecidableEq u](k:KeyKind U.prog U.w u)(r:CO h a):h.DictOf k a []:=by obtain⟨o,D,Y,M,A⟩:=r;exact⟨o,#[],D,Y,M,A,λe b=>by simp at b,Pairs.nil,gW⟩
theorem Oe(r:de (nU U) U h (x::j) c):x.1.kind=0:=by obtain⟨e,r,_,⟨n,I,_⟩,_⟩:=r;exact congrArg _ I
theorem Kn(r:de ti U h (x::j) c):x.1.kind=1:=by obtain⟨e,r,_,I,_⟩:=r;exact congrArg _ I
theorem Kf(r:gm U h (x::j) c):x.1.kind=2:=by obtain⟨e,r,_,I,_⟩:=r;exact congrArg _ I
theorem sR{P:Prop}(k:dL (x::j) y=T)(e:x.1.kind=n)(h:y.kind≠n):P:=absurd (((by unfold dL at k;rw[nB] at k;exact beq_iff_eq.mp (bm.mp k).1:x.1.kind=y.kind)).symm.trans e) h
theorem zI(r:gi U h a j)(k:dL j (.s n)=T):∃c,de (nU U) U h j c/\h.DictOf (strKind U.prog U.w) a c:=by{
induction j using aS with
|nil=>exact(aG ([]) J<|zL _<|Ey r)
|cons x j=>{
induction r using gi.casesOn with
|s c r d=>exact(aG c r d)
|i c r d=>exact sR k (Kn r) Nat.zero_ne_one
|t c r d=>exact sR k (Kf r) (show 0≠2 by decide)}}
theorem yw(r:gi U h a j)(k:dL j (.i n)=T):∃c,de ti U h j c/\h.DictOf (oJ U.prog U.w) a c:=by{
induction j using aS with
|nil=>exact(aG ([]) J<|zL _<|Ey r)
|cons x j=>{
induction r using gi.casesOn with
|s c r d=>exact sR k (Oe r) (show(1:Nat)≠0 by decide)
|i c r d=>exact(aG c r d)
|t c r d=>exact sR k (Kf r) (show 1≠2 by decide)}}
theorem sO(r:gi U h a j)(k:dL j (.t n)=T):∃c,gm U h j c/\h.DictOfH (Be<|oJ U.prog U.w) a c:=by{
induction j using aS with
|nil=>obtain⟨o,D,Y,M,A⟩:=Ey r;exact⟨[],J,o,#[],D,Y,M,A,J,(λ_ h=>absurd h aJ),gW⟩
|cons x j=>{
induction r using gi.casesOn with
|s c r d=>exact sR k (Oe r) (show 2≠0 by decide)
|i c r d=>exact sR k (Kn r) (show 2≠1 by decide)
|t c r d=>exact(aG c r d)}}
theorem Qq{l:List V}:∀{M:List Int} {Z:List Value},vN l=S M->RepL U h l Z->ItemsAre (oJ U.prog U.w) M Z:=by{
induction l with
|nil=>intro M Z e r;(refine au (aA e) ?_);refine aa r ?_;exact .nil
|cons x l b=>rintro M Z e ⟨v,q,rfl,X,c⟩;refine aU (gV.mp e) λi f e=>?_;cases vu f;refine aU (jf.mp e) λa G o=>?_;refine au o ?_;obtain⟨t,rfl⟩:=X;exact .cons (intKind_is _ _ i t)<|b G c}
inductive YF (st:St) (h:Heap) (v:Value) (k:aY):Prop
 |s (n:Nat) (a:Str) (e:k= .s n) (r:nU st k a) (i:(strKind st.prog st.w).is a v=true)
 |i (n:Int) (e:k= .i n) (i:(oJ st.prog st.w).is n v=true)
 |t (ns:List Int) (a:Addr) (e:k= .t ns) (ev:v= .ref a) (i:(Be (oJ st.prog st.w)).is h ns a) (rk:aE st h (.tup (ns.map .int)) v)
theorem Vp{l:List V}:∀{M:List Int},vN l=S M->l=M.map .int:=by{
induction l with
|nil=>intro M e;(refine au (aA e) ?_);rfl
|cons x l Z=>intro M e;refine aU (gV.mp e) λi f e=>?_;cases vu f;refine aU (jf.mp e) λa G o=>?_;refine au o ?_;exact congrArg _<|Z G}
theorem rB(r:aE U h x v)(e:iK x=S k):YF U h v k:=by{
induction x using V.casesOn with
|str n=>(refine au (aA e) ?_);obtain⟨O,t,rfl⟩:=r;exact .s n _ J (bl _ J O J)<|strKind_is _ _ _ t
|int i=>(refine au (aA e) ?_);obtain⟨t,rfl⟩:=r;exact .i _ J<|intKind_is _ _ _ t
|tup l=>refine aU (jf.mp e) λM G o=>?_;refine au o ?_;have q:=r;rw[Vp G] at q;obtain⟨a,Z,D,rfl,g,X⟩:=r;exact .t M a J J ⟨_,Z,D,g,J,J,Qq G X⟩ q
|_=>exact aD e}
theorem aq.j0(Y:aq b U l H s)(e:H a=S o)(B:(b.base.get? nv).isSome=T):(a==nv)=F:=by rw[beq_eq_false_iff_ne];rintro rfl;rw[Y.fresh _<|iT e] at B;exact ak B
abbrev gJ (U:St):=Be (oJ U.prog U.w)
theorem Ql{s:ah}{A:aI}(I:A.units+1<dY)(H:(gJ U).is s.heap M a)(m:(d==nv)=F)(b:s.heap.DictOfH (gJ U) d L)(h:R (.bool<|!(qk L M).isSome) {s with toks:=s.toks+(gJ U).draws M}):aj (ao U.prog U.w) A (Gq .NotIn (.ref a)<|.ref d) R E s:=by{
refine ag ?_;unfold contains
try with_reducible refine eT ?_
refine ag<|sf b.typeIs Ox.lookup ?_;rw[if_neg (by exact aa (beq_builtin_none ..) kS)];refine ag (wpAny_callSpecialUnlessNone?_slot b.typeIs Ox
 (uC Ox b.typeIs entry_dict_contains ?_<|args_dict_contains _ _))
refine let P:=_;(?_:aj _ _ _ P _ _)
show aj _ _ (dictGet d _>>=_) _ _ s;refine ag<|wpAny_dictGet_heap (Bu I) H b ?_
induction G:qk L M using aV with
|some p=>rw[G] at h;exact av<|aG _ J<|qj<|av h
|none=>
 rw[G] at h;refine let P:=_;(?_:aj _ _ _ P _ _)
 exact ag<|wpAny_pendingKey_other m<|av<|aG _ J<|qj<|av h}
theorem th(r:ud U h x v):x.isSome=v.isSome:=by{
induction x using aV with
|none=>refine aa r ?_;rfl
|some x=>obtain⟨y,rfl,_⟩:=r;rfl}
theorem u1{A:aI}(I:A.units+64<dY):A.units+1<dY:=cN (gM (by decide) _) I
theorem Yz{A:aI}(Y:aq h1 U l H s)(d:aE h1 s.heap o v)(B:aE h1 s.heap k h4)(I:A.units+64<dY)(u:wK Q H o k)(hs:∀o i,Br h5 F o i=Bs [o,i] (uB o i)):aj (ao h1.prog h1.w) A (Ov h8 h5 v h4) (bH h1 U l (aE h1) H s Q) E s:=by{
refine let P:=_;let C:=_;let j:=_;(?_:aj P _ C j _ _)
refine J3 u (λL i x e e' r f h=>?_) (λa L i x e k e' r f h=>?_) (λa es y x e k hk ok R q=>?_) λL i x e e' r f h=>?_
.subst e e';obtain⟨a,Z,ep,rfl,e1,X⟩:=d;refine af (B) λt O=>?_;subst O;refine af (X.get f) λh2 h0=>ai (λg h3=>?_)<|h0;replace g:=lY▸g;have D:IsTup s.heap a Z:=(bl _ e1 J ⟨ep,J⟩);have h6:=(Array.getElem?_eq_some_iff.mp g).1;exact oN D.typeIs Bp.lookup (getItem_tuple D (cV (by decide) r.1) (ql r.2 (by decide)) (seqIndex_of r.1<|uD r.1▸cM.mpr h6) g<|dR Y s.toks h3 h)<|hs _ _
.clear u;subst e e';subst d;refine let Gz:=_;(?_:Gz)
 refine af (B) λt O=>?_;subst O;obtain⟨Z,⟨n,g1⟩,X⟩:=Y.rep _ _ k;refine af (X.get f) λh2 h0=>ai (λg h3=>?_)<|h0;replace g:=lY▸g;have D:s.heap.IsList a Z:=(bl _ g1 J ⟨n,J⟩);exact oN D.typeIs Gn.lookup (X5 D r.1 (ql r.2 (by decide)) g<|dR Y s.toks h3 h)<|hs _ _
.subst e;subst d;exact(by{
refine let Gz:=_;(?_:Gz)
rcases rB B hk with⟨n,b,rfl,hr,G⟩|⟨i,rfl,G⟩|⟨ns,b,rfl,rfl,G,h9⟩
·(refine af (zI (Y.rep _ _ k) ok) λc h0=>?_;refine ai (λX m=>?_)<|h0)
 have o:=X.get wG hr;rw[R] at o;obtain⟨h2,o1,o2⟩:=o;exact oN m.typeIs Oy.lookup (X6 G m.mapOf o1<|dR Y _ o2 q)<|hs _ _
.refine let P:=_;let C:=_;let j:=_;(?_:aj P _ C j _ _)
 refine af (yw (Y.rep _ _ k) ok) λc h0=>ai (λX m=>?_)<|h0;have o:=X.get AC<|show ti (.i i) i from rfl
 rw[R] at o;obtain⟨h2,o1,o2⟩:=o;exact oN m.typeIs Oy.lookup (X6 G m.mapOf o1<|dR Y _ o2 q)<|hs _ _
·(refine aU (sO (Y.rep _ _ k) ok) λc X m=>?_)
 have o:=X.get (a:=ns);rw[R] at o;obtain⟨h2,o1,o2⟩:=o;refine aU (jf.mp o1) λp z h7=>?_;subst h7;exact oN m.typeIs Oy.lookup (wpAny_getItem_heap (Bu<|u1 I) G m z<|dR Y _ o2 q)<|hs _ _})
.subst e e';obtain⟨a,Z,rfl,g1,hz,w⟩:=d;(refine af (B) λt O=>?_;subst O);exact af (w _ _ f) λM g=>oN (g1.at<|Y.base _).typeIs Gn.lookup (X5 (g1.at<|Y.base _) r.1 (ql r.2 (by decide)) g<|dR Y s.toks ku h)<|hs _ _}
inductive pP (st:St) (fr:aF) (l:ae) (H:MH) (s:ah) (Q:MH->Prop) (u:Unit) (s':ah):Prop
 |mk (H':MH) (S:aq st fr l H' s') (G:Go fr.fs [] H s H' s') (q:Q H')
theorem AL(B:ma a h C):∀b,b≠a->∀Q,h.get? b=S Q->C.get? b=S Q:=λb D Q e=>(B.2 b D).trans e
theorem qC(B:ma a h C)(R:∃o,h.get? a=S o)(c:∃o,C.get? a=S o):∀b Q,h.get? b=S Q->∃O,C.get? b=S O:=λb Q e=>by{
by_cases q:b=a
.clear R;refine aa q ?_;exact c
.exact⟨Q,(B.2 b q).trans e⟩}
theorem Et{U:St}{u:Type}[DecidableEq u]{k:KeyKind U.prog U.w u}{h:Heap}{c:List (u×Value)}(r:h.DictOf k a c):∃o,h.get? a=S o:=by refine af (r) λo L=>af (L) λ_ y=>af (y) λ_ x=>ai (λY _=>?_)<|x;exact⟨o,Y⟩
theorem Da{U:St}{u:Type}[DecidableEq u]{k:HeapKind U.prog U.w u}{h:Heap}{c:List (u×Addr×Value)}(r:h.DictOfH k a c):∃o,h.get? a=S o:=by refine af (r) λo L=>af (L) λ_ y=>af (y) λ_ x=>ai (λY _=>?_)<|x;exact⟨o,Y⟩
theorem DE{Q:MH->Prop}(Y:aq c U l H s)(e:H a=S (.dict j))(q:Q<|H.set a<|.dict i)(B:ma a s.heap C)(v:∃o,C.get? a=S o)(I:ee s.heap C->gi c C a i):pP c U l H s Q () {s with heap:=C,toks:=t}:=by obtain⟨E,G⟩:=Y.upd (B:=.dict i) e J (λb D _=>AL B b D) (qC B (Y.at<|iT e) v) I;exact⟨_,E,G,q⟩
theorem D0{D w c:Type}[DecidableEq D](f:D×w->c){M:D}{p:w}{L:List (D×w)}:∀{j:Nat},(L.map (·.1)).Nodup->L[j]?=S (M,p)->(L.map f).eraseIdx j=(L.filter λe=>decide<|e.1≠M).map f:=by{
induction L with
|nil=>intro j _ h9;exact aD h9
|cons x L Z=>{
intro j O h9;rw[oO,fq] at O
induction j using fK with
|zero=>
 (obtain rfl:=aA h9)
 refine aa (xE (by simp))<|congrArg (List.map f) (qm.mpr λy n=>?_).symm;exact decide_eq_true λe=>O.1<|bZ.mpr<|aG y n e
|succ j=>have X:¬x.1=M:=λe=>O.1<|aa e<|bZ.mpr<|aG _ (du h9) J;exact aa (xF (by simpa using X))<|congrArg (Bf<|f x)<|Z O.2 h9}}
theorem Tx{s:ah}{A:aI}(I:A.units+1<dY)(H:(gJ U).is s.heap M a)(t:s.heap.DictOfH (gJ U) d L)(k:qk L M=S p)(y:L.length<=jD) (h:∀e C,e.val=p.2->C.DictOfH (gJ U) d (Au L M)->ma d s.heap C->R (S e) {s with heap:=C,toks:=s.toks+(gJ U).draws M}):aj (ao U.prog U.w) A (X7 d<|.ref a) R E s:=by{
refine eg t λo q D Y r Z=>?_;obtain⟨m,u,G,O⟩:=Z;delta X7
try with_reducible refine eT ?_
refine ag ((gJ U).pyHash (show A.units<dY by exact se I) H (ag (wpAny_dictFind_heap (show A.units<dY by exact se I) H Y m u G O (λv=>?_) λj z h9=>?_)))
·(refine aU (jf.mp k) λx f n=>?_)
 obtain⟨i,c⟩:=Oz<|md f;have Q:x.1=M:=by simpa using sg f
 exact absurd (show L[i]?=S (M,p) by exact c.trans<|au Q<|au n J)<|v i p
.have g:z=p:=by
  have:=atKey_of_get O h9;replace this:=k▸this;(refine au (aA this) ?_);rfl
 clear k H I;subst g;refine ag<|Bv Y m ?_;have b:q[j]?=S (Gs (gJ U) (M,z)):=by refine aa (entry_at u j)<|aa h9 ?_;rfl
 refine aa b ?_;refine ag (wpAny_updateDictKeys Y m (av<|h _ _ J ?_<|kT ..) (by exact aa (size_of_entries u) y) (by obtain⟨l⟩:=q;simp only[Gu,lZ];have:=OA l j;exact kU this))
 refine⟨_,_,D+1,kW _ Y<|Obj.isFreed_of_dict<|X8 m _,r.mapDictKeys _,X8 m _,?_,λx f=>?_,?_⟩
 .obtain⟨l⟩:=q;simp only[Gu];clear b h r y R a;subst(u);exact D0 (Gs<|gJ U) O h9
 .have w:=(dZ.mp f).1;exact(gJ U).keeps (G x w) Y m<|kT ..
 .exact List.Sublist.nodup (List.Sublist.map _ xG) O}
namespace FB
theorem slot_len:Slot "bytearray" "__len__" "bytearray.__len__":=
 .of (owner:="bytearray") (n:="__len__") (by refine aa (qn ..)<|aa qo ?_;kernel_rfl) (by decide+kernel) (by decide+kernel) (by decide+kernel)
  (by first|exact .inl (by decide+kernel)|exact .inr (by decide+kernel)) (by refine aa (Gw ..) ?_;kernel_rfl)
theorem entry_len:uz qf "bytearray.__len__"=S Builtin.«bytearray.__len__»:=by first|exact OB (by kernel_rfl)|exact OE (by kernel_rfl)
theorem args_len(a:Value):argsOk "bytearray.__len__" ⟨[a],[]⟩:=by kernel_rfl
end FB
theorem Cw{Q:QV}(Y:aq c U l H s)(e:H a=S (.list L))(g:s.heap.get? a=S {cls:=.type "list",data:=.seq Z n}) (r:RepL c s.heap P (f Z).toList) (w:aE c s.heap x v) (q:Q x<|H.set a<|.list P):bH c U l (aE c) H s Q v {s with heap:=s.heap.update a (nD f)}:=by have R:=kW (nD f) g ff;refine NJ (t:=s.toks) Y e (B:=.list P) J (λb D _=>AL (kT ..) b D) (qC (kT ..) ⟨_,g⟩ ⟨_,R⟩) (λy=>?_) w q;exact⟨f Z,⟨_,R⟩,r.keep y⟩
theorem WO{s:ah}(m:(d==nv)=F)(a:s.heap.DictOfH (gJ U) d L)(H:(L.length:Int)<2^63)(h:R (.int L.length<|s.toks+1) {s with toks:=s.toks+1+1}):aj (ao U.prog U.w) A (call (.builtin "len") [.ref d]) R E s:=by{
refine X9 kind_len plain_len entry_len (args_len1 _) ?_;refine ag (m:=oneArg "len" _)<|av ?_;refine ag (m:=callSpecial? (.ref d)<|br "__len__") (Gm (name:=br "__len__") a.typeIs Y0
 (call_meetsIn Y0 a.typeIs F.entry_dict_len (F.args_dict_len_1 _) ((.of_wp λA R s z=>by{
refine let p:=_;(?_:p)
refine ai (λa h=>?_)<|z;refine eg a λo j D Y u Z=>?_;obtain⟨b,w,c,O⟩:=Z;show aj _ _ (dictSize d>>=_) _ _ s;refine ag<|ag<|Bv Y b<|av<|ag<|wpAny_pendingCount_other m<|wpAny_ret_mkInt ?_;have:=size_of_entries w;rw[OF,this];exact h}:MeetsIn U.prog U.w (Builtin.«dict.__len__» ⟨[.ref d],[]⟩) λ_ R s=>s.heap.DictOfH (gJ U) d L/\R (.ok<|.ret<|.int L.length s.toks) {s with toks:=s.toks+1})) ⟨a,?_⟩))
refine ag<|eT<|av ?_;refine ag<|OG ?_;rw[if_neg (by exact bT.mpr<|cR _)];rw[if_neg (by exact xB.mpr H)];exact ag<|wpAny_mkInt<|av<|aG _ J h}
theorem K0(a:Addr)(b:Array UInt8)(k:Nat):Meets (Builtin.«bytearray.__len__» ⟨[.ref a],[]⟩) (λ_ R s=>s.heap.get? a=S {cls:=.type "bytearray",data:=.bytearray b k}/\R (.ok<|.ret<|.int b.size s.toks) {s with toks:=s.toks+1}):=
 .of_wp λH w A R s ⟨g,h⟩=>by show aj _ _ (abO _>>=_) _ _ s;exact ag<|ag<|ag<|uF g<|av<|av<|wpAny_ret_mkInt h
theorem Rn(h:EL Q H x){C:Prop}(d:∀(l:List V) (e:x= .tup l) (z:l.length<=1000000) (q:Q (.int l.length) H),C)(b:∀(l:List Int) (e:x= .scr l) (z:l.length<=1000000) (q:Q (.int l.length) H),C)(c:∀(a:Addr) (l:List V) (e:x= .ref a) (h:H a=S (.list l)) (z:l.length<=1000000) (q:Q (.int l.length) H),C)(m:∀(a:Addr) (l:List<|aY×V) (e:x= .ref a) (h:H a=S (.dict l)) (z:l.length<=1000000) (q:Q (.int l.length) H),C)(k:∀(a:Addr) (n:Nat) (e:x= .ref a) (h:H a=S (.bytearr n)) (z:n<=1000000) (q:Q (.int n) H),C):C:=by{
revert h;generalize f:x=M;intro h
induction M using V.casesOn with
|tup l=>exact d l f h.1 h.2
|scr l=>exact b l f h.1 h.2
|ref a=>{
obtain⟨o,g,h⟩:=cU h
induction o using MO.casesOn with
|list l=>exact c a l f g h.1 h.2
|dict l=>exact m a l f g h.1 h.2
|bytearr l=>exact k a l f g h.1 h.2
|_=>exact h.elim}
|_=>exact h.elim}
theorem re{Q:QV}{k n:Nat}(Y:aq a U l H s)(e:k=n)(q:Q (.int n) H):bH a U l (aE a) H s Q (.int k<|s.toks+1) {s with toks:=s.toks+1+1}:=by refine aa e ?_;exact dR Y _ ku q
theorem qG{k n:Nat}(e:k=n)(z:n<=1000000):(k:Int)<2^63:=by refine aa e ?_;exact lW (dG.mpr z) (by decide)
namespace FB
theorem int_no_bytes:oP (.type "int") "__bytes__"=pure N:=by refine aa (qn ..)<|aa qo ?_;kernel_rfl
theorem int_index:oP (.type "int") "__index__"=pure (S<|.builtin "int.__index__"):=by refine aa (qn ..)<|aa qo ?_;kernel_rfl
end FB
theorem NV[Decidable c](G:c->b=k)(d:¬c->a=k):aE U h (.int k) (if c then .int b M else .int a t):=by{
by_cases q:c
.exact aa (if_pos q)<|aa (G q) ku
.exact aa (if_neg q)<|aa (d q) ku}
def Fn(L:List V)(j:Nat):Int:=(L[j]?.bind tQ).getD 0
theorem VK(f:Nat->Int)(n:Nat):Bw f (n+1)=f 0+Bw (λj=>f<|j+1) n:=by{
induction n with
|zero=>exact Bk _ _
|succ n Z=>show Bw f _+f _=f 0+(Bw (λj=>f _) n+f _);exact aa Z<|mf ..}
inductive A9 (xs:List V) (i:Int):Prop
 |mk (a:∀(j:Nat) (x:V),xs[j]?=some x->∃k,x= .int k) (e:Bw (Fn xs) xs.length=i)
theorem Iy:∀{i:Int},tY L=S i->A9 L i:=by{
induction L with
|nil=>intro i h;(refine au (aA h) ?_);exact .mk (λ_ _ e=>aD e) J
|cons x L Z=>{
intro i h;refine aU (gV.mp h) λk f h=>?_;refine aU (jf.mp h) λm E o=>?_;refine au o ?_;cases vu f;refine⟨λj y z=>?_,?_⟩
.induction j using fK with
 |zero=>(refine au (aA z) ?_);exact⟨k,J⟩
 |succ j=>exact((Z E).1) j y z
.exact aa iN<|(VK ..).trans<|congrArg _<|(Z E).2}}
theorem RepL.back:∀{Z:List Value} {j:Nat} {v:Value},RepL U h L Z->Z[j]?=S v->∃x,L[j]?=S x/\aE U h x v:=by{
induction L with
|nil=>intro Z j v r e;subst r;exact aD e
|cons y L a=>{
rintro Z j v ⟨w,q,rfl,X,M⟩ e
induction j using fK with
|zero=>(refine au (aA e) ?_);exact(aG y aT X)
|succ j=>exact a M e}}
theorem P9{Q:QV}{A:aI}(Y:aq r U l H s)(R:A.handled=N)(e:H a=S (.list L))(hs:tY L=S i)(q:Q (.int i) H):aj (ao r.prog r.w) A (call (.builtin "sum") [.ref a]) (bH r U l (aE r) H s Q) E s:=by{
refine let P:=_;(?_:aj _ _ _ P _ _)
obtain⟨Z,⟨n,g⟩,X⟩:=Y.rep _ _ e;have le:Z.size=L.length:=X.len;have c:s.heap.IsList a Z:=(bl _ g J ⟨_,J⟩);refine call_sum_walkAnyS<|Y1 c ?_;have p:(s.heap.push {cls:=.type "list_iterator",data:=.fields #[.ref a,.int 0 0]}).IsList a Z:=c.push _;have y:(s.heap.push {cls:=.type "list_iterator",data:=.fields #[.ref a,.int 0 0]}).objs.size=s.heap.objs.size+1:=Y2 _ _;have hI:(s.heap.push {cls:=.type "list_iterator",data:=.fields #[.ref a,.int 0 0]}).IsListIter s.heap.objs.size a 0:=(bl _ (eD _ ff) J J);refine⟨s.heap.objs.size,_,_,_,_,_,_,Fn L,J,(Walks.list (by exact R) s.heap.objs.size a (fu<|ii g) Z).toS,⟨hI,p⟩,?_,?_,?_⟩
.intro b D;exact aa y<|(bJ.mp D).elim (λh=>h▸iO _) λh=>cJ.mp h▸uG (ii g)
.intro j v w;rw[<-lY] at w;refine aU (X.back w) λx f rx=>?_;refine af (((Iy hs).1) j x f) λk O=>?_;subst O;delta Fn;exact aa f rx
.intro u M m;obtain⟨G,h2,C,h4,_⟩:=m;obtain⟨z,g',d',I,B⟩:=u;obtain⟨hp,g0,d,t,o0⟩:=s;simp only at G h2 C h4;clear hI y p c g X n R E A;refine aa h2 ?_;refine aa C ?_;subst h4;refine qH Y (λb o e=>G b o (λD=>?_)<|cu _ e) ?_ q
 .exact(bJ.mp D).elim (λh=>absurd (ii e)<|h▸jZ _) λh=>absurd h aJ
 .exact le▸(((Iy hs).2))▸ku}
namespace FB
theorem no_kw(v:Value):Y3 "bytes.__new__" "bytes" ["source","encoding","errors"] [v] []=pure [S v,N,N]:=PySem.F.bm_bind v
theorem ba_mro:mroOf (.type "bytearray")=pure [.type "bytearray",.type "object"]:=by refine aa (mroOf_type ..) ?_;kernel_rfl
theorem ba_lookup_new:oP (.type "bytearray") "__new__"=pure (S<|.builtin "bytearray.__new__"):=by refine aa (qn ..)<|aa qo ?_;kernel_rfl
theorem ba_slot_init:Slot "bytearray" "__init__" "bytearray.__init__":=
 .of (owner:="bytearray") (n:="__init__") (by refine aa (qn ..)<|aa qo ?_;kernel_rfl) (by decide+kernel) (by decide+kernel) (by decide+kernel)
  (by first|exact .inl (by decide+kernel)|exact .inr (by decide+kernel)) (by refine aa (Gw ..) ?_;kernel_rfl)
theorem ba_called:TypeCalled "bytearray" "bytearray.__new__" "bytearray.__init__":=⟨by decide+kernel,by decide+kernel,⟨_,_,ba_mro⟩,madeBy_type ba_mro ba_lookup_new (by decide+kernel),by decide+kernel,by refine aa (Gw ..) ?_;kernel_rfl,ba_slot_init⟩
theorem ba_typeCall(a:Value):checkTypeCall "bytearray" ⟨[a],[]⟩=pure ():=by kernel_rfl
theorem ba_newCall(a:Value):Gf "bytearray.__new__" ⟨[.type "bytearray",a],[]⟩=pure ():=by kernel_rfl
theorem ba_entry:uz qf "bytearray.__new__"=S Builtin.«list.__new__»:=entryFor_alias (id':="list.__new__") (by kernel_rfl) (by first|rfl|decide+kernel) (by decide+kernel) (by kernel_rfl)
theorem ba_entry_init:uz qf "bytearray.__init__"=S Builtin.«bytearray.__init__»:=by first|exact OB (by kernel_rfl)|exact OE (by kernel_rfl)
theorem ba_plain:plainId "bytearray.__new__"=T:=by decide+kernel
theorem ba_args(a b:Value):argsOk "bytearray.__init__" ⟨[a,b],[]⟩:=by kernel_rfl
theorem ba_sub:xH (.type "bytearray") (.type "bytearray")=pure T:=by refine aa (Gw ..) ?_;kernel_rfl
theorem ba_owner:("bytearray.__new__".splitOn ".__new__").headD ""="bytearray":=by refine aa PySem.W.split_bytearray ?_;rfl
theorem ba_bind(v:Value):Y3 "bytearray.__init__" "bytearray" ["source","encoding","errors"] [v] []=pure [S v,N,N]:=by kernel_rfl
theorem ba_rel:oP (.type "bytearray") "__release_buffer__"=pure (S<|.builtin "bytearray.__release_buffer__"):=by refine aa (qn ..)<|aa qo ?_;kernel_rfl
theorem by_no_index:oP (.type "bytes") "__index__"=pure N:=by refine aa (qn ..)<|aa qo ?_;kernel_rfl
theorem by_buffer:oP (.type "bytes") "__buffer__"=pure (S<|.builtin "bytes.__buffer__"):=by refine aa (qn ..)<|aa qo ?_;kernel_rfl
theorem by_rel:oP (.type "bytes") "__release_buffer__"=pure N:=by refine aa (qn ..)<|aa qo ?_;kernel_rfl
end FB
theorem Wu{s:ah}(a:Value)(h:b (.ref s.heap.objs.size) {s with heap:=s.heap.push {cls:=.type "bytearray",data:=.bytearray #[]}}):gN (ao H w) A (.call (.builtin "bytearray.__new__") ⟨[.type "bytearray",a],[]⟩) (wants b E) s:=by{
refine OH<|ag<|gw (FB.ba_newCall a)<|av ⟨OI FB.ba_plain _,codeAny_builtin_stack FB.ba_entry J λp U=>?_⟩;refine let P:=_;let C:=_;(?_:aj _ _ _ P C _)
refine(Y4 FB.ba_plain _)▸?_;have n:=FB.ba_sub;obtain⟨O,g,d,y,m⟩:=s;simp only[(FB.ba_owner)]
wp_walk
exact h}
theorem Nj{s:ah}(g:s.heap.get? Y=S {cls:=.type "bytearray",data:=.bytearray b k}) (G:f b=C) (c:C.size<=jD)(h:∀a,a.get? Y=S {cls:=.type "bytearray",data:=.bytearray C k}->ma Y s.heap a->R () {s with heap:=a}):aj M A (abP (.ref Y) f) R E s:=by
 refine ag<|uF g ?_;refine ag<|OJ g ?_;have w:(s.heap.update Y<|Y5 f).get? Y=S {cls:=.type "bytearray",data:=.bytearray C k}:=by exact au G<|kW (Y5 f) g ff
 refine Gx w ?_<|h _ w<|kT ..;show(if C.size>jD then S "bytearray:memory" else N)=N;exact(if_neg (by exact je.mpr c))
theorem Xw{s:ah}(u:s.TypeIs (.ref Y) "bytearray")(h:R F s):aj M A (abQ<|.ref Y) R E s:=ag (ag (sf u FB.ba_rel (kX (by decide+kernel) ((show("bytearray.__release_buffer__".dropRight<|"__release_buffer__".length+1)="bytearray" by decide+kernel)▸Gy u FB.ba_sub (av h)))))
theorem by_buffer(h:R (S b) s):aj M A (abR "bytearray.__init__" (.bytes b t) T) R E s:=by
 refine ag<|sf (Bx _ _ _) FB.by_buffer<|ag<|ag<|sf (Bx _ _ _) FB.by_buffer ?_;refine let P:=_;(?_:aj _ _ _ P _ _)
 exact kX (by decide+kernel) (aa (show("bytes.__buffer__".dropRight<|"__buffer__".length+1)="bytes" by decide+kernel)<|Gy (Bx _ _ _) F.bm_sub<|kX ff<|av h)
theorem Uj{s:ah}(g:s.heap.get? Y=S {cls:=.type "bytearray",data:=.bytearray #[] 0}) (d:b.size<=1000000)(h:∀C,C.get? Y=S {cls:=.type "bytearray",data:=.bytearray b 0}->ma Y s.heap C->R (.ok<|.ret .none) {s with heap:=C}):bf (ao H w) A (Builtin.«bytearray.__init__» ⟨[.ref Y,.bytes b t],[]⟩) (AB (ao H w) o R) E s:=by{
refine bQ<|bD<|Xw ((aG _ g J)) ?_;refine let P:=_;(?_:bf _ _ _ P _ _)
refine bQ<|bD<|gw (FB.ba_bind _) ?_;refine let P:=_;let c:=_;let j:=_;(?_:bf P _ c j _ _)
refine bQ<|bD<|gw (a:=()) J ?_;refine bQ<|bD<|gw (a:=()) J ?_;refine bQ<|bQ<|ZJ ?_;refine let P:=_;(?_:bf _ _ _ P _ _)
refine bD<|ag<|ag<|uF g<|av<|av ?_;refine bD<|kX J ?_;refine let P:=_;let c:=_;let j:=_;(?_:aj P _ c j _ _)
refine ag<|Nj g (C:=#[]) J (bW _) λG B a=>?_;refine ag<|gw (a:=N) J ?_;refine let p:=_;(?_:p)
refine kX J ?_;refine ag<|gw (a:=()) J ?_;refine ag<|sf (Bx _ _ _) FB.by_no_index ?_;refine kX J ?_;refine let p:=_;(?_:p)
refine ag<|by_buffer ?_;refine ag<|Bq<|ag<|Nj (s:={s with heap:=G}) B (C:=b) J (sz d) λM e f=>?_;exact av<|h M e<|a.trans f}
theorem wU{a b:Sem D}{Q:D->ah->Prop}(u:c=F)(h:bf M A b Q E s):bf M A (if c=T then a else b) Q E s:=by refine aa u ?_;exact h
theorem We{s:ah}{Q:Value->ah->Prop}(y:b.size<=1000000)(l:∀C,C.get? s.heap.objs.size=S {cls:=.type "bytearray",data:=.bytearray b 0}->(∀c o,s.heap.get? c=S o->C.get? c=S o)->Q (.ref s.heap.objs.size) {s with heap:=C}):bf (ao H z) A (call (.type "bytearray") [.bytes b t]) Q E s:=by{
refine let p:=_;(?_:p)
refine af (FB.ba_called.mro) λc L=>?_;refine af (L) λk h=>?_;have n:=FB.ba_called.sub;refine vA<|rG tt ?_;refine bD (av ⟨GA _ (by decide+kernel),Ni (by decide+kernel) F.entry_type_call ?_⟩);refine let P:=_;let d:=_;(?_:bf _ _ _ P d _)
rw[aI.under_plain (weight_type_call_type "bytearray" [.bytes b t] []) J];unfold Builtin.«type.__call__»
dsimp only
rw[(FB.ba_called.notType),(FB.ba_called.canCreate)];rw[if_neg kS];refine let P:=_;let d:=_;let j:=_;let U:=_;let x:=_;(?_:bf P d j U x _)
refine bQ<|bD<|gw (FB.ba_typeCall _) ?_;refine bQ<|bD<|gw h ?_;refine wU ff ?_;refine bQ<|bD<|gw (FB.ba_called.made) ?_;refine bQ<|bD<|av ?_;refine bQ<|bD<|eT<|uH<|GB (Wu (E:=λe u=>E e u) (b:=λv i=>v= .ref s.heap.objs.size/\i={s with heap:=s.heap.push {cls:=.type "bytearray",data:=.bytearray #[]}}) _ ⟨J,J⟩) λr i I=>?_
induction r using uI with
|error e=>exact I
|ok a=>{
induction a using xI with
|ret m=>
 obtain⟨rfl,rfl⟩:=I;have g:(s.heap.push {cls:=.type "bytearray",data:=.bytearray #[]}).get? s.heap.objs.size=S {cls:=.type "bytearray",data:=.bytearray #[] 0}:=eD _ ff;have q:({s with heap:=s.heap.push {cls:=.type "bytearray",data:=.bytearray #[]}}:ah).TypeIs (.ref s.heap.objs.size) "bytearray":=⟨_,g,J⟩;refine bQ<|bD<|Gy q FB.ba_sub ?_;refine wU ff ?_;refine bQ<|rC ?_;refine let P:=_;let d:=_;(?_:bf _ _ _ P d _)
 refine bQ<|bD<|sf q FB.ba_slot_init.lookup ?_;refine rC<|bQ<|bD<|gw (FB.ba_slot_init.bind _) ?_;refine bQ (vA (La (by decide+kernel) (OI FB.ba_slot_init.plain _) FB.ba_entry_init<|FB.ba_slot_init.check _ _ _ _ _ _ _ _ q (FB.ba_args _ _) ?_));refine Uj (s:={s with heap:=s.heap.push {cls:=.type "bytearray",data:=.bytearray #[]}}) g y λC w f=>?_;refine bD<|av ?_;refine wU ff<|bD<|av ?_;exact l C w λc o e=>(f.2 c<|fu<|ii e).trans<|cu _ e
|_=>exact I.elim}}
structure eB (st:St):Prop where
 X:st.K.In st.base
 g:st.base.Ns lU st.mg
 b:st.base.Ns xu st.mb
 sys:(st.base.get? nv).isSome=true
 lim:st.base.NoLimit
structure rL (env:Env):Prop where
 kind:env.scope.kind= .function
 glob:env.globals=lU
 bi:env.builtins=xu
structure pA (fr:aF):Prop where
 ek:rL fr.env
 cap:fr.env.cells.Pairwise λx y=>x.2≠y.2
 cab:∀n c,(n,c)∈fr.env.cells->c≠fr.env.locals
 v1:∀p∈fr.vis,∀q∈fr.vis,p.1=q.1->p.2=q.2
 v2:∀p∈fr.vis,∀q∈fr.vis,p.2=q.2->p.1=q.1
structure Cb (st:St) (d:CD):Prop where
 get:ij st.K (.ref d.addr) "__getattribute__"=some (some (.builtin "object.__getattribute__"))
 geta:ij st.K (.ref d.addr) "__getattr__"=some none
 dict:GC st.K d.addr=true
 set:ij st.K (.ref d.addr) "__setattr__"=some (some (.builtin "object.__setattr__"))
 over:plainOver st.K d.addr=true
 fld:∀n∈d.fields,n<st.N/\ij st.K (.ref d.addr) (st.sd n)=some none
theorem dq.el{P:Prop}(r:dq U env h x v)(f:env.kindOf x=S .local->zF U env h x v->P)(g:env.kindOf x=S .cell->jm U env h x v->P)(k:env.kindOf x=S .free->jm U env h x v->P):P:=by{
delta dq at r;generalize env.kindOf x=z at r f g k
induction z using aV with
|none=>exact r.elim
|some z=>induction z with
 |«local»=>exact f J r
 |cell=>exact g J r
 |free=>exact k J r
 |_=>exact r.elim}
theorem Ig{Q:QV}(Y:aq a U l H s)(h:U.env.scope.kind= .function)(w:(i,b)∈U.vis)(f:l.at i=S x)(u:(b==("__classdict__":Str))=F)(q:Q x H):aj (ao a.prog a.w) A (GD U.env b) (bH a U l (aE a) H s Q) E s:=by{
refine let p:=_;(?_:p)
have r:=Y.loc _ w;rw[f] at r;refine r.el (λk r=>?_) (λk r=>?_) λk r=>?_
.obtain⟨m,g,y,e,r⟩:=r;exact wpAny_loadName_local h k g e ⟨x,H,r,Y,Go.refl,q⟩
.obtain⟨c,o,y,B,t,d,z,e,r⟩:=r;exact wpAny_loadName_cell h k B ⟨o,t,d.trans<|congrArg _ e⟩ ⟨x,H,r,Y,Go.refl,q⟩
.obtain⟨c,o,y,B,t,d,z,e,r⟩:=r;exact wpAny_loadName_free h k B ⟨o,t,d.trans<|congrArg _ e⟩ ⟨x,H,r,Y,Go.refl,q⟩ u}
theorem Mw(w:env.scope.kind= .function)(f:env.kindOf b=S .globalImplicit)(h:aj M A (loadGlobal env b) R E s):aj M A (GD env b) R E s:=au ((PyProof.Rows.loadName_read w f).symm) h
theorem Kv{U:aF}{s:ah}(B:eB a)(D:a.base.StaysIn s.heap)(h:rL U.env)(w:U.env.kindOf b=S .globalImplicit)(c:a.mg b=S v)(q:R v s):aj M A (GD U.env b) R E s:=Mw h.kind w (Calls.loadGlobal_global (by refine aa h.glob ?_;exact B.g.keeps D) c q)
theorem En{U:aF}{s:ah}(B:eB a)(D:a.base.StaysIn s.heap)(h:rL U.env)(c:U.env.kindOf b=S .globalImplicit)(d:a.mg b=N)(w:a.mb b=S v)(q:R v s):aj M A (GD U.env b) R E s:=Mw h.kind c (Calls.loadGlobal_builtin (by rw[h.glob];exact B.g.keeps D) d (by exact aa h.bi<|B.b.keeps D) w q)
theorem FQ{U:St}:(Value.str (U.sd m) t).isStr b=(U.sd m==b):=by exact(isStr_of ..)
theorem Mu{U:St}{e:gL}(O:n<U.N)(E:m<U.N)(Y:e.key= .str (U.sd m) t):e.key.isStr (U.sd n)=(m==n):=by{
refine aa Y<|aa FQ ?_;by_cases q:m=n
.exact aa q<|(beq_self_eq_true ..).trans<|aa (beq_self_eq_true ..) tt
.exact aa (beq_eq_false_iff_ne.mpr q)<|beq_eq_false_iff_ne.mpr λz=>q<|U.inj _ _ E O z}
theorem gR.get{U:St}(O:n<U.N):∀{j:List gL},gR U h D j->(match cy D n with|some x=>∃v,getL (U.sd n) j=S (S v)/\aE U h x v|none=>getL (U.sd n) j=S N):=by{
induction D with
|nil=>exact λr=>r▸J
|cons x D Z=>{
intro j r;obtain⟨e,r,g,⟨I,t,Y⟩,Q,b⟩:=r;subst g;replace Z:=Z b;have a:e.refKey=F:=by unfold Y6;exact aa Y J
unfold cy getL at Z ⊢;simp only[fG,(Mu O I Y),uE,a,Bt];cases q:x.1==n with
|true=>exact⟨_,J,Q⟩
|false=>exact Z}}
theorem Ki(r:aE U h x v):handedIn v=T:=by{
induction x using V.casesOn with
|none=>refine aa (show v=_ from r) ?_;rfl
|bool b=>refine aa (show v=_ from r) ?_;rfl
|int i=>obtain⟨t,rfl⟩:=r;rfl
|str n=>obtain⟨_,t,rfl⟩:=r;rfl
|bytes n=>(refine mZ r λb t o _=>?_;refine aa o ?_);rfl
|tup l=>obtain⟨a,Z,D,rfl,_⟩:=r;rfl
|ref a=>refine aa (show v=_ from r) ?_;rfl
|scr l=>obtain⟨a,Z,rfl,_⟩:=r;rfl}
theorem Aj(h:cy D n=S x):(n,x)∈D:=by
 refine aU (jf.mp h) λy G M=>?_;have:=sg G;have e:y=(n,x):=by obtain⟨Y,d⟩:=y;simp only at M this;exact aa M<|aa (beq_iff_eq.mp this) J
 exact e▸md G
theorem yZ(Y:aq b U l H s)(e:H a=S (.inst c i D))(m:b.ct c=S d):∃j n,InstAt s.heap a (qh d.addr i) d.addr (S<|qg j n)/\s.heap.get? i=S (qg j n)/\gR b s.heap D j/\∀p∈D,p.1∈d.fields:=by{
refine let f:=_;(?_:f)
obtain⟨_,g,⟨j,n,t,M⟩,A⟩:=Y.rep _ _ e;have w:b.d9 c=d.addr:=by unfold St.d9;exact aa m J
have o:b.f7 c=d.fields:=by unfold St.f7;exact aa m J
rw[w] at g;rw[o] at A;exact(kA j n ⟨g,J,tt,t⟩ t M A)}
theorem gR.put{U:St}(O:n<U.N)(w:aE U h x v):∀{j:List gL},gR U h D j->gR U h (cf D n x) (putL (U.sd n) B (.str (U.sd n) t) v j):=by{
induction D with
|nil=>exact λr=>aa r ⟨_,[],J,⟨O,t,J⟩,w,J⟩
|cons y D Z=>{
intro j r;obtain⟨e,r,g,⟨I,M,Y⟩,Q,a⟩:=r;refine aa g ?_;replace Z:=Z a;show gR U h (if y.1==n then(y.1,x)::D else y::cf D n x) (if e.key.isStr (U.sd n) then _ else e::putL (U.sd n) B _ v r);refine aa (Mu O I Y) ?_
induction q:y.1==n using aX with
|true=>exact⟨_,r,J,⟨I,M,Y⟩,w,a⟩
|false=>exact⟨e,_,J,⟨I,M,Y⟩,Q,Z⟩}}
theorem gR.len:∀{j:List gL},gR U h D j->j.length=D.length:=by{
induction D with
|nil=>exact λr=>r▸J
|cons x D Z=>intro j r;obtain⟨e,r,g,_,_,Q⟩:=r;exact g▸congrArg rZ (Z Q)}
theorem gR.j8:∀{j:List gL},gR U h D j->j.any (·.refKey)=F:=by{
induction D with
|nil=>exact λr=>aa r ff
|cons x D Z=>intro j r;obtain⟨e,r,g,⟨_,t,I⟩,_,Q⟩:=r;refine aa g ?_;rw[uE,show e.refKey=F by delta Y6;exact aa I ff,Z Q];rfl}
theorem QI(j:List gL):(putL b B k v j).length<=j.length+1:=by{
induction j with
|nil=>exact cD _
|cons e r Z=>exact iteInduction (motive:=λo=>qp o<=_) (λ_=>si _) λ_=>nG Z}
theorem JZ(r:gR U h D j)(E:D.length<=1000):(putL b B k v j).toArray.size<=jD:=by refine aa lZ ?_;exact am (QI j) (am (nG<|aa r.len E) (by refine aa oK ?_;decide))
theorem BY{s:ah}(g:s.heap.get? i=S (qg j n))(a:j.any (·.refKey)=F)(h:∀C B,C.get? i=S (qg (putL b B (.str b s.toks) v j)<|putN b j n)->ma i s.heap C->R () {s with heap:=C,toks:=s.toks+1}):aj M A (nsSet i b v) R E s:=by{
have w:=kW (Obj.putName b (PyData.keyHash M.w.params b) (.str b s.toks) v) g (by exact congrArg _<|putName_dict ..);rw[putName_dict] at w;refine ag<|ag<|wpAny_askSetting<|av<|ag<|wpAny_mkText<|ag<|xJ g ?_
dsimp only
refine aa (aRefKeyMayBeTheName_at ..)<|au OK<|au OK ?_;exact aa a<|aa (ny ..)<|Y7 g<|h _ _ w<|kT ..}
theorem MU:p∈cf D n x->p.1=n\/∃y∈D,y.1=p.1:=by{
induction D with
|nil=>exact λh=>.inl<|congrArg _<|cJ.mp h
|cons y r Z=>exact iteInduction (motive:=λo=>p∈o->_) (λ_ h=>.inr<|(bJ.mp h).elim (λe=>⟨y,.head _,aa e J⟩) λh=>⟨p,.tail _ h,J⟩) λ_ h=>(bJ.mp h).elim (λe=>.inr ⟨p,aa e<|.head _,J⟩) λh=>(Z h).imp id λz=>z.imp λ_ z=>⟨.tail _ z.1,z.2⟩}
theorem Tm{Q:MH->Prop}(B:eB Z)(C:Cb Z d)(Y:aq Z U l H s)(e:H a=S (.inst c i D))(m:Z.ct c=S d)(O:n∈d.fields)(hz:D.length<=1000)(r:aE Z s.heap x v) (q:Q<|H.set a<|.inst c i<|cf D n x):aj (ao Z.prog Z.w) A (By (.ref a) (Z.sd n) v) (pP Z U l H s Q) E s:=by{
refine let P:=_;let zb:=_;let j:=_;(?_:aj P _ zb j _ _)
refine lH (yZ Y e m) λes k I t M r3=>?_;have Xs:=B.X.keeps Y.base;have tk:takerIn Z.K d.addr (Z.sd n)=S N:=by unfold takerIn;refine aa ((C.fld n O).2) ?_;rfl
refine OL Xs I C.set<|osa_open Xs I C.over tk λb=>?_;refine let P:=_;let zb:=_;let j:=_;let zd:=_;let ze:=_;let h1:=_;(?_:aj P zb j zd ze h1)
refine af (GE C.dict) λcd L=>ai (λu R=>?_)<|L;obtain⟨f,h4,X,-⟩:=I;refine ag<|av<|ag<|ag<|xJ f<|ag<|OM (xK Xs u) ?_;refine aa R<|av<|ag<|av<|ag<|BY t M.j8 λh' hs w h0=>ag<|Gx w (ON<|kU<|JZ M hz)<|av ?_;have h2:i≠a:=λq=>by subst q;replace t:=f▸t;cases t
have up:=Y.upd (B:=.inst c i<|cf D n x) (t:=s.toks+1+1) e J (λb h5 h3 ob g=>(h0.2 b (λq=>h3 (by exact aa q<|.head _))).trans g)
 (qC h0 ⟨_,t⟩ ⟨_,w⟩)
refine(up ?_).elim λS' G=>⟨_,S',G,q⟩
.intro tk;obtain⟨o,_,_,c4⟩:=Y.rep _ _ e;have ea:Z.d9 c=d.addr:=by unfold St.d9;exact aa m J
 refine⟨o,(h0.2 a<|eE h2).trans (by exact aa ea f),⟨_,_,w,(M.put (C.fld n O).1 r).keep tk⟩,λp hp=>?_⟩;have ef:Z.f7 c=d.fields:=by unfold St.f7;exact aa m J
 rw[ef] at c4 ⊢;exact(MU hp).elim (λh=>aa h O) λz=>af z λy h=>h.2▸c4 y h.1}
theorem SU{M:nu}(B:eB b)(C:Cb b d)(Y:aq b U l H s)(e:H a=S (.inst c i D))(m:b.ct c=S d)(O:n<b.N) (G:ij b.K (.ref d.addr) (b.sd n)=S (S<|.ref f)) (v:sj b.K (.ref f)=S (.type "function")) (g:cy D n=N) (q:R (.ref f,[.ref a]) s):aj (ao b.prog b.w) A (GF (.ref a) (b.sd n) u) R E s:=by
 refine let p:=_;(?_:p)
 refine lH (yZ Y e m) λj k I t h o=>?_;have z:=h.get O;rw[g] at z;exact method_fn (B.X.keeps Y.base) I C.get C.geta G v (by show(lookIn (b.sd n)<|qg j k).map _=_;refine aa (lookIn_dict ..)<|aa z ?_;rfl) q
section
variable {β:Type}
theorem Jz{M:List Str}:∀{w:List β},n∉M->(M.zip w).lookup n=N:=by{
induction M with
|nil=>exact λ_=>J
|cons a r Z=>{
intro w h
induction w using aS with
|nil=>rfl
|cons b w=>exact nH.trans<|(beq_eq_false_iff_ne.mpr λe=>h (e▸.head _):(n==a)=F)▸Z λq=>h<|.tail _ q}}
end
theorem MH.j9{H:MH}(h:H a=S o):H.set a o=H:=by{
funext b;unfold MH.set;split
.rename_i q;exact aa q<|aa h J
.rfl}
theorem MH.set_set{H:MH}:(H.set a o).set a B=H.set a B:=by funext b;unfold MH.set;split<;>rfl
theorem kQ.of{H:MH}(e:H a=S (.exc c i I D))(p:P H):kQ P a H:=⟨c,i,I,D,I,e,by exact aa (MH.j9 e) p⟩
theorem kQ.set{H:MH}(e:H a=S (.exc c i I D))(x:kQ P a H):kQ P a (H.set a<|.exc c i t D):=by
 refine let g:=_;(?_:g)
 obtain⟨B,M,d,f,b,A,p⟩:=x;replace A:=e▸A;cases A;exact⟨c,i,t,D,b,MH.c5,by exact aa MH.set_set p⟩
theorem oA{P:Prop}(Y:aq d U l H s)(e:H a=S (.exc c i b h))(k:∀Z,s.heap.get? a=S ⟨.ref<|d.d9 c,i,.fields Z,#[]⟩->5<Z.size->oq s.heap Z b->(∀D,b=S D->D≠a/\i≠S D)->(c<1000->Z[2]?=S .none)->P):P:=by{
obtain⟨Z,f,X,M,A,v,r⟩:=Y.rep _ _ e;obtain⟨_,_,_,R⟩:=f;refine k Z X M A (λD u=>⟨λq=>?_,λq=>?_⟩) R
.subst u;have:=Y.apart.self _ _ e D<|nY J;replace this:=e▸q▸this;cases this
.clear k R r M X e Y a;subst u q;obtain⟨_,y,I,g,G,_⟩:=A;obtain⟨j,n,w,_⟩:=v;rw[g] at w;(obtain rfl:=aA w);cases G}
theorem aq.tb{i I:Option Addr}(Y:aq h2 U l H s)(e:H a=S (.exc c i I fs))(g:p.get? a=S ⟨.ref<|h2.d9 c,i,.fields Z,#[]⟩) (w:c<1000->Z[2]?=S .none) (E:5<Z.size) (v:oq p Z<|S D) (hT:I=S D\/s.heap.get? D=N)(k:∀b o,b≠a->I≠S b->b∉U.fs->s.heap.get? b=S o->p.get? b=S o) (u:∀b o,b∈U.fs->s.heap.get? b=S o->∃sl,p.get? b=S {o with slots:=sl})(A:∀b,I=S b->∃o,p.get? b=S o):aq h2 U l (H.set a<|.exc c i (S D) fs) {s with heap:=p}/\Go U.fs [] H s (H.set a<|.exc c i (S D) fs) {s with heap:=p}:=by{
refine oA Y e λ_ gx _ _ tn _=>?_;have L:=iT e;have j:∀b,I=S b->cg H b:=λb q=>.inr<|dm a _ e<|nY q;have G:Go U.fs [] H s (H.set a<|.exc c i (S D) fs) {s with heap:=p}:=by{
refine⟨λb o O=>?_,λb o hf _ hs O=>k b o (λq=>hf<|q▸L) (λq=>hf<|j b q) hs O,λb o hf _ O=>?_,λb hb=>?_⟩
.by_cases q:b=a
 .exact⟨_,q▸g⟩
 .by_cases n:I=S b
  .exact A b n
  .by_cases h0:b∈U.fs
   ·(refine af (u b o h0 O) λsl z=>?_);exact⟨_,z⟩
   .exact⟨_,k b o q n h0 O⟩
.by_cases h0:b∈U.fs
 .exact u b o h0 O
 .exact⟨o.slots,k b o (λq=>hf<|q▸L) (λq=>hf<|j b q) h0 O⟩
.rcases tX hb with h|h|h
 .exact .inl h
 .exact .inl<|h▸L
 .exact wT h (λh=>.inl<|.inr<|dm a _ e<|mQ h) λh=>hT.elim (λq=>.inl<|aA h▸j D q) λq=>.inr<|aA h▸q}
have t:D≠a:=by refine dP (hT) (λq=>(tn D q).1) λq=>?_;intro z;replace q:=z▸q;(refine af (Y.at L) λo z=>?_);replace z:=q▸z;exact aD z
refine⟨Y.next G (λb o O=>k b o (λq=>?_) (λq=>?_) (λq=>?_)<|Y.base b o O) (λb o O=>?_) ⟨λb o O d m=>?_,λb o C B O y h3 d m R=>?_⟩<|bp J J J,G⟩
.replace O:=(Y.fresh a L)▸q▸O;exact aD O
.replace O:=(Y.fresh b<|j b q)▸O;exact aD O
.have:=(Y.frm.mem q).1;replace O:=this▸O;exact aD O
.refine let P:=_;(?_:jv _ P _ _)
 unfold MH.set at O;refine let P:=_;(?_:jv _ P _ _)
 by_cases q:b=a
 .replace O:=(if_pos q)▸O;(refine au (aA O) ?_);subst q;obtain⟨_,r0,r1,r2,r3,r4,r⟩:=Y.rep _ _ e;obtain⟨d,m,f,_⟩:=r0;refine⟨Z,⟨d,m,f,w⟩,g,E,v,?_,r⟩;clear r r3 r2 r1 L gx g j A u v E w Z
  induction i using aV with
  |none=>exact r4
  |some i=>have h1:=Y.apart.self _ _ e i<|mQ J;refine mv.keep (Y.d6 G) (λQ X=>k i Q (λz=>?_) (λz=>(tn i z).2 J) (λz=>(Y.frmAt i z).1<|.inr<|dm b _ e<|mQ J) X) r4;replace h1:=e▸z▸h1;cases h1
 .replace O:=(if_neg q)▸O;refine(Y.rep b o O).keep (Y.d6 G) λd m Q X=>k d Q (λz=>?_) (λz=>?_) (λz=>(Y.frmAt d z).1 ?_) X
  .rcases m with rfl|m
   .exact q z
   .have:=Y.apart.self b o O d m;replace this:=e▸z▸this;cases this
  .rcases m with rfl|m
   .have:=Y.apart.self a _ e d<|nY z;replace this:=O▸this;cases this
   .exact Y.apart.other b o a _ O e q d m<|nY z
  .rcases m with rfl|m
   .exact iT O
   .exact .inr<|dm b o O m
.unfold MH.set at O ⊢;by_cases q:b=a
 .replace O:=(if_pos q)▸O;(obtain rfl:=aA O);refine wT m (λm=>?_) λm=>?_
  .have:=Y.apart.self a _ e d (mQ m);exact aa (if_neg (λz=>by rw[z,e] at this;cases this)) this
  .replace m:=aA m;subst m;exact aa (if_neg t)<|dP (hT) (λz=>Y.apart.self a _ e _<|nY z) λz=>(Y.i8) z
 .replace O:=(if_neg q)▸O;have:=Y.apart.self b o O d m;exact aa (if_neg (λz=>by rw[z,e] at this;cases this)) this
.have h4:=λx M ex f hm=>by
  exact dP (hT) (λz=>Y.apart.other x M a _ ex e f D hm<|nY z) λz=>Y.off z<|.inr<|dm x M ex hm
 unfold MH.set at O y;by_cases q:b=a
 .replace O:=(if_pos q)▸O;(obtain rfl:=aA O);have n:C≠a:=λz=>h3<|q.trans z.symm;rw[if_neg n] at y;exact wT m (λm=>Y.apart.other a _ C B e y (λz=>n z.symm) d (mQ m) R) λm=>h4 C B y n<|aA m▸R
 .replace O:=(if_neg q)▸O;by_cases n:C=a
  .rw[if_pos n] at y;(obtain rfl:=aA y);exact wT R (λR=>Y.apart.other b o a _ O e q d m<|mQ R) λR=>h4 b o O q<|aA R▸m
  .replace y:=(if_neg n)▸y;exact Y.apart.other b o C B O y h3 d m R}
theorem tO{o:Obj}(h:o.data= .fields Z)(f:Array Value->Array Value):(o.mapFields f).data= .fields (f Z):=OO h f
theorem qK(Y:aq x U l H s)(e:H a=S (.exc c i (S D) P))(q:∀u,aq x U l H u->Go U.fs [] H s H u->R () u):aj M A (setFlight (.ref a) v) R E s:=by{
refine oA Y e λZ g B k Q w=>?_;obtain⟨m,y,I,j,p,r⟩:=k;refine ag<|kR g J m<|aa (if_pos tt)<|xL j p r ?_;have h:=kW (kY (·.setIfInBounds 3 (v.elim .none λf=>mh f))) j<|xM<|tO p _;have n:∀b o,b≠D->s.heap.get? b=S o->(s.heap.update D (kY (·.setIfInBounds 3 (v.elim .none λf=>mh f)))).get? b=S o:=λb o d O=>(so _ _<|eE d).trans O;obtain⟨t,G⟩:=Y.tb e (n a _ (eE<|(Q D J).1) g) w B ⟨m,_,_,h,tO p _,by simpa using r⟩ (.inl J) (λb o X L C O=>n b o (λz=>L (by exact aa z J)) O)
 (λb o d O=>⟨o.slots,n b o (λz=>(Y.frmAt b d).1 (.inr (dm a _ e (nY (by exact aa z J))))) O⟩) (λb d=>by refine au (aA d) ?_;exact⟨_,h⟩)
rw[MH.j9 e] at t G;exact q _ t G}
structure pH (A:aI) (fr:aF) (env:Env):Prop where
 stack:A.frames=some fr.frames
 top:∃e0 outer L,fr.frames=e0::outer/\e0.frame=some L/\env.frame=some L
theorem Xd{b:St}{s:ah}(y:pH A U env)(G:s.heap.FunFrames b.base U.frames)(h:∀C w,env.frame=S w->Heap.SlotsOnly U.fs s.heap C->R (.ref w) {s with heap:=C}):aj M A (Y8 env) R E s:=by{
refine let p:=_;(?_:p)
obtain⟨v,f,o,w,m,r,c⟩:=y;refine ag<|wpAny_frameEnvs v ?_;have H:(U.frames.dropWhile λx=>x.frame !=env.frame)=f::o:=by refine aa m ?_;simp[List.dropWhile,r,c]
have a:U.fs=(f::o).filterMap (·.frame):=by unfold aF.fs;exact congrArg _ m
replace h:=a▸h;replace G:=m▸G;exact aa H<|ag<|ag<|wpAny_readyFrames_fun G λX B=>av<|r▸av (h X w c B)}
theorem wB(Y:aq h0 U l H s)(hA:pH A U env)(e:H a=S (.exc c dx tb fs))(q:∀u D,aq h0 U l (H.set a<|.exc c dx (S D) fs) u->Go U.fs [] H s (H.set a<|.exc c dx (S D) fs) u->R () u):aj M A (GH (.ref a) env) R E s:=by{
refine oA Y e λZ g L ht Q hk=>?_;have h3:=hA;obtain⟨_,e0,h4,w,m,h5,hL⟩:=h3;have v:=λb d z=>(Y.frmAt b z).1 d;have x:=v a<|iT e;delta GH;refine aa hL ?_;refine let Gz:=_;(?_:Gz)
have h1:∀h i b,(∀b o,tb≠S b->s.heap.get? b=S o->h.get? b=S o)->(∀b,tb=S b->∃o,h.get? b=S o)->h.objs.size=s.heap.objs.size->h.FunFrames h0.base U.frames->aj M A (do setField (.ref a) 1 (<-EntryCells.newEntry i (<-Y8 env) .none (mh w) .none (<-entryPlaceOf w b))) R E {s with heap:=h}:=by{
intro h i b k kt hs hf;refine let za:=_;let C:=_;(?_:aj _ _ za _ _ C)
refine ag<|Xd hA hf λX L' eL B=>ag<|wpAny_entryPlaceOf λt h6=>ag<|nC ?_<|h6.sizeOk5 _ _ _ _ _;have P:=(B.2.1 a x).trans<|k a _ (λz=>(Q a z).1 J) g;have h2:=cu {cls:=.type "traceback",dict:=N,data:=.fields ([i,.ref L',.none,mh w,.none]++(if t.isEmpty then fj 6 jE else t)).toArray} P;refine xL h2 J (lX (by decide) L) ?_;have n:∀b o,b≠a->X.get? b=S o->((X.push {cls:=.type "traceback",dict:=N,data:=.fields ([i,.ref L',.none,mh w,.none]++(if t.isEmpty then fj 6 jE else t)).toArray}).update a (kY (·.setIfInBounds 1 (sq X.objs.size)))).get? b=S o:=λb o d O=>by exact(so _ _<|eE d).symm▸cu _ O
have j:=(so (X.push {cls:=.type "traceback",dict:=N,data:=.fields ([i,.ref L',.none,mh w,.none]++(if t.isEmpty then fj 6 jE else t)).toArray}) (kY (·.setIfInBounds 1 (sq X.objs.size)))<|eE<|uJ<|ii P).trans<|eD X ff;obtain⟨S',G⟩:=Y.tb e (kW (kY (·.setIfInBounds 1 (sq X.objs.size))) h2<|xM<|tO J _) (λq=>by exact(GJ (by decide)).trans<|hk q) (by simpa using L) ⟨by simp[show 1<Z.size from lX (by decide) L],_,_,j,J,by simp only[lZ,bV,iN,jF];exact cO (by decide:3<5)<|eF 5 _⟩ (.inr<|gq<|dr (B.1.trans hs).symm)
 (λb o h7 h8 h9 O=>n b o h7<|(B.2.1 b h9).trans<|k b o h8 O)
 (λb o d O=>by refine af (B.2.2 b o (k b o (λz=>v b (.inr (dm a _ e (nY (by exact aa z J)))) d) O)) λf z=>?_;exact⟨f,n b _ (λz=>x<|z▸d) z⟩)
 (λb d=>by refine af (kt b d) λo z=>af (B.2.2 b o z) λf z=>?_;exact⟨_,n b _ (λy=>(Q b d).1 y) z⟩)
exact q _ _ S' G}
clear x v hL h5 m h4 e0 hk Q L hA
induction tb using aV with
|none=>refine ag<|kR g J ht ?_;exact aa (if_neg (by decide))<|h1 s.heap .none F (λ_ _ _ e=>e) (λb d=>aD d) J Y.frm
|some D=>{
obtain⟨q1,oT,I,j,p,r⟩:=ht;refine ag<|kR g J q1<|aa (if_pos J)<|ag<|kR j p (uA r) ?_;by_cases hq:(I[3]==mh w)=T
.refine(if_pos hq)▸(av ?_);have:=q s D;replace this:=(MH.j9 e)▸this;exact this Y Go.refl
.refine(if_neg hq)▸(ag<|xL j p r ?_);have n:∀b o,S D≠S b->s.heap.get? b=S o->(s.heap.update D (kY (·.setIfInBounds 3 jE))).get? b=S o:=λb o d O=>(so _ _ (λz=>d (by exact congrArg _ z))).trans O;refine h1 _ _ T n (λb d=>by(refine au (aA d) ?_);exact⟨_,kW _ j<|xM<|tO p _⟩) (Heap.size_after_update ..) ?_;refine Y.frm.of_keeps λb o O hd=>(aG o (n b o (λz=>?_) O) J)
 (obtain rfl:=aA z)
 replace O:=j▸O;(obtain rfl:=aA O);exact hd I p}}
def U8(U:St)(h:Heap):Fl->Flow->Prop
 |.next,f=>f= .next
 |.ret x,f=>∃v,f= .ret v/\aE U h x v
inductive eM (st:St) (fr:aF) (H:MH) (s:ah) (Q:Fl->ae->MH->Prop) (f:Flow) (s':ah):Prop
 |mk (fl:Fl) (l':ae) (H':MH) (r:U8 st s'.heap fl f) (S:aq st fr l' H' s') (G:Go fr.fs fr.wr H s H' s') (q:Q fl l' H')
inductive gH (st:St) (fr:aF) (H:MH) (s:ah) (X:Addr->ae->MH->Prop) (e:Value) (s':ah):Prop
 |mk (a:Addr) (l':ae) (H':MH) (e1:e= .ref a) (S:aq st fr l' H' s') (G:Go fr.fs fr.wr H s H' s') (q:kQ (X a l') a H')
structure vP (st:St) (d:FD) (fd:ss) (body:List Stmt):Prop where
 at_:∃oc od osl,st.K.lookup d.addr=some ⟨oc,od,.func fd,osl⟩
 glob:fd.globals=lU
 bi:fd.builtins=xu
 clo:fd.closure=[]
 body:fd.body= .stmts body
 co:fd.scope.isCoroutine=false
 gen:fd.scope.isGenerator=false
 kind:fd.scope.kind= .function
 code:codeIn st.K fd.code fd.qualname=true
 names:∀n∈d.names,n<st.N/\(fd.scope.names.lookup (st.sd n)=some .local\/fd.scope.names.lookup (st.sd n)=some .cell)
 nodup:d.names.Nodup
 len:d.n<=d.names.length
 dfl:∃dv:List Value,(∀h,st.base.StaysIn h->RepL st h d.dfl dv)/\∀vals:List Value,vals.length<=d.n->d.n<=vals.length+d.dfl.length->∀S,peek st.K S (bindArgs fd ⟨vals,[]⟩)=some ((d.names.map st.sd).zip (vals++dv.drop (dv.length-(d.n-vals.length))))
def FD.vis(U:St)(d:FD):List (Nat×Str):=(cE d.names.length).zip<|d.names.map U.sd
def kO(a:St)(d:FD)(U:aF)(env:Env):aF:={env:=env,vis:=d.vis a,own:=env.locals::(d.names.filterMap λn=>env.cells.lookup<|a.sd n),wr:=env.locals::(d.names.filterMap λn=>env.cells.lookup<|a.sd n),frames:=env::U.frames}
theorem TL(U:St){q:List Nat}(G:∀n∈q,n<U.N)(M:q.Nodup):(q.map U.sd).Nodup:=by{
induction q with
|nil=>exact gW
|cons a q Z=>replace M:=fq.mp M;exact fq.mpr ⟨λE=>af (bZ.mp E) λb z=>M.1<|au (U.inj _ _ (G b<|.tail _ z.1) (G a<|.head _) z.2) z.1,Z (λn O=>G n<|.tail _ O) M.2⟩}
theorem Us{D:Type}{M:List Str}:∀{Z:List D} {i:Nat},M.Nodup->M[i]?=S b->(M.zip Z).lookup b=Z[i]?:=by{
induction M with
|nil=>intro Z i _ h;exact aD h
|cons a M c=>{
intro Z i O h;rw[fq] at O
induction Z using aS with
|nil=>rfl
|cons v Z=>{
refine aa OP<|aa nH ?_
induction i using fK with
|zero=>(refine aa (aA h) ?_);refine aa (beq_self_eq_true ..) ?_;rfl
|succ i=>exact(show(b==a)=F from beq_eq_false_iff_ne.mpr λq=>O.1<|q▸du h)▸c O.2 h}}}
theorem D2(w:k b=S .local){M:List Str}:∀{Z:List Value} {m:Str->Option Value},M.Nodup->bindL k (M.zip Z) m b=((M.zip Z).lookup b).or (m b):=by{
induction M with
|nil=>exact λ_=>J
|cons a M c=>{
intro Z m O
induction Z using aS with
|nil=>rfl
|cons v Z=>
replace O:=fq.mp O;show bindL k (M.zip Z) (if k a=S .local then λy=>if y=a then S v else m y else m) b=_;refine aa (c O.2)<|aa OP<|aa nH ?_;by_cases q:b=a
.subst q;rw[Jz O.1,beq_self_eq_true,if_pos w,if_pos J];rfl
.exact aa (beq_eq_false_iff_ne.mpr q)<|congrArg _<|iteInduction (motive:=λ(o:Str->Option Value)=>o b=m b) (λ_=>if_neg q) λ_=>J}}
theorem RC(w:k b=S .cell){M:List Str}:∀{Z:List Value} {m:Str->Option Value},M.Nodup->bindC k (M.zip Z) m b=((M.zip Z).lookup b).or (m b):=by{
induction M with
|nil=>exact λ_=>J
|cons a M c=>{
intro Z m O
induction Z using aS with
|nil=>rfl
|cons v Z=>
replace O:=fq.mp O;show bindC k (M.zip Z) (if k a=S .local then m else λy=>if y=a then S v else m y) b=_;refine aa (c O.2)<|aa OP<|aa nH ?_;by_cases q:b=a
.subst q;rw[Jz O.1,beq_self_eq_true,if_neg (by rw[w];decide),if_pos J];rfl
.exact aa (beq_eq_false_iff_ne.mpr q)<|congrArg _<|iteInduction (motive:=λ(o:Str->Option Value)=>o b=m b) (λ_=>J) λ_=>if_neg q}}
theorem dq.m8(k:env.kindOf x=S .local)(g:h.Ns env.locals m)(r:jX U h v<|m x):dq U env h x v:=by unfold dq;exact aa k ⟨m,g,r⟩
theorem dq.m9(k:env.kindOf x=S .cell)(e:env.cells.lookup x=S c)(g:h.get? c=S o)(d:o.data= .cell y)(r:jX U h v y):dq U env h x v:=by unfold dq;exact aa k ⟨c,o,y,e,g,d,r⟩
theorem wl(k:env.kindOf x=S .local):kB env x=S env.locals:=by unfold kB;exact aa k aT
theorem Cf(k:env.kindOf x=S .cell):kB env x=env.cells.lookup x:=by unfold kB;exact aa k J
def tA(d:FD)(w:List V):ae:=w.map S++fj (d.names.length-d.n) N
theorem C3:(tA d w).at i=w[i]?:=by{
delta tA ae.at;refine aa (OQ)<|aa (aL ..) ?_;by_cases q:i<w.length
.refine aa (if_pos q)<|aa (gy)<|aa (bX q) ?_;rfl
.refine aa (if_neg q) (aa (iP<|dw q)<|aa (Y9) ?_);by_cases z:i-w.length<d.names.length-d.n
 .refine aa (if_pos z) ?_;rfl
 .refine aa (if_neg z) ?_;rfl}
inductive UE (st:St) (d:FD) (p:Nat×Str):Prop
 |mk (z:p.1<d.names.length) (n:Nat) (e:d.names[p.1]?=some n) (s:p.2=st.sd n)
theorem uh(h:p∈d.vis U):UE U d p:=by{
unfold FD.vis at h;refine af (Oz h) λi Z=>?_;rw[List.getElem?_zip_eq_some] at Z;obtain⟨G,M⟩:=Z;rw[GK] at G
·(obtain rfl:=aA G)
 rw[gy] at M;exact af (jf.mp M) λn L=>ai (λC s=>⟨(cW.mp C).1,n,C,s.symm⟩)<|L
.have:=(cW.mp G).1
 simpa using this}
inductive Dg (s s₁:ah) (a:Addr):Prop
 |mk (z:s.heap.get? a=none) (o:Obj) (e:s₁.heap.get? a=some o) (q:∀vs n,o.data≠.seq vs n)
theorem Dg.z(h:Dg s i a):s.heap.get? a=N:=by(have b:=(h).1);exact b
theorem EH{U:St}{d:FD}{env:Env}(x:InCallC s env.locals m env.cells b i)(u:∀n c,(n,c)∈env.cells->s.heap.objs.size<=c):∀a∈env.locals::(d.names.filterMap λn=>env.cells.lookup<|U.sd n),Dg s i a:=by{
intro a R;rw[bJ] at R;refine dP (R) (λR=>?_) λR=>?_
.obtain⟨o,j,D,g,I,_⟩:=x.toInCall.ns;exact aa R ⟨gq x.toInCall.fresh,o,g,λZ n q=>nomatch I.symm.trans q⟩
·(refine af (xA.mp R) λn L=>?_;refine ai (λ_ O=>?_)<|L)
 exact af (x.cell _ _ O) λo L=>ai (λg I=>⟨gq<|u _ _<|mem_of_lookup O,o,g,λZ n q=>nomatch I.symm.trans q⟩)<|L}
theorem UG(Y:aq a U l H s)(h:env.scope.kind= .function)(c:env.frame=S env.locals)(x:InCall s env.locals m i):i.heap.FunFrames a.base (env::U.frames)/\wS H i env.locals:=by refine eg x.ns λo j D g I _=>?_;have z:=gq x.fresh;exact⟨⟨by refine aa h ?_;decide,(kA _ o c (CG Y.base z) g λZ q=>nomatch I.symm.trans q),Y.frm.of_keeps λb o O _=>(aG o (x.keep b o O) J)⟩,Y.off z,o,j,D,g,I⟩
theorem aq.enter{env:Env}(Y:aq t U l H s)(j:vP t d X h2)(r:RepL t s.heap w m)(h:env.scope=X.scope) (h0:env.frame=S env.locals)(x:InCallC s env.locals (bindL env.kindOf ((d.names.map t.sd).zip m) λ_=>N) env.cells (bindC env.kindOf ((d.names.map t.sd).zip m) λ_=>N) i)(u:∀n c,(n,c)∈env.cells->s.heap.objs.size<=c) (y:∀n∈d.names,X.scope.names.lookup (t.sd n)=S .cell->(env.cells.lookup<|t.sd n).isSome=T) (hl:i.gens=s.gens/\i.os=s.os/\i.drawn=s.drawn):aq t (kO t d U env) (tA d w) H i:=by{
have k:=x.toInCall.keep;have B:=UG Y (by refine aa h ?_;exact j.kind) h0 x.toInCall;have h1:∀p∈d.vis t,dq t env i.heap p.2 ((tA d w).at p.1)/\∀a,kB env p.2=S a->a∈env.locals::(d.names.filterMap λn=>env.cells.lookup<|t.sd n):=λp C=>by{
obtain⟨Z,n,O,e⟩:=uh C;exact e▸(by{
refine let Gz:=_;(?_:Gz)
have P:=TL t (λn O=>(j.names n O).1) j.nodup;have v:ud t i.heap ((tA d w).at<|uK p) (((d.names.map t.sd).zip m).lookup<|t.sd n):=by{
exact aa C3 (aa (Us P (by rw[gy,O];rfl)) ((by{
induction e:w[(uK p)]? using aV with
|none=>exact iP<|aa (r.keep<|fP k).len<|uL.mp e
|some x=>(refine aU ((r.keep<|fP k).get e) λv g q=>?_);exact⟨v,g,q⟩})))}
refine dP ((j.names n<|du O).2) (λE=>?_) λE=>?_
.have f:env.kindOf (t.sd n)=S .local:=by refine au E<|au h ?_;rfl
 refine⟨dq.m8 f x.toInCall.ns (by exact aa (D2 f P)<|aa OR v.loc),λa R=>?_⟩;replace R:=(wl f)▸R;(refine aa (aA R) ?_);exact bw _
.have f:env.kindOf (t.sd n)=S .cell:=by refine au E<|au h ?_;rfl
 exact af (xv.mp<|y n (du O) E) λc A=>af (x.cell _ _ A) λo L=>ai (λe1 I=>⟨dq.m9 f A e1 I (by exact aa (RC f P)<|aa OR v.loc),λa R=>xN _<|xA.mpr<|aG n (du O)<|(Cf f).symm.trans R⟩)<|L})}
exact {
 base:=λb o e=>k b o<|Y.base b o e
 rep:=λa o e=>(Y.rep a o e).keep (fP k) λb _ Q eb=>k b Q eb
 apart:=Y.apart
 fresh:=Y.fresh
 loc:=λp C=>(h1 p C).1
 own:=λp C=>(h1 p C).2
 ownAt:=λa R=>(by obtain⟨z,o,e,q⟩:=(EH x u a R);exact⟨⟨Y.off z,CG Y.base z⟩,o,e,q⟩)
 wrOwn:=λa R=>R
 frm:=B.1
 frmAt:=λa R=>by{
change a∈(env::U.frames).filterMap (·.frame) at R
rw[OS,h0,bJ] at R;rcases R with R|R
.exact aa R B.2
.obtain⟨G,o,es,D,e,M⟩:=(Y.frmAt a R);exact⟨G,o,es,D,k a o e,M⟩}
 lim:=(bp (hl.1.trans Y.lim.1) (hl.2.1.trans Y.lim.2.1)<|hl.2.2.trans Y.lim.2.2)}}
theorem aq.back(c:aq f U l H s)(k:∀b o,s.heap.get? b=S o->i.heap.get? b=S o)(g:∀a∈d.wr,s.heap.get? a=N)(j:∀a∈d.fs,a∈U.fs\/s.heap.get? a=N)(E:aq f d C Y u) (G:Go d.fs d.wr H i Y u):kN f U l H s Y u:=by{
have v:∀a o,s.heap.get? a=S o->a∉d.wr:=λa o e h=>by rw[g a h] at e;exact aD e
have p:Go U.fs [] H s Y u:=⟨λa o e=>G.there a o<|k a o e,λa o h _ B e=>G.keep a o h (v a o e) (λq=>(j a q).elim B λz=>by rw[z] at e;exact aD e)<|k a o e,λa o h _ e=>G.slots a o h (v a o e)<|k a o e,λa h=>(G.mono a h).imp id λq=>ug (λb o e=>⟨o,k b o e⟩) q⟩
exact⟨c.next p E.base E.rep E.apart<|bp (E.lim.1.trans c.lim.1.symm) (E.lim.2.1.trans c.lim.2.1.symm)<|E.lim.2.2.trans c.lim.2.2.symm,p⟩}
theorem AZ:∀{k:Nat} {m:List (Str×Addr)},(m.lookup n).isSome=T\/(n,Bz)∈b->((OT k b m).lookup n).isSome=T:=by{
induction b with
|nil=>exact λh=>h.elim id λh=>absurd h aJ
|cons x r Z=>{
intro k m h;refine iteInduction (motive:=λo=>(Z0 n o).isSome=T) (λw=>Z<|h.elim (λh=>.inl ?_) λh=>(bJ.mp h).elim (λe=>.inl ?_) .inr) λw=>Z<|h.elim .inl λh=>(bJ.mp h).elim (λe=>absurd (au e tt) w) .inr
.refine aa nH ?_
 induction q:n==x.1 using aX with
 |true=>rfl
 |false=>exact h
.clear h w Z;refine au e ?_;refine aa nH<|aa (beq_self_eq_true ..) ?_;rfl}}
theorem yA{l:List (Str×oQ)}:l.lookup n=S A->(n,A)∈l:=by{
induction l with
|nil=>exact λh=>aD h
|cons x r Z=>{
refine aa nH ?_
induction q:n==x.1 using aX with
|true=>exact λh=>aA h▸(aa (beq_iff_eq.mp q)<|.head _)
|false=>exact λh=>.tail _<|Z h}}
theorem KV(j:vP f d X g)(h:rL env)(x:InCallC s env.locals m env.cells b i):pA (kO f d U env) where
 ek:=h
 cap:=x.apart
 cab:=λn c E=>uJ<|x.above n c E
 v1:=λp O q o e=>by
  obtain⟨_,n,G,M⟩:=uh O;obtain⟨_,m,C,a⟩:=uh o;rw[e,C] at G;(obtain rfl:=aA G);exact aa M<|aa a J
 v2:=λp O q o e=>by
  obtain⟨r,n,G,M⟩:=uh O;obtain⟨_,m,C,a⟩:=uh o;rw[M,a] at e;rw[f.inj _ _ (j.names n<|du G).1 (j.names m<|du C).1 e] at G;exact(Z4 r j.nodup).mp<|G.trans C.symm
def mL(a:St)(U:aF)(l:ae)(H:MH)(s:ah)(Q:QV)(X:QE)(r:jC)(u:ah):Prop:=match r with
 |.ok (.ret v)=>bH a U l (aE a) H s Q v u
 |.ok _=>False
 |.error e=>cS a U l H s X e u
theorem Kx(h:pq d Z=S C):(Z.length<=d.n/\d.n<=Z.length+d.dfl.length)/\C=tA d (Z++d.dfl.drop (d.dfl.length-(d.n-Z.length))):=by{
unfold pq at h;by_cases q:Z.length<=d.n/\d.n<=Z.length+d.dfl.length
.rw[if_pos q] at h;(refine au (aA h) ?_);exact⟨q,J⟩
.rw[if_neg q] at h;exact aD h}
theorem RepL.n7(r:RepL U h Z m)(I:RepL U h j a):RepL U h (Z++j.drop (j.length-(n-Z.length))) (m++a.drop (a.length-(n-m.length))):=by refine aa r.len<|aa I.len ?_;exact r.append<|I.drop _
theorem JH{Q:QV}(D:∀C Y u,aq g d C Y u->Go d.fs d.wr H i Y u->kN g U l H s Y u):eM g d H i (λa _ Y=>match a with|.next=>Q .none Y|.ret v=>Q v Y) f u->mL g U l H s Q X (.ok (.ret (match f with|.ret v=>v|_=>.none))) u:=by{
intro z;obtain⟨a,C,Y,r,h,G,q⟩:=z;have b:=D _ _ _ h G;cases a with
|next=>exact r▸⟨.none,Y,J,b.S,b.G,q⟩
|ret v=>(refine af (r) λE L=>?_;refine ai (λe c=>?_)<|L);exact e▸⟨v,Y,c,b.S,b.G,q⟩}
theorem I9{X:QE}(o:∀C Y u,aq n d C Y u->Go d.fs d.wr H i Y u->kN n U l H s Y u)(y:pH A d env)(z:gH n d H i (λa _ Y=>X a Y) e u):aj (ao n.prog n.w) A (leaving env e) (λ_ M=>mL n U l H s Q X (.error e) M) (λt M=>mL n U l H s Q X (.error t) M) u:=by obtain⟨a,C,Y,r,v,G,c,w,I,x,b,g,q⟩:=z;exact r▸(ag<|wB v y g λi h f p=>qK f MH.c5 λj k m=>(λE D L B=>⟨a,_,J,(o _ _ _ L<|G.trans B.d5).S,(o _ _ _ L<|G.trans B.d5).G,kQ.set g ⟨c,w,I,x,b,g,q⟩⟩) j h k<|p.trans m)
def iH:Cm->CmpOp
 |.eq=>.Eq|.ne=>.NotEq|.lt=>.Lt|.le=>.LtE|.gt=>.Gt|.ge=>.GtE|.in_=>.In|.notIn=>.NotIn
theorem zS(r:aE U h x v)(I:aE U h y u)(w:ww x y f=S b):DM v u λi j=>f i j=b:=by
 refine let P:=_;(?_:DM _ _ P)
 refine aU (gV.mp w) λi G w=>?_;refine aU (gV.mp w) λj a w=>?_;cases vu G;cases vu a;obtain⟨t,rfl⟩:=r;obtain⟨M,rfl⟩:=I;exact⟨i,j,t,M,J,J,aA w⟩
inductive N7 (st:St) (n:Nat) (vs:List Value) (b:Bool):Prop
 |mk (i:∀y∈vs,∃m t',m<st.N/\y= .str (st.sd m) t') (e:b=vs.any λy=>y.isStr (st.sd n))
theorem NA{U:St}(O:n<U.N):∀{Z:List Value} {b:Bool},RepL U h L Z->sS n L=S b->N7 U n Z b:=by{
induction L with
|nil=>intro Z b r e;refine aa r ?_;(refine au (aA e) ?_);exact .mk (λy h=>absurd h aJ) J
|cons x L j=>{
rintro Z b ⟨v,q,rfl,X,k⟩ e;refine aU (gV.mp e) λm f e=>?_;cases Lm f;refine ai (λE a=>af (a) λM d=>?_)<|X;clear f X;refine aa d ?_;refine af (jf.mp e) λc a=>ai (λg d=>?_)<|a;clear a e;refine au d ?_;refine⟨λy i=>?_,?_⟩
.rcases bJ.mp i with rfl|i
 .exact(dm m M E J)
 .exact((j k g).1) y i
.exact aa uE<|au ((j k g).2)<|aa FQ<|aa (Nc E O) J}}
theorem N8{U:St}{Z:Array Value}(h:∀y∈Z.toList,∃m M,m<U.N/\y= .str (U.sd m) M):∀y,y∈Z->EqAt A s y (.str (U.sd n) t) (y.isStr<|U.sd n):=λy a=>by refine mZ (h y<|Array.mem_toList_iff.mpr a) λm M E P=>?_;refine aa P ?_;exact aa FQ<|EqAt.str_str _ _ _ _
theorem UO(h:yk x j=S b):∃k,iK x=S k/\dL j k=T/\b=(cY j k).isSome:=by{
unfold yk at h
induction w:iK x using aV with
|none=>rw[w] at h;exact aD h
|some k=>{
rw[w] at h;have h:(if dL j k then S (cY j k).isSome else N)=S b:=h;by_cases l:dL j k=T
.rw[if_pos l] at h;exact(bl k J l<|(aA h).symm)
.rw[if_neg l] at h;exact aD h}}
theorem Td(h:qS H x y=S b){C:Prop}(d:∀(l:List V) (e:y= .tup l) (h:vm H x l=S b),C)(c:∀(a:Addr) (l:List V) (e:y= .ref a) (k:H a=S (.list l)) (h:vm H x l=S b),C)(m:∀(a:Addr) (j:List<|aY×V) (k:aY) (e:y= .ref a) (h:H a=S (.dict j)) (w:iK x=S k) (p:dL j k=T) (q:b=(cY j k).isSome),C):C:=by{
revert h;generalize f:y=M;intro h
induction M using V.casesOn with
|tup l=>exact d l f h
|ref a=>{
have h:(match H a with|some o=>Ab H x o|none=>N)=S b:=h;generalize g:H a=o at h
induction o using aV with
|none=>exact aD h
|some o=>induction o using MO.casesOn with
 |list l=>exact c a l f g h
 |dict j=>(refine eN (UO h) λk G i n=>?_);exact m a j k f g G i n
 |_=>exact aD h}
|_=>exact aD h}
structure YX {E:Value->ah->Prop} (st:St) (A:aI) (s:ah) (v u:Value) (b:Bool):Prop where
 i (R:Value->ah->Prop) (q:∀t,R (.bool b) {s with toks:=t}):aj (ao st.prog st.w) A (Gq .In v u) R E s
 n (R:Value->ah->Prop) (q:∀t,R (.bool (!b)) {s with toks:=t}):aj (ao st.prog st.w) A (Gq .NotIn v u) R E s
inductive Zm (A:aI) (s:ah) (v:Value) (vs:Array Value) (b:Bool):Prop
 |mk (f:Value->Bool) (h:∀y,y∈vs->EqAt A s y v (f y)) (e:vs.any f=b)
theorem Ia{s:ah}(r:aE U s.heap x v)(I:RepL U s.heap j Z.toList)(E:vm H x j=S b):Zm A s v Z b:=by obtain⟨n,f,E⟩:=gV.mp E;cases Lm f;obtain⟨O,t,rfl⟩:=r;exact⟨_,N8<|(NA O I E).1,by exact aa ((NA O I E).2)<|aa OK J⟩
theorem Nq{A:aI}(B:eB Q)(Y:aq Q U l H s)(hu:A.units+64<dY)(r:aE Q s.heap x v)(I:aE Q s.heap y h0)(u:qS H x y=S b):YX (E:=E) Q A s v h0 b:=by{
refine Td u (λj e h=>?_) (λa j e k h=>?_) λa es k e h w t o=>?_
.subst e;obtain⟨a,Z,ep,rfl,e1,X⟩:=I;obtain⟨f,C,z⟩:=Ia r X h;have D:s.heap.IsTuple a Z:=(bl _ e1 J ⟨ep,J⟩);exact⟨λR q=>in_tupleAt _ D C<|z▸q s.toks,λR q=>notIn_tupleAt _ D C<|z▸q s.toks⟩
.clear u;subst e;refine aa I ?_;obtain⟨Z,⟨n,g⟩,X⟩:=Y.rep _ _ k;obtain⟨f,C,z⟩:=Ia r X h;exact⟨λR q=>in_listAt _ (⟨_,g,J,n,J⟩) C<|z▸q s.toks,λR q=>notIn_listAt _ (⟨_,g,J,n,J⟩) C<|z▸q s.toks⟩
.clear u;subst e o;refine aa I ?_;exact⟨λR q=>(by
  refine let p:=_;(?_:p)
  have P:=Y.j0 h B.sys;have d:=Y.rep _ _ h;rcases rB r w with⟨n,b,rfl,hr,G⟩|⟨i,rfl,G⟩|⟨M,b,rfl,rfl,G,O⟩
  ·(refine af (zI d t) λc L=>?_;refine ai (λX m=>?_)<|L)
   exact wpAny_in_of G P m.mapOf<|(th<|X.get wG hr)▸q _
  ·(refine af (yw d t) λc L=>?_;refine ai (λX m=>?_)<|L)
   exact wpAny_in_of G P m.mapOf<|(th<|X.get AC J)▸q _
  ·(refine af (sO d t) λc L=>?_;refine ai (λX m=>?_)<|L)
   refine wpAny_in_heap (Bu<|u1 hu) G P m ?_;have:=th<|X.get (a:=M);rw[Z5] at this;exact au this<|q _),λR q=>(by{
refine let p:=_;(?_:p)
have P:=Y.j0 h B.sys;have d:=Y.rep _ _ h;rcases rB r w with⟨n,b,rfl,hr,G⟩|⟨i,rfl,G⟩|⟨M,b,rfl,rfl,G,O⟩
.obtain⟨c,X,m⟩:=zI d t;exact wpAny_notIn_of G P m.mapOf<|(th<|X.get wG hr)▸q _
.obtain⟨c,X,m⟩:=yw d t;exact wpAny_notIn_of G P m.mapOf<|(th<|X.get AC J)▸q _
.obtain⟨c,X,m⟩:=sO d t;refine Ql (u1 hu) G P m ?_;have:=th<|X.get (a:=M);rw[Z5] at this;exact au this<|q _})⟩}
theorem tU{A:aI}(B:eB a)(Y:aq a U l H s)(d:A.units+64<dY)(r:aE a s.heap x v)(I:aE a s.heap y u)(h:wv H o x y=S b)(q:∀t,R (.bool b) {s with toks:=t}):aj (ao a.prog a.w) A (Gq (iH o) v u) R E s:=by{
refine let e:=_;let C:=_;(?_:aj e _ C _ _ _)
induction o using Cm.casesOn with
|eq=>exact(zN Y 9 (cN (gM (by decide) _) d) r I h).r _ _ _ _<|q s.toks
|ne=>obtain⟨c,G,rfl⟩:=jf.mp h;exact(zN Y 9 (cN (gM (by decide) _) d) r I G).n _ _ _ _<|q s.toks
|lt=>obtain⟨i,j,t,M,rfl,rfl,rfl⟩:=zS r I h;exact P.lt_int<|q s.toks
|le=>obtain⟨i,j,t,M,rfl,rfl,rfl⟩:=zS r I h;exact P.le_int<|q s.toks
|gt=>obtain⟨i,j,t,M,rfl,rfl,rfl⟩:=zS r I h;exact P.gt_int<|q s.toks
|ge=>obtain⟨i,j,t,M,rfl,rfl,rfl⟩:=zS r I h;exact P.ge_int<|q s.toks
|in_=>exact(Nq B Y d r I h).i _ q
|notIn=>obtain⟨c,G,rfl⟩:=jf.mp h;exact(Nq B Y d r I G).n _ q}
theorem bH.trans{U:aF}{R:Heap->w->D->Prop}{Q:w->MH->Prop}{v:D}(G:Go U.fs [] H s I i)(p:bH a U l R I i Q v u):bH a U l R H s Q v u:=by obtain⟨x,Y,r,b,g,q⟩:=p;exact⟨x,Y,r,b,G.trans g,q⟩
theorem cS.trans{U:aF}(G:Go U.fs [] H s I i)(p:cS b U l I i X e u):cS b U l H s X e u:=by obtain⟨a,Y,c,d,g,q⟩:=p;exact⟨a,Y,c,d,G.trans g,q⟩
theorem bF{a:St}{U:aF}{R:Heap->w->D->Prop}{t:Sem D}{b:w->MH->Prop}{u:D->ah->Prop}(G:Go U.fs [] j m H s)(h:aj (ao a.prog a.w) A t (bH a U l R H s b) (cS a U l H s X) s)(c:∀v i x I,R i.heap x v->aq a U l I i->Go U.fs [] H s I i->Go U.fs [] j m I i->b x I->u v i):aj (ao a.prog a.w) A t u (cS a U l j m X) s:=bK h (λv i z=>by obtain⟨x,I,r,f,g,q⟩:=z;exact c v i x I r f g (G.trans g) q) λ_ _ e=>cS.trans G e
theorem fV{a:St}{U:aF}{R:Heap->w->D->Prop}{t:Sem D}{b:w->MH->Prop}(G:Go U.fs [] j m H s)(h:aj (ao a.prog a.w) A t (bH a U l R H s b) (cS a U l H s X) s):aj (ao a.prog a.w) A t (bH a U l R j m b) (cS a U l j m X) s:=bK h (λv i p=>p.trans G) λ_ _ e=>cS.trans G e
structure bN (A:aI) (fr:aF) (n:Nat) (hn:Bool):Prop where
 hd:hn=true->A.handled=none
 at_:pH A fr fr.env
 dep:A.depth+2*n+4<su
 uni:A.units+40*n+100<dY
 fo:pA fr
theorem bN.ek(h:bN A U n O):rL U.env:=h.fo.ek
abbrev wN (a:St) (U:aF) (l:ae) (H:MH) (s:ah) (u:Bool->MH->Prop):=bH a U l (λ_ (x v:Bool)=>v=x) H s u
def Ev(a:St)(cx:Cx)(U:aF)(n:Nat)(m:ME)(e:Expr):Prop:=∀(A:aI) (l:ae) (H:MH) (s:ah) (Q:QV) (X:QE),bN A U n cx.hn->aq a U l H s->aP cx X l m Q H->aj (ao a.prog a.w) A (eval e U.env) (bH a U l (aE a) H s Q) (cS a U l H s X) s
def lh(b:St)(cx:Cx)(U:aF)(n:Nat)(a:MEs)(j:List Expr):Prop:=∀(A:aI) (l:ae) (H:MH) (s:ah) (Q:List V->MH->Prop) (X:QE) (h9:Pos),bN A U n cx.hn->aq b U l H s->wpEs cx X l a Q H->aj (ao b.prog b.w) A (spliced<|qr h9<|nI j U.env) (bH b U l (RepL b) H s Q) (cS b U l H s X) s
def Tr(a:St)(cx:Cx)(U:aF)(n:Nat)(m:ME)(e:Expr):Prop:=∀(A:aI) (l:ae) (H:MH) (s:ah) (Q:QV) (u:Bool->MH->Prop) (X:QE),bN A U n cx.hn->aq a U l H s->(∀x H,Q x H->bR u x H)->aP cx X l m Q H->aj (ao a.prog a.w) A (isTrue e U.env<|eval e U.env) (wN a U l H s u) (cS a U l H s X) s
theorem vL{u:Bool->MH->Prop}(h:bR u x H):EF (yq H x) λb=>u b H:=cU h
theorem bN.i6(h:bN A U n O):A.units+64<dY:=by have:=h.uni;exact cN (sv (eF _ _) (by decide)) this
theorem Jm{u:Bool->MH->Prop}(Y:aq a U l H s)(r:aE a s.heap x v)(h:bR u x H):aj (ao a.prog a.w) A (truthy v) (wN a U l H s u) E s:=by obtain⟨b,G,M⟩:=vL h;exact DW Y r G λt=>⟨b,H,J,Y.toks t,Go.toks,M⟩
theorem Wk:Ev a cx U n .none (.Constant .none k h9):=λA l H s Q X y Y h=>by exact BA<|dR Y s.toks Fc h
theorem XD:Ev a cx U n (.bool b) (.Constant (.bool b) k h9):=λA l H s Q X y Y h=>by exact wpAny_Constant_bool<|dR Y s.toks rg h
theorem WN:Ev a cx U n (.int i) (.Constant (.int i) k h9):=λA l H s Q X y Y h=>by exact OU<|dR Y _ ku h
theorem II:Ev a cx U n .bytes0 (.Constant (.bytes []) k h9):=λA l H s Q X y Y h=>by exact wpAny_mkTextBytes<|dR Y _ (LM J) h
theorem Wr(h:lh c cx U n a j):Ev c cx U n (.tup a) (.Tuple j k h9):=λA l H s Q X y Y E=>by
 refine aa (arm_eval_Tuple ..) ?_;exact ag (gO (ag (bF Go.refl (h A l H s _ X h9 y Y E) λZ i L I r f g G k=>fV G ((by have D:∀b o,i.heap.get? b=S o->(i.heap.push {cls:=.type "tuple",data:=.seq Z.toArray}).get? b=S o:=λb o e=>cu _ e;refine nC (qH f D ?_ k.2) (by show Z.toArray.size<=jD;refine aa lZ<|aa r.len ?_;exact sz k.1);exact⟨_,Z.toArray,0,J,eD _ ff,r.keep<|fP D⟩)))))
theorem Xh(h:lh c cx U n a j):Ev c cx U n (.list a) (.List j h9):=λA l H s Q X y Y E=>by
 refine aa (arm_eval_List ..) ?_;exact ag (gO (ag (bF Go.refl (h A l H s _ X h9 y Y E) λZ i L I r f g G k=>fV G ((by have D:∀b o,i.heap.get? b=S o->(i.heap.push {cls:=.type "list",data:=.seq Z.toArray}).get? b=S o:=λb o e=>cu _ e;exact nC (pU (o:=.list L) f D (gq<|cD _) (λ_ h=>absurd h aJ) ⟨Z.toArray,⟨0,eD _ ff⟩,r.keep<|fP D⟩ k.2) (by show Z.toArray.size<=jD;refine aa lZ<|aa r.len ?_;exact sz k.1))))))
theorem M0(h:Ev a cx U n m e)(y:bN A U n cx.hn)(Y:aq a U l H s)(E:aP cx X l m Q H):aj (ao a.prog a.w) A (eval (.Slice N (S e) N p) U.env) (bH a U l (λh k v=>∀i,k= .int i->∃t,yS h v .none<|.int i t) H s Q) (cS a U l H s X) s:=by
 refine let P:=_;let C:=_;(?_:aj _ _ _ P C _)
 refine wpAny_Slice<|av<|bF Go.refl (h A l H s _ X y Y E) λv c x I r f g G k=>av ?_;have z:∀b o,c.heap.get? b=S o->(c.heap.push {cls:=.type "slice",data:=.fields #[.none,v,.none]}).get? b=S o:=λb o e=>cu _ e;obtain⟨L,B⟩:=f.ext z;refine⟨x,I,?_,L,G.trans B,k⟩;rintro i rfl;clear k B L z G g f I C E Y y h p e m;obtain⟨t,rfl⟩:=r;exact⟨t,_,J,_,eD _ ff,J,J⟩
theorem O6(h:Ev a cx U n m e)(y:bN A U n cx.hn)(Y:aq a U l H s)(E:aP cx X l m Q H):aj (ao a.prog a.w) A (eval (.Slice (S e) N N p) U.env) (bH a U l (λh k v=>∀i,k= .int i->∃t,yS h v (.int i t) .none) H s Q) (cS a U l H s X) s:=by
 refine let P:=_;let C:=_;(?_:aj _ _ _ P C _)
 refine wpAny_Slice<|bF Go.refl (h A l H s _ X y Y E) λv c x I r f g G k=>av<|av ?_;have z:∀b o,c.heap.get? b=S o->(c.heap.push {cls:=.type "slice",data:=.fields #[v,.none,.none]}).get? b=S o:=λb o e=>cu _ e;obtain⟨L,B⟩:=f.ext z;refine⟨x,I,?_,L,G.trans B,k⟩;rintro i rfl;clear k B L z G g f I C E Y y h p e m;obtain⟨t,rfl⟩:=r;exact⟨t,_,J,_,eD _ ff,J,J⟩
theorem YT(R:Ev b cx U n a w)(Z:Ev b cx U n i o):Ev b cx U n (.sliceTo a i) (.Subscript w (.Slice N (S o) N p) h9):=λA l H s Q X c Y h=>by{
refine OV<|bF Go.refl (R A l H s _ X c Y h) λv D x E r f g G k=>bF G (M0 Z c f k) λu M y d I L q z m=>?_;refine let B:=_;(?_:B)
obtain⟨j,rfl⟩:=(by{
refine Mz m (λ_ i _ e _ _=>?_) λ_ _ i _ _ e _ _=>?_
.exact⟨i,e⟩
.exact⟨i,e⟩}:∃i,y= .int i)
obtain⟨t,C⟩:=I _ J;exact fV z<|RU L (r.keep<|f.d6 q) J C m λ_ _=>J}
theorem Xv(R:Ev b cx U n a w)(Z:Ev b cx U n i o):Ev b cx U n (.sliceFrom a i) (.Subscript w (.Slice (S o) N N p) h9):=λA l H s Q X c Y h=>by{
refine OV<|bF Go.refl (R A l H s _ X c Y h) λv D x E r f g G k=>bF G (O6 Z c f k) λu M y d I L q z m=>?_;refine let B:=_;(?_:B)
obtain⟨j,rfl⟩:=(by{
refine Oa m (λ_ i _ e _ _=>?_) λ_ _ i _ _ e _ _=>?_
.exact⟨i,e⟩
.exact⟨i,e⟩}:∃i,y= .int i)
obtain⟨t,C⟩:=I _ J;exact fV z<|UQ L (r.keep<|f.d6 q) J C m λ_ _=>J}
theorem tG{u:Bool->MH->Prop}(h:kD o u x y H):EF (wv H o x y) λb=>u b H:=cU h
theorem SQ(B:eB e)(R:Ev e cx U n a w)(D:Ev e cx U n b O)(E:xO (iH o) O=F):Ev e cx U n (.cmp a o b) (.Compare w [iH o] [O] h9):=λA l H s Q X j Y h=>by refine OW (bF Go.refl (R A l H s _ X j Y h) λv i x m r f g G k=>bF G (D A l m i (kD o (λc H=>Q _ H) x) X j f k) λu P y d I L z p C=>?_) E;obtain⟨c,q,M⟩:=tG C;exact tU B L j.i6 (r.keep<|f.d6 z) I q λt=>⟨.bool c,d,J,L.toks t,p.trans Go.toks,M⟩
theorem UL(B:eB e)(R:Ev e cx U n a w)(D:Ev e cx U n b O)(E:xO (iH o) O=F):Tr e cx U n (.cmp a o b) (.Compare w [iH o] [O] h9):=λA l H s Q u X m Y z h=>by
 refine let P:=_;let C:=_;let j:=_;let M:=_;(?_:aj P _ C j M _)
 refine OX (bF Go.refl (R A l H s _ X m Y h) λv i x Z r f g G k=>bF G (D A l Z i (kD o (λc H=>Q _ H) x) X m f k) λh0 h1 y d I L g' p k'=>?_) E;obtain⟨c,q,k2⟩:=tG k';exact tU B L m.i6 (r.keep<|f.d6 g') I q λt=>qj ⟨c,d,J,L.toks t,p.trans Go.toks,z _ _ k2⟩
theorem Ax(r:aE U h x v):(v== .none)=x.f9:=by{
induction x using V.casesOn with
|none=>refine aa (show v=_ from r) ?_;rfl
|bool b=>refine aa (show v=_ from r) ?_;rfl
|int i=>obtain⟨t,rfl⟩:=r;rfl
|str n=>obtain⟨_,t,rfl⟩:=r;rfl
|bytes n=>(refine mZ r λb t o _=>?_;refine aa o ?_);rfl
|tup l=>obtain⟨a,Z,D,rfl,_⟩:=r;rfl
|ref a=>refine aa (show v=_ from r) ?_;rfl
|scr l=>obtain⟨a,Z,rfl,_⟩:=r;rfl}
theorem TZ(R:Ev b cx U n a w):Ev b cx U n (.isNone a) (.Compare w [.Is] [.Constant .none k p] h9):=λA l H s Q X y Y h=>by exact OW (bF Go.refl (R A l H s _ X y Y h) λv i x I r f g G k=>BA<|is_none<|aa (Ax r) ⟨_,I,rg,f,G,k⟩) ff
theorem Vo(R:Ev b cx U n a w):Ev b cx U n (.notNone a) (.Compare w [.IsNot] [.Constant .none k p] h9):=λA l H s Q X y Y h=>by exact OW (bF Go.refl (R A l H s _ X y Y h) λv i x I r f g G k=>BA<|isNot_none<|aa (Ax r) ⟨_,I,rg,f,G,k⟩) ff
theorem ZQ(R:Ev b cx U n a w):Tr b cx U n (.isNone a) (.Compare w [.Is] [.Constant .none k p] h9):=λA l H s Q u X y Y o h=>by exact OX (bF Go.refl (R A l H s _ X y Y h) λv i x I r f g G k=>BA<|is_none<|qj<|aa (Ax r) ⟨_,I,J,f,G,o _ _ k⟩) ff
theorem Xu(R:Ev b cx U n a w):Tr b cx U n (.notNone a) (.Compare w [.IsNot] [.Constant .none k p] h9):=λA l H s Q u X y Y o h=>by exact OX (bF Go.refl (R A l H s _ X y Y h) λv i x I r f g G k=>BA<|isNot_none<|qj<|aa (Ax r) ⟨_,I,J,f,G,o _ _ k⟩) ff
theorem Yb(h0:eB Z)(R:Ev Z cx U n a w)(D:Ev Z cx U n b O)(u:Ev Z cx U n c j)(E:xO (iH B) j=F):Ev Z cx U n (.cmp2 a o b B c) (.Compare w [iH o,iH B] [O,j] h9):=λA l H s Q X m Y h=>by{
refine let P:=_;let C:=_;let zc:=_;let zd:=_;(?_:aj P _ C zc zd _)
refine Compare_chain (bF Go.refl (R A l H s _ X m Y h) λv i x h1 r f g G k=>chain_link<|bF G (D A l h1 i _ X m f k) λz1 h3 y d I L g' p k'=>?_) (by simpa [lastMarks] using E);obtain⟨t,q,k2⟩:=tG k';refine tU h0 L m.i6 (r.keep<|f.d6 g') I q λtk=>qj ?_;have e:Go U.fs [] H s d {h3 with toks:=tk}:=p.trans Go.toks;clear q k' p g' k G g f r h1 x i v C h Y E D R O w o b a
induction t using aX with
|false=>exact⟨_,d,rg,(L.toks tk),e,k2⟩
|true=>refine chain_last<|bF e (u A l d _ _ X m (L.toks tk) k2) λz2 z3 z h4 h5 h2 h6 h7 h8=>?_;obtain⟨M,k3,k4⟩:=tG h8;exact tU h0 h2 m.i6 (I.keep<|(L.toks tk).d6 h6) h5 k3 λz0=>⟨_,h4,rg,h2.toks z0,h7.trans Go.toks,k4⟩}
theorem Wm(h0:eB Z)(R:Ev Z cx U n a w)(D:Ev Z cx U n b O)(u:Ev Z cx U n c j)(E:xO (iH B) j=F):Tr Z cx U n (.cmp2 a o b B c) (.Compare w [iH o,iH B] [O,j] h9):=λA l H s Q z1 X m Y hq h=>by{
refine let P:=_;let C:=_;let zc:=_;let zd:=_;(?_:aj P _ C zc zd _)
refine isTrue_chain (bF Go.refl (R A l H s _ X m Y h) λv i x h1 r f g G k=>test_link<|bF G (D A l h1 i _ X m f k) λz2 h3 y d I L g' p k'=>?_) (by simpa [lastMarks] using E);obtain⟨t,q,k2⟩:=tG k';refine tU h0 L m.i6 (r.keep<|f.d6 g') I q λtk=>qj ?_;have e:Go U.fs [] H s d {h3 with toks:=tk}:=p.trans Go.toks;clear q k' p g' k G g f r h1 x i v C h Y E D R O w o b a
induction t using aX with
|false=>exact⟨F,d,J,(L.toks tk),e,hq _ _ k2⟩
|true=>refine test_last<|bF e (u A l d _ _ X m (L.toks tk) k2) λz3 z4 z h4 h5 h2 h6 h7 h8=>?_;obtain⟨M,k3,k4⟩:=tG h8;exact tU h0 h2 m.i6 (I.keep<|(L.toks tk).d6 h6) h5 k3 λz0=>qj ⟨M,h4,J,h2.toks z0,h7.trans Go.toks,hq _ _ k4⟩}
theorem UA{j:Array gL}(w:j.toList=c.map (Gs<|gJ U))(o:qk c M=S p):j.isEmpty=F:=by{
obtain⟨j⟩:=j
induction j using aS with
|cons _ _=>rfl
|nil=>{
induction c using aS with
|nil=>exact aD o
|cons _ _=>cases w}}
theorem SK{s:ah}{A:aI}(I:A.units+2<dY)(G:(gJ U).is s.heap M a)(m:s.heap.DictOfH (gJ U) d L)(O:qk L M=S p)(y:L.length<=jD) (h:∀C,C.DictOfH (gJ U) d (Au L M)->ma d s.heap C->R p.2 {s with heap:=C,toks:=s.toks+(gJ U).draws M}):aj (ao U.prog U.w) A (call (.builtin "dict.pop") [.ref d,.ref a]) R E s:=by{
refine uC Z6 m.typeIs F.entry_dict_pop ?_<|F.args_dict_pop_2 _ _;refine let c:=_;(?_:c)
have e:=m;refine eg e λQ i D Y k Z=>?_;obtain⟨b,f,_⟩:=Z;refine let P:=_;(?_:aj _ _ _ P _ _)
refine ag<|ag<|Z7 m.typeIs<|av<|ag<|Bv Y b<|ag<|av ?_;refine(UA f O)▸?_;refine ag<|Tx (A:=A.in1) I G m O y λg C u j B=>?_;exact ag<|OG<|av<|aG g.val J<|aa u<|h C j B}
structure hZ (st:St) (ft:Nat->Option FD):Prop where
 B:eB st
 cls:∀c d,st.ct c=some d->d.isExc=false->Cb st d
 meths:∀c d,st.ct c=some d->d.isExc=false->∀m f,d.meths.lookup m=some f->m<st.N/\∃e,ft f=some e/\ij st.K (.ref d.addr) (st.sd m)=some (some (.ref e.addr))/\sj st.K (.ref e.addr)=some (.type "function")
 fn:∀f e,ft f=some e->∃oc od osl fd,st.K.lookup e.addr=some ⟨oc,od,.func fd,osl⟩
 append:st.sd 211="append"
 pop:st.sd 282="pop"
 insert:st.sd 283="insert"
 get:st.sd 281="get"
structure tM (A:aI) (fr:aF) (n:Nat) (hn:Bool):Prop where
 hd:hn=true->A.handled=none
 stk:A.frames=some fr.frames
 dep:A.depth+2*n+3<su
 uni:A.units+40*n+64<dY
theorem bN.k8(h:bN A U n b):tM A U n b:=⟨h.hd,h.at_.stack,by have:=h.dep;exact bU ‹_›,by have:=h.uni;exact cN (gM (by decide) _) this⟩
def nh(a:St)(j:Nat->Option FD)(n:Nat)(P:Bool->Nat->List V->QV->QE->MH->Prop):Prop:=
 ∀(A:aI) (U:aF) (b:Bool) (l:ae) (H:MH) (s:ah) (f:Nat) (Z:List V) (m:List Value) (Q:QV) (X:QE),tM A U n b->aq a U l H s->RepL a s.heap Z m->P b f Z Q X H->∃d,j f=S d/\gN (ao a.prog a.w) A (.call (.ref d.addr) ⟨m,[]⟩) (mL a U l H s Q X) s
def dJ(e:Expr):Bool:=!dQ (Expr.ctorIdx e) 22
theorem mJ(h:dJ e=T):nI (e::j) env=(F,eval e env)::nI j env:=by obtain⟨⟩:=e<;>first|rfl|exact ak h
theorem eA:j.all dJ=T->(qr h9<|nI j env).any (·.1)=F:=by{
induction j with
|nil=>exact λ_=>ff
|cons e j Z=>intro h;replace h:=bm.mp h;exact aa (mJ h.1)<|(Z h.2).symm▸J}
theorem jj(O:args.any (·.1)=F)(h:aj M A (spliced args) (λZ u=>R ⟨Z,[]⟩ u) E s):aj M A (GL f T args []) R E s:=by{
induction args using aS with
|nil=>exact ag<|bK h (λZ u C=>ag<|av<|eT<|ag<|av<|ag<|av<|av C) λ_ _ x=>x
|cons x r=>{
obtain⟨b,x⟩:=x;rw[uE] at O
induction b using aX with
|true=>exact ak O
|false=>exact evalArgs_plain h}}
theorem wI{b:St}{U:aF}(G:Go U.fs [] H s c i)(h:gN (ao b.prog b.w) A (.call f ⟨m,[]⟩) (mL b U l c i Q X) i):aj (ao b.prog b.w) A (call f m) (bH b U l (aE b) H s Q) (cS b U l H s X) i:=by{
refine let P:=_;let C:=_;(?_:aj _ _ _ P C _)
refine uH<|GB h λr u I=>?_
induction r using uI with
|error e=>exact cS.trans G I
|ok a=>induction a using xI with
 |ret v=>exact bH.trans G I
 |_=>exact I}
def vq:Bi->Value
 |.len=>.builtin "len"|.max=>.builtin "max"|.min=>.builtin "min"|.tuple=>.type "tuple"|.list=>.type "list"|.sorted=>.builtin "sorted"|.sum=>.builtin "sum"|.bytes=>.type "bytes"|.bytearray=>.type "bytearray"
def CV(a:St)(b:Bi):Prop:=∀(A:aI) (U:aF) (l:ae) (H:MH) (s:ah) (Q:QV) (X:QE) (Z:List V) (m:List Value),A.handled=N->A.units+64<dY->aq a U l H s->RepL a s.heap Z m->Na Q H b Z->aj (ao a.prog a.w) A (call (vq b) m) (bH a U l (aE a) H s Q) (cS a U l H s X) s
theorem RD(O:args.any (·.1)=F)(h:aj M A (GL (vq b) T args []) (λa i=>aj M A (call (vq b) ([]++a.pos) a.kw) R E i) E s):aj M A (sw h9 (vq b) [] args []) R E s:=by{
induction b using Bi.casesOn with
|tuple|list|bytes|bytearray=>exact GM O h
|_=>exact BB O h}
theorem oY(r:RepL U h [x] m):∃v,m=[v]/\aE U h x v:=by obtain⟨v,q,rfl,X,rfl⟩:=r;exact(aG v J X)
theorem yN(r:RepL U h [x,y] m):∃v u,m=[v,u]/\aE U h x v/\aE U h y u:=by obtain⟨v,q,rfl,X,u,n,rfl,M,rfl⟩:=r;exact(fN v u J X M)
inductive M8 (H:MH) (vals:List Value) (f:List V->Prop):Prop
 |mk (a:Addr) (l:List V) (e:vals=[.ref a]) (h:H a=some (.list l)) (k:f l)
theorem EQ(r:RepL U h Z m)(w:a1 Z λx=>zH H x f):M8 H m f:=by
 obtain⟨x,rfl,G⟩:=pW w;refine aU (oY r) λv O u=>?_;refine aa O ?_;clear r w;obtain⟨a,L,rfl,e,M⟩:=(by obtain⟨a,rfl,l,e,C⟩:=lJ G;exact⟨_,_,J,qY e,C⟩:YS H x f)
 refine aa u ?_;exact⟨a,L,J,e,M⟩
theorem WQ:CV a .bytes:=λA U l H s Q X Z m R I Y r h=>by{
refine let P:=_;let C:=_;let j:=_;let e:=_;(?_:aj P _ C j e _)
obtain⟨x,rfl,G⟩:=pW h;refine aU (oY r) λv O u=>?_;subst O;clear r h I R;obtain⟨i,rfl,M⟩:=fJ G;obtain⟨t,rfl⟩:=u;refine callType_codes (Q₁:=λb c=>c.TypeIs b "bytes"/\bH a U l (aE a) H s Q b c) OY (F.bm_typeCall _) F.entry_object_init
 ((by refine OH<|ag<|gw (F.bm_newCall _)<|av ⟨OI F.bm_plain _,codeAny_builtin F.bm_entry<|aa (Y4 F.bm_plain _)<|ag<|gw J<|kX J<|ag<|gw F.bm_sub ?_⟩;refine kX J<|ag<|gw (F.bm_bind _)<|ag<|gw (a:=()) J<|ag<|gw (a:=()) J<|kX J<|ag<|sf (Gj s i t) FB.int_no_bytes<|ag<|gw J ?_;refine kX J (ag (sf (Gj s i t) FB.int_index (kX J (ag (gw J (kX (by simp[abS];exact⟨cV (by decide) M.1.1,lW M.1.2 (by decide)⟩) ?_))))));refine aa (if_neg<|bT.mpr M.1.1) ?_;refine aa (if_neg (bT.mpr (cV M.1.2 (by decide)))) ?_;refine kX (by simp[abT];have:=sz<|sa.mpr M.1.2;exact sa.mp this) (ag (Bq (ag (wpAny_mkBytes (ag<|av ?_) (by exact aa Array.size_replicate (sz (by exact sa.mpr M.1.2)))))));exact av ⟨Bx _ _ _,dR Y _ (LM (by simp)) M.2⟩)) λb c d=>?_
exact⟨d.1,F.args_object_init_2 b _,object_init_meets OY.init.lookup OY.made (by decide) a.prog a.w A.in1 _ c<|bp d.1 J d.2⟩}
def CN:Bool->BoolOp
 |true=>.And
 |false=>.Or
def Md(b:St)(cx:Cx)(U:aF)(n:Nat)(c:Bool)(a:MEs)(j:List Expr):Prop:=∀(h9:Pos),(∀(A:aI) (l:ae) (H:MH) (s:ah) (Q:QV) (X:QE),bN A U n cx.hn->aq b U l H s->wpB cx X l c a Q H->aj (ao b.prog b.w) A (eval (.BoolOp (CN c) j h9) U.env) (bH b U l (aE b) H s Q) (cS b U l H s X) s)
def vg(b:St)(cx:Cx)(U:aF)(n:Nat)(c:Bool)(a:MEs)(j:List Expr):Prop:=∀(h9:Pos) (w:Sem Value),(∀(A:aI) (l:ae) (H:MH) (s:ah) (Q:QV) (u:Bool->MH->Prop) (X:QE),bN A U n cx.hn->aq b U l H s->(∀x H,Q x H->bR u x H)->wpB cx X l c a Q H->aj (ao b.prog b.w) A (isTrue (.BoolOp (CN c) j h9) U.env w) (wN b U l H s u) (cS b U l H s X) s)
theorem Uz(h:Tr a cx U n m e):vg a cx U n c (.cons m .nil) [e]:=λh9 w A l H s Q u X y Y o E=>by{
induction c using aX with
|true=>{
refine isTrue_and<|bF Go.refl (h A l H s Q u X y Y o E) λb i x I e f g G k=>?_;subst e;cases b with
|true=>exact isTrue_and_nil ⟨_,I,J,f,G,k⟩
|false=>exact⟨_,I,J,f,G,k⟩}
|false=>{
refine isTrue_or<|bF Go.refl (h A l H s Q u X y Y o E) λb i x I e f g G k=>?_;subst e;cases b with
|false=>exact isTrue_or_nil ⟨_,I,J,f,G,k⟩
|true=>exact⟨_,I,J,f,G,k⟩}}
theorem DI(h:wpB cx X l c (.cons m<|.cons d r) Q H):aP cx X l m (λv H=>bR (λb H=>if b=c then wpB cx X l c (.cons d r) Q H else Q v H) v H) H:=h
theorem N9(h:Tr p cx U n m e)(C:vg p cx U n c (.cons d r)<|B::j):vg p cx U n c (.cons m<|.cons d r) (e::B::j):=λh9 w A l H s Q u X y Y o E=>by{
have v:=h A l H s _ (λb H=>if b=c then wpB cx X l c _ Q H else u b H) X y Y (λx H q=>by{
refine let P:=_;(?_:bR P _ _)
obtain⟨b,t,R⟩:=vL q;unfold bR;refine aa t ?_;show ite _ _ _;by_cases z:b=c
.rw[if_pos z] at R ⊢;exact R
.rw[if_neg z] at R ⊢;have:=o _ _ R;unfold bR at this;rw[t] at this;exact this}) (DI E)
clear E Y h m
induction c using aX with
|true=>{
refine isTrue_and<|bF Go.refl v λb i x I a f g G k=>?_;subst a;cases b with
|true=>exact fV G<|C h9 w A l I i Q u X y f o k
|false=>exact⟨_,I,J,f,G,k⟩}
|false=>{
refine isTrue_or<|bF Go.refl v λb i x I a f g G k=>?_;subst a;cases b with
|true=>exact⟨_,I,J,f,G,k⟩
|false=>exact fV G<|C h9 w A l I i Q u X y f o k}}
def tf(e:Expr):Bool:=dQ (Expr.ctorIdx e) 23||(dQ (Expr.ctorIdx e) 20||dQ (Expr.ctorIdx e) 21)
theorem NM(h:tf o=T):attributeBase o a env w=w:=by obtain⟨⟩:=o<;>first|rfl|exact ak h
theorem FE(D:tf o=T)(B:j.all dJ=T)(a:j.length<30)(O:(w.endLine==h9.line)=T)(h:aj M A (eval o env) (λP i=>aj M A (GF P b (do return (<-importBound o env).getD T)) (λu g=>aj M A (sw h9 u.1 u.2 (qr h9<|nI j env) []) R E g) E i) E s):aj M A (eval (.Call (.Attribute o b w) j [] h9) env) R E s:=by{
refine aa (arm_eval_Call ..)<|aa (NM D)<|ag<|bK h (λP i X=>ag<|gO ?_) λ_ _ x=>x;unfold methodCall;refine((by{
unfold methodCallForm;have G:(qr h9<|nI j env).all (!·.1)=T:=by
 have:=eA (env:=env) (h9:=h9) B;refine aa List.all_eq_not_any_not<|au (Bool.not_eq_false' ..)<|(GN ..).trans ?_
 simpa using this
exact G.symm▸bm.mpr ⟨tt,decide_eq_true a⟩}:methodCallForm (j.length+([]:List Keyword).length) (qr h9<|nI j env) (backToKw h9<|keywordEach [] env)=T))▸(ag<|eT<|bK X (λu g q=>?_) λ_ _ x=>x)
have e:methodCallPos T o env w h9=pure h9:=by unfold methodCallPos;refine aa O ?_;rfl
exact aa e<|ag<|av q}
theorem wm(r:aE U h x v)(I:RepL U h L Z):RepL U h (x::L) (v::Z):=⟨v,Z,J,r,I⟩
theorem wR{c:String}(m:lh b cx U n a j)(O:j.all dJ=T)(y:bN A U n cx.hn)(G:Go U.fs [] H s e i)(f:aq b U l e i)(k:wpEs cx X l a B e)(E:∀(g:ah) (d:MH) (L:List V) (Z:List Value),aq b U l d g->RepL b g.heap L Z->B L d->aj (ao b.prog b.w) A (call (.builtin c)<|.ref h::Z) (bH b U l (aE b) d g Q) (cS b U l d g X) g):aj (ao b.prog b.w) A (sw h9 (.builtin c) [.ref h] (qr h9<|nI j U.env) []) (bH b U l (aE b) H s Q) (cS b U l H s X) i:=BB (eA O) (jj (eA O)<|bF G (m A l e i _ X h9 y f k) λZ g L d I o w p v=>fV p<|E g d L Z o I v)
inductive ZH (Q:QV) (H:MH) (a:Addr) (m:Nat) (xs:List V):Prop
 |mk (es:List (aY×V)) (x:V) (ns:List Int) (e:H a=some (.dict es)) (ex:xs=[x]) (k:iK x=some (.t ns)) (o:dL es (.t ns)=true) (q:if m=281 then Q ((cY es (.t ns)).getD .none) H else Cg Q H a es ns)
theorem WR(w:Of k P):∃M,k= .t M/\P M:=by{
induction k using aY.casesOn with
|t M=>exact(aG M J w)
|_=>exact w.elim}
theorem Nz(w:tR Q H a m L):ZH Q H a m L:=by
 refine let p:=_;(?_:p)
 obtain⟨j,e,C⟩:=M4 w;obtain⟨x,R,E⟩:=pW C;obtain⟨k,b,g⟩:=cU E;refine aU (WR g) λM O n=>?_;subst O;exact⟨j,x,M,e,R,b,n.1,n.2⟩
theorem WK{A:aI}(B:eB f)(I:A.units+64<dY)(Y:aq f U l H s)(r:RepL f s.heap L Z)(w:tR Q H a 281 L):aj (ao f.prog f.w) A (call (.builtin "dict.get")<|.ref a::Z) (bH f U l (aE f) H s Q) E s:=by{
refine let p:=_;(?_:p)
obtain⟨j,x,M,e,rfl,k,C,g⟩:=Nz w;rw[if_pos J] at g;refine aU (oY r) λv O c=>?_;subst O;refine let p:=_;(?_:p)
rcases rB c k with⟨n,b,h,_⟩|⟨i,h,_⟩|⟨d,b,h,rfl,G,_⟩
.cases h
.cases h
·(injection h with z;subst z)
 refine af (sO (Y.rep _ _ e) C) λq t=>ai (λX m=>?_)<|t;refine let P:=_;(?_:aj _ _ _ P _ _)
 refine call_meetsIn Z8 m.typeIs F.entry_dict_get (F.args_dict_get_2 _ _) (meetsH_dict_get (gJ f) a b<|Y.j0 e B.sys) ⟨Bu<|u1 I,M,q,G,m,(?_)⟩;have o:=X.get (a:=M)
 induction R:cY j _ using aV with
 |none=>rw[R] at o g;exact o▸dR (x:=.none) Y _ J g
 |some y=>rw[R] at o g;obtain⟨w,u,D⟩:=o;exact aa u<|dR Y _ D g}
theorem YU(D:hZ h0 ft)(B:lh h0 cx U n a j)(O:j.all dJ=T)(hA:bN A U n cx.hn)(G:Go U.fs [] H s I h1)(f:aq h0 U l I h1)(e:I h=S (.list L)) (E:AH m=T) (k:wpEs cx X l a (λZ H=>vy Q H h m Z) I):aj (ao h0.prog h0.w) A (GF (.ref h) (h0.sd m) M) (λfx h2=>aj (ao h0.prog h0.w) A (sw h9 fx.1 fx.2 (qr h9<|nI j U.env) []) (bH h0 U l (aE h0) H s Q) (cS h0 U l H s X) h2) (cS h0 U l H s X) h1:=by{
refine let za:=_;let zb:=_;(?_:aj _ _ _ za zb _)
obtain⟨us,⟨un,g1⟩,_⟩:=f.rep _ _ e;have hT:h1.TypeIs (.ref h) "list":=(aG _ g1 J);have hd:∀b,sq h= .ref b->∃o,h1.heap.get? b=S o/\o.dict=N:=λb q=>by(injection q with z;subst z);exact(aG _ g1 J)
unfold AH at E;rw[GO,GO,beq_iff_eq,beq_iff_eq,beq_iff_eq] at E;refine let za:=_;let zb:=_;(?_:aj _ _ _ za zb _)
rcases E with(rfl|rfl)|rfl
.exact aa D.append (BC hT OZ Z9 F.type_list_append hd (wR B O hA G f k λh2 d P Z=>(λY r M=>by{
refine let p:=_;(?_:p)
obtain⟨l,e,M⟩:=uf M;obtain⟨x,rfl,M⟩:=pW M;refine aU (oY r) λv h3 c=>?_;subst h3;refine let p:=_;(?_:p)
obtain⟨Z,⟨n,g⟩,r1⟩:=Y.rep _ _ e;have R:Z.size=l.length:=r1.len;refine Bh Z9 (aG _ g J) F.entry_list_append (F.args_list_append_2 _ _) (list_append h Z n v (by refine aa R ?_;exact sz M.1)) ⟨g,Cw Y e g ?_ Fc M.2⟩;exact au aaa.symm<|r1.append<|RepL.one c})))
.refine aa D.pop ?_;exact BC hT OZ aab F.type_list_pop hd (wR B O hA G f k λh2 d P Z=>(λY r M=>by{
refine let p:=_;(?_:p)
obtain⟨l,e,M⟩:=uf M;rw[if_neg (by decide),if_pos J] at M;obtain⟨x,rfl,M⟩:=pW M;obtain⟨v,rfl,c⟩:=oY r;clear r;obtain⟨i,rfl,C,w2⟩:=fJ M;obtain⟨x,hx,w3⟩:=cU w2;obtain⟨t,rfl⟩:=c;exact(by{
refine let p:=_;(?_:p)
obtain⟨Z,⟨n,g⟩,r1⟩:=Y.rep _ _ e;have R:Z.size=l.length:=r1.len;refine af (r1.get hx) λv h4=>ai (λw c=>?_)<|h4;have h5:=R▸(cW.mp hx).1;refine Bh aab (aG _ g J) F.entry_list_pop (F.args_list_pop_2 _ _) (MeetsSeq.list_pop_at h Z n i t i.toNat v (IQ C.1 (ql C.2.1 (by decide))) ((by delta seqIndex?;exact aa (if_neg<|bT.mpr C.1)<|if_pos<|bm.mpr ⟨decide_eq_true C.1,decide_eq_true<|(Pa C.1).mp h5⟩)) (by refine au (lY) ?_;exact w) (by refine aa R ?_;exact sz C.2.2)) ⟨g,Cw Y e g ?_ c w3⟩
have:(Z.eraseIdxIfInBounds i.toNat).toList=Z.toList.eraseIdx i.toNat:=by obtain⟨ls⟩:=Z;simp only[Gu]
exact aa this<|r1.erase _})}))
.exact aa D.insert (BC hT OZ aac F.type_list_insert hd (wR B O hA G f k λh2 d P Z=>(λY r M=>by{
refine let p:=_;(?_:p)
obtain⟨l,e,M⟩:=uf M;rw[if_neg (by decide),if_neg (by decide)] at M;obtain⟨x,y,rfl,M⟩:=Ay M;refine iC (yN r) λv u h6 c ru=>?_;subst h6;clear r;obtain⟨i,rfl,C⟩:=fJ M;obtain⟨t,rfl⟩:=c;exact(by{
refine let p:=_;(?_:p)
obtain⟨Z,⟨n,g⟩,r1⟩:=Y.rep _ _ e;have R:Z.size=l.length:=r1.len;have hl:=R▸sa.mpr C.1.2.1;refine Bh aac (aG _ g J) F.entry_list_insert (F.args_list_insert_3 _ _ _) (AutoListH.list_insert_list_int_val_1 h Z n i t u (JA C.1.1<|cV C.1.2.1<|dG.mpr C.1.2.2) (by refine aa R ?_;exact sz C.1.2.2)) ⟨g,Cw Y e g ?_ Fc C.2⟩;have:(let k:=if i<0 then(i+Z.size).toNat else min i.toNat Z.size;(Z.extract 0 k).push u++Z.extract k).toList=Z.toList.take i.toNat++u::Z.toList.drop i.toNat:=by simp only[((if_neg<|bT.mpr C.1.1).trans<|aad hl)];obtain⟨ls⟩:=Z;simp[Ow]
exact aa this (by refine aa (TM y l _<|R▸hl) ?_;exact(r1.take _).append ⟨u,_,J,ru,r1.drop _⟩)})})))}
inductive Zv (h:Heap) (a:Addr):Prop
 |mk (o:Obj) (g:h.get? a=some o) (c:o.cls= .type "dict") (d:o.dict=none)
theorem Lc{U:St}{u:Type}[DecidableEq u]{k:KeyKind U.prog U.w u}{c:List (u×Value)}(r:h.DictOf k a c):Zv h a:=by refine eg r λo j D Y x _=>?_;obtain⟨M,A,_⟩:=x;exact⟨o,Y,M,A⟩
theorem Qz(D:hZ h0 ft)(B:lh h0 cx U n a j)(hp:j.all dJ=T)(hA:bN A U n cx.hn)(G:Go U.fs [] H s I h2)(f:aq h0 U l I h2)(e:I h=S (.dict L)) (E:yx m=T) (k:wpEs cx X l a (λZ H=>tR Q H h m Z) I):aj (ao h0.prog h0.w) A (GF (.ref h) (h0.sd m) w) (λu g=>aj (ao h0.prog h0.w) A (sw h9 u.1 u.2 (qr h9<|nI j U.env) []) (bH h0 U l (aE h0) H s Q) (cS h0 U l H s X) g) (cS h0 U l H s X) h2:=by{
refine let za:=_;let C:=_;(?_:aj _ _ _ za C _)
obtain⟨od,g1,t,g3⟩:=(by{
have r:=f.rep _ _ e
induction r using gi.casesOn with
|s c r d=>exact Lc d
|i c r d=>exact Lc d
|t c r d=>(refine eg d λo L ep ho h3 _z=>?_;obtain⟨M,r3,_z⟩:=h3);exact⟨o,ho,M,r3⟩})
unfold yx at E;rw[GO,beq_iff_eq,beq_iff_eq] at E;refine let za:=_;let C:=_;(?_:aj _ _ _ za C _)
rcases E with rfl|rfl
.refine aa D.get ?_;exact BC (⟨_,g1,t⟩) aae Z8 F.type_dict_get (λb q=>by(injection q with z;subst z);exact⟨_,g1,g3⟩)<|wR B hp hA G f k λg h4 P Z=>WK D.B hA.i6
.refine aa D.pop ?_;exact BC (⟨_,g1,t⟩) aae Z6 F.type_dict_pop (λb q=>by(injection q with z;subst z);exact⟨_,g1,g3⟩) (wR B hp hA G f k λg h4 P Z=>(λY r w=>by{
refine let za:=_;let C:=_;(?_:aj _ _ _ za C _)
refine let Gz:=_;(?_:Gz)
obtain⟨j,x,ns,e,rfl,hk,w1,w2⟩:=Nz w;rw[if_neg (by decide)] at w2;refine aU (oY r) λv O rv=>?_;subst O;obtain⟨y,R,w3⟩:=cU w2;refine let Gz:=_;(?_:Gz)
have z:=sz w3.1;rcases rB rv hk with⟨n,b,q',_⟩|⟨i,q',_⟩|⟨h6,b,q',rfl,h5⟩
.cases q'
.cases q'
·(injection q' with z;subst z)
 refine af (sO (Y.rep _ _ e) w1) λc h1=>ai (λr1 hd=>?_)<|h1;have o:=r1.get (a:=ns);replace o:=R▸o;obtain⟨w,o1,o2⟩:=o;refine af (jf.mp o1) λp h1=>ai (λo3 O=>?_)<|h1;subst O;exact SK (cN (gM (by decide) _) hA.i6) h5 hd o3 (au r1.len.symm z) λh' E B=>NJ (B:=.dict<|tZ j _) Y e J (λb hb _=>AL B b hb) (qC B (Da hd)<|Da E) (λtk=>.t _ (r1.d8.keep tk) E) o2 w3.2}))}
theorem WY{cx:Cx}(D:hZ t ft)(h4:nh t ft n cx.call)(R:cx.ct=t.ct)(ha:Ev t cx U n a o)(B:lh t cx U n ms j)(hb:tf o=T) (hp:j.all dJ=T) (hl:j.length<30) (u:(w.endLine==h9.line)=T) (h5:b=t.sd m):Ev t cx U n (.callM a m ms) (.Call (.Attribute o b w) j [] h9):=λA l H s Q X y Y h=>by{
refine let P:=_;let C:=_;let zc:=_;let zd:=_;(?_:aj P _ C zc zd _)
subst h5;refine FE hb hp hl u<|bF Go.refl (ha A l H s _ X y Y h) λv i x h6 r z g G k=>?_;refine let p:=_;(?_:p)
obtain⟨a',rfl,k⟩:=lJ k;subst r;obtain⟨o,e,k⟩:=cU k
induction o using MO.casesOn with
|inst c dx fs=>exact(by{
refine let P:=_;let C:=_;(?_:aj _ _ _ P C _)
obtain⟨f,hf,k⟩:=cU k;obtain⟨hg,k⟩:=Fq k;refine let p:=_;(?_:p)
rw[R] at hf;refine af (gV.mp hf) λd h0=>ai (λhd E=>?_)<|h0;have hx:d.isExc=F:=by obtain⟨⟨d',h1,M⟩,_⟩:=z.rep _ _ e;replace h1:=hd▸h1;(refine aa (aA h1) ?_);exact M
obtain⟨O,fe,h2,q,h7⟩:=D.meths c d hd hx m f E;refine SU (M:=ao t.prog t.w) D.B (D.cls c d hd hx) z e hd O q h7 hg ?_;refine af (D.fn _ _ h2) λoc h0=>af (h0) λod h8=>af (h8) λz3 z0=>?_;refine af (z0) λfd ho=>Pc<|jj (eA hp)<|bF G (B A l h6 i _ X h9 y z k) λZ z1 L z2 I h3 g' G' k'=>⟨⟨D.B.X.keeps h3.base _ _ ho,J⟩,?_⟩;refine let p:=_;(?_:p)
refine aU (h4 A U _ l z2 z1 f _ _ Q X y.k8 h3 (wm qT I) k') λd' e' c'=>?_;replace e':=h2▸e';(obtain rfl:=aA e');exact wI G' c'})
|list L=>exact YU D B hp y G z e k.1 k.2
|dict j=>exact Qz D B hp y G z e k.1 k.2
|_=>exact k.elim}
theorem Ag(Y:aq b U l H s)(h:s.heap.get? a=N):¬cg H a/\a∉U.fs:=⟨Y.off h,λq=>by obtain⟨_,o,_,_,e,_⟩:=Y.frmAt a q;replace e:=h▸e;cases e⟩
def xk(env:Env)(h9:Pos):List (Option Expr)->List Expr->List (Sem Value×Sem Value)
 |some k::u,v::Z=>(eval k env,do let x<-eval v env;BD h9;pure x)::xk env h9 u Z
 |_,_=>[]
def At:List (Option Expr)->List Expr->Bool
 |[],[]=>T
 |some _::u,_::Z=>At u Z
 |_,_=>F
theorem Wj:∀{u:List (Option Expr)} {Z:List Expr},At u Z=T->(evalEachOpt u env).zip ((evalEach Z env).map λv=>do let x<-v;BD h9;pure x)=(xk env h9 u Z).map λp=>(S p.1,p.2):=by{
intro u
induction u with
|nil=>{
intro Z h
induction Z using aS with
|nil=>rfl
|cons _ _=>exact ak h}
|cons k u a=>{
intro Z h
induction k using aV with
|none=>exact ak h
|some k=>induction Z using aS with
 |nil=>exact ak h
 |cons v Z=>exact congrArg (Bf _)<|a h}}
inductive ZZ (x y:V) (xs:List V) (es:List (aY×V)):Prop
 |mk (k:aY) (es':List (aY×V)) (e:iK x=some k) (d:vj xs=some es') (q:es=(k,y)::es')
inductive P7 (st:St) (h:Heap) (vs:List (Value×Value)) (es:List (aY×V)):Prop
 |mk (kvs:List (Str×Value)) (r:de (nU st) st h es kvs) (c:Carries (strKind st.prog st.w) vs kvs)
theorem O9:∀{Z:List (Value×Value)} {L:List V} {j:List (aY×V)},RepL U h L (Z.flatMap λp=>[p.1,p.2])->vj L=S j->vC j=T->P7 U h Z j:=by{
intro Z
induction Z with
|nil=>{
intro L j r e _;refine let b:=_;(?_:b)
induction L using aS with
|nil=>(obtain rfl:=aA e);exact⟨[],J,trivial⟩
|cons x L=>obtain⟨v,q,g,_⟩:=r;cases g}
|cons p Z o=>{
intro L j r e w;refine let b:=_;(?_:b)
induction L using aS with
|nil=>cases r
|cons x L=>{
obtain⟨v,q,g,X,r⟩:=r
induction L using aS with
|nil=>exact aD e
|cons y L=>{
obtain⟨u,z,I,M,A⟩:=r;cases g;cases I;obtain⟨k,d,s,R,rfl⟩:=(by
 refine aU (gV.mp e) λk g e=>?_;refine aU (gV.mp e) λd I e=>?_
 (refine au (aA e) ?_);exact⟨k,d,g,I,J⟩:ZZ x y L j)
clear e;obtain⟨⟨m,rfl⟩,f⟩:=(by{
unfold vC at w ⊢;rw[nB,kc] at w;refine⟨?_,w.2⟩
induction k using aY.casesOn with
|s n=>exact⟨n,J⟩
|_=>exact ak w.1}:(∃n,k= .s n)/\vC d=T)
obtain⟨c,l,i2⟩:=o A R f;rcases rB X s with⟨n,a,Y,t,G⟩|⟨i,Y,_⟩|⟨B,a,Y,_⟩
.refine aa Y ?_;exact⟨(a,p.2)::c,⟨_,_,J,t,M,l⟩,(bp G J i2)⟩
.cases Y
.cases Y}}}}
theorem de.mem(b:nU U k a):∀{c:List (Str×Value)},de (nU U) U h j c->a∈c.map (·.1)->k∈j.map (·.1):=by{
induction j with
|nil=>intro c r E;subst r;cases E
|cons y j Z=>{
rintro c ⟨A,n,rfl,H,_,I⟩ E;rcases bJ.mp E with z|z
.exact bJ.mpr<|.inl<|(wG k a y.1 A.1 b H).mpr z
.exact xN _<|Z I z}}
theorem de.j8:∀{c:List (Str×Value)},de (nU U) U h j c->(j.map (·.1)).Nodup->(c.map (·.1)).Nodup:=by{
induction j with
|nil=>intro c r _;refine aa r ?_;exact gW
|cons x j Z=>rintro c ⟨e,q,rfl,I,_,r⟩ O;rw[oO,fq] at O ⊢;exact⟨λE=>O.1<|de.mem I r E,Z r O.2⟩}
def MM(b:St)(cx:Cx)(U:aF)(n:Nat)(a:MEs)(u:List<|Option Expr)(Z:List Expr):Prop:=∀(A:aI) (l:ae) (H:MH) (s:ah) (Q:List V->MH->Prop) (X:QE) (h9:Pos),bN A U n cx.hn->aq b U l H s->wpEs cx X l a Q H->aj (ao b.prog b.w) A (evalPairs<|xk U.env h9 u Z) (bH b U l (λh L r=>RepL b h L<|r.flatMap λp=>[p.1,p.2]) H s Q) (cS b U l H s X) s
theorem aq.n8(Y:aq x U l H s)(f:aq x U l I i)(G:Go U.fs [] H s I i)(u:s.heap.get? c=N)(L:¬cg I c)(E:o.d7=[])(g:i.heap.get? c=S Q) (j:Q.cls≠.type "tuple") (k:ma c i.heap C) (v:∃o,C.get? c=S o) (P:ee i.heap C->jv x C c o):kN x U l H s (I.set c o) {i with heap:=C,toks:=t}:=by{
have X:∀a Q,s.heap.get? a=S Q->a≠c:=λa Q e q=>by rw[q,u] at e;exact aD e
have y:ee i.heap C:=λa o Z D e r M=>(k.2 a λq=>by rw[q,g] at e;(obtain rfl:=aA e);exact j r).trans e;have w:∀d∈o.d7,False:=λd m=>by replace m:=E▸m;cases m
have p:Go U.fs [] H s (I.set c o) {i with heap:=C,toks:=t}:=
 ⟨λa o e=>(G.there a o e).imp λB A=>(k.2 a<|X a o e).trans A,λa o r M R e=>(k.2 a<|X a o e).trans<|G.keep a o r M R e,λa o r M e=>(G.slots a o r M e).imp λsl A=>(k.2 a<|X a o e).trans A,λa h=>by{
clear v j g E;rcases tX h with h|rfl|h
.exact G.mono a h
.exact .inr u
.exact(w _ h).elim}⟩
refine⟨Y.next p (λb Q e=>(k.2 b<|X b Q<|Y.base b Q e).trans<|f.base b Q e) (λb Q e=>?_) (f.apart.set (λd m=>(w d m).elim) λb Q e _ d m=>⟨λz=>L<|z▸.inr (dm b Q e m),λh=>w d h⟩)<|bp (f.lim.1.trans Y.lim.1.symm) (f.lim.2.1.trans Y.lim.2.1.symm)<|f.lim.2.2.trans Y.lim.2.2.symm,p⟩;clear p w X v j g E u G Y
induction pX e using qA.casesOn with
|self e q=>refine aa e ?_;refine aa q ?_;exact P y
|old n e=>{
refine(f.rep b Q e).keep y λd m h0 O=>(k.2 d λz=>L<|z▸?_).trans O;rcases m with rfl|m
.exact iT e
.exact .inr<|dm b Q e m}}
theorem TY:Ev a cx U n (.dict .nil) (.Dict [] [] h9):=λA l H s Q X y Y h=>by have k:∀b o,s.heap.get? b=S o->(s.heap.push {cls:=.type "dict",data:=.dict #[]}).get? b=S o:=λb o e=>cu _ e;refine wpAny_Dict_empty<|pU Y k (gq<|cD _) (λ_ h=>absurd h aJ) ?_ (h).2;exact .s [] J<|zL _ ⟨_,0,eD _ ff,(bp J J J),J⟩
theorem yE(h:dJ e=T):[e,.Name b p].all dJ=T:=by refine aa nB<|aa h ?_;rfl
structure uv (st:St) (fr:aF) (nm:Str) (v:Value):Prop where
 k:fr.env.kindOf nm=some .globalImplicit
 g:st.mg nm=none
 b:st.mb nm=some v
 d:(nm==("__debug__":Str))=false
theorem qP{U:aF}{s:ah}(B:eB a)(D:a.base.StaysIn s.heap)(h:rL U.env)(c:uv a U b v)(q:R v s):aj M A (eval (.Name b p) U.env) R E s:=xP (En B D h c.k c.g c.b q) c.d
structure om (st:St) (fr:aF) (nm:Str) (v:Value):Prop where
 k:fr.env.kindOf nm=some .globalImplicit
 g:st.mg nm=some v
 d:(nm==("__debug__":Str))=false
theorem vV{U:aF}{s:ah}(B:eB a)(D:a.base.StaysIn s.heap)(h:rL U.env)(c:om a U b v)(q:R v s):aj M A (eval (.Name b p) U.env) R E s:=xP (Kv B D h c.k c.g q) c.d
theorem Zs:∀j:Fin 12,(("k":Str).length+(br<|xQ ((j:Nat):Int)).length)<=3:=by decide
theorem TV{U:St}{j:Nat}(h9:j<12)(q:∀M y,R (.str (("k":Str)++(xQ (j:Int):Str)) M) {s with toks:=y}):aj (ao U.prog U.w) A (binaryOp .Add (.str "k" t)<|.str (xQ j) M) R E s:=PyProof.Rows.add_str (λM y=>q M y) (am (Zs ⟨j,h9⟩) (by refine aa oK ?_;decide))
theorem Xy(o:eB a)(w:306+12<=a.N)(z:∀i:Nat,i<12->a.sd (306+i)=(("k":Str)++(xQ (i:Int):Str)))(c:uv a U b<|.type "str")(R:Ev a cx U n m e)(B:dJ e=T):Ev a cx U n (.kstr m) (.BinOp (.Constant (.str "k") k p1) .Add (.Call (.Name b p2) [e] [] p3) p):=λA l H s Q X y Y h=>by{
have f:[e].all dJ=T:=by refine aa nB<|aa B ?_;rfl
refine wpAny_BinOp<|aaf<|sy J<|qP o (Y.toks<|s.toks+1).base y.ek c<|GM (eA f)<|jj (eA f) ?_;refine let D:=_;let C:=_;(?_:aj _ _ _ D C _)
refine aa (mJ B)<|oR<|bF Go.toks (R A l H _ _ X y (Y.toks<|s.toks+1) h) λv h0 x d r L g G q=>xR ?_;obtain⟨i,rfl,⟨u,E⟩,I⟩:=fJ q;refine af (r) λt O=>?_;clear q r g C f h Y y B R c o m;subst O;refine af (uM u) λj O=>?_;clear u;subst O;have h9:=cM.mp E;refine P.str_of_int (cN (Nat.log2_le_self _) (lX h9 (by decide)))<|TV h9 λM Z=>⟨.str _,d,?_,L.toks Z,G.trans Go.toks,I⟩;rw[GP];exact⟨cO (aag h9 _) w,M,by exact aa (z j h9) J⟩}
structure NP (st:St):Prop where
 pg:∀c d,st.ct c=some d->d.isExc=false->plainGet st.K d.addr "__class__"=true/\ij st.K (.ref d.addr) "__class__"=some (some (.builtin "object.__class__"))/\jg st.K d.addr (.type "object")=some true
 hn:BE st.K (.builtin "object.__class__") "__get__"=some (some (.builtin "getset_descriptor.__get__"))
 tk:takesIn st.K (.builtin "object.__class__")=some true
 ne:∀c d c' d',st.ct c=some d->st.ct c'=some d'->d.isExc=false->d'.isExc=false->c<1000->c'<1000->c≠c'->kin_not st.K d.addr d'.addr=true
theorem Ss{u:Nat->Prop}(h:Ew u o):∃c i D,o= .inst c i D/\u c:=by{
induction o using MO.casesOn with
|inst c i D=>exact(Cc c i D J h)
|_=>exact h.elim}
theorem J2{Q:QV}(D:hZ y j)(I:NP y)(C:y.ct c=S d)(X:c<1000)(f:d.isExc=F)(Y:aq y U l H s)(r:aE y s.heap x v)(q:iS x λa=>cB (H a) λo=>Ew (λB=>Q (.bool<|B==c) H) o):aj (ao y.prog y.w) A (call (.builtin "isinstance") [v,.ref d.addr]) (bH y U l (aE y) H s Q) E s:=by{
refine let p:=_;(?_:p)
obtain⟨a,rfl,q⟩:=lJ q;subst r;obtain⟨o,u,q⟩:=cU q;refine Wa (Ss q) λB i fs P q=>?_;subst P;obtain⟨⟨d',R,w,h⟩,_⟩:=Y.rep _ _ u;refine lH (yZ Y u R) λes k n Z M r3=>?_;have g:=D.B.X.keeps Y.base;have G:∀b t,(B==c)=b->bH y U l (aE y) H s Q (.bool b) _:=λb t e=>dR Y t (au e rg) q;by_cases z:B=c
.clear r3 M Z u Y;subst z;replace R:=C▸R;(obtain rfl:=aA R);exact isi_call g (λ_=>n.type) (by unfold W.isIn;refine aa (beq_self_eq_true ..) ?_;rfl) (λq=>(by cases q))<|G _ _<|beq_self_eq_true _
·(refine ai (λO L=>?_)<|I.pg _ _ R w;refine ai (λp2 m=>?_)<|L)
 exact kin_callC g n (I.ne _ _ _ _ R C w f h X z) O (D.cls _ _ R w).dict p2 I.hn I.tk m<|G _ _<|beq_eq_false_iff_ne.mpr z}
def AF(u:Frag)(C:Addr):Bool:=match u.lookup C with
 |some ⟨_,_,.cls G,f⟩=>!G.hasDel&&(f.toList[4]?).join==S (.builtin "Exception.__new__")&&!G.mro.isEmpty&&G.mro.contains (.ref C)&&G.mro.contains (.type "Exception")&&!G.mro.contains (.type "AttributeError")&&!G.mro.contains (.type "NameError")&&
   BE u (.ref C) "__call__"==S (S<|.builtin "type.__call__")&&instIn u (.ref C) (.type "type")==S T
 |_=>F
inductive Eu (M:nu) (h:Heap) (C:Addr):Prop
 |mk (obj:∃oc od cd sl,h.get? C=some ⟨oc,od,.cls cd,sl⟩/\cd.hasDel=false/\cd.mro.isEmpty=false) (made:dy M h (aah (.ref C)) (some "Exception.__new__")) (base:dy M h (Bind.staticBase (.ref C)) (.ref C)) (self:dy M h (xH (.ref C) (.ref C)) true) (exc:dy M h (xH (.ref C) (.type "Exception")) true) (noA:dy M h (xH (.ref C) (.type "AttributeError")) false) (noN:dy M h (xH (.ref C) (.type "NameError")) false) (call:dy M h (specialOf (.ref C) "__call__") (some (.builtin "type.__call__"))) (typ:dy M h (Pd (.ref C) (.type "type")) true)
theorem IY(a:dy M h (mroOf<|.ref C)<|c::l)(b:h.get? C=S ⟨y,B,.cls G,f⟩)(Y:(f.toList[4]?).join=S (.builtin "Exception.__new__")):dy M h (aah<|.ref C) (S "Exception.__new__"):=by intro A Q E s k q;refine ag<|a A _ E s k ?_;refine aa (BF ..) ?_;refine ag<|ag<|ag<|ag<|xJ (k _ _ b)<|av<|lY▸Y▸?_;exact av<|av<|av q
theorem Qf{u:Frag}(X:u.In h)(e:AF u C=T):Eu M h C:=by{
delta AF at e;generalize Y:u.lookup C=o at e
induction o using aV with
|none=>exact ak e
|some o=>{
obtain⟨y,B,x,f⟩:=o
induction x using aai with
|cls G=>{
simp only[kc,Oo,beq_iff_eq] at e;obtain⟨⟨⟨⟨⟨⟨⟨⟨I,n⟩,j⟩,O⟩,R⟩,a⟩,d⟩,g⟩,i⟩:=e;have p:uN u C=S G:=by unfold uN;exact aa Y aT
have m:dy M h (mroOf<|.ref C) G.mro:=(xK X p).andThen .now;have sub:∀b r,G.mro.contains b=r->dy M h (xH _ b) r:=λb r z=>uO X (by unfold jg;rw[p,Option.bind_some,if_neg (by refine aa j ?_;decide),z])
induction t:G.mro using aS with
|nil=>replace j:=t▸j;exact ak j
|cons c l=>
 replace m:=t▸m;exact⟨⟨y,B,G,f,X _ _ Y,I,j⟩,(IY m (X _ _ Y) n),(λA Q E s k q=>by refine ag<|m A _ E s k ?_;refine aa (BF ..) ?_;exact ag<|ag<|ag<|(IY m (X _ _ Y) n) A _ E s k<|av<|av<|av q),sub _ _ O,sub _ _ R,sub _ _ a,sub _ _ d,looks_specialIn X g,looks_instIn X i⟩}
|_=>exact ak e}}
abbrev sN (i:List Value):Obj:={cls:=.type "tuple",data:=.seq i.toArray}
abbrev rO (C t:Addr):Obj:={cls:=.ref C,data:=.fields #[.ref t,.none,.none,.none,.bool F,.none]}
open PySem.Bind in
theorem Zx{R:jC->ah->Prop}(Y:Eu (ao H w) h C)(E:i.length<=1000)(o:R (.ok<|.ret<|.ref<|h.objs.size+1) ⟨(h.push<|sN i).push<|rO C h.objs.size,g,d,t,m⟩):gN (ao H w) A (.call (.builtin "Exception.__new__") ⟨.ref C::i,[]⟩) R ⟨h,g,d,t,m⟩:=by{
refine let l:=_;(?_:l)
obtain⟨⟨y,B,G,f,M,I,Q⟩,u,c,q,X,n,a,call,s⟩:=Y;have j:=PySem.F.excBase_Exception;have e:=j.ends;have b:i.length<=jD:=by refine aa oK ?_;exact am E (by decide)
refine codeAny_call_builtin_code (GA _ j.quiet) ?_;rw[Gf,j.newKind,j.newSplit,j.newRow]
dsimp only
repeat (first|refine DX (by first|decide|(rw[bne_self_eq_false];decide)) ?_|lk)
refine PySem.codeAny_builtinAt j.entry<|aaj ?_;refine aaj<|PySem.wpAt_stack λp k=>aak ?_
wp_walk
refine aak ?_;refine let P:=_;let r:=_;(?_:aj _ _ _ P r _)
refine aa j.owner ?_
repeat (first|refine DX (by decide) ?_|lk)
rw[if_neg (by exact aa lZ<|je.mpr b)];refine ag<|Pe<|av<|ag ?_;delta newObj;show aj _ _ (if 6>jD+2 then _ else _) _ _ _;rw[if_neg (by refine aa oK ?_;decide)];refine ag<|Pe<|ag<|ag<|uF (cu _<|cu _ M)<|av ?_;refine aa I<|av<|av ?_;exact aa (Y2 ..) o}
theorem I6{A:aI}(Y:Eu (ao H w) h C)(E:i.length<=1000)(Z:dy (ao H w) h (oP (.ref C) "__init__")<|S n)(D:∀q,dy (ao H w) h (bindSpecial n q) (n,[q]))(hq:gN (ao H w) (A.under<|.builtin "type.__call__" ⟨.ref C::i,[]⟩) (.call n ⟨.ref (h.objs.size+1)::i,[]⟩) (InitBack (h.objs.size+1) R) ⟨(h.push<|sN i).push<|rO C h.objs.size,g,d,t,m⟩):gN (ao H w) A (.call (.ref C) ⟨i,[]⟩) R ⟨h,g,d,t,m⟩:=by{
refine let p:=_;(?_:p)
have O:=Y;obtain⟨⟨y,B,G,sl,M,I,Q⟩,h0,c,q,X,h1,a,call,s⟩:=Y;refine OH<|nd_load M ?_;show aj _ _ (aal _ _) _ _ _;refine ag<|call.at ?_
dsimp only
refine aa (tc_bind ..)<|ag<|av<|ag<|av ?_;refine av (a:=Fin.again<|.call _ ⟨.ref C::i,[]⟩)<|cj tt ?_;refine codeAny_call_builtin_at (GA _ (by decide+kernel)) entry_typeCall<|GQ tc_kind tc_split s (tc_args _ _ _) ?_;refine let P:=_;let zb:=_;let j:=_;let U:=_;let x:=_;let l:=_;(?_:aj P zb j U x l)
have hm:dy (ao H w) h (mroOf<|.ref C) G.mro:=((oS M).andThen .now).andThen .now
repeat (first|refine DX (by first|decide|(rw[Q];decide)) ?_|with_reducible refine uH ?_|lk)
refine Zx O E ?_;have k:∀b o,h.get? b=S o->((h.push<|sN i).push<|rO C h.objs.size).get? b=S o:=λb o e=>cu _<|cu _ e;have f:((h.push<|sN i).push<|rO C h.objs.size).get? (h.objs.size+1)=S (rO C h.objs.size):=by heap_get
have L:dy (ao H w) ((h.push<|sN i).push<|rO C h.objs.size) (qs<|.ref<|h.objs.size+1) _:=(oS f).andThen .now;have s1:=q.keeps k;have i1:=Z.keeps k;have b1:=(D<|.ref<|h.objs.size+1).keeps k
repeat (first|with_reducible refine uH ?_|lk)
refine let P:=_;(?_:gN _ _ _ P _)
refine GB hq λr u z=>?_;rcases r with e|(v|_|_|_)<;>first|exact z|exact z.elim|skip
obtain⟨rfl,z⟩:=z;exact av<|av z}
structure yn (st:St) (ft:Nat->Option FD) (d:CD):Prop where
 keep:keepIn st.K (.ref d.addr)=true
 make:d.isExc=false->makesIn st.K d.addr=true
 makeX:d.isExc=true->AF st.K d.addr=true
 init:∃e,ft d.init=some e/\ij st.K (.ref d.addr) "__init__"=some (some (.ref e.addr))/\sj st.K (.ref e.addr)=some (.type "function")
theorem Ws(C:Addr)(i:List Value):(xw "type.__call__" ⟨.ref C::i,[]⟩).weight=1:=by show(xw "type.__call__" ⟨.ref C::i,[]⟩).frames+1+(if guardIds.contains "type.__call__" then 1 else 0)+0=1;refine au (show guardIds.contains "type.__call__"=F by decide+kernel) ?_;rfl
theorem LH(h:bN A U n b):tM (A.under<|.builtin "type.__call__" ⟨.ref C::i,[]⟩) U n b:=by{
refine⟨h.hd,?_,?_,?_⟩
.show pushEnvs (Code.envs<|.builtin "type.__call__" ⟨.ref C::i,[]⟩) A.frames=_;exact aa (show Code.envs _=[] from rfl) h.at_.stack
.show A.depth+Code.weight _+2*n+3<su;refine aa (Ws ..) ?_;rw[oL A.depth];exact h.dep
.show A.units+Code.cUnits _+40*n+64<dY;have:(xw "type.__call__" ⟨.ref C::i,[]⟩).cUnits<=30:=by
  have G:(xw "type.__call__" ⟨.ref C::i,[]⟩).frames=0:=J;show 1+3*(xw "type.__call__" ⟨.ref C::i,[]⟩).frames<=30;refine aa G ?_;decide
 rw[oL A.units];exact cN (am (sA (gM this _) 64) (gM (by decide:30+64<=100) _)) h.uni}
theorem Lr{cx:Cx}{d:CD}(C:nh c j n cx.call)(y:bN A U n cx.hn)(f:kN c U l I i m g)(r:RepL c i.heap L Z)(s:∀b o,i.heap.get? b=S o->g.heap.get? b=S o)(t:j d.init=S e)(k:cx.call cx.hn d.init (.ref a::L) (wf Q a) X m):gN (ao c.prog c.w) (A.under<|.builtin "type.__call__" ⟨.ref d.addr::Z,[]⟩) (.call (.ref e.addr) ⟨.ref a::Z,[]⟩) (InitBack a<|mL c U l I i Q X) g:=by{
refine let p:=_;(?_:p)
obtain⟨G,h,B⟩:=C (A.under _) U _ l _ _ d.init _ _ _ X (LH y) f.S (wm qT<|r.keep<|fP s) k;rw[t] at h;(obtain rfl:=aA h);exact GB B λr u z=>by{
induction r using uI with
|error e=>exact cS.trans f.G z
|ok w=>induction w using xI with
 |ret v=>
  refine let p:=_;(?_:p)
  obtain⟨x,Y,r,E,D,q⟩:=z
  induction x using V.casesOn with
  |none=>exact⟨r,.ref a,Y,J,E,f.G.trans D,q⟩
  |_=>exact q.elim
 |_=>exact z}}
theorem Rx{cx:Cx}(D:hZ t j)(C:nh t j n cx.call)(R:cx.ct=t.ct)(ha:lh t cx U n a es)(O:es.all dJ=T)(m:t.ct c=S d)(hl:c<1000)(E:yn t j d)(G:om t U nm<|.ref d.addr):Ev t cx U n (.new c a) (.Call (.Name nm p) es [] h9):=λA l H s Q X y Y h=>by{
refine sy J<|vV D.B Y.base y.ek G ?_;refine callWith_of (by refine(eA O).symm▸?_;rfl) (keeps_K E.keep)<|jj (eA O)<|bF Go.refl (ha A l H s _ X h9 y Y h) λZ i L I r f g G' k=>⟨D.B.X.keeps f.base,?_⟩;refine let Gz:=_;(?_:Gz)
have z:=D.B.X.keeps f.base;refine af (E.init) λe h1=>ai (λu h2=>?_)<|h1;refine ai (λh0 hf=>?_)<|h2;replace k:=m▸R▸k;have k:oo cx X Q c L I d:=k;delta oo at k;have P:i.heap.get? (i.heap.objs.size+1)=N:=gq<|si _;have w:t.d9 c=d.addr:=by unfold St.d9;exact aa m J
have x:∀v o2 b o,i.heap.get? b=S o->((i.heap.push v).push o2).get? b=S o:=λv o2 b o e=>cu _<|cu _ e
induction B:d.isExc using aX with
|false=>{
rw[B,if_neg kS] at k;have M:=f.new (o:=.inst c i.heap.objs.size []) (t:=i.toks) (x xS<|qh d.addr i.heap.objs.size) P (λb hb=>by cases cJ.mp hb;exact⟨(gq<|cD _),fu<|iO _⟩)
 ⟨⟨d,m,B,hl⟩,by refine aa w ?_;heap_get,⟨[],0,cu _<|eD _ ff,J⟩,λp O=>(by cases O)⟩
exact wI G'<|make_core (makes_of z<|E.make B) (xT z h0) (λq=>bind_fn z q hf) (.inl J)<|Lr C y M r (x _ _) u<|k _ i.heap.objs.size<|f.i8 P}
|true=>{
rw[B,if_pos J] at k;have M:=f.new (o:=.exc c N N []) (t:=i.toks) (x (sN Z)<|rO d.addr i.heap.objs.size) P (λb hb=>(by cases hb))
 ⟨#[.ref i.heap.objs.size,.none,.none,.none,.bool F,.none],⟨d,m,B,λ_=>J⟩,by refine aa w ?_;heap_get,iO 5,J,J,λp O=>(by cases O)⟩
exact wI G' (I6 (Qf z<|E.makeX B) (by show Z.length<=1000;refine aa r.len ?_;exact am k.1 (by decide)) (xT z h0) (λq=>bind_fn z q hf)<|Lr C y M r (x _ _) u<|k.2 _<|f.i8 P)}}
section
open PySem PySem.W PySem.Calls PyProof.Rows PySem.SeqAt PySem.MeetsSeq Builtin Builtin.ObjectAttr
def xp:List Value->Bool
 |.ref _::r=>xp r
 |l=>l==[.type "Exception",.type "BaseException",.type "object"]
theorem Yc(q:Value):xp l=T->refuseLoop q "__setattr__" l=pure ():=by{
induction l with
|nil=>exact λe=>ak e
|cons x r Z=>{
induction x using aam with
|ref c=>exact λe=>(refuseLoop_ref ..).trans<|Z e
|type n=>exact λe=>aa (beq_iff_eq.mp e) (by kernel_rfl)
|_=>exact λe=>absurd (Bf.inj<|beq_iff_eq.mp e).1 λz=>Value.noConfusion z}}
structure nW (st:St) (d:CD):Prop where
 get:ij st.K (.ref d.addr) "__getattribute__"=some (some (.builtin "BaseException.__getattribute__"))
 geta:ij st.K (.ref d.addr) "__getattr__"=some none
 dict:GC st.K d.addr=true
 set:ij st.K (.ref d.addr) "__setattr__"=some (some (.builtin "object.__setattr__"))
 over:((uN st.K d.addr).any λcd=>xp cd.mro)=true
 obj:jg st.K d.addr (.type "object")=some true
 bexc:jg st.K d.addr (.type "BaseException")=some true
 fld:∀n∈d.fields,n<st.N/\ij st.K (.ref d.addr) (st.sd n)=some none
theorem SV{u:Frag}{s:ah}(X:u.In s.heap)(I:InstAt s.heap x M C B)(a:ij u (.ref C) "__getattribute__"=S (S<|.builtin "BaseException.__getattribute__"))(R:ij u (.ref C) "__getattr__"=S N) (D:jg u C (.type "BaseException")=S T) (G:findObj u C B c=S (.value v)) (e:handedIn v=T) (h:Q v {s with toks:=s.toks+1}):aj (ao H w) A (getAttr (.ref x) c f) Q E s:=by{
obtain⟨O,g,d,t,m⟩:=s;have i:builtinKind "BaseException.__getattribute__"=S .slot:=by decide+kernel
have b:splitId "BaseException.__getattribute__"=S ("BaseException","__getattribute__"):=by decide+kernel
have n:(Pf "BaseException.__getattribute__"==Pf "object.__getattribute__")=F:=by decide+kernel
refine ag<|wpAny_mkText<|eT<|ag<|(I.type).at<|ag<|(xT X a).at ?_
dsimp only
rw[if_neg (by rw[n,ny];exact kS)];refine ag<|(xT X R).at<|ag<|wpAny_attempt<|eT ?_;delta callGetattribute boundAndCalled;rw[if_neg (by obtain⟨⟩:=f<;>decide)];refine let P:=_;let j:=_;(?_:aj _ _ _ P j _)
rw[aan.ga.bind];refine ag<|av<|uH<|Pg aan.ga.plain F.entry_bexc_ga<|@GQ (ao H w) _ _ ⟨O,g,d,t+1,m⟩ "BaseException.__getattribute__" "BaseException" "__getattribute__" (.ref x) _ [] _ i b ((I.type).andThen<|uO X D) (F.args_bexc_ga _ _)<|ag<|av<|ag<|av<|ag<|(I.type).at<|ag<|(looks_find X I G).at<|av ?_;show aj _ _ (handedOut v) _ _ _;exact aa (handedOut_of e)<|av h}
theorem Lo{A:aI}{d:Frag}{R:jC->ah->Prop}{s:ah}(X:d.In s.heap)(I:InstAt s.heap x M C j)(E:((uN d C).any λG=>xp G.mro)=T) (D:jg d C (.type "object")=S T) (O:ij d (.ref C) c=S N)(h:∀b,aj (ao H w) A.in1 (storeInOwnDict (.ref x) (.ref C) (.str c y) c v b) (λa u=>match a with|.done f=>R (.ok f) u|.again B=>B.quiet=T/\gN (ao H w) A B R u) (λe u=>R (.error e) u) s):gN (ao H w) A (.call (.builtin "object.__setattr__") ⟨[.ref x,.str c y,v],[]⟩) R s:=by
 refine let p:=_;(?_:p)
 refine af (GE E) λG L=>ai (λi Y=>Pg BG.slot.plain BG.entry<|@GQ (ao H w) _ _ s "object.__setattr__" "object" "__setattr__" (.ref x) _ [] _ BG.kind BG.split ((I.type).andThen<|uO X D) (BG.args _ _ v) ?_)<|L;have g:dy (ao H w) s.heap (mroOf<|.ref C) G.mro:=(xK X i).andThen .now;exact aa (osa_eq ..)<|aa (refuse_eq ..)<|ag<|ag<|(I.type).here<|ag<|g.here<|(Yc _ Y)▸av (ag<|(I.type).here<|ag<|(xT X O).here<|ag<|av<|h _)
theorem YI{Q:QV}(B:eB b)(C:nW b d)(Y:aq b U l H s)(e:H a=S (.exc c i u D))(m:b.ct c=S d)(R:cy D n=S x)(q:Q x H):aj (ao b.prog b.w) A (getAttr (.ref a) (b.sd n) y) (bH b U l (aE b) H s Q) E s:=by{
refine let p:=_;(?_:p)
obtain⟨Z,_,X,_,_,f,r⟩:=Y.rep _ _ e;have w:b.d9 c=d.addr:=by unfold St.d9;exact aa m J
have o:b.f7 c=d.fields:=by unfold St.f7;exact aa m J
replace X:=w▸X;replace r:=o▸r;clear o w m e
induction i using aV with
|none=>rw[show D=[] from f] at R;exact aD R
|some i=>obtain⟨j,k,t,M⟩:=f;have z:=M.get (C.fld n<|r _<|Aj R).1;rw[R] at z;refine af (z) λv L=>ai (λh g=>?_)<|L;have I:InstAt s.heap a _ d.addr (S<|qg j k):=⟨X,J,tt,t⟩;exact SV (B.X.keeps Y.base) I C.get C.geta C.bexc (findObj_own C.dict (C.fld n<|r _<|Aj R).2 tt h) (Ki g)<|dR Y _ g q}
theorem YJ{Q:MH->Prop}(h7:eB h0)(C:nW h0 d)(Y:aq h0 U l H s)(e:H a=S (.exc c i tb fs))(m:h0.ct c=S d)(O:n∈d.fields)(hz:fs.length<=1000)(r:aE h0 s.heap x v) (q:∀h3,(∀y,i=S y->h3=y)->Q (H.set a<|.exc c (S h3) tb<|cf fs n x)):aj (ao h0.prog h0.w) A (By (.ref a) (h0.sd n) v) (pP h0 U l H s Q) E s:=by{
refine let P:=_;let zb:=_;let j:=_;(?_:aj P _ zb j _ _)
obtain⟨Z,r0,X,rz,rt,r4,r5⟩:=Y.rep _ _ e;have w:h0.d9 c=d.addr:=by unfold St.d9;exact aa m J
have ef:h0.f7 c=d.fields:=by unfold St.f7;exact aa m J
have h1:=C.fld n O;have Xs:=h7.X.keeps Y.base;refine let Gz:=_;(?_:Gz)
refine af (GE C.dict) λcd L=>ai (λhc R=>?_)<|L;have h4:=λD u=>oA Y e λ_ _ _ _ z _=>z D<|xy.mp u;have fl:∀p∈cf fs n x,p.1∈h0.f7 c:=λp hp=>by{
rcases MU hp with h|⟨y,h2,M⟩
.refine aa h<|aa ef ?_;exact O
.exact M▸r5 y h2}
induction i using aV with
|some i=>{
obtain⟨es,k,t,r2⟩:=r4;have I:InstAt s.heap a _ d.addr (S<|qg es k):=⟨X,by exact aa w J,tt,t⟩;have h8:i≠a:=λq=>by have:=Y.apart.self _ _ e i<|mQ J;replace this:=e▸q▸this;cases this
refine OL Xs I C.set<|Lo Xs I C.over C.obj h1.2 λb=>?_;replace X:=w▸X;refine ag<|av<|ag<|ag<|xJ X<|ag<|OM (xK Xs hc) ?_;refine aa R<|av<|ag<|av<|ag<|BY t r2.j8 λh' hs g' f=>ag<|Gx g' (ON<|kU<|JZ r2 hz)<|av ?_;have up:=Y.upd (B:=.exc c _ tb<|cf fs n x) (t:=s.toks+1+1) e J (λb h2 M ob g=>(f.2 b (λq=>M (mQ (by exact aa q J)))).trans g)
 (qC f ⟨_,t⟩ ⟨_,g'⟩)
refine(up λtk=>⟨Z,r0,by exact aa (f.2 a<|eE h8)<|aa X<|aa w J,rz,rt.keep λD u ob eb=>(f.2 D λz=>(h4 D u).2 (by exact aa z J)).trans eb,⟨_,_,g',(r2.put h1.1 r).keep tk⟩,fl⟩).elim λS' G=>⟨_,S',G,q i λy z=>by(refine aa (aA z) ?_);rfl⟩}
|none=>{
subst(r4);have I:InstAt s.heap a _ d.addr N:=⟨X,by exact aa w J,tt,trivial⟩;have h5:s.heap.get? s.heap.objs.size=N:=gq<|cD _;have ne:=uJ<|ii X;refine OL Xs I C.set<|Lo Xs I C.over C.obj h1.2 λb=>?_;rw[w] at X;refine ag<|av<|ag<|ag<|xJ X<|ag<|OM (xK Xs hc) ?_;refine aa R ?_;have B:=cu {cls:=.type "dict",data:=.dict #[]} X;refine ag<|Pe<|ag<|OJ B<|av<|ag<|av<|ag ?_;refine let P:=_;let zb:=_;let j:=_;let zd:=_;let ze:=_;let h9:=_;(?_:aj P zb j zd ze h9)
have gd:((s.heap.push {cls:=.type "dict",data:=.dict #[]}).update a λo=>{o with dict:=S s.heap.objs.size}).get? s.heap.objs.size=S (qg [] 0):=(so _ _<|eE ne).trans (eD _ ff)
refine BY gd ff λh' hs g' f=>?_;refine let P:=_;let zb:=_;(?_:aj _ _ _ P zb _)
refine ag (Gx g' (ON (by simp[putL,jD]))<|av ?_);have kk:∀b,b≠a->∀ob,s.heap.get? b=S ob->h'.get? b=S ob:=λb hb ob eb=>(f.2 b λz=>by rw[z,h5] at eb;exact aD eb).trans<|(so _ _<|eE hb).trans<|cu _ eb;have h6:=(f.2 a<|eE ne).trans<|kW (λo=>{o with dict:=S s.heap.objs.size}) B ff;have up:=Y.m7 (B:=.exc c _ tb<|cf [] n x) (t:=s.toks+1+1) e (λz hz=>by
  exact wT hz (λz=>.inr<|au (aA z) h5) λz=>.inl<|nY z) (λb h2 _ ob g=>kk b h2 ob g) (λb ob eb=>by{
by_cases z:b=a
.exact⟨_,aa z h6⟩
.exact⟨ob,kk b z ob eb⟩})
exact(up λtk=>⟨Z,r0,by exact h6.trans<|aa w J,rz,rt.keep λD u=>kk D (h4 D u).1,⟨_,_,g',gR.put h1.1 (r.keep tk) J⟩,fl⟩).elim λS' G=>⟨_,S',G,q _ λy z=>by cases z⟩}}
end
namespace FB
theorem xi_ga:oP (.type "type") "__getattribute__"=pure (S<|.builtin "type.__getattribute__"):=KF.slot_tga.lookup
theorem xi_typ:qs (.type "Exception")=pure (.type "type"):=by kernel_rfl
theorem xi_find(u:Frag):ij u (.type "type") "__getattribute__"=S (S<|.builtin "type.__getattribute__"):=by kernel_rfl
theorem xi_sub(u:Frag):subIn u (.type "type") (.type "type")=S T:=by kernel_rfl
theorem xi_opaque:opaqueClassAbove (.type "Exception")=pure N:=by kernel_rfl
end FB
theorem Qu(h:vH Q H x n){C:Prop}(k_inst:∀(a:Addr) (c:Nat) (i:Addr) (D:List<|Nat×V) (y:V) (e:x= .ref a) (h:H a=S (.inst c i D)) (g:cy D n=S y) (q:Q y H),C)(k_exc:∀(a:Addr) (c:Nat) (i I:Option Addr) (D:List<|Nat×V) (y:V) (e:x= .ref a) (h:H a=S (.exc c i I D)) (g:cy D n=S y) (q:Q y H),C):C:=by{
obtain⟨a,e,h⟩:=lJ h;obtain⟨o,b,h⟩:=cU h
induction o using MO.casesOn with
|inst c i D=>obtain⟨y,g,q⟩:=cU h;exact k_inst a c i D y e b g q
|exc c i I D=>obtain⟨y,g,q⟩:=cU h;exact k_exc a c i I D y e b g q
|_=>exact h.elim}
theorem Lb(D:hZ b j)(O:∀c d,b.ct c=S d->d.isExc=T->nW b d)(Y:aq b U l H s)(r:aE b s.heap x v)(q:vH Q H x k):aj (ao b.prog b.w) A (getAttr v (b.sd k) T) (bH b U l (aE b) H s Q) E s:=by{
refine let p:=_;(?_:p)
refine Qu q (λa c i w y e h g u=>?_) λa c i G w y e h g u=>?_
.subst e;subst r;obtain⟨⟨d,m,f,_⟩,_⟩:=Y.rep _ _ h;have C:=D.cls _ _ m f;refine let p:=_;(?_:p)
 refine lH (yZ Y h m) λL P I t M n=>?_;have z:=M.get (C.fld k<|n _<|Aj g).1;rw[g] at z;refine aU z λv B o=>?_;exact get_value (D.B.X.keeps Y.base) I C.get (findObj_own C.dict (C.fld k<|n _<|Aj g).2 tt B) (Ki o)<|dR Y _ o u
.clear q;subst e;subst r;obtain⟨_,⟨d,m,f,_⟩,_⟩:=Y.rep _ _ h;exact YI D.B (O _ _ m f) Y h m g u}
theorem QZ(D:hZ a j)(p:∀c d,a.ct c=S d->d.isExc=T->nW a d)(R:Ev a cx U n m e)(O:b=a.sd k)(t:tf e=T):Ev a cx U n (.attr m k) (.Attribute e b h9):=λA l H s Q X y Y h=>by refine aa O ?_;exact Attribute_any_ (bF Go.refl (R A l H s _ X y Y h) λv i x I r f g G q=>fV G<|Lb D p f r q) (by show(do let o<-attributeBase e _ U.env _;_)=_;exact aa (NM t) J)
structure Lk (st:St) (C:Addr) (m:Nat) (f:Addr):Prop where
 reads:readsIn st.K C (.type "type")=true
 find:BH st.K (.ref C) (.type "type") (st.sd m)=some (.val (.ref f))
 ga:BE st.K (.ref C) "__getattribute__"=some (some (.builtin "type.__getattribute__"))
theorem QK{cx:Cx}(D:hZ t ft)(C:nh t ft n cx.call)(R:cx.ct=t.ct)(B:lh t cx U n ms j)(G:om t U q<|.ref d.addr)(hd:t.ct c=S d)(E:d.meths.lookup m=S f) (hf:ft f=S fe) (M:Lk t d.addr m fe.addr) (O:j.all dJ=T) (o:j.length<30) (u:(w.endLine==h9.line)=T) (v:b=t.sd m):Ev t cx U n (.callC c m ms) (.Call (.Attribute (.Name q p) b w) j [] h9):=λA l H s Q X y Y h=>by{
refine let P:=_;let zb:=_;let zc:=_;let zd:=_;(?_:aj P _ zb zc zd _)
subst v;obtain⟨f',a,h⟩:=cU h;replace a:=hd▸R▸a;cases E.symm.trans a;refine FE tt O o u<|vV D.B Y.base y.ek G<|method_cls (D.B.X.keeps Y.base) M.ga<|cls_value (D.B.X.keeps Y.base) M.reads M.find tt ?_;refine let z:=_;(?_:z)
refine af (D.fn _ _ hf) λoc h1=>af (h1) λod h2=>af (h2) λh3 x=>af (x) λfd ho=>Pc<|jj (eA O)<|bF Go.toks (B A l H _ _ X h9 y (Y.toks<|s.toks+1) h) λZ i L I r h0 g G' k=>⟨⟨D.B.X.keeps h0.base _ _ ho,J⟩,?_⟩;refine let z:=_;(?_:z)
refine aU (C A U _ l I i f L Z Q X y.k8 h0 r k) λd' e c'=>?_;replace e:=hf▸e;(obtain rfl:=aA e);exact wI G' c'}
theorem SY{u:Frag}{m:Gg}(X:u.In h)(b:dy M h (qs<|.ref a)<|.ref C)(D:jg u C (.type "Exception")=S T)(q:R () ⟨h,g,d,t,m⟩):aj M A (Gf "Exception.__init__" ⟨[.ref a,v],[]⟩) R E ⟨h,g,d,t,m⟩:=by
 refine af (gV.mp D) λG L=>ai (λe _=>?_)<|L;have c:dy M h (Pd _ _) T:=b.andThen<|uO X D;refine ag<|c.at<|ag ?_;refine let P:=_;(?_:aj _ _ _ P _ _)
 refine aa (if_neg (by decide))<|ag<|b.at<|ag<|ag<|(xK X e).at<|av<|av ?_;exact aa (if_pos (by decide))<|ag<|av<|wpAny_onRaise<|gw (check_star_args _ _ _ _ _ _) q
theorem oq.p0(e:k[1]?=Z[1]?)(r:oq h Z a):oq h k a:=by{
induction a using aV with
|none=>exact e.trans r
|some D=>obtain⟨u,y,I,O,x,d⟩:=r;exact⟨e.trans u,y,I,O,x,d⟩}
theorem VM{Q:QV}(h0:eB t)(Y:aq t U l H s)(e:H a=S (.exc c i tb fs))(R:∀d,t.ct c=S d->jg t.K d.addr (.type "Exception")=S T)(q:Q .none H):aj (ao t.prog t.w) A (call (.builtin "Exception.__init__") [.ref a,v]) (bH t U l (aE t) H s Q) E s:=by{
refine let P:=_;(?_:aj _ _ _ P _ _)
obtain⟨Z,⟨d,m,f,w⟩,X,I,h,r4,r⟩:=Y.rep _ _ e;have ea:t.d9 c=d.addr:=by unfold St.d9;exact aa m J
have L0:dy (ao t.prog t.w) s.heap (qs<|.ref a) (.ref d.addr):=au ea<|(oS X).andThen .now;refine let p:=_;(?_:p)
refine uH<|Pg aao.init.plain aao.initEntry<|SY (h0.X.keeps Y.base) L0 (R d m) ?_;refine let P:=_;let C:=_;let j:=_;let zd:=_;let x:=_;let h1:=_;(?_:aj P C j zd x h1)
have k:∀b o,s.heap.get? b=S o->(s.heap.push {cls:=.type "tuple",data:=.seq [v].toArray}).get? b=S o:=λb o e=>cu _ e;have M:0<Z.size:=lX (by decide) I;refine ag (nC ?_ (by show 1<=jD;refine aa oK ?_;decide));refine ag<|ag<|kR (k _ _ X) J (uA M)<|ag<|xL (k _ _ X) J M ?_;have h2:bH t U l (aE t) H s Q .none {s with heap:=(s.heap.push {cls:=.type "tuple",data:=.seq [v].toArray}).update a (kY (·.setIfInBounds 0 (.ref s.heap.objs.size)))}:=by{
have B:=kW (kY (·.setIfInBounds 0 (.ref s.heap.objs.size))) (k _ _ X)<|xM<|tO J _;have n:∀b,b≠a->∀L,s.heap.get? b=S L->((s.heap.push {cls:=.type "tuple",data:=.seq [v].toArray}).update a (kY (·.setIfInBounds 0 (.ref s.heap.objs.size)))).get? b=S L:=λb R L O=>(so _ _<|eE R).trans<|k b L O;have up:=Y.upd (t:=s.toks) e J (λb h3 _ L g=>n b h3 L g) (λb L O=>by{
by_cases z:b=a
.exact⟨_,by exact aa z B⟩
.exact⟨L,n b z L O⟩})
refine(up λtk=>⟨_,⟨d,m,f,λq=>by refine aa (GJ (by decide)) ?_;exact w q⟩,B,by exact aa Array.size_setIfInBounds I,(h.keep λD u=>n D ((λD u=>oA Y e λ_ _ _ _ z _=>z D<|xy.mp u) D u).1).p0 (GJ (by decide)),?_,r⟩).elim λS' G=>?_
.clear up B M k h1 x zd j C P p L0 ea w f m d r h I X Z R h0
 induction i using aV with
 |none=>exact r4
 |some y=>refine mv.keep tk (λL O=>n y (λz=>?_) L O) r4;have:=Y.apart.self _ _ e y<|mQ J;rw[z,e] at this;cases this
.rw[MH.j9 e] at S' G;exact⟨.none,H,J,S',G,q⟩}
split
.exact OG<|av h2
.exact av<|av h2}
theorem SC(D:hZ b ft)(hb:∀c d,b.ct c=S d->d.isExc=T->jg b.K d.addr (.type "Exception")=S T)(B:lh b cx U n t j)(z:uv b U q<|.type "Exception")(G:BH b.K (.type "Exception") (.type "type") "__init__"=S (.val<|.builtin "Exception.__init__")) (O:j.all dJ=T) (o:j.length<30) (u:(w.endLine==h9.line)=T):Ev b cx U n (.excInit t) (.Call (.Attribute (.Name q p) "__init__" w) j [] h9):=λA l H s Q X e Y h=>by{
refine let P:=_;let C:=_;let zc:=_;let zd:=_;(?_:aj P _ C zc zd _)
refine FE tt O o u<|qP D.B Y.base e.ek z ?_;refine let P:=_;let C:=_;(?_:aj _ _ _ P C _)
refine ag<|((uP FB.xi_typ).andThen<|uP FB.xi_ga).here ?_
dsimp only
refine aa (if_pos canon_tga)<|ag<|cls_open (D.B.X.keeps Y.base) (uP FB.xi_opaque) (uP FB.xi_typ) ?_ (uP J) ?_ G<|av ?_
.exact FB.xi_find b.K
.exact FB.xi_sub b.K
show aj _ _ (handedOut _) _ _ _;refine aa (handedOut_of (by decide+kernel))<|av<|av<|BB (eA O)<|jj (eA O)<|bF Go.toks (B A l H _ _ X h9 e (Y.toks<|s.toks+1) h) λZ i L I r f g G' k=>?_;refine let Gz:=_;(?_:Gz)
obtain⟨x,y,rfl,k⟩:=Ay k;obtain⟨a,rfl,k⟩:=lJ k;obtain⟨c,dx,tb,fs,E,k⟩:=Jk k;refine iC (yN r) λv h1 h0 r1 M=>?_;subst h0;clear M r g C P h Y e u o O G z B t;subst(r1);obtain⟨_,⟨d,m,hx,_⟩,_⟩:=f.rep _ _ E;exact fV G' (VM D.B f E (λd' R=>by replace R:=m▸R;(refine au (aA R) ?_);exact hb _ _ m hx) k)}
theorem ae.j7{l:ae}(h:j≠i):ae.at (l.set i v) j=l.at j:=by unfold ae.at;exact congrArg _<|aap<|eE h
theorem ae.n9{l:ae}(h:i<l.length):ae.at (l.set i v) i=v:=by unfold ae.at;exact congrArg _<|Ph h
theorem B7{c h C:Heap}(k:∀b o,h.get? b=S o->(∀Z,o.data≠.fields Z)->∃B,C.get? b=S B/\∀Z,B.data≠.fields Z):h.FunFrames c D->C.FunFrames c D:=by{
induction D with
|nil=>exact id
|cons env r a=>intro z;refine jy z λG O i=>?_;obtain⟨w,o,g,I,Y,Q⟩:=O;exact af (k w o Y Q) λB x=>⟨G,(fN w B g I x),a i⟩}
theorem aq.k9(Y:aq h0 U l H s)(R:a∈U.wr)(e:s.heap.get? a=S o)(A:r.get? a=S B)(hs:ma a s.heap r)(m:(∃j L,o.data= .dict j L)↔∃j L,B.data= .dict j L) (hq:(∀Z n,B.data≠.seq Z n)/\∀Z,B.data≠.fields Z) (w:ee s.heap r->∀p∈U.vis,dq h0 U.env r p.2<|C.at p.1):aq h0 U C H {s with heap:=r,toks:=t}/\Go U.fs U.wr H s H {s with heap:=r,toks:=t}:=by{
obtain⟨⟨c,v⟩,o1,g,u⟩:=Y.ownAt a<|Y.wrOwn a R;replace g:=e▸g;(obtain rfl:=aA g);have k:∀b Q,b≠a->s.heap.get? b=S Q->r.get? b=S Q:=λb Q D O=>(hs.2 b D).trans O;have G:Go U.fs U.wr H s H {s with heap:=r,toks:=t}:=.of (qC hs ⟨_,e⟩ ⟨_,A⟩) (λb Q _ hw O=>k b Q (λq=>hw<|aa q R) O) λ_ h=>.inl h;have y:ee s.heap r:=λb Q Z n O hc z=>k b Q (λq=>by subst q;replace O:=e▸O;(obtain rfl:=aA O);exact u Z n z) O;have I:∀b,cg H b->b≠a:=λb D q=>c<|q▸D;refine⟨⟨λb Q O=>k b Q (λq=>by replace O:=v▸q▸O;exact aD O)<|Y.base b Q O,λb Q O=>(Y.rep b Q O).keep y λd x od E=>k d od (I d ?_) E,Y.apart,Y.fresh,w y,Y.own,λb D=>?_,Y.wrOwn,B7 (λb Q O hf=>?_) Y.frm,λb D=>?_,Y.lim⟩,G⟩
.rcases x with rfl|x
 .exact iT O
 .exact .inr<|dm b Q O x
.obtain⟨X,Q,O,M⟩:=Y.ownAt b D;by_cases q:b=a
 .exact⟨X,B,aa q A,hq.1⟩
 .exact⟨X,Q,k b Q q O,M⟩
.by_cases q:b=a
 .exact⟨B,aa q A,hq.2⟩
 .exact(aG Q (k b Q q O) hf)
.refine let P:=_;(?_:wS _ P _)
 obtain⟨X,Q,j,L,O,M⟩:=Y.frmAt b D;by_cases q:b=a
 .clear D I y G g u v c w hq hs R Y C;subst q;rw[e] at O;(obtain rfl:=aA O);refine mw (m.mp ⟨j,L,M⟩) λi f h1=>?_;exact⟨X,B,i,f,A,h1⟩
 .exact⟨X,Q,j,L,k b Q q O,M⟩}
theorem jm.to(r:jm U env h x v)(e:∀c,env.cells.lookup x=S c->∀o,h.get? c=S o->C.get? c=S o)(k:∀y,jX U h v y->jX U C E y):jm U env C x E:=by obtain⟨c,o,y,q,X,M,A⟩:=r;exact⟨c,o,y,q,e c q o X,M,k y A⟩
theorem dq.imp(r:dq U env h x v)(f:zF U env h x v->zF U env C x E)(g:jm U env h x v->jm U env C x E):dq U env C x E:=by{
delta dq at r ⊢;generalize env.kindOf x=z at r ⊢
induction z using aV with
|none=>exact r
|some z=>induction z with
 |«local»=>exact f r
 |cell=>exact g r
 |free=>exact g r
 |_=>exact r}
theorem Me{h:Heap}(G:h.Ns a m)(M:h.Ns a d)(x:Str):m x=d x:=by obtain⟨o,j,D,g,I,_,Y⟩:=G;obtain⟨B,i,f,e,P,_,c⟩:=M;obtain rfl:=aA<|g.symm.trans e;injection I.symm.trans P with z;clear P e I g o a h;subst z;exact au (Y ..)<|au (c ..) J
theorem CW(Y:aq h1 U l H s)(j:pA U)(w:(i,b)∈U.vis)(h3:i<l.length)(t:U.env.kindOf b=S .local\/U.env.kindOf b=S .cell)(hw:∀a,kB U.env b=S a->a∈U.wr)(r:aE h1 s.heap x v)(q:∀u,aq h1 U (l.set i<|S x) H u->Go U.fs U.wr H s H u->R () u):aj M A (storeName U.env b v) R E s:=by{
have r0:=Y.loc _ w;unfold dq at r0;have f:∀p∈U.vis,p.2≠b->ae.at (l.set i<|S x) p.1=l.at p.1:=λp hp X=>ae.j7 λe=>X<|j.v1 p hp _ w e;have h2:∀p∈U.vis,p.2=b->ae.at (l.set i<|S x) p.1=S x:=λp hp e=>aa (j.v2 p hp _ w e)<|ae.n9 h3;refine dP (t) (λt=>?_) λt=>?_
.replace r0:=t▸r0;obtain⟨m,O,r1⟩:=r0;refine wpAny_storeName_local t O (λC k hs=>?_) (by refine aa j.ek.kind ?_;rfl);refine let Gz:=_;(?_:Gz)
 refine eg (id O) λo es D g e2 zr=>?_;obtain⟨eK,e5⟩:=zr;refine eg (id k) λB h4 h5 h0 h _=>?_;obtain⟨S',G⟩:=Y.k9 (hw _<|wl t) g h0 hs ⟨λ_=>(eG _ _ h),λ_=>(eG _ _ e2)⟩ ⟨λZ n z=>(by replace z:=h▸z;cases z),λZ z=>(by replace z:=h▸z;obtain⟨⟩:=z)⟩ λtk p hp=>by{
have rp:=Y.loc p hp;by_cases X:p.2=b
.refine aa (h2 p hp X) (aa X ?_);exact dq.m8 t k (by refine aa (if_pos J) ?_;exact⟨v,aT,r.keep tk⟩)
.refine aa (f p hp X) (rp.imp (λz=>?_) λz=>z.to (λc c1 o Q=>(hs.2 c<|j.cab _ _<|mem_of_lookup c1).trans Q) λ_ r=>r.keep tk);obtain⟨d,I,rp⟩:=z;exact⟨_,k,by refine aa (if_neg X) ?_;rw[Me O I];exact rp.keep tk⟩}
 exact q _ S' G
.replace r0:=t▸r0;obtain⟨c,oc,y,c1,Q,c3,r1⟩:=r0;refine wpAny_storeName_cell j.ek.kind t c1 (aG oc Q c3) λC zp hs=>af (zp) λB L=>ai (λh0 h=>?_)<|L;obtain⟨S',G⟩:=Y.k9 (hw _<|(Cf t).trans c1) Q h0 hs ⟨λ⟨_,_,z⟩=>(by replace z:=c3▸z;obtain⟨⟩:=z),λ⟨_,_,z⟩=>(by replace z:=h▸z;obtain⟨⟩:=z)⟩ ⟨λZ n z=>(by replace z:=h▸z;obtain⟨⟩:=z),λZ z=>(by replace z:=h▸z;obtain⟨⟩:=z)⟩ λtk p hp=>by{
have rp:=Y.loc p hp;by_cases X:p.2=b
.exact aa (h2 p hp X)<|aa X<|dq.m9 t c1 h0 h ⟨v,aT,r.keep tk⟩
.refine aa (f p hp X) (rp.imp (λz=>?_) λz=>z.to (λc' C o P=>(hs.2 c' λe=>X<|name_of_addr j.cap (mem_of_lookup C)<|aa e<|mem_of_lookup c1).trans P) λ_ r=>r.keep tk);obtain⟨d,I,rp⟩:=z;exact⟨d,I.sameBut hs<|eE<|j.cab _ _<|mem_of_lookup c1,rp.keep tk⟩}
 exact q _ S' G}
def Sx(a:St)(cx:Cx)(U:aF)(n:Nat)(m:MS)(e:Stmt):Prop:=∀(A:aI) (l:ae) (H:MH) (s:ah) (Q:Fl->ae->MH->Prop) (X:Addr->ae->MH->Prop),bN A U n cx.hn->aq a U l H s->pn cx X m Q l H->aj (ao a.prog a.w) A (exec e U.env) (eM a U H s Q) (gH a U H s X) s
def kJ(a:St)(cx:Cx)(U:aF)(n:Nat)(m:MSs)(e:List Stmt):Prop:=∀(A:aI) (l:ae) (H:MH) (s:ah) (Q:Fl->ae->MH->Prop) (X:Addr->ae->MH->Prop),bN A U n cx.hn->aq a U l H s->wpSs cx X m Q l H->aj (ao a.prog a.w) A (gP e U.env) (eM a U H s Q) (gH a U H s X) s
theorem eM.trans{U:aF}(G:Go U.fs U.wr H s I i)(p:eM b U I i Q f u):eM b U H s Q f u:=let⟨a,C,Y,r,c,g,q⟩:=p;⟨a,C,Y,r,c,G.trans g,q⟩
theorem gH.trans{U:aF}(G:Go U.fs U.wr H s I i)(p:gH b U I i X e u):gH b U H s X e u:=let⟨a,C,Y,r,c,g,q⟩:=p;⟨a,C,Y,r,c,G.trans g,q⟩
theorem hO{c:St}{U:aF}{X:Addr->ae->MH->Prop}{R:Heap->w->D->Prop}{t:Sem D}{b:w->MH->Prop}{u:D->ah->Prop}(G:Go U.fs U.wr j m H s)(h:aj (ao c.prog c.w) A t (bH c U l R H s b) (cS c U l H s λa H=>X a l H) s)(d:∀v i x I,R i.heap x v->aq c U l I i->Go U.fs [] H s I i->Go U.fs U.wr j m I i->b x I->u v i):aj (ao c.prog c.w) A t u (gH c U j m X) s:=bK h (λv i ⟨x,I,r,f,g,q⟩=>d v i x I r f g (G.trans g.d5) q) λ_ _ ⟨a,Y,e,E,g,q⟩=>⟨a,l,Y,e,E,G.trans g.d5,q⟩
theorem Di{a:St}{U:aF}(G:Go U.fs U.wr j m H s)(h:aj (ao a.prog a.w) A t (eM a U H s Q) (gH a U H s X) s):aj (ao a.prog a.w) A t (eM a U j m Q) (gH a U j m X) s:=bK h (λ_ _ p=>p.trans G) λ_ _ p=>p.trans G
theorem mX{U:aF}{Q:Fl->ae->MH->Prop}(G:Go U.fs U.wr j m H s)(Y:aq a U l H s)(q:Q .next l H):eM a U j m Q .next s:=⟨.next,l,H,J,Y,G,q⟩
theorem R2(u:Sx b cx U n m e)(B:kJ b cx U n a j):kJ b cx U n (.cons m a) (e::j):=λA l H s Q X y Y h=>by{
refine let P:=_;let C:=_;let g:=_;let k:=_;(?_:aj P _ C g k _)
refine aaq<|bK (u A l H s _ X y Y h) (λf i o=>?_) λ_ _ z=>z;obtain⟨p,x,c,r,d,G,q⟩:=o
induction p using Fl.casesOn with
|next=>exact aa r<|Di G<|B A x c i Q X y d q
|ret v=>(refine aU (r) λE O I=>?_;refine aa O ?_);exact⟨.ret v,x,c,(aG E J I),d,G,q⟩}
def tD(e:Expr):Bool:=!(dQ (Expr.ctorIdx e) 8||(dQ (Expr.ctorIdx e) 9||dQ (Expr.ctorIdx e) 10))
theorem yT(h:tD e=T):GR e t d env=pure F:=by obtain⟨⟩:=e<;>first|rfl|exact ak h
theorem WD(u:Tr d cx U n m e)(R:kJ d cx U n a w)(D:kJ d cx U n b O):Sx d cx U n (.ite m a b) (.If e w O h9):=λA l H s Q X y Y h=>by{
refine wpAny_If<|hO Go.refl (u A l H s _ _ _ y Y (λ_ _ q=>q) h) λt i c I j f g G q=>?_;subst j
induction t using aX with
|true=>exact Di G<|R A l I i Q X y f q
|false=>exact Di G<|D A l I i Q X y f q}
structure jM (fr:aF) (i:Nat) (nm:Str):Prop where
 vis:(i,nm)∈fr.vis
 kind:fr.env.kindOf nm=some .local\/fr.env.kindOf nm=some .cell
 wr:∀a,kB fr.env nm=some a->a∈fr.wr
theorem vv{cx:Cx}(O:jM U i b)(y:bN A U n cx.hn)(Y:aq a U l H s)(Z:i<l.length)(r:aE a s.heap x v)(q:∀u,aq a U (l.set i<|S x) H u->Go U.fs U.wr H s H u->R () u):aj M A (storeName U.env b v) R E s:=CW Y y.fo O.vis Z O.kind O.wr r q
theorem HK(a:Ev c cx U n m e)(d:GR e (S<|.Name b D) h9.line U.env=pure F)(O:jM U i b):Sx c cx U n (.asg i m) (.Assign [.Name b D] e h9):=λA l H s Q X y Y h=>by exact wpAny_Assign_Name (hO Go.refl (a A l H s _ _ y Y h.2) λv j x I r f g G q=>vv O y f h.1 r λu E w=>mX (G.trans w) E q) d
inductive nO (fr:aF):List Nat->List Expr->Prop
 |nil:nO fr [] []
 |cons {i:Nat} {nm:Str} {p:Pos} {is:List Nat} {es:List Expr} (h:jM fr i nm) (r:nO fr is es):nO fr (i::is) (.Name nm p::es)
theorem Nb{D:Type}[Decidable P]{x:Option D}{y:D}(h:(if P then x else N)=S y):P/\x=S y:=by{
by_cases c:P
.rw[if_pos c] at h;exact⟨c,h⟩
.rw[if_neg c] at h;exact aD h}
theorem QN{cx:Cx}(y:bN A U n cx.hn):∀{j:List Expr} {L:List V} {Z:List Value} {l C:ae} {s:ah} {a:MH} {m:ah},nO U w j->uo w L l=S C->RepL b s.heap L Z->aq b U l H s->Go U.fs U.wr a m H s->(∀u,aq b U C H u->Go U.fs U.wr a m H u->R () u)->aj M A (assignInOrder ((GT j U.env).map (·.2)) Z) R E s:=by{
induction w with
|nil=>{
intro j L Z l C s a m c h r Y G q;cases c
induction L using aS with
|nil=>exact r▸av (q s (aA h▸Y) G)
|cons=>exact aD h}
|cons i w d=>{
intro j L Z l C s a m c h r Y G q;refine let p:=_;(?_:p)
cases c with
|cons O c=>
induction L using aS with
|nil=>exact aD h
|cons x L=>obtain⟨v,k,rfl,X,e⟩:=r;have h:=Nb h;exact ag<|eT<|Pi<|vv O y Y h.1 X λu f g=>d c h.2 (e.keep<|Y.j3 g) f (G.trans g) q}}
theorem QQ(h:nO U w j):j.length=w.length:=by{
induction h with
|nil=>rfl
|cons _ _ Z=>exact congrArg rZ Z}
theorem D1(h:nO U w j):(GT j env).findIdx? (·.1)=N/\(GT j env).length=j.length:=by{
induction h with
|nil=>exact⟨J,J⟩
| @cons i b p w j _ _ Z=>exact⟨(Pj).trans (by exact aa Z.1 J),congrArg rZ Z.2⟩}
theorem Vl:∀{L:List V} {l C:ae},uo w L l=S C->w.length=L.length:=by{
induction w with
|nil=>intro L l C h;induction L using aS with
 |nil=>rfl
 |cons=>exact aD h
|cons i w Z=>intro L l C h;induction L using aS with
 |nil=>exact aD h
 |cons x L=>exact congrArg (·+1)<|Z (Nb h).2}
theorem KJ{cx:Cx}(y:bN A U n cx.hn)(t:A.handled=N)(c:nO U w j)(Y:aq d U l H s)(G:Go U.fs U.wr z m H s)(r:aE d s.heap (.tup L) v)(h:uo w L l=S C)(q:∀u,aq d U C H u->Go U.fs U.wr z m H u->R () u):aj (ao d.prog d.w) A (assign (.Tuple j k M) U.env v) R E s:=by
 refine let p:=_;(?_:p)
 refine eg (KP r) λa Z D P g B=>?_;subst P;obtain⟨X,I⟩:=B;refine ag<|gO ?_;unfold unpack;refine ai (λx f=>?_)<|D1 (env:=U.env) c;refine aa x<|aa f<|ag<|eT ?_;rw[show j.length=Z.size by exact aa (QQ c)<|aa (Vl h)<|aa I J];exact unpackItems_tuple t (bl _ g J ⟨D,J⟩) λO i=>QN y c h (X.keep<|fP λb o e=>i b o (fu<|ii e) e) ((Y.ext λb o e=>i b o (fu<|ii e) e).1) (G.trans ((Y.ext λb o e=>i b o (fu<|ii e) e).2).d5) q
def Ap(e:Expr):Bool:=!dQ (Expr.ctorIdx e) 25
theorem Zz(h:Ap e=T):Pk [.Tuple j k D] e env=pure N:=by obtain⟨⟩:=e<;>first|rfl|exact ak h
theorem WE(a:Ev b cx U n m e)(d:tD e=T)(o:Ap e=T)(c:nO U w j):Sx b cx U n (.asgT w m) (.Assign [.Tuple j k D] e h9):=λA l H s Q X y Y h=>by
 refine Assign_Tuple (hO Go.refl (a A l H s _ _ y Y h.2) λv i x I r f g G q=>?_) (show GR e (S<|.Tuple j k D) h9.line U.env=pure F from yT d)<|Zz o;refine let p:=_;(?_:p)
 obtain⟨Z,rfl,q⟩:=MZ q;obtain⟨C,B,q⟩:=cU q;exact KJ y (y.hd h.1) c f G r B λu E t=>mX t E q
theorem YE(h:IV g R n x o){C:Prop}(k_inst:∀(c:Nat) (i:Addr) (D:List<|Nat×V) (e:o= .inst c i D) (d:CD) (m:g c=S d) (z:(d.fields.contains n&&et D.length 1000)=T) (q:R<|.inst c i<|cf D n x),C)(k_exc:∀(c:Nat) (i I:Option Addr) (D:List<|Nat×V) (e:o= .exc c i I D) (d:CD) (m:g c=S d) (z:(d.fields.contains n&&et D.length 1000)=T) (q:Ji R c I (cf D n x) i),C):C:=by{
revert h;generalize f:o=M;intro h
induction M using MO.casesOn with
|inst c i D=>obtain⟨d,m,z,q⟩:=cU h;exact k_inst c i D f d m z q
|exc c i I D=>obtain⟨d,m,z,q⟩:=cU h;exact k_exc c i I D f d m z q
|_=>exact h.elim}
theorem Ee{cx:Cx}{Q:MH->Prop}(D:hZ n j)(O:∀c d,n.ct c=S d->d.isExc=T->nW n d)(r:cx.ct=n.ct)(Y:aq n U l H s)(t:aE n s.heap a v)(w:aE n s.heap x u)(h:mC cx Q H a k x):aj (ao n.prog n.w) A (By v (n.sd k) u) (pP n U l H s Q) E s:=by{
refine let p:=_;(?_:p)
obtain⟨b,rfl,h⟩:=lJ h;obtain⟨o,g,h⟩:=cU h;subst t;refine YE h (λc i C e d m z q=>?_) λc i I C e d m z q=>?_
.clear h;subst e;obtain⟨⟨L,R,f⟩,_⟩:=Y.rep _ _ g;rw[r,R] at m;(obtain rfl:=aA m);rw[kc,Nat.ble_eq] at z;exact Tm D.B (D.cls _ _ R f) Y g R (Bc.mp z.1) z.2 w q
.clear h;subst e;obtain⟨_,⟨L,R,f,_⟩,_⟩:=Y.rep _ _ g;rw[r,R] at m;(obtain rfl:=aA m);rw[kc,Nat.ble_eq] at z;refine YJ D.B (O _ _ R f) Y g R (Bc.mp z.1) z.2 w λM B=>?_;clear m z f R L g p w Y r O D u
 induction i using aV with
 |none=>exact q M
 |some y=>exact aa (B y J) q}
theorem zX{a:St}{U:aF}{b:Unit->ah->Prop}(G:Go U.fs U.wr j m H s)(h:aj (ao a.prog a.w) A t (pP a U l H s C) E s)(k:∀u Y,aq a U l Y u->Go U.fs U.wr j m Y u->C Y->b () u):aj (ao a.prog a.w) A t b E s:=bK h (λ_ u ⟨Y,c,g,q⟩=>k u Y c (G.trans g.d5) q) λ_ _ e=>e
theorem AO:swapsWithSole [.Attribute o b D] e d env=pure F/\Pk [.Attribute o b D] e env=pure N:=by obtain⟨⟩:=e<;>exact⟨J,J⟩
theorem Uf{cx:Cx}(D:hZ t j)(M:∀c d,t.ct c=S d->d.isExc=T->nW t d)(R:cx.ct=t.ct)(Y:Ev t cx U n o z)(Z:Ev t cx U n m e)(O:b=t.sd k):Sx t cx U n (.setA o k m) (.Assign [.Attribute z b tp] e h9):=λA l H s Q X E h0 h=>by{
refine let P:=_;let C:=_;(?_:aj _ _ _ P C _)
refine aa O ?_;refine wpAny_Assign_stores (hO Go.refl (Z A l H s _ _ E h0 h) λu i x h1 r f g G q=>?_) AO.1 (AO (d:=0)).2;show aj _ _ (do
 let ov<-ux [u] (eval z U.env)
 BD tp.atName
 ux _ (By ov (t.sd k) u)
 release _ []) _ _ _
refine ag<|eT<|hO G (Y A l h1 i _ _ E f q) λv h3 y h4 I L w p q'=>ag<|gO<|ag<|eT<|zX p (Ee D M R L I (r.keep<|f.d6 w) q') λh5 h6 a h2 B=>wpAny_release<|mX h2 a B}
theorem A2{Q:MH->Prop}(Y:aq f U l H s)(e:H a=S (.list L))(r:aE f s.heap x v)(i:0<=k)(w:k.toNat<L.length)(h:k<2^63)(q:Q<|H.set a<|.list<|L.set k.toNat x):aj (ao f.prog f.w) A (setItem (.ref a) (.int k t) v) (pP f U l H s Q) E s:=by{
refine let P:=_;(?_:aj _ _ _ P _ _)
obtain⟨Z,⟨n,g⟩,X⟩:=Y.rep _ _ e;have o:=X.len;have c:s.heap.IsList a Z:=(bl _ g J ⟨n,J⟩);delta setItem
with_reducible refine eT ?_
refine ag (X2 c.typeIs (by decide)<|ag<|Gm c.typeIs aar<|uC aar c.typeIs entry_list_setitem ?_<|args_list_setitem _ _ _);refine let P:=_;(?_:aj _ _ _ P _ _)
show aj _ _ (Builtin.List.listSubscript? (.int k t)>>=_) _ _ s;refine ag<|wpAny_listSubscript_int (fitsIndex_of i h) ?_;clear h;refine af (uM i) λj O=>?_;subst O;rw[GP] at w q;have d:=o▸w;refine ag<|ag<|wpAny_seqItemAt g J<|av<|aa (uA d) ?_;have m:pP f U l H s Q () {s with heap:=s.heap.update a (nD (·.setIfInBounds j v))}:=by
 have R:=kW (nD (·.setIfInBounds j v)) g ff;obtain⟨p,G⟩:=Y.upd (B:=.list<|L.set j x) e J (λb D _=>AL (kT ..) b D) (qC (kT ..) ⟨_,g⟩ ⟨_,R⟩) λy=>⟨_,⟨_,R⟩,by exact aa Array.toList_setIfInBounds<|(X.set r j).keep y⟩
 exact⟨_,p,G,q⟩
refine ag<|wpAny_setSeqItemAt g J ?_
first
 |exact ag<|av<|av<|eG .none J<|av m
 |exact av ⟨.none,J,av m⟩}
theorem RS{A:aI}{Q:MH->Prop}(I:A.units+64<dY)(Y:aq f U l H s)(D:aE f s.heap a v)(e:aE f s.heap i P)(w:aE f s.heap x u)(h:vU Q H a i x):aj (ao f.prog f.w) A (setItem v P u) (pP f U l H s Q) E s:=by{
refine let p:=_;(?_:p)
obtain⟨b,rfl,h⟩:=lJ h;obtain⟨o,g,h⟩:=cU h;subst D
induction o using MO.casesOn with
|list L=>obtain⟨k,rfl,⟨r,Z,h3⟩,q⟩:=fJ h;obtain⟨t,rfl⟩:=e;exact A2 Y g w r Z (ql h3 (by decide)) q
|dict j=>{
obtain⟨k,hk,h,q⟩:=cU h;refine let p:=_;(?_:p)
have d:=Y.rep _ _ g;have z:=sz h.2;rcases rB e hk with⟨n,b,rfl,hr,G⟩|⟨i,rfl,G⟩|⟨M,b,rfl,rfl,G,O⟩
·(refine aU (zI d h.1) λc X m=>?_)
 exact aas G m (λC R B=>DE Y g q B (Et R) λy=>.s _ ((X.put wG hr w).keep y) R) (by exact aa X.len z)
.exact af (yw d h.1) λc h0=>ai (λX m=>aas G m (λC R B=>DE Y g q B (Et R) λy=>.i _ ((X.put AC J w).keep y) R) (by exact aa X.len z))<|h0
·(refine aU (sO d h.1) λc X m=>?_)
 exact wpAny_setItem_heap (Bu<|u1 I) G m (λC R B=>DE Y g q B (Da R) λy=>.t _ ((X.put O w).keep y) R) (by exact aa X.len z)}
|_=>exact h.elim}
def vQ:Op->Bool
 |.add|.sub=>T
 |_=>F
theorem NH{Q:QV}(c:vQ o=T)(Y:aq a U l H s)(r:aE a s.heap (.int x) v)(I:aE a s.heap y u)(h:wo Q H o (.int x) y):aj (ao a.prog a.w) A (inplaceOp (qU o) v u) (bH a U l (aE a) H s Q) E s:=by{
refine let d:=_;let C:=_;let j:=_;(?_:aj d _ C j _ _)
refine af (r) λt O=>?_;clear r;subst O;obtain⟨⟩:=o<;>first|cases c|skip
.obtain⟨b,rfl,h⟩:=fJ h;obtain⟨M,rfl⟩:=I;exact P.iadd_int<|dR Y _ ku h
.obtain⟨b,rfl,h⟩:=fJ h;obtain⟨M,rfl⟩:=I;exact P.isub_int<|dR Y _ ku h}
theorem Zk(ho:vQ o=T)(u:Ev h1 cx U n m e)(O:jM U i b)(G:(b==("__classdict__":Str))=F):Sx h1 cx U n (.aug i o m) (.AugAssign (.Name b D) (qU o) e h9):=λA l H s Q X M Z h=>by
 refine let P:=_;let C:=_;let j:=_;let zd:=_;(?_:aj P _ C j zd _)
 obtain⟨x0,f,h⟩:=cU h;obtain⟨x,rfl,h⟩:=fJ h;refine wpAny_AugAssign_Name<|Ig (Q:=λv Y=>v= .int x/\Y=H) Z M.ek.kind O.vis f G ⟨J,J⟩|>λz=>bK z (λv h2 E=>?_) λ_ _ z=>z;obtain⟨y,h5,r,h0,g,e1,e2⟩:=E;clear f Z G;subst e1 e2;refine hO g.d5 (u A l _ h2 _ _ M h0 h) λh6 h7 y d I L w p q=>bK (NH ho L (r.keep<|h0.d6 w) I q) (λh8 k E=>?_) λ_ _ z=>z;obtain⟨z,z0,h3,a,R,B⟩:=E;exact vv O M a B.1 h3 λc h4 t=>mX ((p.trans R.d5).trans t) h4 B.2
theorem Vw{cx:Cx}(D:hZ M ft)(XO:∀c d,M.ct c=S d->d.isExc=T->nW M d)(h0:cx.ct=M.ct)(Y:vQ o=T)(hb:Ev M cx U n ob eo)(u:Ev M cx U n m e)(O:b=M.sd k):Sx M cx U n (.augA ob k o m) (.AugAssign (.Attribute eo b tp) (qU o) e h9):=λA l H s Q X hA h1 h=>by{
refine let P:=_;let C:=_;let j:=_;let zd:=_;(?_:aj P _ C j zd _)
subst O;refine wpAny_AugAssign_AttributeAny<|hO Go.refl (hb A l H s _ _ hA h1 h) λv z3 x z4 r f g G q=>?_;refine let P:=_;let C:=_;(?_:aj _ _ _ P C _)
refine hO G (Lb D XO f r q) λz5 h2 y h3 h4 L I B w=>?_;obtain⟨x,rfl,w⟩:=fJ w;refine hO B (u A l h3 h2 _ _ hA L w) λz6 z7 z z8 i a R h5 h6=>bK (NH Y a (h4.keep<|L.d6 R) i h6) (λw' z9 E=>?_) λ_ _ z=>z;obtain⟨Z,x0,h7,h8,t,z0⟩:=E;exact zX (h5.trans t.d5) (Ee D XO h0 h8 (((r.keep<|f.d6 I).keep<|L.d6 R).keep<|a.d6 t) h7 z0) λx1 x2 z1 p z2=>mX p z1 z2}
theorem aq.i5(Y:aq c U l H s)(e:s.heap.get? I=S o)(m:o.cls= .type "tuple"->∀Z n,o.data≠.seq Z n)(g:¬cg H I)(u:I∉U.own/\I∉U.fs/\c.base.get? I=N)(k:∀b Q,b≠I->s.heap.get? b=S Q->C.get? b=S Q):aq c U l H {s with heap:=C,toks:=t}:=by{
refine let P:=_;(?_:aq _ _ _ _ P)
have X:∀b,cg H b->b≠I:=λb D q=>g<|q▸D;have y:ee s.heap C:=λb Q h n O i z=>k b Q (λq=>by subst q;rw[e] at O;(obtain rfl:=aA O);exact m i h n z) O;refine⟨λb Q O=>k b Q (λq=>by rw[q,u.2.2] at O;exact aD O)<|Y.base b Q O,λb Q O=>(Y.rep b Q O).keep y λd x B E=>k d B (X d ?_) E,Y.apart,Y.fresh,λp f=>(Y.loc p f).keep y λa w B E=>⟨B.slots,k a B (λq=>u.1<|q▸Y.own p f a w) E⟩,Y.own,λb D=>?_,Y.wrOwn,(Ip (λa R B E=>⟨B.slots,k a B (λq=>u.2.1<|q▸R) E⟩) Y.frm),λb D=>?_,Y.lim⟩
.rcases x with rfl|x
 .exact iT O
 .exact .inr<|dm b Q O x
.obtain⟨G,Q,O,M⟩:=Y.ownAt b D;exact⟨G,Q,k b Q (λq=>u.1<|q▸D) O,M⟩
.obtain⟨G,Q,j,r,O,M⟩:=Y.frmAt b D;exact⟨G,Q,j,r,k b Q (λq=>u.2.1<|au q D) O,M⟩}
theorem Go.i5(G:Go D w j m H s)(O:m.heap.get? I=N)(k:∀b Q,b≠I->s.heap.get? b=S Q->C.get? b=S Q):Go D w j m H {s with heap:=C,toks:=t}:=by{
refine let P:=_;(?_:Go _ _ _ _ _ P)
have X:∀a o,m.heap.get? a=S o->a≠I:=λa o e q=>by replace e:=O▸q▸e;exact aD e
refine⟨λa o e=>?_,λa o c M d e=>k a o (X a o e)<|G.keep a o c M d e,λa o c M e=>?_,G.mono⟩
·(refine af (G.there a o e) λB A=>?_)
 exact⟨B,k a B (X a o e) A⟩
·(refine af (G.slots a o c M e) λf A=>?_)
 exact⟨f,k a _ (X a o e) A⟩}
def Rt:List String:=["enumerate","zip","dict_itemiterator","dict_reverseitemiterator","odict_iterator","itertools.zip_longest","itertools.pairwise"]
structure kG (st:St) (A:aI) (I:Addr) (items:List V) (chk:MH->Prop) (S:Nat->Heap->Prop):Prop where
 obj:∀k h,S k h->∃o nm vs,h.get? I=some o/\o.cls= .type nm/\o.data= .fields vs/\Rt.contains nm=false
 keep:∀k h h',S k h->ee h h'->(∀o,h.get? I=some o->h'.get? I=some o)->S k h'
 self:∀(k:Nat) (s:ah) (R:Value->ah->Prop) (E:Value->ah->Prop),S k s.heap->R (.ref I) s->aj (ao st.prog st.w) A (pyIter (.ref I)) R E s
 next:∀(fr:aF) (l:ae) (H:MH) (s:ah) (k:Nat) (x:V) (R:Option Value->ah->Prop) (E:Value->ah->Prop),items[k]?=some x->aq st fr l H s->¬cg H I->chk H->S k s.heap->
  (∀v h' tk,aE st s.heap x v->S (k+1) h'->(∀b o,b≠I->s.heap.get? b=some o->h'.get? b=some o)->R (some v) {s with heap:=h',toks:=tk})->aj (ao st.prog st.w) A (xU (.ref I)) R E s
 done:∀(fr:aF) (l:ae) (H:MH) (s:ah) (k:Nat) (R:Option Value->ah->Prop) (E:Value->ah->Prop),items[k]?=none->aq st fr l H s->¬cg H I->chk H->S k s.heap->
  (∀h' tk,(∀b o,b≠I->s.heap.get? b=some o->h'.get? b=some o)->R none {s with heap:=h',toks:=tk})->aj (ao st.prog st.w) A (xU (.ref I)) R E s
theorem VJ{A:aI}(hh:A.handled=N)(X:a≠I):kG h0 A I L (λ_=>True) (λk h=>h.IsTupleIter I a k/\h.get? a=S {cls:=.type "tuple",data:=.seq Z D}/\RepL h0 h L Z.toList) where
 obj:=λk h ⟨⟨o,g,e2,Y⟩,_⟩=>⟨o,_,_,g,e2,Y,by decide⟩
 keep:=λk h C ⟨⟨o,g,e2⟩,Y,r⟩ y i=>⟨⟨o,i o g,e2⟩,y a _ Z D Y J J,r.keep y⟩
 self:=λ_ _ _ _ h q=>wpAny_pyIter_tupleiter h.1 q
 next:=λU l H s k x R E f h1 G _ ⟨t,P,r⟩ q=>by
  refine af (r.get f) λv h2=>ai (λw c=>wpAny_pyNext_tuple_item t (⟨_,P,J,D,J⟩) (by refine au (lY) ?_;exact w) λC M B=>?_)<|h2;refine let p:=_;(?_:p)
  have kk:∀b o,b≠I->s.heap.get? b=S o->C.get? b=S o:=λb o hb e=>(B.2 b hb).trans e;obtain⟨m,d,_,j⟩:=id t;exact q v C s.toks c ⟨M,kk a _ X P,r.keep (λb Q us n O _ z=>kk b Q (λq=>by subst q;replace O:=d▸O;(obtain rfl:=aA O);replace z:=j▸z;cases z) O)⟩ kk
 done:=λU l H s k R E f h1 G _ ⟨t,P,r⟩ q=>by
  have:=am (dr r.len)<|uL.mp f;exact wpAny_pyNext_tuple_end hh t (⟨_,P,J,D,J⟩) (GU this) λC u=>q C s.toks λb o hb e=>u b o hb e
theorem Zg{A:aI}(n:A.handled=N):kG Q A I L (λH=>H a=S (.list L)) (λk h=>h.IsListIter I a k) where
 obj:=λk h ⟨o,d,j,z⟩=>⟨o,_,_,d,j,z,by decide⟩
 keep:=λk h C ⟨o,d,j⟩ y i=>⟨o,i o d,j⟩
 self:=λ_ _ _ _ h q=>wpAny_pyIter_listiter h q
 next:=λU l H s k x R E f Y G u t q=>by
  refine let p:=_;(?_:p)
  obtain⟨Z,⟨m,g⟩,r⟩:=Y.rep _ _ u;exact af (r.get f) λv O=>ai (λw c=>wpAny_pyNext_list_item t ⟨_,g,J,m,J⟩ (by refine au (lY) ?_;exact w) λC M B=>q v C s.toks c M λb o D e=>(B.2 b D).trans e)<|O
 done:=λU l H s k R E f Y G u t q=>by
  obtain⟨Z,⟨m,g⟩,r⟩:=Y.rep _ _ u;have:=am (dr r.len)<|uL.mp f;exact wpAny_pyNext_list_end n t ⟨_,g,J,m,J⟩ (GU this) λC P=>q C s.toks λb o D e=>P b o D e
theorem yH:(jJ n)[k]?=if k<n then S (.int k) else N:=by{
induction n with
|zero=>exact(if_neg<|lV _).symm
|succ n Z=>{
have o:(jJ n).length=n:=by{
clear Z
induction n with
|zero=>rfl
|succ n Z=>exact(bV ..).trans<|congrArg rZ Z}
show(jJ n++[.int n])[k]?=_;rcases BI k n with h|h|h
.exact aa (xV<|o.symm▸h)<|aa Z<|aa (if_pos h)<|aa (if_pos<|uG h) J
.clear Z;refine aa h ?_;refine aa (uQ<|dr o)<|aa o<|aa (xW ..)<|aa (if_pos<|iO _) ?_;rfl
.rw[iP (by exact aa bV<|aa o h),if_neg<|je.mpr h]}}
theorem Tw:∀{k:Nat},(AJ b n)[k]?=if k<n then S (.int<|b+n-k) else N:=by{
induction n with
|zero=>exact(if_neg<|lV _).symm
|succ n Z=>{
intro k
induction k with
|zero=>exact au ((if_pos<|kf _).symm)<|congrArg (λi=>S<|V.int i)<|(mf b n 1).trans (Int.sub_zero _).symm
|succ k=>{
refine rY J<|Z.trans ?_;by_cases q:k<n
.exact aa (if_pos q)<|aa (if_pos<|aat q)<|aa (BJ ..)<|aa (BJ ..)<|au (mf ..)<|aa (Int.add_sub_add_right ..) J
.exact aa (if_neg q)<|aa (if_neg λz=>q<|sB z) J}}}
theorem Km{A:aI}(g:A.handled=N)(c:∀k:Nat,L[k]?=if k<n then S (.int<|a+d*k) else N):kG j A I L (λ_=>True) (λk h=>k<=n/\IsRangeIter h I (a+d*k) ((n:Int)-k) d) where
 obj:=λk h ⟨_,e⟩=>⟨_,_,_,e,J,J,by decide⟩
 keep:=λk h C ⟨f,e⟩ y i=>⟨f,i _ e⟩
 self:=λ_ _ _ _ h q=>wpAny_pyIter_rangeiter h.2 q
 next:=λU l H s k x R E w Y G _ ⟨f,t⟩ q=>by
  rw[c] at w;split at w
  ·(obtain rfl:=aA w)
   refine wpAny_pyNext_range_item t (Int.sub_pos_of_lt<|cM.mpr ‹_›) λC M B=>q _ C _ ⟨_,J⟩ ⟨‹_›,?_⟩ λb o D e=>(B.2 b D).trans e;exact aa (BJ ..)<|aa (Int.mul_add ..)<|au (mf ..)<|au (Int.sub_sub ..)<|aa (show d*(1:Nat)=d from Int.mul_one d) M
  .exact aD w
 done:=λU l H s k R E w Y G _ ⟨f,t⟩ q=>by
  rw[c] at w;refine let p:=_;(?_:p)
  split at w
  .cases w
  .exact wpAny_pyNext_range_end g t (aau<|dG.mpr<|je.mp ‹_›) λC u=>q C s.toks λb o D e=>u b o D e
theorem Dp(y:pH A U U.env)(h:gH d U j m X e u):nJ (ao d.prog d.w) A U.env (λe u=>BK (ao d.prog d.w) A U.env (gH d U j m X) e u) e u:=by
 refine let P:=_;(?_:nJ _ _ _ P _ _)
 obtain⟨a,C,Y,rfl,l,G,c,i,I,n,b,k,q⟩:=h;exact wB l y k λo D f p=>oA f MH.c5 λZ g E v _ _=>ag<|kR g J v.1<|(if_neg kS)▸qK f MH.c5 λr L B=>⟨a,C,_,J,L,(G.trans p.d5).trans B.d5,kQ.set k ⟨c,i,I,n,b,k,q⟩⟩
theorem Zo{l:List V}(h:Jg x=S l):x= .tup l:=by{
induction x using V.casesOn with
|tup i=>(refine aa (aA h) ?_);rfl
|_=>exact aD h}
theorem AV{D:Type}[Decidable P]{x y:D}(h:(if P then S x else N)=S y):P/\x=y:=by{
by_cases c:P
.rw[if_pos c] at h;exact⟨c,aA h⟩
.rw[if_neg c] at h;exact aD h}
theorem Nr(h:ID i j l L=S C):∃x y,L=[x,y]/\(i<l.length/\j<l.length/\i≠j)/\S ((l.set i<|S x).set j<|S y)=S C:=by{
induction L using aS with
|nil=>exact aD h
|cons x r=>induction r using aS with
 |nil=>exact aD h
 |cons y r=>induction r using aS with
  |cons _ _=>exact aD h
  |nil=>exact ai (λc e=>(fN x y J c<|congrArg S e))<|AV h}
inductive iW (fr:aF):Tg->Expr->Prop
 |one {i:Nat} {nm:Str} {p:Pos} (h:jM fr i nm):iW fr (.one i) (.Name nm p)
 |two {i j k:Nat} {n1 n2:Str} {p1 p2 p:Pos} (h1:jM fr i n1) (h2:jM fr j n2):iW fr (.two i j) (.Tuple [.Name n1 p1,.Name n2 p2] k p)
theorem DG{cx:Cx}(D:iW U t e)(i:bN A U n cx.hn)(k:A.handled=N)(Y:aq c U l H s)(G:Go U.fs U.wr j m H s)(r:aE c s.heap x v)(h:cT t x l=S C)(q:∀u,aq c U C H u->Go U.fs U.wr j m H u->R () u):aj (ao c.prog c.w) A (assign e U.env v) R E s:=by{
refine let p:=_;(?_:p)
induction D using iW.casesOn with
|one O=>refine ai (λd h=>?_)<|AV h;subst h;exact Pi<|vv O i Y d r λu w g=>q u w<|G.trans g
|two a b=>refine aU (gV.mp h) λL f h=>?_;cases Zo f;clear f;refine iC (Nr h) λx y o d e=>?_;subst o;exact KJ i k (.cons a<|.cons b .nil) Y G r ((if_pos d.1).trans ((if_pos (by exact aa GV d.2.1)).trans e)) q}
theorem CP{s:ah}(D:iW U t e)(B:kG a A I M i Y)(c:Y k s.heap)(q:R () s):aj (ao a.prog a.w) A (Pl e (.ref I) v) R E s:=by{
refine let P:=_;let C:=_;(?_:aj P _ C _ _ _)
induction D using iW.casesOn with
|one=>exact av q
|two=>{
induction v with
|ref b=>{
refine eg (B.obj k _ c) λo d Z g f h=>?_;obtain⟨j,Q⟩:=h;refine ag<|uF g<|aa f<|aa j ?_
dsimp only
rw[if_neg (by refine aa (kc ..) ?_;intro z;have:=z.1;rw[show(["enumerate","zip","dict_itemiterator","dict_reverseitemiterator","odict_iterator","itertools.zip_longest","itertools.pairwise"]).contains d=F from Q] at this;exact ak this)];exact av q}
|_=>exact av q}}
structure ju (st:St) (fr:aF) (I:Addr) (Sf:Nat->Heap->Prop) (H₀:MH) (s₀:ah) (k:Nat) (l:ae) (H:MH) (s:ah):Prop where
 S:aq st fr l H s
 G:Go fr.fs fr.wr H₀ s₀ H s
 off:¬cg H I
 at_:Sf k s.heap
structure hV (st:St) (fr:aF) (I:Addr) (s₀:ah):Prop where
 own:I∉fr.own
 fs:I∉fr.fs
 base:st.base.get? I=none
 new:s₀.heap.get? I=none
theorem ju.body(B:kG a A I M i c)(O:hV a U I m)(D:ju a U I c j m k l H s)(E:aq a U C Y u)(p:Go U.fs U.wr H s Y u):ju a U I c j m k C Y u:=by
 refine let d:=_;(?_:d)
 refine af (B.obj k _ D.at_) λo L=>af (L) λb y=>af (y) λZ x=>ai (λg _=>⟨E,D.G.trans p,λq=>(p.mono I q).elim D.off λz=>(by replace z:=g▸z;cases z),B.keep k _ _ D.at_ (D.S.j3 p) λo X=>p.keep I o D.off (λz=>O.own<|D.S.wrOwn I z) O.fs X⟩)<|x
theorem CM(B:kG d A I M i Y)(O:hV d U I m)(D:ju d U I Y j m k l H s)(t:i H)(q:match M[k]? with
   |some x=>∀v u,aE d u.heap x v->ju d U I Y j m (k+1) l H u->(∀b o,b≠I->s.heap.get? b=S o->u.heap.get? b=S o)->R (S v) u
   |none=>∀u,aq d U l H u->Go U.fs U.wr j m H u->(∀b o,b≠I->s.heap.get? b=S o->u.heap.get? b=S o)->R N u):aj (ao d.prog d.w) A (xU<|.ref I) R E s:=by{
refine let p:=_;(?_:p)
obtain⟨o,P,Z,g,X,w,_⟩:=B.obj k _ D.at_;have e:o.cls= .type "tuple"->∀Z n,o.data≠.seq Z n:=λ_ Q n z=>by replace z:=w▸z;cases z
cases f:M[k]? with
|none=>
 refine let p:=_;(?_:p)
 replace q:=f▸q;exact B.done U l H s k R E f D.S D.off t D.at_ λC y a=>q _ (D.S.i5 g e D.off ⟨O.own,O.fs,O.base⟩ a) (D.G.i5 O.new a) a
|some x=>replace q:=f▸q;refine B.next U l H s k x R E f D.S D.off t D.at_ λv C y c G a=>q v _ (c.keep λb L Q n h h0 r=>a b L (λz=>by subst z;replace h:=g▸h;(obtain rfl:=aA h);replace r:=w▸r;cases r) h) ⟨D.S.i5 g e D.off ⟨O.own,O.fs,O.base⟩ a,D.G.i5 O.new a,D.off,G⟩ a}
inductive FI (st:St) (fr:aF) (I:Addr) (Sf:Nat->Heap->Prop) (H₀:MH) (s₀:ah) (N:List V->ae->MH->Prop) (items:List V) (j:Nat) (s:ah):Prop
 |mk (k:Nat) (l:ae) (H:MH) (e:j=items.length-k) (T:ju st fr I Sf H₀ s₀ k l H s) (h:N (items.drop k) l H)
theorem Vq{cx:Cx}{Q:Fl->ae->MH->Prop}{c:List V->ae->MH->Prop}(O:cx.hn=T)(g:iW U t tg)(hb:kJ w cx U n m o)(y:bN A U n cx.hn)(B:kG w A I M h7 Y)(G:hV w U I R)(d:∀r l H,c r l H->h7 H) (n0:∀l H,c [] l H->Q .next l H) (h8:∀v r l H,c (v::r) l H->∃Z,cT t v l=S Z/\wpSs cx X m (pM (c r) Q) Z H) (D:ju w U I Y h0 R 0 l H s) (h:c M l H):gN (ao w.prog w.w) A (.forLoop tg (.ref I) o [] U.env) (λr u=>match r with|.ok f=>eM w U h0 R Q f u|.error e=>BK (ao w.prog w.w) A U.env (gH w U h0 R X) e u) s:=by{
refine let P:=_;(?_:gN _ _ _ P _)
refine codeAny_forLoop_any (FI w U I Y h0 R c M) ?_ M.length ⟨0,l,H,J,D,h⟩;rintro j s ⟨k,l,H,rfl,D,h⟩;refine let P:=_;let C:=_;(?_:aj _ _ _ P C _)
refine CM B G D (d _ _ _ h) ?_;cases hx:M[k]? with
|none=>exact λu S' p _=>xX ⟨.next,l,H,J,S',p,n0 l H<|aav (uL.mp hx)▸h⟩
|some x=>{
refine let Gz:=_;(?_:Gz)
obtain⟨h1,hx⟩:=cW.mp hx;refine af (h8 _ _ _ _<|hx▸(xY h1)▸h) λZ h9=>ai (λz0 h=>λv z3 rv q _=>CP g B q.at_<|DG g y (y.hd O) q.S Go.refl rv z0 λz1 L h2=>bK (hb A Z H z1 _ X y L h) (λf z2 zp=>?_) λe z2 z=>Dp y.at_<|z.trans (q.body B G L h2).G)<|h9;have b:=q.body B G L h2;obtain⟨fl,h3,h4,i,a,h5,h6⟩:=zp;cases fl with
|next=>exact i.symm▸⟨_,uR h1<|iO k,k+1,h3,h4,J,b.body B G a h5,h6⟩
|ret v=>exact i.elim λE z=>z.1▸⟨.ret v,h3,h4,⟨E,J,z.2⟩,a,b.G.trans h5,h6⟩}}
theorem VE{cx:Cx}(O:cx.hn=T)(g:iW U t b)(d:kJ a cx U n m o)(y:bN A U n cx.hn)(B:kG a A I M i Y)(k:hV a U I c)(D:ju a U I Y j c 0 l H s)(h:mS (cT t) i (λp l H=>wpSs cx X m p l H) Q M l H):gN (ao a.prog a.w) A (.forLoop b (.ref I) o [] U.env) (λr u=>match r with|.ok f=>eM a U j c Q f u|.error e=>BK (ao a.prog a.w) A U.env (gH a U j c X) e u) s:=Vq O g d y B k (λr l H h=>by cases r<;>exact h.1) (λl H h=>h.2) (λv r l H h=>by obtain⟨x,e,h⟩:=cU h.2;exact⟨x,e,h⟩) D h
inductive WI (st:St) (fr:aF) (H₀:MH) (s₀:ah) (N:Nat->ae->MH->Prop) (j:Nat) (s:ah):Prop
 |mk (l:ae) (H:MH) (h:N j l H) (S:aq st fr l H s) (G:Go fr.fs fr.wr H₀ s₀ H s)
theorem L9{X:Addr->ae->MH->Prop}{w:Nat->ae->MH->Prop}(hc:Tr p cx U n c ec)(D:kJ p cx U n m o)(y:bN A U n cx.hn)(t:∀l H,¬w 0 l H)(x:∀j l H,w (j+1) l H->aP cx (λa H=>X a l H) l c (bR λb H=>if b=T then wpSs cx X m (pM (w j) Q) l H else Q .next l H) H) (I:aq p U l H s) (h:w k l H):aj (ao p.prog p.w) A (exec (.While ec o [] h9) U.env) (eM p U H s Q) (gH p U H s X) s:=by{
refine let P:=_;let M:=_;let zc:=_;let zd:=_;(?_:aj P _ M zc zd _)
refine wpAny_While<|codeAny_whileLoop (WI p U H s w) ?_ k ⟨l,H,h,I,Go.refl⟩;rintro j s ⟨l,Y,h,I,G⟩;refine let P:=_;let M:=_;(?_:aj _ _ _ P M _)
induction j using fK with
|zero=>exact(t _ _ h).elim
|succ j=>
refine bK (hO G (hc A l Y s _ _ _ y I (λ_ _ q=>q)<|x _ _ _ h) λb O C d r L g B q=>?_) (λ_ _ z=>z) λe O z=>Dp y.at_ z;subst r
induction b using aX with
|false=>exact xX ⟨.next,l,d,J,L,B,q⟩
|true=>{
refine bK (D A l d O _ X y L q) (λf h2 zp=>?_) λe h2 z=>Dp y.at_<|z.trans B;obtain⟨fl,R,u,i,Z,h0,h1⟩:=zp
induction fl using Fl.casesOn with
|next=>exact i.symm▸⟨j,iO _,R,u,h1,Z,B.trans h0⟩
|ret v=>exact i.elim λE z=>z.1▸⟨.ret v,R,u,(aG E J z.2),Z,B.trans h0,h1⟩}}
theorem IZ(Y:aq a U l H s)(O:s.heap.get? I=N):hV a U I s where
 own:=λh=>by obtain⟨_,o,e,_⟩:=Y.ownAt I h;rw[O] at e;exact aD e
 fs:=λh=>(Ag Y O).2 h
 base:=ug (λb o e=>⟨o,Y.base b o e⟩) O
 new:=O
def qE(a:St)(cx:Cx)(U:aF)(n:Nat)(p:MIt)(e:Expr):Prop:=∀(A:aI) (l:ae) (H:MH) (s:ah) (X:QE) (b:List V->(MH->Prop)->MH->Prop) (R:Value->ah->Prop) (E:Value->ah->Prop),bN A U n cx.hn->A.handled=N->aq a U l H s->wpI cx X l p b H->(∀e u,cS a U l H s X e u->E e u)->(∀I g d M i Y,aq a U l d g->Go U.fs [] H s d g->hV a U I s->¬cg d I->kG a A I M i Y->Y 0 g.heap->b M i d->R (.ref I) g)->aj (ao a.prog a.w) A (eval e U.env) (λx c=>aj (ao a.prog a.w) A (pyIter x) R E c) E s
theorem qN{P:Prop}(Y:aq a U l H s)(f:aq a U l I i)(G:Go U.fs [] H s I i)(q:aq a U l I {i with heap:=i.heap.push o,toks:=t}->Go U.fs [] H s I {i with heap:=i.heap.push o,toks:=t}->hV a U i.heap.objs.size s->¬cg I i.heap.objs.size->P):P:=
 have k:∀b Q,i.heap.get? b=S Q->(i.heap.push o).get? b=S Q:=λb Q e=>cu _ e;have O:i.heap.get? i.heap.objs.size=N:=gq<|cD _
 q (f.ext (t:=t) k).1 (G.trans (f.ext (t:=t) k).2) (IZ Y<|ug G.there O) (f.off O)
theorem Iw(u:Ev M cx U n m e):qE M cx U n (.ex m) e:=λA l H s X h1 R E y t Y h w q=>by{
refine let P:=_;(?_:aj _ _ _ P _ _)
refine bK (u A l H s _ X y Y h) (λv i zp=>?_) w;obtain⟨x,I,r,f,G,k⟩:=zp;refine qN (o:={cls:=.type "tuple_iterator",data:=.fields #[v,.int 0 0]}) (t:=i.toks) Y f G λz p O c=>qN (o:={cls:=.type "list_iterator",data:=.fields #[v,.int 0 0]}) (t:=i.toks) Y f G λo d _ _=>?_;clear G w h Y y X u
induction x using V.casesOn with
|tup L=>refine eg (KP r) λa Z D h0 j zr=>?_;subst h0;obtain⟨B,hz⟩:=zr;have C:∀b Q,i.heap.get? b=S Q->(i.heap.push {cls:=.type "tuple_iterator",data:=.fields #[.ref a,.int 0 0]}).get? b=S Q:=λb Q e=>cu _ e;exact wpAny_pyIter_tuple (bl _ j J ⟨D,J⟩)<|q _ _ I L _ _ z p O c (VJ t<|fu<|ii j) ⟨(bl _ (eD _ ff) J J),C _ _ j,B.keep<|fP C⟩ k
|ref a=>clear p z e;subst r;obtain⟨L,j,k⟩:=uf k;obtain⟨Z,⟨m,g⟩,B⟩:=f.rep _ _ j;exact Y1 (bl _ g J ⟨m,J⟩)<|q _ _ I L _ _ o d O c (Zg t) (bl _ (eD _ ff) J J) k
|_=>exact k.elim}
theorem Yn(D:eB a)(u:Ev a cx U n m e)(B:dJ e=T)(c:uv a U b<|.type "range"):qE a cx U n (.range1 m) (.Call (.Name b p) [e] [] h9):=λA l H s X h1 R E y L Y h w q=>by{
refine sy J<|qP D Y.base y.ek c<|GM (eA<|bm.mpr ⟨B,tt⟩)<|jj (eA<|bm.mpr ⟨B,tt⟩) ?_;refine let P:=_;(?_:aj _ _ _ P _ _)
refine aa (mJ B)<|oR<|bK (u A l H s _ X y Y h) (λv z ⟨x,I,r,f,G,k⟩=>xR ?_) w;obtain⟨i,rfl,Z,k⟩:=fJ k;refine af (r) λt O=>?_;refine aa O ?_;refine call_range_1 ?_;refine let P:=_;let C:=_;let j:=_;(?_:aj P _ C _ _ j)
refine qN (o:={cls:=.type "range",data:=.fields #[.int 0 z.toks,.int i t,.int 1<|z.toks+1]}) (t:=z.toks+1+1) Y f G λM Q _ _=>aaw (aax ..) (small_one (by decide) (by decide) (cV (by decide) Z.1) (lW Z.2 (by decide))) (qN Y M Q λo d h0 nf=>q _ _ I _ _ _ o d h0 nf (Km L (a:=0) (d:=1) (n:=i.toNat) λk=>by refine aa yH ?_;congr 2;congr 1;exact aa (aay ..)<|aa (Int.one_mul ..) J) ⟨bW _,?_⟩ k);have g:Pn 0 i 1=i.toNat:=by refine aa (rangeSize_one ..) ?_;split<;>grind
exact au g.symm<|eD _ ff}
theorem AK(h: -1000000<=i)(C:i<=2000000):abU i=T:=bm.mpr ⟨decide_eq_true (cV (by decide) h),decide_eq_true (lW C (by decide))⟩
theorem WV(h3:eB h0)(he:Ev h0 cx U n m e)(h4:Ev h0 cx U n m' e')(B:dJ e=T)(h1:dJ e'=T)(c:uv h0 U nm<|.type "range"):qE h0 cx U n (.range3 m m') (.Call (.Name nm p) [e,e',.UnaryOp .USub (.Constant (.int 1) j pj) pu] [] h9):=λA l H s X h6 R E hA hh Y h w q=>by{
have D:[e,e',.UnaryOp .USub (.Constant (.int 1) j pj) pu].all dJ=T:=by refine au nB.symm<|au nB.symm<|au B.symm<|au h1.symm ?_;rfl
refine sy J<|qP h3 Y.base hA.ek c<|GM (eA D)<|jj (eA D) ?_;refine let za:=_;(?_:aj _ _ _ za _ _)
refine aa (mJ B)<|aa (mJ h1)<|aa (mJ J)<|oR<|bK (he A l H s _ X hA Y h) (λv h5 zp=>?_) w;obtain⟨x,I,r,f,G,k⟩:=zp;refine oR<|bK (h4 A l I h5 _ X hA f k) (λh7 g zp=>?_) λe u z=>w e u<|cS.trans G z;obtain⟨y,d,o,L,h2,Q⟩:=zp;refine oR<|Po<|OU<|P.neg_int<|xR ?_;obtain⟨a,b,t,M,rfl,rfl,Z,Q⟩:=lF (r.keep<|f.d6 h2) o Q;have G3:Go U.fs [] H s d {g with toks:=g.toks+1+1}:=(G.trans h2).trans Go.toks;refine call_range_3 (by decide) ?_ (.inl (W3 (by decide)));refine let za:=_;let C:=_;let zc:=_;(?_:aj za _ C _ _ zc)
refine qN (o:={cls:=.type "range",data:=.fields #[.int a t,.int b M,.int (-1)<|g.toks+1]}) (t:=g.toks+1+1) Y (L.toks<|g.toks+1+1) G3 λS' G' _ _=>?_;have sz:Pn a b (-1)=((a-b).toNat):=by{
delta Pn;refine aa (if_neg (by decide)) (aa (show(- -1)=1 from by decide)<|aa (X0 ..) ?_);split
.exact(Pp ..).trans<|(uD<|Pq<|nA ‹_›).symm
.exact(congrArg xZ<|aaz<|aau<|bT.mp ‹_›).symm}
refine aaw (aax ..) ?_ ?_
.unfold abV;exact aa sz (bm.mpr ⟨bm.mpr ⟨bm.mpr ⟨bm.mpr ⟨AK Z.2.2.1 (cV Z.2.2.2 (by decide)),AK Z.1 (cV Z.2.1 (by decide))⟩,by decide⟩,AK (cV (by decide)<|cR _)<|dG.mpr<|sa.mpr<|Int.sub_le_sub Z.2.2.2 Z.1⟩,uS.mpr (.inr ((if_neg (by decide)).trans ((uT b).symm▸AK Z.1 (cV Z.2.1 (by decide)))))⟩)
refine qN Y S' G' λS2 G2 O nf=>q _ _ d _ _ _ S2 G2 O nf (Km hh (a:=a) (d:= -1) (n:=(a-b).toNat) λk=>by{
refine aa Tw ?_;split
.exact congrArg (λi=>S<|V.int i) (by refine aa (uD<|(aaA 0<|a-b).elim id λz=>absurd ‹_› (aaz z▸lV _)) ?_;rw[Bk b,Pp,Int.neg_one_mul];rfl)
.rfl}) ⟨bW _,?_⟩ Q
refine aa sz ?_;have:a+ -1*(0:Nat)=a:=uT a;exact aa this<|eD _ ff}
def qX(e:Expr):Bool:=!dQ (Expr.ctorIdx e) 7
theorem Dh(h:qX e=T)(x:Value):aaB e env x=pure x:=by obtain⟨⟩:=e<;>first|rfl|exact ak h
theorem Yx(Z:qE f cx U n p e)(j:qX e=T)(D:iW U t b)(v:kJ f cx U n m o):Sx f cx U n (.for_ t p m) (.For b e o [] h9):=λA l H s Q X y w h=>by exact ai (λO h=>wpAny_For (Z A l H s _ _ _ _ y (y.hd O) w h (λe u ⟨a,Y,g,E,x,q⟩=>⟨a,l,Y,g,E,x.d5,q⟩) λI G d M i P L z C c B r k=>VE O D v y B C ⟨L,z.d5,c,r⟩ k.2)<|Dh j)<|h
theorem Vt{D:Type}{p q:D->Bool}(h:∀x,p x=T->q x=F){l:List D}:∀{i:Nat},l.findIdx? p=S i->(l.eraseIdx i).find? q=l.find? q:=by{
induction l with
|nil=>exact λe=>aD e
|cons x l Z=>intro i;refine aa (Pj) ?_;refine iteInduction (motive:=λo=>o=S i->_) (λO e=>aA e▸((aaC (by refine aa (h x O) ?_;decide)).symm)) λ_ e=>?_;refine af (jf.mp e) λj z=>au z.2 ?_;exact aa List.eraseIdx_cons_succ<|aa (fG)<|(fG).trans<|aa (Z z.1) J}
theorem Qm{D:Type}{p:D->Bool}{l:List D}:l.any p=T->∃i,l.findIdx? p=S i:=by{
induction l with
|nil=>exact λh=>ak h
|cons x l Z=>{
intro h;refine aa (Pj) ?_;by_cases q:p x=T
.exact⟨0,if_pos q⟩
.exact af (Z<|(uS.mp h).resolve_left q) λi e=>⟨i+1,aa (if_neg q)<|congrArg _ e⟩}}
theorem Wh{k:Value}(h:a≠b)(e:k.isStr a=T):k.isStr b=F:=by{
induction k using aam with
|str x t=>rw[isStr_of] at e ⊢;have:=beq_iff_eq.mp e;show(x==b)=F;rw[beq_eq_false_iff_ne];intro z;exact h<|this.symm.trans z
|_=>first|(exact absurd e (by simp[Value.isStr]))|rfl}
theorem RE{s:ah}(O:s.heap.Ns a m)(w:m b=S v)(q:∀C d,C.Ns a d->(∀x,x≠b->d x=m x)->ma a s.heap C->(∃o j D,C.get? a=S o/\o.data= .dict j D)->R T {s with heap:=C}):aj M A (nsDel a b) R E s:=by{
refine let p:=_;(?_:p)
refine eg O λo t D Y z H=>?_;obtain⟨j⟩:=t;obtain⟨I,r⟩:=H;obtain⟨k,B,c,l⟩:=o;subst z;have G:(j.find? (·.key.isStr b)).map (·.val)=S v:=by
 have:=r b;rw[w] at this
 simpa [nsFind,findBy] using this
refine af (jf.mp G) λe L=>ai (λu _=>?_)<|L;have h:j.any (·.key.isStr b)=T:=Pr.mpr (aG e (md u) (by simpa using sg u));obtain⟨i,Z⟩:=Qm h;refine ag<|xJ Y ?_;have P:nsHas b ⟨k,B,.dict j.toArray D,l⟩=pure T:=by refine aa nsHas_eq ?_;unfold nsHasByArray;simp only[List.any_toArray,h,if_true]
refine aa P<|ag<|av ?_;refine aa (if_pos tt) ?_;have g:=kW (aaD b) Y (by simp only[aaE,aaF,aaG,Z];rfl);have Q:aaD b ⟨k,B,.dict j.toArray D,l⟩=⟨k,B,.dict (j.toArray.eraseIdxIfInBounds i)<|D+1,l⟩:=by simp only[aaE,aaF,aaG,Z]
rw[Q] at g;refine ag<|Y7 Y<|av<|q _ _ ⟨_,_,_,g,J,I.erase i,λ_=>J⟩ (λx f=>?_) (kT ..)<|xg _ _ _ ⟨g,J⟩;refine au (r x) ?_;simp only[nsFind,findBy,Gu,List.find?_toArray];exact congrArg _<|Vt (λy n=>Wh (eE f) n) Z}
theorem ae.p5{l:ae}:ae.at (l.set i N) j=if j=i then N else l.at j:=by{
by_cases h:j=i
.subst h;refine aa (if_pos J) ?_;delta ae.at;by_cases q:j<l.length
 .exact congrArg _<|Ph q
 .rw[iP (by exact aa GV<|dw ‹_›)];rfl
.exact aa (if_neg h)<|ae.j7 h}
theorem RG(Y:aq t U l H s)(j:pA U)(w:(i,b)∈U.vis)(hk:U.env.kindOf b=S .local)(hw:U.env.locals∈U.wr)(f:l.at i=S x)(q:∀u,aq t U (l.set i N) H u->Go U.fs U.wr H s H u->R () u):aj M A (aaH U.env b h9) R E s:=by{
have e:=Y.loc _ w;unfold dq at e;replace e:=f▸hk▸e;obtain⟨m,O,y,hy,_⟩:=e;delta aaH unbindName deleteName;refine wpAny_onRaise<|ag<|BL<|ag ?_;refine let P:=_;let zb:=_;(?_:aj _ _ _ P zb _)
simp only[hk,j.ek.kind];refine let Gz:=_;(?_:Gz)
refine eg (id O) λo es D g I e3=>?_;refine ag<|RE O hy λC d k hm hs zp=>?_;refine let Gz:=_;(?_:Gz)
refine af (zp) λB L=>af (L) λh3 h0=>af (h0) λh4 h1=>ai (λh2 h=>av<|BL ?_)<|h1;obtain⟨S',G⟩:=Y.k9 (C:=l.set i N) hw g h2 hs ⟨λ_=>(eG _ _ h),λ_=>(eG _ _ I)⟩ ⟨λZ n z=>(by replace z:=h▸z;cases z),λZ z=>(by replace z:=h▸z;cases z)⟩ λtk p hp=>by
 have rp:=Y.loc p hp;refine aa ae.p5<|rp.imp (λz=>?_) λz=>z.to (λc c1 o Q=>(hs.2 c<|j.cab _ _<|mem_of_lookup c1).trans Q) λy r=>iteInduction (motive:=λv=>jX t C v y) (λ_=>trivial) λ_=>r.keep tk;obtain⟨m2,a,rp⟩:=z;exact⟨_,k,iteInduction (motive:=λv=>jX t C v _) (λ_=>trivial) λX=>by refine aa (hm _ λz=>X<|j.v2 p hp _ w z) ?_;rw[Me O a];exact rp.keep tk⟩
exact q _ S' G}
namespace FB
theorem unchain_entry:uz qf "proto.unchain"=S Builtin.«proto.unchain»:=by first|exact OB (by kernel_rfl)|exact OE (by kernel_rfl)
end FB
structure YN (st:St) (d:CD):Prop where
 typ:sj st.K (.ref d.addr)=some (.type "type")
 self:jg st.K d.addr (.ref d.addr)=some true
 notTup:instIn st.K (.ref d.addr) (.type "tuple")=some false
structure oW (st:St) (ft:Nat->Option FD):Prop where
 T:hZ st ft
 x:∀c d,st.ct c=some d->d.isExc=true->nW st d
 c:∀c d,st.ct c=some d->d.isExc=true->YN st d
 k:∀c,c<1000->st.ct (c+1000)=st.ct c
 m:∀c,st.ct c=st.ct (c %1000)
theorem HY(h:aj M A x (λv i=>aj M A (Ps env (S<|pure v) N) R E i) E s):aj M A (Ps env (S x) N) R E s:=ag h
theorem Hr(O:oW k j)(Y:aq k U l H s)(e:H a=S (.exc c i N D))(q:aj (ao k.prog k.w) A (raiseNew (.ref a):Sem Flow) R E s):aj (ao k.prog k.w) A (Ps env (S<|pure<|.ref a) N) R E s:=by{
refine let P:=_;let C:=_;(?_:aj P _ C _ _ _)
obtain⟨Z,⟨d,m,f,_⟩,X,I,h,_,_⟩:=Y.rep _ _ e;have w:k.d9 c=d.addr:=by unfold St.d9;rw[m]
replace X:=w▸X;have g:=O.T.B.X.keeps Y.base;have b:dy (ao k.prog k.w) s.heap (qs<|.ref a) (.ref d.addr):=(oS X).andThen .now;have y:dy (ao k.prog k.w) s.heap (isType<|.ref a) F:=(oS X).andThen .now;have n:dy (ao k.prog k.w) s.heap (Pd _ _) T:=b.andThen<|uO g (O.x _ _ m f).bexc;refine ag<|av<|ag<|av<|ag<|eT<|ag<|ag<|y.here ?_;rw[if_neg (by decide)];refine let p:=_;(?_:p)
refine let p:=_;(?_:p)
refine av ?_;rw[if_neg (by decide)];refine ag<|n.here ?_;rw[if_pos tt];refine av<|ag<|y.here ?_;rw[if_neg (by decide)];refine ag<|ag<|b.here<|ag<|(looks_typeIn g (O.c _ _ m f).typ).here ?_;rw[if_pos (by decide)];refine av<|ag<|ag<|kR X J h ?_;rw[if_neg (by decide)];exact av q}
inductive Rj (K:Prop) (o:MO):Prop
 |mk (c:Nat) (dx:Option Addr) (fs:List (Nat×V)) (e:o= .exc c dx none fs) (k:K)
theorem TW{A:aI}{E:Value->ah->Prop}{M:Type}(O:oW L j)(hh:A.handled=S (.ref b))(Y:aq L U l H s)(e:H a=S (.exc c i N D))(hc:c<1000)(ne:b≠a)(eb:s.heap.get? b=S Q) (x:Q.data= .fields C) (t:C[2]?=S .none) (q:∀u,aq L U l (H.set a<|.exc (c+1000) i N D) u->Go U.fs [] H s (H.set a<|.exc (c+1000) i N D) u->E (.ref a) u):aj (ao L.prog L.w) A (raiseNew (.ref a):Sem Flow) R E s:=by{
refine let p:=_;(?_:p)
obtain⟨Z,⟨d,m,f,_⟩,X,I,h,v,r⟩:=Y.rep _ _ e;refine oA Y e λ_ _ _ _ w _=>ag<|wpAny_handled<|aa hh ?_
dsimp only
refine aa (if_pos (show(sq b !=sq a)=T by rw[bne_iff_ne];intro z;(injection z with z;subst z);exact ne J))<|ag<|eT<|wpAny_runValue<|codeAny_builtin FB.unchain_entry<|ag<|kR eb x t<|(if_pos tt)▸(ag<|av<|av ?_);have k:2<Z.size:=lX (by decide) I;refine ag<|ag<|uF X ?_
dsimp only
refine(if_pos k)▸(OJ X<|wpAny_throw ?_);have B:=kW (kY (·.setIfInBounds 2 (.ref b))) X<|xM<|tO J _;have n:∀y,y≠a->∀Q,s.heap.get? y=S Q->(s.heap.update a (kY (·.setIfInBounds 2 (.ref b)))).get? y=S Q:=λy hy Q P=>(so _ _<|eE hy).trans P;have up:=Y.upd (B:=.exc (c+1000) i N D) (t:=s.toks) e J (λy h1 _ Q g=>n y h1 Q g) (λy Q P=>by{
by_cases z:y=a
.exact⟨_,by exact aa z B⟩
.exact⟨Q,n y z Q P⟩})
have h0:L.d9 (c+1000)=L.d9 c:=by unfold St.d9;exact aa (O.k c hc) J
have o:L.f7 (c+1000)=L.f7 c:=by unfold St.f7;exact aa (O.k c hc) J
refine(up λtk=>⟨Z.setIfInBounds 2 _,⟨d,by exact(O.k c hc).trans m,f,λz=>by exact absurd z<|je.mpr<|oM _ _⟩,by exact aa h0 B,by simpa using I,?_,?_,by exact aa o r⟩).elim λS' G=>q _ S' G
.show(Z.setIfInBounds 2 _)[1]?=S .none;exact(GJ (by decide)).trans h
.clear o h0 up B k w f m d r h I X p q t x eb ne hc hh O R C M
 induction i using aV with
 |none=>exact v
 |some y=>refine mv.keep tk (λQ P=>n y (λz=>?_) Q P) v;have:=Y.apart.self _ _ e y<|mQ J;rw[z,e] at this;cases this}
theorem Dx(y:pH A U env):pH (A.mark h) U env:=⟨y.stack,y.top⟩
theorem JT(y:bN A U n b)(D:C=F):bN (A.mark h) U n C:=⟨λz=>(by replace z:=D▸z;exact ak z),Dx y.at_,y.dep,y.uni,y.fo⟩
theorem Mf(y:pH o U U.env)(h:gH d U j m X e u):nJ (ao d.prog d.w) o U.env (λe u=>BK (ao d.prog d.w) A U.env (gH d U j m X) e u) e u:=by
 refine let P:=_;(?_:nJ _ _ _ P _ _)
 obtain⟨a,C,Y,rfl,l,G,c,i,I,n,b,k,q⟩:=h;exact wB l y k λr D f p=>oA f MH.c5 λZ g E v _ _=>ag<|kR g J v.1<|(if_neg kS)▸qK f MH.c5 λs L B=>⟨a,C,_,J,L,(G.trans p.d5).trans B.d5,kQ.set k ⟨c,i,I,n,b,k,q⟩⟩
theorem ZE{u:Frag}{P:Prop}(h:uN u C=S G)(k:∀y B f,u.lookup C=S ⟨y,B,.cls G,f⟩->P):P:=by{
delta uN at h;generalize u.lookup C=z at h k
induction z using aV with
|none=>exact aD h
|some o=>{
obtain⟨y,B,x,f⟩:=o
induction x using aai with
|cls c=>exact k y B f<|aA h▸aT
|_=>exact aD h}}
theorem Vs(O:oW h j)(Y:aq h U l H s)(e:H a=S (.exc c i I D))(m:h.ct c=S d)(f:d.isExc=T)(q:R T s):aj (ao h.prog h.w) A (excMatches (.ref a)<|.ref d.addr) R E s:=by{
refine let p:=_;(?_:p)
obtain⟨Z,_,X,_⟩:=Y.rep _ _ e;have w:h.d9 c=d.addr:=by unfold St.d9;exact aa m J
rw[w] at X;have g:=O.T.B.X.keeps Y.base;refine af (GE (O.x _ _ m f).dict) λG L=>ai (λu _=>?_)<|L;have b:dy (ao h.prog h.w) s.heap (qs<|.ref a) (.ref d.addr):=(oS X).andThen .now;have y:dy (ao h.prog h.w) s.heap (isType<|.ref d.addr) T:=by exact ZE u λ_ _ _ k=>(oS<|g _ _ k).andThen .now
refine ag<|(looks_instIn g (O.c _ _ m f).notTup).here ?_;refine aa (if_neg (by decide))<|ag<|av<|ag ?_;refine let P:=_;(?_:aj _ _ _ P _ _)
refine aa (BF ..)<|ag<|ag<|ag<|y.here<|(if_pos J)▸((uO g (O.x _ _ m f).bexc).here ?_);refine aa (if_neg (by decide))<|av ?_
dsimp only
refine aa List.forIn_nil<|av<|ag<|b.here<|ag ?_;exact aa (BF ..)<|ag<|ag<|(uO g (O.c _ _ m f).self).here<|(if_pos J)▸av (av<|av q)}
theorem Kp{H:MH}(h:cg (H.d8 a) b):cg H b:=by{
rcases h with h|⟨c,o,h,E⟩
.unfold MH.d8 at h;split at h
 .exact absurd J h
 .exact .inl h
.unfold MH.d8 at h;split at h
 .exact aD h
 .exact .inr<|dm c o h E}
theorem MH.o4{H:MH}:(H.set a o).d8 a=H.d8 a:=by{
funext b;unfold MH.set MH.d8;split
.rfl
.rename_i h
 exact if_neg h}
theorem aq.d8(Y:aq c U l H s)(a:Addr):aq c U l (H.d8 a) s/\Go U.fs [] H s (H.d8 a) s:=by{
have g:∀{b o},(H.d8 a) b=S o->H b=S o:=λ{b o} e=>by{
unfold MH.d8 at e;split at e
.exact aD e
.exact e}
refine⟨Y.next (.of (λa o e=>⟨o,e⟩) (λa o _ _ e=>e) λb h=>.inl<|Kp h) Y.base (λb o e=>Y.rep b o<|g e) ⟨λb o e d m=>?_,λb o C B e A=>Y.apart.other b o C B (g e)<|g A⟩<|bp J J J,(.of (λa o e=>⟨o,e⟩) (λa o _ _ e=>e) λb h=>.inl<|Kp h)⟩;have:=Y.apart.self b o (g e) d m;unfold MH.d8;split
.rfl
.exact this}
theorem Qi(Y:aq c U l H s)(e:H a=S o):¬cg (H.d8 a) a:=by{
rintro(h|⟨b,Q,h,E⟩)
.exact h<|if_pos J
.unfold MH.d8 at h;split at h
 .exact aD h
 .have:=Y.apart.self b Q h a E;replace this:=e▸this;cases this}
theorem NZ(O:oW h j)(y:bN A U n F)(Y:aq h U l H s)(e:H a=S (.exc c i I D))(u:c %1000=g)(m:h.ct g=S d)(f:d.isExc=T)(G:om h U b<|.ref d.addr)(q:R (.ok .brk) s):gN (ao h.prog h.w) A (.handlers (.ref a) [.ExceptHandler (S<|.Name b p) N [] k] U.env) R s:=codeAny_handlers_test (vV O.T.B Y.base y.ek G (Vs O Y e (by refine aa (O.m c)<|aa u ?_;exact m) f q))
theorem zg(h:gH a U H s (λ_ _ _=>False) e u):False:=by obtain⟨_,_,_,_,_,_,_,_,_,_,_,_,q⟩:=h;exact q
theorem Uh(O:oW h1 ft)(hb:kJ h1 cx U n b h7)(he:Ev h1 {cx with hn:=F} U n m e) (G:om h1 U nm<|.ref d.addr) (hd:h1.ct c=S d) (hx:d.isExc=T):Sx h1 cx U n (.tryR b c m) (.Try h7 [.ExceptHandler (S<|.Name nm p) N [.Raise (S e) N rp] hp] [] [] h9):=λA l H s Q X y Y h=>by{
refine let P:=_;let C:=_;(?_:aj _ _ _ P C _)
refine aaI<|bK (hb A l H s Q _ y Y h.2) (λf i M=>?_) λx i M=>?_
.obtain⟨fl,h0,I,r,h3,h4,q⟩:=M
 induction fl using Fl.casesOn with
 |next=>exact aa r<|xX ⟨.next,h0,I,J,h3,h4,q⟩
 |ret v=>exact r.elim λE z=>aa z.1 ⟨.ret v,h0,I,(aG E J z.2),h3,h4,q⟩
.refine let P:=_;let C:=_;(?_:aj _ _ _ P C _)
 obtain⟨a,h0,I,R,h3,h4,c1,dx,tb,fs,x3,e1,q⟩:=M;subst R;replace q:=MH.c5▸q;clear h Y l hb h9 h7;obtain⟨⟨rfl,h8⟩,q⟩:=q;replace q:=MH.o4▸q;refine wB h3 y.at_ e1 λx4 D L z3=>qK L MH.c5 λx5 z0 z4=>?_;have z1:bN (A.mark<|S<|.ref a) U n F:=JT y ff;refine aaJ (NZ O z1 z0 MH.c5 (Pt h8) hd hx G<|codeAny_handlers_suite<|qK z0 MH.c5 λz5 h5 z6=>?_) (by intro z;cases z);refine let P:=_;let C:=_;let j:=_;let zd:=_;let ze:=_;(?_:aj P C j zd ze _)
 refine oA h5 MH.c5 λZ g hz ht _ hk=>?_;have h6:=(h5.d8 a).1;have z2:=(h5.d8 a).2;have w:=Qi h5 MH.c5;rw[MH.o4] at h6 z2 w;have GG:=((((h4.trans z3.d5).trans z4.d5).trans z6.d5).trans z2.d5);refine aaq ?_;refine let P:=_;let C:=_;(?_:aj _ _ _ P C _)
 refine aa (arm_exec_Raise ..) ?_;refine ag<|gO<|HY<|ag<|bK (he _ h0 _ z5 _ _ z1 h6 q) (λv z7 M=>ag<|gO<|av ?_) λx6 z7 M=>?_
 .obtain⟨x,B,r,u,h2,k⟩:=M;obtain⟨b,rfl,k⟩:=lJ k;refine aa r ?_;obtain⟨c2,x7,x8,x9,e2,k⟩:=Jk k;refine ai (λz8 k=>?_)<|Fq k;subst z8;have z9:=λz=>(h2.mono a z).elim w λz=>by replace z:=g▸z;cases z
  exact Hr O u e2 (TW (M:=Unit) O J u e2 k.1 (λz=>z9<|aa z<|iT e2) (h2.keep a _ w (by simp) (λz=>by obtain⟨_,o,es,ep,e',q'⟩:=h6.frmAt a z;replace e':=g▸e';(obtain rfl:=aA e');cases q') g) J (hk h8) λe0 x0 x1=>Mf (Dx y.at_) ⟨b,h0,_,J,x0,(GG.trans h2.d5).trans x1.d5,kQ.of MH.c5 k.2⟩)
 .obtain⟨x2,B,e3,u,h2,t⟩:=M;exact Mf (Dx y.at_) ⟨x2,h0,B,e3,u,GG.trans h2.d5,t⟩}
theorem WT(O:oW w ft)(hb:kJ w cx U n b h5)(R:kJ w {cx with hn:=F} U n hs<|h6::h7) (G:om w U nm<|.ref d.addr) (m:w.ct c=S d) (hx:d.isExc=T) (B:jM U i xn) (o:U.env.kindOf xn=S .local):Sx w cx U n (.try_ b c i hs) (.Try h5 [.ExceptHandler (S<|.Name nm p) (S xn) (h6::h7) hp] [] [] h9):=λA l H s Q X y Y h=>by{
refine let P:=_;let C:=_;(?_:aj _ _ _ P C _)
refine aaI<|bK (hb A l H s Q _ y Y h.2) (λf h8 t=>?_) λx h8 t=>?_
.obtain⟨fl,h1,h2,r,M,h0,q⟩:=t
 induction fl using Fl.casesOn with
 |next=>exact(show f= .next from r)▸xX ⟨.next,h1,h2,J,M,h0,q⟩
 |ret v=>exact r.elim λE z=>z.1▸⟨.ret v,h1,h2,(aG E J z.2),M,h0,q⟩
.refine let P:=_;let C:=_;(?_:aj _ _ _ P C _)
 obtain⟨a,h1,h2,ex,M,h0,c1,dx,tb,fs,x9,g,q⟩:=t;subst ex;replace q:=MH.c5▸q;refine ai (λu q=>?_)<|q;refine wB M y.at_ g λx4 D L z0=>qK L MH.c5 λx5 h3 z1=>?_;have k:bN (A.mark<|S<|.ref a) U n F:=JT y ff;refine ai (λZ q=>?_)<|q<|S D;replace q:=MH.set_set▸q;refine aaJ (NZ O k h3 MH.c5 u m hx G ?_) (by intro z;cases z);refine codeAny_handlers_suite_as<|qK h3 MH.c5 λx6 z2 z3=>?_;refine CW z2 y.fo B.vis Z B.kind B.wr (x:=.ref a) J λj z4 z5=>?_;refine bK (R _ _ _ j _ _ k z4 q) (λf x7 t=>?_) λe0 x7 t=>(zg t).elim;obtain⟨fl,e1,z6,r,z7,z8,h4,z9⟩:=t;refine ag<|wpAny_bindName<|CW z7 y.fo B.vis h4 B.kind B.wr (x:=.none) (v:=.none) J λe2 x0 x1=>?_;refine RG x0 y.fo B.vis o (B.wr _<|wl o) (ae.n9 h4) λe3 e x2=>?_;replace e:=(aaK _)▸e;have G9:=((((((h0.trans z0.d5).trans z1.d5).trans z3.d5).trans z5).trans z8).trans x1).trans x2
 induction fl using Fl.casesOn with
 |next=>exact(show f= .next from r)▸⟨.next,_,z6,J,e,G9,z9⟩
 |ret v=>refine af (r) λE x3=>?_;refine ai (λx8 I=>?_)<|x3;clear x3 r h4 z8 z5 z4 j z3 z2 x6 q Z k z1 h3 x5 z0 L D x4 u P g tb h0 M C h8 h Y y l A o B hx m G R hb O h9 hp p d xn nm h7 h6 h5 b;refine aa x8 ?_;exact⟨.ret v,_,z6,(aG E J<|(I.keep<|z7.j3 x1).keep<|x0.j3 x2),e,G9,z9⟩}
abbrev Ce (f:List Expr) (env:Env):Sem Bool:=forIn f T λc r=>if r=T then do let l<-isTrue c env (eval c env);pure (GW l) else pure (GW r)
abbrev mG:Value->ah->Prop:=λ_ _=>False
theorem WZ(I:Nat->ah->Prop)(y:∀n s,I n s->aj (ao H w) A (xU p) (λr i=>match r with
   |none=>R (.ok .next) i
   |some v=>aj (ao H w) A (Pl b p v) (λ_ g=>aj (ao H w) A (assign b env v) (λ_ k=>aj (ao H w) A (Ce f env) (λl c=>if l=T then aj (ao H w) A (eval t env) (λx j=>aj (ao H w) A (call (.builtin "list.append") [z,x]) (λ_ e=>∃m,m<n/\I m e) mG j) mG c else∃m,m<n/\I m c) mG k) mG g) mG i) mG s) (n:Nat) (h:I n s):gN (ao H w) A (.compLoop (.ListComp t [⟨b,L,f,0⟩] B h9) 0 p z env) R s:=by{
refine let P:=_;(?_:gN _ _ P _ _)
refine codeAny_loop J I (λn s u=>wpAny_noted ?_) n h;refine let P:=_;let C:=_;(?_:aj _ _ _ P C _)
refine aa (compTurn_list ..)<|ag<|gO<|ag<|bK (y n s u) (λr i X=>?_) λ_ _ h=>h.elim;cases r with
|none=>exact av X
|some v=>{
refine ag<|bK X (λ_ g q=>ag<|bK q (λ_ k a=>ag<|bK a (λl c d=>?_) λ_ _ h=>h.elim) λ_ _ h=>h.elim) λ_ _ h=>h.elim;cases l with
|false=>exact av ⟨J,d⟩
|true=>exact ag<|ag<|bK d (λx c d=>ag<|bK d (λ_ j o=>av<|av ⟨J,o⟩) λ_ _ h=>h.elim) λ_ _ h=>h.elim}}
def wL(a:List<|Str×Addr):List (Str×oQ)->List (Str×Addr)->Option (List<|Str×Addr)
 |[],w=>S w
 |x::r,w=>if x.2== .free then(a.lookup x.1).bind λc=>wL a r ((x.1,c)::w) else wL a r w
theorem Yj:∀{w L:List (Str×Addr)},wL env.cells b w=S L->(forIn b w λx w=>do if x.2== .free then do let a<-cellOf env x.1;pure (GW<|(x.1,a)::w) else pure (GW w):Sem<|List<|Str×Addr)=pure L:=by{
induction b with
|nil=>exact λh=>aa (aA h) J
|cons x r Z=>intro w L;refine aa (BF ..)<|iteInduction (motive:=λo=>o=S L->_) (λk h=>af (gV.mp h) λc z=>?_) λk h=>(if_neg k)▸Z h;rw[if_pos k,show cellOf env x.1=pure c from by delta cellOf;exact aa z.1 J];exact Z z.2}
theorem VB:∀{w:List (Str×Addr)},(∀x∈b,x.2= .free->∃c,a.lookup x.1=S c)->∃L,wL a b w=S L:=by{
induction b with
|nil=>exact λ{w} _=>⟨w,aT⟩
|cons x r Z=>intro w h;exact iteInduction (motive:=λo=>∃L,o=S L) (λk=>af (h x (.head _)<|beq_iff_eq.mp k) λc u=>u▸Z λy n=>h y<|.tail _ n) λ_=>Z λy n=>h y<|.tail _ n}
structure zi (P:Str->Prop) (cells cl:List (Str×Addr)):Prop where
 sub:∀x∈cl,cells.lookup x.1=some x.2/\P x.1
 nd:(cl.map (·.1)).Nodup
theorem UU:∀{w L:List (Str×Addr)},(b.map (·.1)).Nodup->(∀x∈b,x.1∉w.map (·.1))->(∀x∈b,x.2= .free->P x.1)->zi P a w->wL a b w=S L->zi P a L/\(∀x∈w,x∈L)/\∀x∈b,x.2= .free->∃c,(x.1,c)∈L:=by{
induction b with
|nil=>exact λ_ _ _ u h=>aA h▸(bp u (λ_ h=>h) λ_ h=>absurd h aJ)
|cons x r Z=>{
intro w L O m H u;replace O:=fq.mp O;refine iteInduction (motive:=λo=>o=S L->_) (λk h=>?_) λk h=>?_
.refine af (gV.mp h) λc z=>?_;have q:=Z (w:=(x.1,c)::w) O.2 (λy n q=>(bJ.mp (show y.1∈x.1::w.map (·.1) from q)).elim (λq=>O.1 (show x.1∈r.map (·.1) from q▸ya n))<|m y<|.tail _ n) (λy n=>H y<|.tail _ n) ⟨λy n=>(bJ.mp n).elim (λq=>aa q ⟨z.1,H x (.head _)<|beq_iff_eq.mp k⟩)<|u.sub y,fq.mpr ⟨m x<|.head _,u.nd⟩⟩ z.2;exact(bp q.1 (λy n=>q.2.1 y<|.tail _ n) λy n G=>(bJ.mp n).elim (λe=>⟨c,aa e<|q.2.1 _<|.head _⟩) λn=>q.2.2 y n G)
.have q:=Z O.2 (λy n=>m y<|.tail _ n) (λy n=>H y<|.tail _ n) u h;exact(bp q.1 q.2.1 λy n G=>(bJ.mp n).elim (λe=>absurd (beq_iff_eq.mpr<|e▸G) k) λn=>q.2.2 y n G)}}
theorem Nf{w:Type}{L:List (Str×w)}{c:w}(O:(L.map (·.1)).Nodup)(h:(n,c)∈L):L.lookup n=S c:=by{
induction L with
|nil=>cases h
|cons x r Z=>{
rw[oO,fq] at O;refine aa nH ?_;rcases bJ.mp h with rfl|h
.exact aa (beq_self_eq_true ..) aT
.have:(n==x.1)=F:=beq_eq_false_iff_ne.mpr λq=>O.1 (au q<|ya h);exact aa this<|Z O.2 h}}
theorem mem_of_lookup{L:List (Str×Addr)}(h:L.lookup n=S c):(n,c)∈L:=by{
induction L with
|nil=>exact aD h
|cons x r Z=>{
rw[nH] at h;split at h
·(refine au (aA h) ?_);rename_i q;exact aa (eq_of_beq q)<|bw _
.exact cq _<|Z h}}
def lI(U:aF)(v:jG)(t:List<|Nat×Str)(L:List<|Str×Addr)(C:Addr):aF:=⟨compEnvC v L C U.env,t,C::U.own,[C],U.frames⟩
structure zh (fr:aF) (scope:jG) (vis:List (Nat×Str)) (lo:Nat):Prop where
 kind:scope.kind= .function
 nocell:∀x∈scope.names,x.2≠.cell
 nd:(scope.names.map (·.1)).Nodup
 free:∀x∈scope.names,x.2= .free->fr.env.kindOf x.1=some .cell/\∃i,(i,x.1)∈fr.vis
 vi:∀p∈vis,(p∈fr.vis/\p.1<lo/\(p.2,.free)∈scope.names)\/(lo<=p.1/\(p.2,.local)∈scope.names)
 v1:∀p∈vis,∀q∈vis,p.1=q.1->p.2=q.2
 v2:∀p∈vis,∀q∈vis,p.2=q.2->p.1=q.1
abbrev rF (env:Env) (n:Str) (k:oQ):oQ:=if(k== .free&&env.scope.kind== .function&&env.kindOf n==S .cell)=T then .cell else k
theorem zR{b:List (Str×oQ)}:(b.map (·.1)).Nodup->(x,k)∈b->(b.map λ(n,k)=>if(k==GY&&env.scope.kind== .function&&env.kindOf n==S .cell) then(n,Bz) else(n,k)).lookup x=S (rF env x k):=by{
induction b with
|nil=>exact λ_ h=>absurd h aJ
|cons y r Z=>
 intro O h;replace O:=fq.mp O;have e:(if(y.2==GY&&env.scope.kind== .function&&env.kindOf y.1==S .cell) then(y.1,Bz) else(y.1,y.2))=(y.1,rF env y.1 y.2):=by delta rF;split<;>rfl
 show Z0 x ((if(y.2==GY&&env.scope.kind== .function&&env.kindOf y.1==S .cell)=T then(y.1,Bz) else(y.1,y.2))::_)=_;exact aa e (aa nH (dP (bJ.mp h) (λh=>h▸(beq_self_eq_true x).symm▸J) λh=>(beq_eq_false_iff_ne.mpr λq=>O.1 (show y.1∈r.map (·.1) from q▸ya h):(x==y.1)=F)▸Z O.2 h))}
theorem XQ{a:List (Str×Addr)}:a.Pairwise (λx y=>x.2≠y.2)->(n,c)∈a->(m,c)∈a->n=m:=by{
induction a with
|nil=>exact λ_ h=>absurd h aJ
|cons x r Z=>intro O G M;replace O:=sC.mp O;exact(bJ.mp G).elim (λG=>(bJ.mp M).elim (λM=>congrArg uK<|G.trans M.symm) λM=>absurd J<|G▸O.1 _ M) λG=>(bJ.mp M).elim (λM=>absurd J<|M▸O.1 _ G) λM=>Z O.2 G M}
abbrev wy (U:aF) (n:Str):Prop:=U.env.kindOf n=S .cell/\∃i,(i,n)∈U.vis
theorem Jo(Y:aq a U l H s)(h:wy U b):∃c o y i,U.env.cells.lookup b=S c/\s.heap.get? c=S o/\o.data= .cell y/\(i,b)∈U.vis/\jX a s.heap (l.at i) y:=by refine ai (λw L=>af (L) λi Z=>?_)<|h;have r:=Y.loc _ Z;unfold dq at r;rw[w] at r;obtain⟨c,o,y,q,X,M,A⟩:=r;exact⟨c,o,y,i,q,X,M,Z,A⟩
theorem Rk(b:aq d U l H s)(j:pA U)(u:zh U v t k)(a:zi (wy U) U.env.cells L)(M:s.heap.get? C=N):pA (lI U v t L C) where
 ek:=⟨u.kind,j.ek.glob,j.ek.bi⟩
 cap:=by
  have h:=a.nd;unfold List.Nodup at h;rw[qt] at h;exact h.imp_of_mem λ{x y} f n X e=>X<|XQ j.cap (e▸mem_of_lookup (a.sub x f).1)<|mem_of_lookup (a.sub y n).1
 cab:=λm c h e=>by
  obtain⟨g,I⟩:=a.sub _ h;refine ie (Jo b I) λB o _ Z=>?_;obtain⟨_,Y,Q,_⟩:=Z;rw[g] at Y;(obtain rfl:=aA Y);replace Q:=M▸e▸Q;exact aD Q
 v1:=u.v1
 v2:=u.v2
theorem aq.comp(Y:aq h1 U l H s)(j:pA U)(u:zh U v t h2)(c1:zi (wy U) U.env.cells L)(Q:∀x∈v.names,x.2= .free->∃c,(x.1,c)∈L)(w:s.heap.Ns d m)(nf:¬cg H d)(nb:h1.base.get? d=N)(G:∀i,i<h2->C.at i=l.at i) (M:∀i,h2<=i->C.at i=N):aq h1 (lI U v t L d) C H s:=by{
refine let P:=_;(?_:aq _ P _ _ _)
have A:∀{x:Str} {k:oQ},(x,k)∈v.names->(compEnvC v L d U.env).kindOf x=S (rF U.env x k):=zR u.nd;have b:∀{x:Str},(x,GY)∈v.names->wy U x->∃c,L.lookup x=S c/\U.env.cells.lookup x=S c/\(compEnvC v L d U.env).kindOf x=S .cell:=λ{x} f B=>by refine af (Q _ f J) λc hc=>(bl c (Nf c1.nd hc) ((c1.sub _ hc).1)<|(A f).trans ?_);unfold rF;refine aa B.1<|aa j.ek.kind ?_;rfl
refine⟨Y.base,Y.rep,Y.apart,Y.fresh,λp O=>?_,λp O a R=>?_,λa R=>?_,λa R=>(aa (cJ.mp R)<|bw _),Y.frm,Y.frmAt,Y.lim⟩
.refine let P:=_;(?_:dq _ P _ _ _)
 unfold dq;rcases u.vi p O with⟨h,h0,E⟩|⟨h0,E⟩
 ·(refine eN (b E<|u.free _ E J) λc g I e3=>?_)
  have r:=Y.loc p h;unfold dq at r;rw[(u.free _ E J).1] at r;obtain⟨c',o,y,q,X,r2,r3⟩:=r;replace q:=I▸q;(obtain rfl:=aA q);exact aa e3<|(G _ h0)▸⟨c,o,y,g,X,r2,r3⟩
 .exact aa ((λ{x} f=>A f) E)<|(M _ h0)▸⟨m,w,trivial⟩
.unfold kB at R;rcases u.vi p O with⟨h,h0,E⟩|⟨h0,E⟩
 ·(refine eN (b E<|u.free _ E J) λc g I e3=>?_)
  rw[show(lI U v t L d).env.kindOf p.2=_ from e3] at R;refine cq _<|Y.own p h a ?_;unfold kB;refine((u.free _ E J).1)▸?_;replace R:=g▸R;exact I.trans R
 .replace R:=((λ{x} f=>A f) E)▸R
  (refine au (aA R) ?_)
  exact bw _
.clear b A M G Q c1 u j C;rcases bJ.mp R with rfl|R
 .refine eg w λo es D e hd _=>?_;exact⟨⟨nf,nb⟩,o,e,λZ n z=>by replace z:=hd▸z;cases z⟩
 .exact Y.ownAt a R}
theorem aq.p6(Y:aq a U l H s)(h:∀p∈U.vis,C.at p.1=l.at p.1\/C.at p.1=N):aq a U C H s:=
 ⟨Y.base,Y.rep,Y.apart,Y.fresh,λp O=>by{
have r:=Y.loc p O;rcases h p O with e|e
.exact aa e r
.refine aa e (r.imp (λr=>?_) λr=>r.to (λ_ _ _ e=>e) λ_ _=>trivial);obtain⟨m,r,_⟩:=r;exact⟨m,r,trivial⟩},Y.own,Y.ownAt,Y.wrOwn,Y.frm,Y.frmAt,Y.lim⟩
def Cd(a:St)(cx:Cx)(U:aF)(n:Nat)(m:ME)(f:List Expr):Prop:=∀(A:aI) (l:ae) (H:MH) (s:ah) (u:Bool->MH->Prop),bN A U n cx.hn->aq a U l H s->aP cx fM l m (bR u) H->aj (ao a.prog a.w) A (Ce f U.env) (wN a U l H s u) mG s
theorem Mi(h:cS a U l H s fM e u):mG e u:=let⟨_,_,_,_,_,_,_,_,_,_,_,q⟩:=h;q
def Tg.fst:Tg->Nat
 |.one i=>i
 |.two i _=>i
theorem UV(h:i<t.fst):(fD t l).at i=l.at i:=by{
have a:∀j r,i<j->(∀x∈r,x=N)->ae.at (l.take j++r) i=l.at i:=λj r h9 I=>by{
delta ae.at;refine aa (OQ)<|aa Bo ?_;split
.exact aa (aaL)<|congrArg _<|if_pos h9
.rename_i q
 refine aa (show l[i]?=N from iP<|je.mp λz=>q<|Nat.lt_min.mpr ⟨h9,z⟩) ?_
 induction e:r[i-min j l.length]? using aV with
 |none=>rfl
 |some x=>exact(I x<|du e)}
induction t using Tg.casesOn with
|one j=>exact a j _ h λx f=>(aaM.mp f).2
|two j k=>exact a j _ h λx f=>by simpa using f}
theorem IB(h:t.fst<=i):(fD t l).at i=N:=by{
have a:∀j r,j<=i->(∀x∈r,x=N)->ae.at (l.take j++r) i=N:=λj r h9 I=>by{
unfold ae.at;refine aa (OQ)<|aa Bo ?_;split
.exact absurd ‹_› (je.mpr<|am (aaN _ _) h9)
.induction e:r[i-min j l.length]? using aV with
 |none=>rfl
 |some x=>exact(I x<|du e)}
induction t using Tg.casesOn with
|one j=>exact a j _ h λx f=>(aaM.mp f).2
|two j k=>exact a j _ h λx f=>by simpa using f}
theorem Vf(h9:∀i j,t= .two i j->i<=j)(h:cT t v l=S C)(Z:i<t.fst):C.at i=l.at i:=by{
refine let p:=_;(?_:p)
induction t using Tg.casesOn with
|one j=>obtain⟨_,h⟩:=AV h;subst h;exact ae.j7<|fu Z
|two j k=>{
refine aU (gV.mp h) λL _ h=>?_;refine iC (Nr h) λx y _ _ e=>?_;clear h
(obtain rfl:=aA e)
exact(ae.j7<|fu<|cO Z<|h9 _ _ J).trans<|ae.j7<|fu Z}}
theorem Dr:¬xz "list"= .type "tuple":=by simp
def jq(U:St)(D:Addr)(L:List V)(H:MH)(s:ah):Prop:=¬cg H D/\∃P,s.heap.PlainList D P/\RepL U s.heap L P.toList
theorem jq.step(a:jq b D L H s)(d:aq b U l H s)(e:D∉U.own)(M:D∉U.fs)(G:Go U.fs U.wr H s Y u):jq b D L Y u:=by obtain⟨c,P,⟨n,g⟩,r⟩:=a;exact⟨λq=>(G.mono D q).elim c λz=>(by replace z:=g▸z;cases z),P,⟨n,G.keep D _ c (λz=>e<|d.wrOwn D z) M g⟩,r.keep<|d.j3 G⟩
inductive CI (st:St) (fr:aF) (I D:Addr) (Sf:Nat->Heap->Prop) (H₀:MH) (s₀:ah) (l:ae) (N:List V->List V->MH->Prop) (items:List V) (j:Nat) (s:ah):Prop
 |mk (k:Nat) (H:MH) (xs:List V) (e:j=items.length-k) (hk:k<=items.length) (T:ju st fr I Sf H₀ s₀ k l H s) (a:jq st D xs H s) (h:N (items.drop k) xs H)
theorem CI.next(w:k<M.length)(D:ju b U I Y j d (k+1) l H s)(a:jq b e L H s)(h:c (M.drop<|k+1) L H):∃m,m<M.length-k/\CI b U I e Y j d l c M m s:=⟨_,uR w<|iO k,k+1,H,L,J,w,D,a,h⟩
def Rf(a:St)(A:aI)(U:aF)(f:List Expr)(k:Expr)(c:List V->MH->Prop)(L:List V)(l:ae)(H:MH):Prop:=∀s,aq a U l H s->aj (ao a.prog a.w) A (Ce f U.env)
 (wN a U l H s λb Y=>(b=F->c L Y)/\(b=T->∀u,aq a U l Y u->aj (ao a.prog a.w) A (eval k U.env) (bH a U l (aE a) Y u λx G=>c (L++[x]) G) mG u)) mG s
def Wf(a:St)(A:aI)(U:aF)(t:Tg)(f:List Expr)(k:Expr)(l:ae)(v:V)(c:List V->MH->Prop)(L:List V)(H:MH):Prop:=L.length<=1000000/\∃x,cT t v l=S x/\(∀H s,aq a U x H s->aq a U l H s)/\Rf a A U f k c L x H
theorem jq.off(a:jq U D L H s)(X:D≠I)(e:∀o Z n,s.heap.get? I=S o->o.data≠.seq Z n)(k:∀b o,b≠I->s.heap.get? b=S o->u.heap.get? b=S o):jq U D L H u:=by obtain⟨c,P,⟨m,g⟩,r⟩:=a;exact⟨c,P,⟨m,k _ _ X g⟩,r.keep λb Q f n O _ d=>k b Q (λz=>e _ _ _ (z▸O) d) O⟩
theorem RZ{A:aI}{cx:Cx}{h6:List V->MH->Prop}{c:List V->List V->MH->Prop}(hh:A.handled=N) (hA:bN A d n cx.hn) (D:iW d t tg) (O:hV U d I h1) (G:hV U d h0 h1) (X:h0≠I) (B:kG U A I M z6 Sf)(nc:∀r L H,c r L H->z6 H) (n0:∀L H,c [] L H->h6 L H) (z7:∀v r L H,c (v::r) L H->Wf U A d t z8 z9 l v (c r) L H)(TT:ju U d I Sf h7 h1 0 l H s) (ac:jq U h0 [] H s) (h:c M [] H)(hR:∀Y u L,aq U d l Y u->Go d.fs d.wr h7 h1 Y u->jq U h0 L Y u->h6 L Y->R (.ok .next) u):gN (ao U.prog U.w) A (.compLoop (.ListComp z9 [⟨tg,x6,z8,0⟩] x7 h9) 0 (.ref I) (.ref h0) d.env) R s:=by{
refine WZ (CI U d I h0 Sf h7 h1 l c M) ?_ M.length ⟨0,H,[],J,bW _,TT,ac,h⟩;rintro j s ⟨k,H,L,rfl,w,h3,ac,h⟩;refine let za:=_;(?_:aj _ _ _ za _ _)
have h8:∀{k s},Sf k s->∀o Z n,s.get? I=S o->o.data≠.seq Z n:=λa o Z n e z=>by refine eg (B.obj _ _ a) λoI nm us e1 _ zr=>?_;obtain⟨e3,_⟩:=zr;exact nomatch e3.symm.trans<|(congrArg Obj.data<|aA<|e1.symm.trans e).trans z
refine CM B O h3 (nc _ _ _ h) ?_
induction f:M[k]? using aV with
|none=>replace h:=aav (uL.mp f)▸h;exact λu S' G' kk=>hR H u L S' G' (ac.off X (h8 h3.at_) kk)<|n0 _ _ h
|some x=>{
refine let p:=_;(?_:p)
obtain⟨h4,f⟩:=cW.mp f;replace h:=f▸(xY h4)▸h;obtain⟨hl,x8,x0,z0,x1⟩:=z7 _ _ _ _ h;intro v x9 rv q kk;refine CP D B q.at_<|DG D hA hh q.S Go.refl rv x0 λx2 h5 z1=>bK (x1 x2 h5) (λok x3 z=>?_) λ_ _ z=>z;refine let p:=_;(?_:p)
obtain⟨e0,e2,rb,h2,z2,z3⟩:=z;subst rb;have z4:=((ac.off X (h8 h3.at_) kk).step q.S G.own G.fs z1).step h5 G.own G.fs z2.d5;have i:=(q.body B O h5 z1).body B O h2 z2.d5
induction ok using aX with
|false=>exact CI.next h4 ⟨z0 _ _ h2,i.G,i.off,i.at_⟩ z4<|z3.1 ff
|true=>
 refine bK (z3.2 tt x3 h2) (λy z5 z=>?_) λ_ _ z=>z;refine let p:=_;(?_:p)
 obtain⟨y',e4,ry,Q,E,x4⟩:=z;obtain⟨nf,P,⟨m,g⟩,r⟩:=z4.step h2 G.own G.fs E.d5;refine wpAny_list_append_plain (hsz:=Gk▸r.len▸am hl (by decide)) ⟨m,g⟩ λC hp hs=>?_;have k5:∀b o,b≠h0->z5.heap.get? b=S o->C.get? b=S o:=λb o hb e=>(hs.2 b hb).trans e;have tk:ee z5.heap C:=λb ob us n eb x5 _=>k5 b ob (λz=>Dr<|(congrArg Obj.cls<|aA<|g.symm.trans<|z▸eb).trans x5) eb;exact CI.next h4 ⟨z0 _ _<|Q.i5 g (λz=>(Dr z).elim) nf (bp G.own G.fs G.base) k5,(i.body B O Q E.d5).G.i5 G.new k5,(i.body B O Q E.d5).off,B.keep _ _ _ (i.body B O Q E.d5).at_ tk λo e=>k5 I o (eE X) e⟩ ⟨nf,_,hp,au aaa.symm<|(r.keep tk).append<|RepL.one<|ry.keep tk⟩ x4}}
theorem Uw{A:aI}{cx:Cx}{w:List V->MH->Prop}(hh:A.handled=N) (Z:bN A d n cx.hn) (o:∀i j,t= .two i j->i<=j) (Q:∀p∈d.vis,p.1<t.fst\/t.fst<=p.1) (D:iW d t tg) (he:Ev U cx d n a k) (hc:Cd U cx d n mc f)(O:hV U d I m) (P:hV U d C m) (X:C≠I) (B:kG U A I M h1 Sf) (g:ju U d I Sf h2 m 0 (fD t l) H s) (c:jq U C [] H s)(h:kF (λv=>cT t v<|fD t l) h1 (λw l H=>aP cx fM l mc (bR w) H) (λw l H=>aP cx fM l a w H) w M [] H)(hR:∀Y u L,aq U d (fD t l) Y u->Go d.fs d.wr h2 m Y u->jq U C L Y u->w L Y->R (.ok .next) u):gN (ao U.prog U.w) A (.compLoop (.ListComp k [⟨tg,h3,f,0⟩] h4 h9) 0 (.ref I) (.ref C) d.env) R s:=
 RZ hh Z D O P X B (λr L H h=>by obtain⟨⟩:=r<;>exact h.1) (λL H h=>h.2) (λv r L H h=>by obtain⟨x,hb,z⟩:=cU h.2.2;refine⟨h.2.1,x,hb,λH s h0=>h0.p6 λp hp=>(Q p hp).elim (λq=>.inl (Vf o hb q).symm) λq=>.inr<|IB q,λs h0=>bK (hc A x H s _ Z h0 z) (λok u y=>?_) λ_ _ z=>z⟩;obtain⟨b,Y,e,E,G,q⟩:=y;exact⟨b,Y,e,E,G,λe=>by subst e;exact q,λe u E=>bK (he A x Y u _ _ Z E (by subst e;exact q)) (λ_ _ q=>q) λ_ _ z=>Mi z⟩) g c h hR
theorem Go.drop(G:Go D [C] H s Y u)(O:s.heap.get? C=N):Go D [] H s Y u:=by
 have X:∀a o,s.heap.get? a=S o->a∉[C]:=λa o e q=>by replace e:=O▸(cJ.mp q)▸e;exact aD e
 exact⟨G.there,λa o b _ c e=>G.keep a o b (X a o e) c e,λa o b _ e=>G.slots a o b (X a o e) e,G.mono⟩
structure DN (st:St) (cx:Cx) (fr:aF) (n:Nat) (me:ME) (t:Tg) (it:MIt) (mc:ME) (elt tg eit:Expr) (ifs:List Expr) (scope:jG) (vis:List (Nat×Str)):Prop where
 ok:zh fr scope vis t.fst
 tj:∀i j,t= .two i j->i<=j
 T:∀cl C,iW (lI fr scope vis cl C) t tg
 hi:qE st cx fr n it eit
 hs:qX eit=true
 he:∀cl C,Ev st cx (lI fr scope vis cl C) n me elt
 hc:∀cl C,Cd st cx (lI fr scope vis cl C) n mc ifs
 hx:∃p∈vis,(p.2,oQ.local)∈scope.names
theorem IG{A:aI}{E:Value->ah->Prop}{h2:List V->MH->Prop}(j:DN h0 cx U n me t it mc z3 tg R z4 h3 h6)(hh:A.handled=N) (hA:bN A U n cx.hn) (h1:aq h0 U l H s)(h:wpI cx X l it (λM z5 H=>M.length<=1000000/\kF (λv=>cT t v<|fD t l) z5 (λh2 l H=>aP cx fM l mc (bR h2) H) (λh2 l H=>aP cx fM l me h2 H) h2 M [] H) H)(hE:∀e u,cS h0 U l H s X e u->E e u)(hR:∀D C Y u m L,aq h0 U l Y u->Go U.fs [] H s Y u->hV h0 U D s->hV h0 U C s->D≠C->¬cg Y C->jq h0 D L Y u->u.heap.Ns C m->h2 L Y->compPost (ao h0.prog h0.w) A E z6 Qc (.ref D) C (.ok .next) u):aj (ao h0.prog h0.w) A (comprehension (.ListComp z3 [⟨tg,R,z4,0⟩] h3 h9) h3 U.env e2 (newList []) F (eval R U.env) z6) Qc E s:=by{
refine let za:=_;let zb:=_;(?_:aj za _ zb _ _ _)
refine af ((by{
refine let Gz:=_;(?_:Gz)
obtain⟨cl,h⟩:=VB λx f G=>by refine ie (Jo h1<|j.ok.free x f G) λc _ _ Z=>?_;obtain⟨_,e,_⟩:=Z;exact⟨c,e⟩
refine jy (UU (P:=wy U) (w:=[]) j.ok.nd (λ_ _ h=>by cases h) j.ok.free ⟨λ_ h=>(by obtain⟨⟩:=h),yb⟩ h) λk1 _ k3=>?_;exact(bl cl (congrArg (λm:Sem _=>m>>=λw=>pure w)<|Yj h) k1 k3)})) λcl x2=>ai (λx3 x4=>ai (λc1 c2=>wpAny_comprehension_free J (Dh j.hs) x3 j.ok.kind (λx f hl=>Nf j.ok.nd<|au hl f) ?_)<|x4)<|x2
refine j.hi A l H s X _ _ E hA hh h1 h hE λI g x5 M z5 Sf x6 x7 x8 nf B z7 k=>nC<|wpAny_newFunctionEnv j.ok.nocell (λy hy=>absurd hy aJ) (λx9 h7 h8=>qN (o:={cls:=.type "list",dict:=N,data:=.seq ([]).toArray}) (t:=g.toks) h1 x6 x7 λh4 z0 P z8=>?_) j.ok.kind;have gD:(g.heap.push {cls:=.type "list",dict:=N,data:=.seq ([]).toArray}).get? g.heap.objs.size=S {cls:=.type "list",dict:=N,data:=.seq ([]).toArray}:=eD _ ff;have k3:∀b Q,g.heap.get? b=S Q->(g.heap.push {cls:=.type "list",dict:=N,data:=.seq ([]).toArray}).get? b=S Q:=λb Q e=>cu _ e;generalize g.heap.push {cls:=.type "list",dict:=N,data:=.seq ([]).toArray}=h5 at h7 h8 h4 z0 gD k3 ⊢;generalize g.heap.objs.size=D at P z8 gD ⊢;have hC:h5.get? h5.objs.size=N:=gq<|cD _;generalize h5.objs.size=C at h7 h8 hC ⊢;refine let Gz:=_;(?_:Gz)
have k4:=λb Q e=>h8.extBut b Q (λq=>by replace e:=hC▸q▸e;exact aD e)<|cu _ e;have OC:=IZ h1<|ug z0.there hC;have e0:¬cg x5 C:=λq=>by(refine af (h4.at q) λo e=>?_);replace e:=hC▸e;exact aD e
have ne:∀{b Q},h5.get? b=S Q->b≠C:=λe q=>by replace e:=hC▸q▸e;exact aD e
refine eg (B.obj 0 _ z7) λoI _ _ d _ Z=>?_;obtain⟨dI,_⟩:=Z;have z9:∀{a:Addr},hV h0 U a s->a≠C->hV h0 (lI U h3 h6 cl C) a s:=λo e1=>⟨λq=>(bJ.mp q).elim e1 o.own,o.fs,o.base,o.new⟩;have x0:=B.keep 0 _ _ z7 (fP λb Q e=>k4 b Q<|k3 b Q e) λo e=>k4 _ _<|k3 _ _ e;have x1:∀z1:ah,z1={g with heap:=x9,toks:=g.toks+0}->gN (ao h0.prog h0.w) A (.compLoop (.ListComp z3 [⟨tg,R,z4,0⟩] h3 h9) 0 (.ref I) (.ref D) (lI U h3 h6 cl C).env) (compPost (ao h0.prog h0.w) A E z6 Qc (.ref D) C) z1:=by{
rintro z1 rfl;refine Uw hh (⟨hA.hd,⟨hA.at_.stack,hA.at_.top⟩,hA.dep,hA.uni,Rk h4 hA.fo j.ok c1 hC⟩) j.tj (λp O=>(j.ok.vi p O).elim (λq=>.inl q.2.1) λq=>.inr q.1) (j.T cl C) (j.he cl C) (j.hc cl C) (z9 x8<|ne<|k3 _ _ d) (z9 P<|ne gD) (λq=>?_) B
 ⟨(((h4.ext k4).1).comp hA.fo j.ok c1 c2 h7 e0 OC.base (λi z2=>UV z2) λi z2=>IB z2),(z0.trans<|(h4.ext k4).2).d5,nf,x0⟩ ⟨z8,#[],⟨_,k4 _ _ gD⟩,J⟩ k.2 λY u L S' G' a' q=>?_
.exact absurd gD (by refine q▸(aa (k3 _ _ d) ?_);intro z;(obtain rfl:=aA z);obtain⟨⟩:=dI)
·(refine aU (j.hx) λp O hm=>?_)
 have r:=S'.loc p O;unfold dq at r;replace r:=(show(lI U h3 h6 cl C).env.kindOf p.2=_ from zR j.ok.nd hm)▸r;obtain⟨m,r,_⟩:=r;exact hR D C Y u m L (h1.next (G'.drop OC.new) S'.base S'.rep S'.apart<|bp (S'.lim.1.trans h1.lim.1.symm) (S'.lim.2.1.trans h1.lim.2.1.symm)<|S'.lim.2.2.trans h1.lim.2.2.symm) (G'.drop OC.new) P OC (ne gD) (S'.ownAt C<|bw _).1.1 a' r q}
exact codeAny_compStart_list (x1 _ J)<|B.self 0 _ _ _ x0<|x1 _ J}
theorem Nu(Y:aq b U l H s)(f:aq b U l I i)(G:Go U.fs [] H s I i)(O:hV b U D s)(a:jq b D L I i):aq b U l (I.set D<|.list L) i/\Go U.fs [] H s (I.set D<|.list L) i/\I D=N:=by{
obtain⟨c,P,⟨m,g⟩,r⟩:=a;obtain⟨E,p⟩:=aq.n8 Y f G O.new c (o:=.list L) J g Dr (.refl ..) ⟨_,g⟩ λy=>⟨P,⟨m,g⟩,r⟩;refine(bp E p ?_)
induction e:I D using aV with
|none=>rfl
|some o=>exact absurd (iT e) c}
theorem SW(j:DN I cx U n me t p mc k tg R h0 v h7)(h2:jM U i nm)(h3:GR (.ListComp k [⟨tg,R,h0,0⟩] v h9) (S<|.Name nm py) w.line U.env=pure T):Sx I cx U n (.asg i<|.comp me t p mc) (.Assign [.Name nm py] (.ListComp k [⟨tg,R,h0,0⟩] v h9) w):=λA l H s Q X y h1 h=>by{
refine(exec_Assign_Name_used _ _ _ _ h3)▸(ag<|gO<|ag ?_);refine let P:=_;let zb:=_;(?_:aj _ _ _ P zb _)
refine ag<|bK (IG j (y.hd h.2.1) y h1 h.2.2 (λ_ _ ⟨a,Y,e1,E,g,q⟩=>⟨a,l,Y,e1,E,g.d5,q⟩) λD C Y u m L E G' OD x ne c a M q=>ai (λf h4=>ai (λh5 e=>?_)<|h4)<|Nu h1 E G' OD a) (λ_ u hq=>av<|av hq) λ_ _ z=>z;have r:¬cg (Y.set D<|.list L) C:=λz=>(tX z).elim c λz=>z.elim (eE ne) λz=>(by obtain⟨⟩:=z);refine Pi<|vv h2 y f h.1 (show aE I u.heap (.ref D) _ from rfl) λh8 h6 B=>⟨m,M.at' λo e=>B.keep C o r (λz=>x.own<|f.wrOwn C z) x.fs e,λh' G=>?_⟩;refine let Gz:=_;(?_:Gz)
obtain⟨o,es,ep,g,hd,_⟩:=M.at' λo e=>B.keep C o r (λz=>x.own<|f.wrOwn C z) x.fs e;exact mX ((h5.d5.trans B).i5 x.new λb ob d O=>(G.2 b d).trans O) (h6.i5 g (λ_ Z n z=>by replace z:=hd▸z;obtain⟨⟩:=z) r ⟨x.own,x.fs,x.base⟩ λb ob d O=>(G.2 b d).trans O)<|q D e}
def W{D:Type}(n:Nat)(B:Nat->Nat):KasT D->(D->Prop)->Prop
 |.ret a,Q=>Q a
 |.ask i j k,Q=>(i<n/\j<n)/\W n B (k<|decide<|B i<B j) Q
theorem tL{f:D->KasT w}{Q:w->Prop}:∀{t:KasT D},W n B t (λa=>W n B (f a) Q)->W n B (t.bind f) Q
 |.ret _,h=>h
 |.ask _ _ _,h=>⟨h.1,tL h.2⟩
theorem JI{I:ah->Prop}{G:D->ah->Prop}{Q:D->Prop}(b:∀i j d s,i<n->j<n->I s->(∀u,I u->d (decide<|B i<B j) u)->c i j d s)(o:∀a s,Q a->I s->G a s):∀{t:KasT D} {s:ah},W n B t Q->I s->t.kasWp c G s
 |.ret a,s,h,i=>o a s h i
 |.ask _ _ _,s,h,i=>b _ _ _ _ h.1.1 h.1.2 i λu f=>JI b o h.2 f
structure Pm (n:Nat) (p:Array Nat):Prop where
 z:p.size=n
 p:p.toList.Perm (cE n)
theorem Pm.lt{a:Array Nat}(h:Pm n a)(w:k<n):a.getD k 0<n:=by{
have C:k<a.size:=by exact aa h.z w
have e:a.getD k 0=a[k]:=by simp[Array.getD,C]
exact aa e (kg.mp (h.p.mem_iff.mp (by simp)))}
theorem Pm.to{a q:Array Nat}(h:Pm n a)(e:q.Perm a):Pm n q:=⟨e.size_eq.trans h.z,(Array.perm_iff_toList_perm.mp e).trans h.p⟩
def ky(B:Nat->Nat)(p:Array Nat)(k:Nat):Nat:=B<|p.getD k 0
theorem vJ(h:q[i]?=p[j]?):ky B q i=ky B p j:=by unfold ky;exact aa (Pu)<|aa (Pu)<|aa h J
theorem DR(a:k<p.size)(o:l<=k)(x:Nat):ky B (bubble p k<|k-l) x=if x=l then ky B p k else if l<x/\x<=k then ky B p (x-1) else ky B p x:=by{
have e:=getElem?_bubble a (k-l) (nK _ _) x;replace e:=(aaO o)▸e;split
.rename_i c;replace e:=(if_pos c)▸e;exact vJ e
.rename_i c
 rw[if_neg c] at e;split
 .rename_i d;rw[if_pos d] at e;exact vJ e
 .rename_i d;rw[if_neg d] at e;exact vJ e}
theorem Ja(h9:j<=p.size)(x:Nat):ky B (GZ p i j) x=if i<=x/\x<j then ky B p (i+j-1-x) else ky B p x:=by{
have e:=getElem?_mirror_all (i:=i) h9 x;split
.rename_i c;rw[if_pos c] at e;exact vJ e
.rename_i c;rw[if_neg c] at e;exact vJ e}
def Up(B:Nat->Nat)(p:Array Nat)(k:Nat):Prop:=∀i,i+1<k->ky B p i<=ky B p (i+1)
def Dn(B:Nat->Nat)(p:Array Nat)(k:Nat):Prop:=∀i,i+1<k->ky B p (i+1)<=ky B p i
theorem Up.le(u:Up B p k)(h:i<=j)(h9:j<k):ky B p i<=ky B p j:=by{
induction j with
|zero=>exact Gh.mp h▸cD _
|succ j Z=>exact(BM h).elim (λh=>am (Z (kh h)<|se h9)<|u j h9) λe=>e▸cD _}
theorem vh[Decidable P]{D:Type}{a b:D}{Q:D->Prop}(h:P->Q a)(C:¬P->Q b):Q (if decide P=T then a else b):=by{
by_cases c:P
.exact aa (if_pos<|decide_eq_true c)<|h c
.rw[if_neg (by exact aa (decide_eq_false c) λz=>ak z)];exact C c}
theorem oD[Decidable P]{D:Type}{a b:D}{Q:D->Prop}(h:P->Q a)(C:¬P->Q b):Q (if P then a else b):=if c:P then(if_pos c).symm▸h c else(if_neg c).symm▸C c
theorem xc{P:Nat->Prop}(h:∀i,i+1<y+1->P i)(c:P y)(i:Nat)(Z:i+1<y+2):P i:=(V3.mp Z).elim (h i) λe=>aa (nM e) c
theorem n1(e:y+1+(f+1)=n):y+1+1+f=n:=(oL _ 1 f).trans e
theorem n2(e:x+(f+1)=n):x<n:=au e<|jh<|kf f
abbrev O5 (n:Nat) (B:Nat->Nat) (p:Array Nat) (Q:Nat->Prop):Prop:=∀m,m+1<=n->Up B p (m+1)->(m+1<n->ky B p (m+1)<ky B p m)->Q (m+1)
theorem Ju(P:Pm n p)(q:O5 n B p Q)(f y:Nat)(e:y+1+f=n)(u:Up B p<|y+1):W n B (kas_asc p f<|y+1) Q:=by{
induction f generalizing y with
|zero=>exact q y (dr e) u λh=>absurd h<|je.mpr<|dr e.symm
|succ f Z=>exact⟨⟨P.lt<|n2 e,P.lt<|se<|n2 e⟩,vh (Q:=λt=>W n B t Q) (λc=>q y (bU<|n2 e) u λ_=>c) λc=>Z _ (n1 e)<|xc u<|dw c⟩}
abbrev Dd (n:Nat) (B:Nat->Nat) (Q:Nat×Array Nat->Prop):Prop:=∀m p,Pm n p->m+1<=n->Up B p (m+1)->Q (m+1,p)
theorem MC(P:Pm n p)(f:y+1<=n)(d:Dn B p<|y+1)(q:Dd n B Q):W n B (kas_tail3 (y+1) n p) Q:=
 have b:Pm n (GZ p 0 _):=P.to<|Ha _ _ _ _;have r:∀i,i<y+1->ky B (GZ p 0 _) i=ky B p (y-i):=λi h=>by rw[Ja<|aa P.z f,if_pos ⟨bW _,h⟩,da];rfl
 tL (Ju b (λm a u _=>q m _ b a u) (n-(y+1)) y (BO f) λi h=>by refine aa (r i<|se h)<|aa (r _ h)<|au (Hb<|aaP<|sB h) ?_;exact d _ (aat (aaQ (by exact aa (Nat.succ_eq_add_one ..)<|aa (Hb<|aaP<|sB h)<|nK _ _))))
def yB(B:Nat->Nat)(p:Array Nat)(s e:Nat):Prop:=∀i,s<=i->i<=s+e->ky B p i=ky B p s
theorem Em(P:Pm n p)(h:s+e+1<=n)(E:yB B p s e)(y:Nat):ky B (GZ p s<|s+e+1) y=ky B p y:=
 (Ja (aa P.z h) y).trans (oD (Q:=λv=>v=ky B p y) (λc=>have a:=kh c.2
  (E (s+(s+e)-y) (aa (Nat.add_sub_assoc a s)<|eF _ _)<|Nat.sub_le_iff_le_add.mpr<|aa (fF s _)<|gM c.1 _).trans (E y c.1 a).symm) λ_=>J)
theorem Dn.same(d:Dn B p k)(h:∀y,ky B q y=ky B p y):Dn B q k:=λi Z=>h i▸h (i+1)▸d i Z
abbrev WG (n:Nat) (B:Nat->Nat) (Q:Array Nat×Nat×Nat->Prop):Prop:=∀p s e,Pm n p->s+e+1<=n->Dn B p (s+e+1)->yB B p s e->Q (p,s+e+1,e)
theorem QP(q:WG n B Q)(f:Nat)(p:Array Nat)(s e:Nat)(P:Pm n p)(h:s+e+1+f=n)(d:Dn B p<|s+e+1)(E:yB B p s e):W n B (kas_desc f p (s+e+1) e) Q:=by{
induction f generalizing p s e with
|zero=>exact q p s e P (dr h) d E
|succ f Z=>exact
 have a:=P.lt<|n2 h;have b:=P.lt<|se<|n2 h;have j:∀p,yB B p _ 0:=λp i h C=>congrArg (ky B p) (kj C h)
 ⟨⟨a,b⟩,vh (Q:=λt=>W n B t Q) (λc=>have k:Dn B p _:=xc d (bU c)
  oD (Q:=λt=>W n B t Q) (λ_=>by refine aa (show s+e+1-(e+1)=s from aaR s<|e+1) ?_;exact Z _ _ 0 (P.to<|Ha _ _ _ _) (n1 h) (k.same<|Em P (bU<|n2 h) E)<|j _) λ_=>Z p _ 0 P (n1 h) k<|j p)
  λc=>⟨⟨b,a⟩,vh (Q:=λt=>W n B t Q) (λ_=>q p s e P (bU<|n2 h) d E) λl=>
   have g:ky B p _=ky B p (s+e):=kj (dw l)<|dw c
   Z p s (e+1) P (n1 h) (xc d<|dr g) λi G M=>(BM M).elim (λz=>E i G<|kh z) λz=>z▸g.trans (E _ (eF s e)<|cD _)⟩⟩}
theorem NB(P:Pm n p)(f:y+1<n)(d:Dn B p<|y+2)(q:Dd n B Q):W n B (kas_descPart (y+1) n p) Q:=
 tL (QP (λz s e b a L E=>by refine aa (show s+e+1-(e+1)=s from aaR s<|e+1) ?_;exact oD (Q:=λt=>W n B t Q) (λ_=>MC (b.to<|Ha _ _ _ _) a (L.same<|Em b a E) q) λ_=>MC b a L q) (n-(y+2)) p _ 0 P (BO f) d λi h C=>congrArg (ky B p)<|kj C h)
theorem Sa(P:Pm n p)(O:1<=n)(q:Dd n B Q):W n B (kas_count n p) Q:=
 tL (Ju P (λm a u c=>by
  refine oD (Q:=λt=>W n B t Q) (λ_=>q m p P a u) λe=>?_;have b:=sD a λz=>e<|beq_iff_eq.mpr z;have l:=bU<|c b;refine oD (Q:=λt=>W n B t Q) (λg=>⟨⟨P.lt<|aaQ O,P.lt<|se b⟩,vh (Q:=λt=>W n B t Q) (λ_=>q m p P a u) λd=>?_⟩)
   λg=>NB P b (xc (λi h=>absurd (sB h)<|Nat.not_lt_of_le<|am (Bg<|dw g)<|bW i) l) q
  have M:=λi Z=>kj (am (u.le Z<|iO m)<|dw d)<|u.le (bW i)<|oU Z;have D:Dn B p _:=xc (λi h=>dr<|(M _<|kh h).trans (M i<|bU<|sB h).symm) l;have Y:=Em P ((da m).symm▸a) λi _ h=>M i<|da m▸h;rw[da] at Y;exact NB (P.to<|Ha _ _ _ _) b (D.same Y) q)
  (n-1) 0 (BO O) λi h=>absurd (sB h)<|lV i)
theorem DV(h:l<r):(l+r)/2<r:=aaS<|aa (Nat.two_mul r)<|aaT h r
theorem Cr(h:l<r):l<=(l+r)/2:=(aaU Nat.two_pos).mpr<|Nat.mul_two l▸gM (bU h) l
abbrev UK (B:Nat->Nat) (p:Array Nat) (k:Nat) (Q:Nat->Prop):Prop:=∀m,m<=k->(∀i,i<m->ky B p i<=ky B p k)->(∀i,m<=i->i<k->ky B p k<ky B p i)->Q m
theorem M9(P:Pm n p)(w:k<n)(u:Up B p k)(q:UK B p k Q)(f l r:Nat)(a:l<=r)(b:r<=k)(c:r-l<=f)(d:∀i,i<l->ky B p i<=ky B p k)(e:∀i,r<=i->i<k->ky B p k<ky B p i):W n B (kas_place p k f l r) Q:=by{
induction f generalizing l r with
|zero=>have z:=kj a<|Nat.sub_eq_zero_iff_le.mp<|Gh.mp c;exact q l (am a b) d λi h=>e i<|au z h
|succ f Z=>
 refine oD (Q:=λt=>W n B t Q) (λh=>q l (am a b) d λi C=>e i<|am h C) λh=>?_;have h:=BP h;have y:=cO (DV h) b;exact⟨⟨P.lt w,P.lt<|lX y w⟩,vh (Q:=λt=>W n B t Q) (λg=>Z l _ (Cr h) (bU y) (kh<|cO (aaV (Cr h)<|DV h) c) d λi G M=>cO g<|u.le G M)
  λg=>Z _ r (DV h) b (kh<|cO (uR h<|oU<|Cr h) c) (λi G=>am (u.le (kh G) y)<|dw g) e⟩}
theorem Rb(a:k<p.size)(o:l<=k):ky B (bubble p k<|k-l) l=ky B p k/\(∀i,i<l->ky B (bubble p k<|k-l) i=ky B p i)/\∀i,l<=i->i+1<=k->ky B (bubble p k<|k-l) (i+1)=ky B p i:=(bp ((DR a o l).trans<|if_pos J) (λi h=>(DR a o i).trans<|(if_neg<|fu h).trans<|if_neg λc=>Nat.lt_asymm h c.1) λi h C=>(DR a o _).trans<|(if_neg<|uJ<|oU h).trans<|if_pos ⟨oU h,C⟩)
theorem Wz(q:∀p,Pm n p->Up B p n->Q p)(f:Nat)(p:Array Nat)(k:Nat)(P:Pm n p)(e:k+f=n)(u:Up B p k):W n B (kas_bin f p k) Q:=by{
induction f generalizing p k with
|zero=>exact q p P<|e▸u
|succ f a=>{
refine tL<|M9 P (n2 e) u (λl G M C=>?_) k 0 k (bW _) (cD _) (nK _ _) (λi h=>absurd h<|lV _) λi G M=>absurd M<|je.mpr G;obtain⟨L,g,b⟩:=Rb (P.z.symm▸n2 e) G;refine a _ _ (P.to<|bubble_perm _ _ _) ((oL k 1 f).trans e) λi Z=>?_;have Z:=sB Z;refine(BI i l).elim (λh=>?_) λh=>h.elim (λh=>?_) λh=>?_
.rw[g i h];exact(BM h).elim (λh=>g (i+1) h▸u i (cO h G)) λz=>by subst z;exact L.symm▸M i h
.subst h;refine L▸(b i (cD i) Z)▸?_;exact bU<|C i (cD i) Z
.induction i using fK with
 |zero=>exact absurd h<|lV l
 |succ i=>refine(b i (kh h)<|bU Z)▸(b _ (bU h) Z)▸?_;exact u i Z}}
theorem Um(O:1<=n)(q:∀p,Pm n p->Up B p n->Q p):W n B (kas_sort n) Q:=
 tL (Sa ⟨lZ.trans sE,.refl _⟩ O λm p P h u=>by refine aa (Nat.max_eq_left<|nG<|bW m) ?_;exact oD (Q:=λt=>W n B t Q) (λc=>Wz q _ p _ P (BO h) u) λc=>q p P<|kj h (dw c)▸u)
def uj(A:aI)(s:ah)(y x:Value)(b:Bool):Prop:=∀(H:gK) (w:fg) (E:Value->ah->Prop) (Q:Value->ah->Prop),Q (.bool b) s->aj (ao H w) A (richCompare .Lt y x) Q E s
inductive mV (A:aI) (s:ah) (fin:Bool):List (Value×Value)->Bool->Prop
 |nil:mV A s fin [] fin
 |eq (p q:Value) (r:List (Value×Value)) (b:Bool) (e:EqAt A s p q true) (h:mV A s fin r b):mV A s fin ((p,q)::r) b
 |ne (p q:Value) (r:List (Value×Value)) (b:Bool) (e:EqAt A s p q false) (h:uj A s p q b) (k:∀i t j u,p= .int i t->q= .int j u->b=decide (i<j)):mV A s fin ((p,q)::r) b
theorem uj.tuples(o:s.heap.IsTuple l M)(D:s.heap.IsTuple b a)(I:A.units<dY)(he:mV A.in1 s (decide<|M.size<a.size) (M.toList.zip a.toList) c):uj A s (.ref l) (.ref b) c:=λH w E Q h=>by{
refine let p:=_;(?_:p)
refine eN (id o) λX Y hc Z=>?_;obtain⟨h0,t,h1,f⟩:=X;obtain⟨n,hd⟩:=Z;refine eN (id D) λX r v Z=>?_;obtain⟨h2,z,data2,B⟩:=X;obtain⟨n2,k⟩:=Z;simp only at hc hd v k;subst hc hd v k;exact richCompare_meets_room (aG _ Y J) (aG _ r J) PySem.F.slot_tuple_lt PySem.F.entry_tuple_lt (PySem.F.args_tuple_lt_2 _ _) ((.of_wp λH w A R s h=>by
  refine let P:=_;let C:=_;let zc:=_;let U:=_;let ze:=_;(?_:aj P C zc U ze _)
  obtain⟨O,g,d,tk,m⟩:=s;refine zG h λo D he h=>?_;have f2:=AutoSeq1.sub_tuple_tuple
  wp_walk using wpAny_loadPart' o,wpAny_loadPart' D,wpAny_forIn_list _ (λi b u=>b.1=N/\u=⟨O,g,d,tk,m⟩/\mV A.in1 ⟨O,g,d,tk,m⟩ (decide<|M.size<a.size) i c/\R (.ok<|.ret<|.bool c) ⟨O,g,d,tk,m⟩) _
  case turn=>
   rintro⟨y,x⟩ i b u ⟨q,rfl,G,j⟩;refine let P:=_;let C:=_;(?_:aj _ _ _ P C _)
   cases G with
   |eq _ _ _ _ e G=>{
refine ag<|e H w _ _ ?_
wp_walk
exact(ot J J G j)}
   |ne _ _ _ _ e G _=>{
refine ag<|e H w _ _ ?_;refine aa (if_pos<|show(!F)=T from rfl) ?_;refine ag<|Bq ?_;refine ag<|G H w _ _ ?_
wp_walk
exact(aG _ J j)}
  case fin=>
   rintro⟨L,b2⟩ u ⟨q,rfl,G,j⟩;refine let p:=_;(?_:p)
   simp only at q;refine let p:=_;(?_:p)
   subst q;cases G
   wp_walk
   exact(aG _ J (by simpa [abW] using j))
  case h=>exact(ot J J he h):Meets (Builtin.«tuple.__lt__» ⟨[.ref l,.ref b],[]⟩) λA R s=>s.heap.get? l=S {cls:=.type "tuple",dict:=t,data:=.seq M n,slots:=f}/\s.heap.get? b=S {cls:=.type "tuple",dict:=z,data:=.seq a n2,slots:=B}/\mV A.in1 s (decide<|M.size<a.size) (M.toList.zip a.toList) c/\R (.ok<|.ret<|.bool c) s))
 (ot Y r he (show Value.bool c≠Value.notImplemented/\Q _ s from⟨(λx=>(by cases x)),h⟩)) I}
theorem G7(Z:∀{x y b},f x y=S b->g x y=S b){l:List V}:∀{m:List V} {b:Bool},cQ f l m=S b->cQ g l m=S b:=by{
induction l with
|nil=>intro m b h;obtain⟨⟩:=m<;>exact h
|cons x l i=>{
intro m b h
induction m using aS with
|nil=>exact h
|cons y m=>
have h:(match f x y,cQ f l m with|some a,S b=>S (a&&b)|_,_=>N)=S b:=h;show(match g x y,cQ g l m with|some a,S b=>S (a&&b)|_,_=>N)=S b
induction e:f x y using aV with
|none=>replace h:=e▸h;exact aD h
|some c=>induction I:cQ f l m using aV with
 |none=>replace h:=I▸e▸h;exact aD h
 |some d=>refine aa (Z e)<|(i I)▸?_;replace h:=I▸e▸h;exact h}}
theorem Mq:∀{x y:V} {b:Bool},cA k (λ_=>N) x y=S b->cA k H x y=S b:=by{
induction k with
|zero=>exact λh=>aD h
|succ k Z=>{
intro x y b h
induction x using V.casesOn with
|tup l=>induction y using V.casesOn with
 |tup m=>exact G7 Z h
 |_=>exact h
|ref a=>induction y using V.casesOn with
 |ref c=>exact aD h
 |_=>exact h
|_=>exact h}}
def Rg(n:Nat)(x y:V)(b:Bool)(P:Prop):Prop:=(∀i j,x= .int i->y= .int j->b=decide (i<j)->P)->(∀l m,x= .tup l->y= .tup m->dH (cA 9 λ_=>N) (cF n) l m=S b->P)->P
theorem DL(h:cF (n+1) x y=S b):Rg n x y b P:=λq R=>by{
induction x using V.casesOn with
|int i=>induction y using V.casesOn with
 |int j=>exact q i j J J (aA h).symm
 |_=>exact aD h
|tup l=>induction y using V.casesOn with
 |tup m=>exact R l m J J h
 |_=>exact aD h
|_=>exact aD h}
theorem vf(h:cF (n+1) x y=S b):(∃i j,x= .int i/\y= .int j/\b=decide (i<j))\/∃l m,x= .tup l/\y= .tup m/\dH (cA 9 λ_=>N) (cF n) l m=S b:=DL h (λi j a b c=>.inl<|fN i j a b c) λl m a b c=>.inr<|fN l m a b c
theorem HV(h:Bd i t= .int j u):i=j:=Bd.inj h|>.1
theorem UB{s:ah}:∀{n:Nat} {x y:V},aE U s.heap x (.int i t)->aE U s.heap y (.int j u)->cF n x y=S b->b=decide (i<j)
 |0,_,_,_,_,h=>aD h
 |n+1,x,y,c,z,h=>DL h (λf a R G D=>by subst R G;exact c.elim λ_ g=>z.elim λ_ I=>HV g▸HV I▸D) λl m R _ _=>by subst R;obtain⟨_,_,_,g,_⟩:=c;exact(by cases g)
theorem HL{A:aI}(Y:aq d U l H s)(k:A.units+9<dY)(m:∀{x y:V} {v u:Value} {b:Bool},aE d s.heap x v->aE d s.heap y u->cF n x y=S b->uj A s v u b):∀{P:List V} {Z Q:List Value} {b:Bool},RepL d s.heap L Z->RepL d s.heap P Q->dH (cA 9 λ_=>N) (cF n) L P=S b->mV A s (decide<|Z.length<Q.length) (Z.zip Q) b:=by{
induction L with
|nil=>{
intro P Z Q b r I h;refine aa r ?_
induction P using aS with
|nil=>refine aa I ?_;exact aA h▸.nil
|cons y P=>obtain⟨u,Q,rfl,_,_⟩:=I;exact aA h▸.nil}
|cons x L a=>{
intro P Z Q b r I h;obtain⟨v,Z,rfl,f,r⟩:=r
induction P using aS with
|nil=>refine aa I ?_;exact aA h▸.nil
|cons y P=>
obtain⟨u,Q,rfl,z,I⟩:=I;have h:(match cA 9 (λ_=>N) x y with|some T=>dH (cA 9 λ_=>N) (cF n) L P|some F=>cF n x y|none=>N)=S b:=h
induction e:cA 9 (λ_=>N) x y using aV with
|none=>replace h:=e▸h;exact aD h
|some c=>{
replace h:=e▸h
induction c using aX with
|true=>exact .eq _ _ _ _ ((zN Y 9 k f z<|Mq e).e)<|aa (decide_eq_decide.mpr Nat.succ_lt_succ_iff:decide ((v::Z).length<(u::Q).length)=decide (Z.length<Q.length))<|a r I h
|false=>exact .ne _ _ _ _ ((zN Y 9 k f z<|Mq e).e) (m f z h) λi t j w g o=>by subst g o;exact UB f z h}}}
theorem Rw(Y:aq d U l H s)(n:Nat):∀{A:aI} {x y:V} {v u:Value} {b:Bool},A.units+n+10<dY->aE d s.heap x v->aE d s.heap y u->cF n x y=S b->uj A s v u b:=by{
induction n with
|zero=>exact λ_ _ _ e=>aD e
|succ n k=>{
intro A x y v u b I w C e;refine DL e (λi j R G D=>?_) λL P R G h=>?_
.subst R G;refine aa D ?_;exact w.elim λt e=>C.elim λM m=>aa e<|aa m λB O E Q h=>P.lt_int h
.clear e;subst R G;obtain⟨a,Z,p,rfl,g,X⟩:=w;obtain⟨a',us,f,rfl,q,r⟩:=C;have o:=(congrArg (·+10)<|oL A.units 1 n)▸I;exact uj.tuples (bl _ g J ⟨p,J⟩) (bl _ q J ⟨f,J⟩) (cN (am (eF _ _)<|eF _ _) I)
  (HL Y (cN (sv (eF _ n) (by decide)) o) (λc z h=>k o c z h) X r h)}}
abbrev gj (k:Nat):V->V->Option Bool:=cA k λ_=>N
theorem Ly(h:cQ f (x::l) (y::m)=S b):∃c d,f x y=S c/\cQ f l m=S d/\b=(c&&d):=by{
have h:(match f x y,cQ f l m with|some a,S b=>S (a&&b)|_,_=>N)=S b:=h
induction g:f x y using aV with
|none=>replace h:=g▸h;exact aD h
|some c=>{
induction I:cQ f l m using aV with
|none=>replace h:=I▸g▸h;exact aD h
|some d=>replace h:=I▸g▸h;exact⟨c,d,aT,aT,(aA h).symm⟩}}
theorem Lj:∀{k:Nat} {x y:V},gj k x y=S T->x=y:=by{
intro k
induction k with
|zero=>exact λh=>aD h
|succ k Z=>{
intro x y h;have j:∀{l m:List V},cQ (gj k) l m=S T->l=m:=by{
intro l
induction l with
|nil=>exact λ{m} h=>by induction m using aS with
 |nil=>rfl
 |cons _ _=>cases h
|cons x l i=>{
intro m h
induction m using aS with
|nil=>cases h
|cons y m=>refine iC (Ly h) λc d g I Y=>?_;refine ai (λO o=>?_)<|bm.mp Y.symm;clear Y;subst O;subst o;exact aa (Z g)<|congrArg _<|i I}}
generalize D:T=b at h;have f:=Fv h;clear h
induction f with
|none=>rfl
|bool a c=>exact congrArg V.bool<|beq_iff_eq.mp D.symm
|int a c=>exact congrArg V.int<|beq_iff_eq.mp D.symm
|str a c=>exact congrArg V.str<|beq_iff_eq.mp D.symm
|tup l m _ e=>replace e:=D▸e;exact congrArg V.tup<|j e
|tups=>exact ak D
|list _ _ _ _ _ G=>exact aD G
|lens _ _ _ _ G=>exact aD G}}
theorem Sy:∀{k:Nat} {x:V} {b:Bool},gj k x x=S b->b=T:=by{
intro k
induction k with
|zero=>exact λh=>aD h
|succ k Z=>{
intro x b h;have j:∀{l:List V} {b:Bool},cQ (gj k) l l=S b->b=T:=by{
intro l
induction l with
|nil=>exact λh=>(aA h).symm
|cons x l i=>intro b h;refine af (Ly h) λc L=>af (L) λd y=>ai (λg e=>ai (λI Y=>?_)<|e)<|y;refine aa Y<|aa (Z g)<|(i I).trans ?_;rfl}
induction x using V.casesOn with
|none=>exact(aA h).symm
|bool a=>exact(aA h).symm.trans<|beq_self_eq_true a
|int a=>exact(aA h).symm.trans<|beq_self_eq_true a
|str a=>exact(aA h).symm.trans<|beq_self_eq_true a
|tup l=>exact j h
|_=>exact aD h}}
inductive jB (g:V->V->Option Bool) (x y:V) (l m:List V) (b:Bool):Prop
 |eq (e:x=y) (f:gj 9 x x=some true) (h:dH (gj 9) g l m=some b)
 |ne (f:gj 9 x y=some false) (h:g x y=some b)
theorem jI(h:dH (gj 9) g (x::l) (y::m)=S b):jB g x y l m b:=by{
refine let p:=_;(?_:p)
have h:(match gj 9 x y with|some T=>dH (gj 9) g l m|some F=>g x y|none=>N)=S b:=h
induction e:gj 9 x y using aV with
|none=>replace h:=e▸h;exact aD h
|some c=>{
rw[e] at h
induction c using aX with
|true=>exact .eq (Lj e) (by rw[<-Lj e] at e;exact e) h
|false=>exact .ne e h}}
theorem tC(f:gj 9 x y=S F):x≠y:=λe=>by replace f:=e▸f;cases Sy f
structure wX (g:V->V->Option Bool):Prop where
 tri:∀x y,g x y=some false->g y x=some false->x=y
 asym:∀x y,g x y=some true->g y x=some true->False
 trans:∀x y z,g y x=some false->g z y=some false->(g z x).isSome=true->g z x=some false
theorem O3(O:wX g):∀{m:List V},dH (gj 9) g l m=S F->dH (gj 9) g m l=S F->l=m:=by{
induction l with
|nil=>intro m h C;induction m using aS with
 |nil=>rfl
 |cons _ _=>cases h
|cons x l Z=>{
intro m h C
induction m using aS with
|nil=>cases C
|cons y m=>{
induction jI h using jB.casesOn with
|eq e f R=>{
subst e
induction jI C using jB.casesOn with
|eq _ _ H=>exact congrArg _<|Z R H
|ne w _=>replace w:=f▸w;cases w}
|ne f h=>{
induction jI C using jB.casesOn with
|eq e _ _=>exact absurd e.symm<|tC f
|ne _ C=>exact absurd (O.tri _ _ h C)<|tC f}}}}
theorem SX(O:wX g):∀{m:List V},dH (gj 9) g l m=S T->dH (gj 9) g m l=S T->False:=by{
induction l with
|nil=>intro m h C;induction m using aS with
 |nil=>cases h
 |cons _ _=>cases C
|cons x l Z=>{
intro m h C
induction m using aS with
|nil=>cases h
|cons y m=>{
induction jI h using jB.casesOn with
|eq e f R=>{
subst e
induction jI C using jB.casesOn with
|eq _ _ H=>exact Z R H
|ne w _=>replace w:=f▸w;cases w}
|ne f h=>{
induction jI C using jB.casesOn with
|eq e _ _=>exact absurd e.symm<|tC f
|ne _ C=>exact O.asym _ _ h C}}}}
theorem YO(O:wX g):∀{m k:List V},dH (gj 9) g m l=S F->dH (gj 9) g k m=S F->(dH (gj 9) g k l).isSome=T->dH (gj 9) g k l=S F:=by{
induction l with
|nil=>intro m k _ _ _;obtain⟨⟩:=k<;>rfl
|cons x l Z=>{
intro m k h C s
induction m using aS with
|nil=>cases h
|cons y m=>{
induction k using aS with
|nil=>cases C
|cons z k=>{
obtain⟨b,D⟩:=xv.mp s;clear s
induction jI h using jB.casesOn with
|eq e f R=>{
subst e
induction jI C using jB.casesOn with
|eq e w H=>{
subst e
induction jI D using jB.casesOn with
|eq _ _ q=>refine D▸(au q ?_);exact Z R H (by refine q▸?_;rfl)
|ne a _=>replace a:=f▸a;cases a}
|ne w C=>{
induction jI D using jB.casesOn with
|eq e _ _=>exact absurd e<|tC w
|ne _ q=>exact aa D<|au q C}}
|ne f h=>{
induction jI C using jB.casesOn with
|eq e w C=>{
subst e
induction jI D using jB.casesOn with
|eq e _ _=>exact absurd e<|tC f
|ne _ q=>exact aa D<|au q h}
|ne w C=>{
induction jI D using jB.casesOn with
|eq e _ _=>clear f Z;subst e;exact absurd (O.tri _ _ C h)<|tC w
|ne _ q=>have:=O.trans x y z h C (by exact congrArg _ q);exact aa D<|au q this}}}}}}
theorem IL:∀n,wX (cF n):=by{
intro n;refine let P:=_;(?_:wX P)
induction n with
|zero=>exact⟨λ_ _ h=>(aD h),λ_ _ h=>(aD h),λ_ _ _ h=>(aD h)⟩
|succ n Z=>{
refine⟨λx y h b=>?_,λx y h b=>?_,λx y z h b s=>?_⟩
.rcases vf h with⟨i,j,rfl,rfl,D⟩|⟨l,m,rfl,rfl,D⟩
 .exact congrArg V.int<|uU (bT.mp<|of_decide_eq_false<|aA b)<|bT.mp<|of_decide_eq_false D.symm
 .exact congrArg V.tup<|O3 Z D b
.rcases vf h with⟨i,j,rfl,rfl,D⟩|⟨l,m,rfl,rfl,D⟩
 .exact Int.lt_asymm (of_decide_eq_true D.symm)<|of_decide_eq_true<|aA b
 .exact SX Z D b
.refine let p:=_;(?_:p)
 rcases vf h with⟨i,j,rfl,rfl,D⟩|⟨l,m,rfl,rfl,D⟩
 .rcases vf b with⟨f,a,rfl,e,q⟩|⟨C,d,rfl,e,q⟩
  ·(injection e with z;subst z)
   exact congrArg S<|decide_eq_false<|bT.mpr<|cV (bT.mp<|of_decide_eq_false D.symm)<|bT.mp<|of_decide_eq_false q.symm
  .exact V.noConfusion e
 .rcases vf b with⟨f,a,rfl,e,q⟩|⟨C,d,rfl,e,q⟩
  .exact V.noConfusion e
  ·(injection e with z;subst z)
   exact YO Z D q s}}
def jp(L:List V)(i j:Nat):Bool:=(cF 9 (L[i]?.getD .none)<|L[j]?.getD .none).getD F
def mq(L:List V)(i:Nat):Nat:=((cE L.length).filter λj=>jp L j i).length
theorem Wc(w:∀x∈L,∀y∈L,(cF 9 x y).isSome=T)(Z:i<L.length)(h9:j<L.length):decide (mq L i<mq L j)=jp L i j:=by{
have P:∀{i},i<L.length->L[i]?.getD .none∈L:=λh=>by exact aa (bX h)<|kZ h
have v:∀{i j},i<L.length->j<L.length->cF 9 (L[i]?.getD .none) (L[j]?.getD .none)=S (jp L i j):=λh C=>by refine af (xv.mp<|w _ (P h) _<|P C) λb e=>?_;unfold jp;exact aa e J
have t:∀{a b c},a<L.length->b<L.length->c<L.length->jp L b a=F->jp L c b=F->jp L c a=F:=λ{a b c} R D u h C=>by have:=(IL 9).trans _ _ _ ((v D R).trans (by exact aa h J)) ((v u D).trans (by exact aa C J))<|w _ (P u) _<|P R;rw[v u R] at this;exact aA this
have g:∀{a b},a<L.length->b<L.length->jp L a b=T->jp L b a=F:=λ{a b} R D h=>mi.mpr λC=>(IL 9).asym _ _ ((v R D).trans (by exact aa h J)) ((v D R).trans (by exact aa C J));have sub:∀{p q:Nat->Bool},(∀k,k<L.length->p k=T->q k=T)->((cE L.length).filter p)=((cE L.length).filter q).filter p:=λ{p q} h=>by{
refine aa aaW<|yc λk w=>?_
induction O:p k using aX with
|false=>rfl
|true=>refine aa (h k (kg.mp w) O) ?_;rfl}
unfold mq
induction h:jp L i j using aX with
|false=>{
refine decide_eq_false<|je.mpr ?_;rw[sub λk f d=>?_]
.exact lg _ _
.induction c:jp L k i using aX with
 |true=>rfl
 |false=>have:=t h9 Z f h c;rw[show jp L k j=T from d] at this;exact ak this}
|true=>{
refine decide_eq_true ?_;rw[sub λk f d=>?_]
.refine aaX.mpr (aG i (dZ.mpr ⟨kg.mpr Z,h⟩) λz=>?_);have:=g Z Z z;rw[z] at this;exact ak this
.induction c:jp L k j using aX with
 |true=>rfl
 |false=>have:=t h9 f Z c<|g f Z d;rw[h] at this;exact ak this}}
def qd(h:Heap)(d:Addr)(j:Array gL)(D:Nat):Prop:=∃o,h.get? d=S o/\o.ExactDict/\o.data= .dict j D
theorem qd.at(x:qd h d j D)(e:∀o,h.get? d=S o->C.get? d=S o):qd C d j D:=let⟨o,Y,r⟩:=x;⟨o,e _ Y,r⟩
theorem VH{s:ah}(m:(d==nv)=F)(a:qd s.heap d j D)(l:Q (.ref s.heap.objs.size) {s with heap:=s.heap.push {cls:=.type "dict_keyiterator",data:=.fields #[.ref d,.int 0 0,.int j.size 0,.int D 0]}}):aj (ao H w) A (pyIter<|.ref d) Q E s:=by{
refine let p:=_;(?_:p)
refine af (a) λo L=>?_;refine ai (λY y=>?_)<|L;refine ai (λu b=>?_)<|y;refine wpAny_pyIter_slot (⟨o,Y,u.1⟩) aaY<|uC aaY (⟨o,Y,u.1⟩) PySem.F.entry_dict_iter ?_<|PySem.F.args_dict_iter_1 _;refine ag ?_;refine ag<|Z7 (⟨o,Y,u.1⟩) ?_;refine av ?_;show aj _ _ (aaZ d>>=_) _ _ s;delta aaZ;refine aa (if_neg (by refine aa m ?_;exact kS))<|ag<|av ?_;refine ag<|Bv Y b ?_;refine ag<|wpAny_dictEpoch Y b ?_;refine ag<|nC<|av ⟨_,J,"dict_keyiterator",_,⟨_,eD _ ff,J⟩,Pw.lookup,?_⟩
simpa [mh] using l}
theorem HH{A:aI}{s:ah}{j:Array gL}(R:A.handled=N)(t:s.heap.IsKeyIter p d i j.size D)(f:qd s.heap d j D)(G:∀(Z:i<j.size) C,C.IsKeyIter p d (i+1) j.size D->ma p s.heap C->Q (S j[i].key) {s with heap:=C})(g:j.size<=i->∀C,Heap.ExtBut p s.heap C->Q N {s with heap:=C}):aj (ao H w) A (xU<|.ref p) Q E s:=by{
refine let c:=_;(?_:c)
refine eN (id t) λo Y u m=>?_;refine eN (f) λB h l z=>?_;refine ag (wpAny_attempt (Gm (name:=br "__next__") t.typeIs Pw
 (uC Pw t.typeIs PySem.F.entry_dict_keyiterator_next ?_<|PySem.F.args_dict_keyiterator_next_1 _)))
refine let P:=_;let e:=_;(?_:aj _ _ _ P e _)
refine ag<|av ?_;refine ag ?_;refine ag ?_
first|refine ag (Px t.typeIs<|av ?_)|refine ag<|Py t.typeIs<|av ?_
refine ag<|wpAny_fieldsOf Y m ?_;have a:abX "dict_keyiterator"=F:=by decide
refine au a<|(if_neg kS)▸?_;show aj _ _ (if(sq d==jE)=T then _ else _) _ _ s;rw[if_neg<|show ¬((sq d==jE)=T) from kS];refine ag<|av ?_;refine ag<|Bv h z ?_;rw[if_neg (by simp)];refine ag<|av ?_;refine ag<|wpAny_dictEpoch h z ?_;rw[if_neg (by simp)];refine av ?_;by_cases X:i<j.size
.dsimp only
 rw[if_neg<|bT.mpr<|cR i,GP,uA X];refine let c:=_;(?_:c)
 refine ag ?_
 first|refine ag (Px t.typeIs<|av ?_)|refine ag<|Py t.typeIs<|av ?_
 refine ag<|aa0 t.typeIs ?_;show aj _ _ (setField (.ref p) 1 (mh<|(i:Int)+1)>>=_) _ _ s;refine ag (xL Y m (by simp) ?_);have M:(s.heap.update p (kY (·.setIfInBounds 1 (mh<|(i:Int)+1)))).IsKeyIter p d (i+1) j.size D:=(bl _ (kW _ Y<|xM<|OO m _) ((Obj.cls_mapFields ..).trans u) (by rw[OO m];simp[mh]))
 refine ag<|eT ?_;refine ag (aa0 (s:={s with heap:=s.heap.update p (kY (·.setIfInBounds 1 (mh<|(i:Int)+1)))}) M.typeIs ?_);exact av<|av<|aG _ J<|av<|G X _ M<|kT ..
.have b:j.size<=i:=dw X
 dsimp only
 rw[if_neg<|bT.mpr<|cR i,GP,GU b];refine ag ?_
 first|refine ag (Px t.typeIs<|av ?_)|refine ag<|Py t.typeIs<|av ?_
 show aj _ _ (setField (.ref p) 0 .none>>=_) _ _ s;refine ag (xL Y m (by simp) ?_);refine let P:=_;let e:=_;let k:=_;let U:=_;let x:=_;(?_:aj P e _ k U x)
 refine ag ?_;delta newExc newTuple;refine ag (nC ?_ (by size_fits));refine ag (m:=firstArgMember _ _) (gw (a:=jE) (by first|rfl|(simp only[firstArgMember];rfl)) ?_);refine nC ?_ (by size_fits);delta raiseNew;refine ag<|wpAny_handled ?_;refine aa (show A.in1.handled=N from R) ?_;refine ag<|av<|wpAny_throw ?_;refine ag<|Gy (T:="StopIteration") (b:=T) (aG _ (eD _ ff) J) isSubtype_stop ?_;exact av<|g b _<|((kT ..).extBut.push _).push _}
theorem UN{A:aI}(R:A.handled=N)(I d:Addr)(X:d≠I)(j:Array gL)(a:Nat):
  Walks H c A I [I,d] [I] j.size (λi v=>∃e,j[i]?=S e/\v=e.key) (λi h=>h.IsKeyIter I d i j.size a/\qd h d j a) where
 sub:=λb D=>by simp at D;simp[D]
 frame:=λ_ _ _ U w=>⟨U.1.at λo e=>w I (by simp) o e,U.2.at λo e=>w d (by simp) o e⟩
 item:=λi s Q E Z U l=>HH R U.1 U.2 (λZ C t B=>l _ C s.toks (aG _ (uA Z) J) ⟨t,U.2.at λo e=>B.extBut d o X e⟩ λb o D e=>B.extBut b o (λh=>D (by simp[h])) e) λh=>absurd Z<|je.mpr h
 done:=λs Q E U l=>HH R U.1 U.2 (λZ=>absurd Z<|jZ _) λ_ C u=>l C s.toks λb o D e=>u b o (λh=>D (by simp[h])) e
 self:=λ_ _ _ _ U l=>wpAny_pyIter_keyiter U.1 l
theorem Yi{j:Array gL}(k:(d==nv)=F):KdlSrc H b "dict" d d j.size (λi v=>∃e,j[i]?=S e/\v=e.key) (λh=>qd h d j D) where
 type:=λ_ ⟨o,Y,u,_⟩=>⟨o,Y,u.1⟩
 there:=λ_ ⟨o,Y,_⟩=>⟨ii Y,ii Y⟩
 keep:=λ_ _ E w=>E.at λo e=>w d (.inl J) o e
 notList:=by decide
 notTuple:=by decide
 hint:=λ_ _ _ _ ⟨o,Y,u,_⟩ a=>kdl_hint_dict ⟨o,Y,u.1⟩ a
 iter:=λ_ _ R E=>⟨_,_,(λ_ _ a=>VH k E a),UN R _ d (fu (by(refine af (E) λo L=>?_;refine ai (λY _=>?_)<|L);exact ii Y)) j D,⟨⟨_,eD _ ff,J,J⟩,E.at λo e=>cu _ e⟩⟩
inductive wH (prog:gK) (w:fg) (A:aI) (s:ah) (vs:List Value) (rk:Nat->Nat):Prop
 |mk (κ:SortKind) (k:∀Q:SortKind->ah->Prop,Q κ s->aj (ao prog w) A (keyKind' vs.toArray) Q (λ_ _=>False) s)
  (c:∀i j (K:Bool->ah->Prop),i<vs.length->j<vs.length->K (decide (rk i<rk j)) s->Hc prog w A κ vs i j K s)
inductive Yk (n:Nat) (rk:Nat->Nat) (it:Array Keyed) (st:SortSt):Prop
 |mk (p:Array Nat) (P:Pm n p) (u:Up rk p n) (a:arrOf st=p.map (kas_item it)) (f:failedOf st=none)
theorem N4[Decidable c]{x:D}{m:Sem D}{f:D->Sem w}{Q:w->ah->Prop}{G:D->Prop}(a:c->G x)(b:¬c->aj M A m (λl u=>G l/\u=s) (λ_ _=>False) s) (k:∀l,G l->aj M A (f l) Q E s):aj M A (if c then pure x>>=f else m>>=f) Q E s:=oD (Q:=λt=>aj M A t Q E s) (λz=>ag<|av<|k x<|a z) λz=>ag<|bK (b z) (λl u y=>aa y.2<|k l y.1) λ_ _ e=>e.elim
theorem UI{s:ah}{Z:List Value}(Y:s.heap.get? a=S (jH "list" Z.toArray n))(M:Z.length<64)(R:∀C,(∀b o,b≠a->s.heap.get? b=S o->C.get? b=S o)->2<=Z.length->wH H w A {s with heap:=C} Z B)(h:∀C p c,Pm Z.length p->Up B p Z.length->(∀b o,b≠a->s.heap.get? b=S o->C.get? b=S o)->C.get? a=S (jH "list" (BQ<|p.toList.map λi=>Z.getD i jE) c)->P (.done<|.ret .none) {s with heap:=C}):aj (ao H w) A (Builtin.«list.sort» ⟨[.ref a],[]⟩) P E s:=by{
have x:Z.length<=jD:=aa oK (am (bU M) (by decide));obtain⟨g,Q⟩:∃g,(s.heap.update a<|nD λ_=>(#[])).get? a=some (jH "list" #[] g):=⟨_,get?_update_seq Y λ_=>#[]⟩;have z:∀b o,b≠a->s.heap.get? b=S o->(((s.heap.update a<|nD λ_=>(#[])).push<|jH "tuple" Z.toArray 0).push<|jH "list" #[] 0).get? b=S o:=λb o D e=>cu _<|cu _<|((kT s.heap a<|nD λ_=>(#[])).2 b D).trans e
have r:=cu (jH "list" #[] 0)<|cu (jH "tuple" Z.toArray 0) Q;refine aa (list_sort_plain ..) ?_;refine ag (listItems_at Y J (ag (listUpdate_at Y J ?_ (by refine aa lZ ?_;exact x)<|bW _)));refine ag<|seqEpoch_at Q J<|ag<|wpAny_newTuple (ag<|wpAny_newList (eT ?_)<|bW _) x;show aj (ao H w) A _ P E {s with heap:=((s.heap.update a<|nD λ_=>(#[])).push<|jH "tuple" Z.toArray 0).push (jH "list" #[] 0)};generalize ((s.heap.update a<|nD λ_=>(#[])).push<|jH "tuple" Z.toArray 0).push (jH "list" #[] 0)=G at z r ⊢;have f:Z.toArray.size=Z.length:=lZ ..;refine N4 (G:=λl=>2<=Z.length->∀i j d,i<Z.length->j<Z.length->d (decide<|B i<B j) {s with heap:=G}->Hc H w A l Z i j d {s with heap:=G})
 (λO h=>absurd h<|Nat.not_le.mpr<|f▸O) (λO=>?_) λl c=>?_
.refine let X:=_;(?_:aj _ _ _ X _ _)
 obtain⟨l,k,c⟩:=R G z<|f▸dw O;exact k _ ⟨λ_=>c,J⟩
refine ag (bK (oD (Q:=λt=>aj (ao H w) A (StateT.run t _) _ E _) (λO=>av ⟨⟨BQ<|cE Z.length,⟨lZ.trans sE,.refl _⟩,λi h=>absurd (am (oM 2 i) h)<|Nat.not_le.mpr<|f▸O,?_,J⟩,J⟩)
 λO=>kat_run (Q:=λv u=>Yk Z.length B (Z.toArray.zip Z.toArray) v/\u=_) J (f▸dw O) M (G:=λp u=>(Pm Z.length p/\Up B p Z.length)/\u=_) (λp' v u h2 h0 a3 m=>⟨⟨p',m.1.1,m.1.2,h0,a3⟩,m.2⟩)
  (JI (I:=λu=>u=_) (λi j d u h1 h9 e q=>aa e<|c (f▸dw O) i j d h1 h9<|q _ J) (λp u q e=>⟨q,e⟩) (Um (f▸am (by decide) (dw O)) λp a b=>cj a b) J)) ?_ λ_ _ e=>e)
.have:=kas_range (Z.toArray.zip Z.toArray);rw[show(Z.toArray.zip Z.toArray).size=Z.length by exact aa Array.size_zip<|aa f<|W9 ..] at this;exact this.symm
.rintro⟨⟨⟩,v⟩ u ⟨⟨p,L,I,U,hf⟩,rfl⟩
 dsimp only
 refine aa (kat_snds J U) ?_;have y:(BQ<|p.toList.map λi=>Z.getD i jE).size=Z.length:=by exact aa lZ<|aa (aL ..)<|aa Gk L.z
 refine ag<|seqEpoch_at r J<|ag<|listUpdate_at r J ?_ (bW _)<|aa y<|kU x;refine aa hf ?_;exact aa (bne_self_eq_false ..)<|aa (if_neg kS)<|av<|h _ p _ L I (λb o D e=>((kT G a<|nD λ_=>BQ<|p.toList.map λi=>Z.getD i jE).2 b D).trans<|z b o D e)<|get?_update_seq r λ_=>BQ<|p.toList.map λi=>Z.getD i jE}
theorem NF{Q:Bool->ah->Prop}(w:mV A s a j c)(q:Q c s):∀i,(b&&(i==0))=F->KatLex H d A b a Q j i s:=by{
induction w with
|nil=>exact λi _=>kat_nil q
|eq z n r c e h f=>exact λi Z=>Hd (e H d _ _ (kat_yes (f q _ (by simp))))
|ne z n r c e h k=>exact λi Z=>Hd (e H d _ _ (kat_no (by refine aa Z ?_;exact kat_one _ _<|h H d _ _ q)))}
theorem RJ{Q:Bool->ah->Prop}(w:mV A s a d c)(q:Q c s)(D:b=T->∀z∈d.head?,∃i t j u,z=(Bd i t,Bd j u)):KatLex H f A b a Q d 0 s:=by{
induction b using aX with
|false=>exact NF w q 0 ff
|true=>{
induction w with
|nil=>exact kat_nil q
|eq l n r c e h=>exact Hd<|e H f _ _<|kat_yes<|NF h q 1 ff
|ne l n r c e h k=>refine Hd<|e H f _ _<|kat_no ?_;refine af (D J _ aT) λi L=>af (L) λt y=>af (y) λj x=>af (x) λu e=>ai (λg I=>?_)<|Pz e;rw[k i t j u g I] at q;exact aa g<|aa I<|oneLt_int q}}
theorem Ai{P:V->Nat->Prop}(r:∀x,P x 0)(G:∀i,P (.int i) 1)(M:∀i l,P (.tup<|.int i::l) 2)(s:∀m l,P (.tup<|.tup m::l) 4)(x:V):P x (jQ x):=by{
induction x using V.casesOn with
|int i=>exact G i
|tup l=>induction l using aS with
 |nil=>exact r _
 |cons y l=>induction y using V.casesOn with
  |int i=>exact M i l
  |tup m=>exact s m l
  |_=>exact r _
|_=>exact r _}
theorem CY(h:jQ x=1):∃i,x= .int i:=Ai (P:=λx k=>k=1->∃i,x= .int i) (λ_ z=>absurd z (by decide)) (λi _=>⟨i,J⟩) (λ_ _ z=>absurd z (by decide)) (λ_ _ z=>absurd z (by decide)) x h
theorem Cn(h:jQ x=2):∃i l,x= .tup (.int i::l):=Ai (P:=λx k=>k=2->∃i l,x= .tup (.int i::l)) (λ_ z=>absurd z (by decide)) (λ_ z=>absurd z (by decide)) (λi l _=>(eG i l J)) (λ_ _ z=>absurd z (by decide)) x h
theorem KB(h:jQ x=4):∃m l,x= .tup (.tup m::l):=Ai (P:=λx k=>k=4->∃m l,x= .tup (.tup m::l)) (λ_ z=>absurd z (by decide)) (λ_ z=>absurd z (by decide)) (λ_ _ z=>absurd z (by decide)) (λm l _=>(eG m l J)) x h
theorem MG{Z:List Value}(h:Z[i]?=S v):Z.getD i jE=v:=by refine aa (yd)<|aa h ?_;rfl
theorem UZ:∀{L:List V} {Z:List Value},RepL U h L Z->(∀x∈L,∃y l,x= .tup (y::l))->∃D,KatTups h Z D/\D.length=L.length/\∀f∈D,∃y l,V.tup (y::l)∈L/\aE U h y f:=by{
intro L
induction L with
|nil=>intro Z r _;refine aa r ?_;exact(bl ([]) .nil J λ_ h=>absurd h aJ)
|cons x L j=>{
intro Z r b;refine let p:=_;(?_:p)
obtain⟨v,Z,rfl,c,r⟩:=r;refine af (j r λx h=>b x<|.tail _ h) λD d=>ai (λq o=>ai (λR n=>af (b _<|.head _) λy d=>af (d) λl O=>?_)<|o)<|d;clear b j;subst O;obtain⟨a,Q,s,rfl,g,f,i,e,t,_⟩:=c;refine(bl (f::D) (.cons g J J ?_ q) (congrArg (·+1) R) λw G=>?_)
.refine lY▸(aa e ?_);rfl
.refine let p:=_;(?_:p)
 clear e g s Q R q;rcases bJ.mp G with rfl|G
 .exact(dm y l (.head _) t)
 ·(refine mZ (n w G) λk C m r=>?_)
  exact(dm k C (.tail _ m) r)}}
inductive Ub (st:St) (h:Heap) (xs:List V) (vs:List Value) (i:Nat):Prop
 |mk (x:V) (v:Value) (e:xs[i]?=some x) (g:vs.getD i jE=v) (r:aE st h x v) (m:x∈xs)
theorem rK(r:RepL U h L Z)(a:i<Z.length):Ub U h L Z i:=by have H:=r.len▸a;refine af (r.get<|bX H) λv b=>?_;exact ai (λg c=>⟨_,v,bX H,MG g,c,kZ H⟩)<|b
theorem DA(w:∀x∈L,∀y∈L,(cF 9 x y).isSome=T)(f:L[i]?=S x)(n:L[j]?=S y):cF 9 x y=S (decide<|mq L i<mq L j):=by refine af (xv.mp<|w _ (du f) _<|du n) λb e=>aa (Wc w (cW.mp f).1 (cW.mp n).1) ?_;unfold jp;refine aa f<|aa n ?_;refine aa e ?_;rfl
theorem JY{A:aI}(Y:aq B U l H s)(I:A.units+30<dY)(r:RepL B s.heap L Z)(h4:2<=Z.length)(w:∀x∈L,∀y∈L,(cF 9 x y).isSome=T)(D:Value)(d:∀x∈L,∃y l,x= .tup (y::l))(u:∀y l f,V.tup (y::l)∈L->aE B s.heap y f->dy (ao B.prog B.w) s.heap (qs f) D) (c:(D==D)=T) (hb:(D !=xz "tuple")=T->∀y l,V.tup (y::l)∈L->∃i,y= .int i):wH B.prog B.w A s Z (mq L):=by{
refine let P:=_;let zb:=_;let zc:=_;(?_:wH P zb _ _ _ zc)
refine af (UZ r d) λfs h1=>ai (λk1 h2=>ai (λR n=>⟨tuples'<|D !=xz "tuple",λQ q=>kat_kind k1 (by refine aa R<|r.len▸?_;exact bU ‹_›) (λf hf=>?_) c q,λi j h6 h3 h9 q=>?_⟩)<|h2)<|h1
·(refine mZ (n f hf) λy l m C=>?_)
 exact u y l f m C
.obtain⟨x,v,ex,b,rx,mx⟩:=rK r h3;obtain⟨y,h7,G,gu,C,e⟩:=rK r h9;delta Hc;refine aa b<|aa gu ?_;refine let p:=_;(?_:p)
 refine mw (d x mx) λx1 xl h0=>?_;subst h0;refine mw (d y e) λy1 yl h0=>?_;subst h0;obtain⟨a,us,ep,rfl,g,X⟩:=rx;obtain⟨a',h8,h5,rfl,e2,M⟩:=C;refine kat_lt g J e2 J (RJ (HL Y (cN (gM (by decide) _) I) (λrv ru h=>Rw Y 8 (cN (gM (by decide:18<=30) A.units) I) rv ru h) X M<|DA w ex G) q λd z E=>?_);refine let p:=_;(?_:p)
 obtain⟨f1,q1,c1,k,_⟩:=X;obtain⟨f2,q2,c2,o,_⟩:=M;refine af (hb d _ _ mx) λz0 O=>?_;clear gu e2 h5 b g ep G mx ex q h9 h3 j i n R h2 k1 h1 fs zc c u w h4 r I Y;subst O;refine af (hb d _ _ e) λz1 O=>?_;clear d e hb;subst O;refine af (k) λt1 O=>?_;clear k;subst O;obtain⟨t,rfl⟩:=o;replace E:=c2▸c1▸E
 (obtain rfl:=aA E)
 exact(xg _ _ _ ⟨_,J⟩)}
theorem Xp{A:aI}(Y:aq B U l H s)(I:A.units+30<dY)(r:RepL B s.heap L Z)(h2:2<=Z.length)(hk:∀x∈L,∀y∈L,zW x y=T/\(cF 9 x y).isSome=T):wH B.prog B.w A s Z (mq L):=by{
refine let p:=_;(?_:p)
have h1:=λx d y hy=>(hk x d y hy).2;obtain⟨X,_,_,_,_,D⟩:=rK r<|bU ‹_›;have c:∀x∈L,jQ x=jQ X/\0<jQ x:=λx d=>by have:=bm.mp (hk x d X D).1;exact⟨PB this.1,fY.mp this.2⟩
rcases(Ai (P:=λ_ k=>0<k->(k=1\/k=2)\/k=4) (λ_ z=>absurd z (by decide)) (λ_ _=>.inl<|.inl J) (λ_ _ _=>.inl<|.inr J) (λ_ _ _=>.inr J) X<|(c X D).2) with(k|k)|k
.refine⟨oneType',λQ q=>kas_kind (T:=xz "int") h2 (λv w=>?_) J J q,λi j u h0 h9 q=>?_⟩
 ·(refine af (Oz w) λi h0=>?_)
  obtain⟨x,E,R,b,rx,mx⟩:=rK r (cW.mp h0).1;replace b:=(MG h0)▸b;refine af (CY<|(c x mx).1.trans k) λn O=>?_;subst O;obtain⟨t,e⟩:=rx;exact aa b<|aa e<|uP J
 .obtain⟨x,v,R,b,rx,mx⟩:=rK r h0;obtain⟨y,h3,G,gu,ry,my⟩:=rK r h9;have e:=DA h1 R G;unfold Hc;refine aa b<|aa gu<|af (CY<|(c x mx).1.trans k) λn O=>?_;clear gu G mx b R h9 h0 D p hk;subst O;obtain⟨m,rfl⟩:=CY<|(c y my).1.trans k;obtain⟨t,rfl⟩:=rx;obtain⟨M,rfl⟩:=ry;refine kat_lt_int ?_;exact aa (show decide (n<m)=_ from aA e) q
.refine JY Y I r h2 h1 (.type "int") (λx d=>?_) (λy l f m ry=>?_) J λ_ y l m=>?_
 .refine mw (Cn<|(c x d).1.trans k) λi l o=>?_;subst o;exact(eG _ _ J)
 .obtain⟨i,C,e⟩:=Cn ((c _ m).1.trans k)
  (injection e with z;injection z with z;subst z)
  obtain⟨t,rfl⟩:=ry;exact uP J
 .refine mw (Cn<|(c _ m).1.trans k) λi C e=>?_
  (injection e with z;injection z with z;refine aa z ?_)
  exact⟨i,J⟩
.refine let P:=_;(?_:wH P _ _ _ _ _)
 refine JY Y I r h2 h1 (.type "tuple") (λx d=>?_) (λy l f m ry=>?_) tt λh=>absurd h (by decide)
 .refine mw (KB<|(c x d).1.trans k) λi l o=>?_;subst o;exact(eG _ _ J)
 .obtain⟨i,C,e⟩:=KB ((c _ m).1.trans k)
  (injection e with z;injection z with z;subst z)
  obtain⟨a,us,ep,rfl,g,_⟩:=ry;exact show dy (ao B.prog B.w) s.heap (qs _) _ from(oS g).andThen .now}
theorem TK:∀{c:List (Int×Value)} {j:List gL},de ti U h a c->Pairs (oJ U.prog U.w) j c->RepL U h (a.map λe=>e.1.f8) (j.map (·.key)):=by{
induction a with
|nil=>intro c j r p;subst r;cases p;rfl
|cons x a Z=>
 rintro c j ⟨e,q,rfl,I,_,r⟩ p;cases p with
 |cons k _ p=>refine⟨_,_,J,?_,Z r p⟩;show aE U h x.1.f8 _;exact aa I<|Value.isInt_shape k}
theorem QD:∀{c:List (List Int×Addr×Value)},gm U h j c->RepL U h (j.map λe=>e.1.f8) ((c.map<|Gs<|Be<|oJ U.prog U.w).map (·.key)):=by{
induction j with
|nil=>intro c r;exact aa r J
|cons x j Z=>rintro c ⟨e,q,rfl,I,Y,r⟩;refine⟨_,_,J,?_,Z r⟩;show aE U h x.1.f8 _;exact aa I Y.2}
inductive QF (st:St) (h:Heap) (a:Addr) (es:List (aY×V)):Prop
 |mk (ds:Array gL) (ep:Nat) (r:qd h a ds ep) (k:RepL st h (es.map λe=>e.1.f8) (ds.toList.map (·.key)))
theorem Wy(d:gi U h a b)(w:∀e∈b,0<jQ e.1.f8):QF U h a b:=by{
refine let p:=_;(?_:p)
induction d using gi.casesOn with
|s c r d=>{
refine eg d λo j D Y u Z=>?_;obtain⟨m,_,O,_⟩:=Z
induction b using aS with
|nil=>subst r;refine⟨j,D,(bl o Y u m),?_⟩;generalize j.toList=dl at O;cases O;rfl
|cons x b=>obtain⟨e,q,rfl,⟨n,I,_⟩,_⟩:=r;have:=w x<|.head _;rw[I] at this;exact absurd this<|jZ 0}
|i c r d=>refine eg d λo j D Y u Z=>?_;obtain⟨m,_,O,_⟩:=Z;exact⟨j,D,(bl o Y u m),TK r O⟩
|t c r d=>refine eg d λo j D Y u Z=>?_;obtain⟨m,f,_⟩:=Z;exact⟨j,D,(bl o Y u m),aa f<|QD r⟩}
theorem Ww{A:aI}(Y:aq d U l H s)(B:(d.base.get? nv).isSome=T)(I:A.handled=N)(e:H a=S o)(f:zy (S o)=S L)(t:L.length<64)(w:∀x∈L,0<jQ x)(h:∀C G Q,(∀b o,s.heap.get? b=S o->C.get? b=S o)->RepL d C L Q->R Q {s with heap:=C,toks:=G}):aj (ao d.prog d.w) A (collect<|.ref a) R E s:=by{
refine let p:=_;(?_:p)
induction o using MO.casesOn with
|list P=>{
(obtain rfl:=aA f)
obtain⟨Z,⟨n,g⟩,r⟩:=Y.rep _ _ e;have z:∀b o,s.heap.get? b=S o->((s.heap.push<|jH "list" #[] 0).update s.heap.objs.size (nD (·++Z.toList.toArray))).get? b=S o:=λb o q=>by refine(Heap.get?_update_ne _ _ _ _<|fu<|ii q).symm▸(Heap.get?_push_ne _ _ _<|fu<|ii q).symm▸?_;exact q
exact collect_list (bl _ g J ⟨n,J⟩) (h _ s.toks _ z<|r.keep<|fP z) (by refine aa r.len<|oK▸?_;exact am (bU t) (by decide))}
|dict M=>{
(obtain rfl:=aA f)
obtain⟨j,D,r,k⟩:=Wy (Y.rep _ _ e) λy X=>w _<|bZ.mpr<|aG y X J;have O:j.size=M.length:=by have:=k.len;rw[aL,aL] at this;exact this
rw[aL] at t;refine kdu_collect (Yi<|Y.j0 e B) I r (by refine oK▸?_;exact aa O (am (bU t) (by decide))) λC G m z u=>h C G _ z ?_;rw[show m.toList=j.toList.map (·.key) from ?_]
.exact k.keep<|fP z
.refine PC λi=>?_;rw[lY,gy,lY]
 induction c:m[i]? using aV with
 |none=>rw[GU<|u.1▸Array.getElem?_eq_none_iff.mp c];rfl
 |some v=>(refine aU (u.2 i v c) λe c1 h0=>?_;refine aa h0 ?_);rw[c1];rfl}
|_=>exact aD f}
theorem WH(r:RepL U h L Q):∀{p:List Nat},(∀i∈p,i<L.length)->RepL U h (p.map λi=>L.getD i .none) (p.map λi=>Q.getD i jE):=by{
intro p
induction p with
|nil=>exact λ_=>J
|cons i p Z=>intro O;obtain⟨x,v,e,g,w,_⟩:=rK r<|aa r.len<|O i<|.head _;refine⟨_,_,J,?_,Z λj h9=>O j<|.tail _ h9⟩;show aE U h (L.getD i .none) (Q.getD i jE);refine aa g<|aa (yd)<|aa e ?_;exact w}
theorem ZM(B:eB h5):CV h5 .sorted:=λA U l H s Q X Z m hh I Y r h=>by{
refine let za:=_;let C:=_;let zc:=_;let zd:=_;(?_:aj za _ C zc zd _)
obtain⟨x,rfl,G⟩:=pW h;refine let Gz:=_;(?_:Gz)
refine af (oY r) λv h6=>ai (λO rq=>?_)<|h6;subst O;obtain⟨a,rfl,L,R,⟨E,w⟩,q⟩:=lJ G;subst rq;obtain⟨o,eo⟩:∃o,H a=some o:=by{
induction c:H a using aV with
|none=>replace R:=c▸R;exact aD R
|some o=>exact⟨o,J⟩}
replace R:=eo▸R;refine X9 kind_sorted plain_sorted entry_sorted (args_sorted1 _)<|ag<|av<|ag<|Ww Y B.sys hh eo R E (λx f=>fY.mp (bm.mp (w x f x f).1).2) λG tk us ke rl=>?_;refine let za:=_;let C:=_;let zc:=_;let zd:=_;let ze:=_;let h7:=_;(?_:aj za C zc zd ze h7)
have hl:=rl.len;refine ag (wpAny_newList ?_ (by refine aa oK ?_;exact aa hl (am (bU E) (by decide))));have h2:∀b o,s.heap.get? b=S o->(G.push<|jH "list" us.toArray 0).get? b=S o:=λb o e=>cu _<|ke b o e;have h3:(G.push<|jH "list" us.toArray 0).get? G.objs.size=S (jH "list" us.toArray 0):=eD _ ff;have t:s.heap.get? G.objs.size=N:=by{
induction c:s.heap.get? G.objs.size using aV with
|none=>rfl
|some o=>exact absurd (ii<|ke _ _ c)<|jZ _}
have h8:A.in1.in1.units+30<dY:=by show A.units+1+1+30<dY;exact cN (gM (by decide:32<=64) A.units) I
have h4:∀b o,s.heap.get? b=S o->b≠G.objs.size:=λb o e z=>by replace e:=t▸z▸e;exact aD e
refine ag<|eT<|uC slot_list_sort (aG _ h3 J) entry_list_sort (UI (B:=mq L) h3 (aa hl E) (λh' d M=>?_) λh' p c P u d g=>(aG _ J ?_))<|args_list_sort _
.have n:=λb o e=>d b o (h4 b o e) (h2 b o e);exact Xp (Y.ext n).S h8 (rl.keep<|fP λb o e=>d b o (fu<|ii e)<|cu _ e) M w
.have n:=λb o e=>d b o (h4 b o e) (h2 b o e);rw[hl] at P u;exact av ⟨_,J,pU (o:=.list _) Y n t (λ_ h=>(by cases h)) ⟨_,⟨c,g⟩,(WH (rl.keep<|fP λb o e=>d b o (fu<|ii e)<|cu _ e) λi h0=>kg.mp<|P.p.mem_iff.mp h0)⟩ (q _ ((by
  refine(P.p.map _).trans<|List.Perm.of_eq<|PC λi=>?_;refine aa (gy) ?_;by_cases c:i<L.length
  .refine aa (GK c) (aa (bX c) ?_);show S (L.getD i V.none)=_;refine aa (yd)<|aa (bX c) ?_;rfl
  .rw[iP<|dw c,iP (by exact aa sE<|dw c)];rfl)) ((by{
have D:=λx f y hy=>(w x f y hy).2;rw[qt];refine BR.mpr λi j h0 h9 z0=>?_;rw[Gk] at h0 h9;have h1:∀k _,p.toList[k]<L.length/\L[p.toList[k]]?=S (L.getD p.toList[k] .none)/\ky (mq L) p k=mq L p.toList[k]:=λk D=>by{
refine(bp (kg.mp<|P.p.mem_iff.mp<|kZ _) ?_ ?_)
.refine aa (yd)<|aa (bX<|kg.mp<|P.p.mem_iff.mp<|kZ _) ?_;rfl
.unfold ky;refine aa (Pu)<|aa (uA D) ?_;rfl}
refine aa (DA D (h1 j h9).2.1 (h1 i h0).2.1) ?_;exact congrArg S<|decide_eq_false<|je.mpr<|(h1 i h0).2.2▸(h1 j h9).2.2▸(u.le (bU z0)<|au P.z h9)})))⟩}
section
variable {α:Type} {M:nu} {A:aI} {env:Env} {E:Value ->ah ->Prop} {s:ah}
theorem QY{U:Stmt}(h:bf M A (exec U env) (λf u=>match f with|.next=>bf M A (gP i env) Q E u|f=>Q f u) E s):bf M A (gP (U::i) env) Q E s:=λn p o c b=>by
 rw[execs_cons,Oj];refine let P:=_;(?_:qe _ _ _ P _ _ _)
 refine rX M n _ (λf z u C=>?_) (λ_ _ _ C=>C) _ _<|h n p o c b;cases f<;>first|exact C n z o c b|exact C
theorem Ra{Q:α->ah->Prop}(h:bf M A m Q (nJ M A env E) s):bf M A (m.onRaise λx=>do GH x env;theTreesLotGoes x) Q E s:=zZ (hH h (λ_ _ q=>q) λ_ _ f=>bD<|ag<|bK f (λ_ _ e=>wpAny_theTreesLotGoes e) λ_ _ e=>e)
theorem Sd (h:bf M A (eval m env) (λv i=>aj M A (assignAll v ((GT t env).map (·.2))) (λ_=>Q .next) E i) E s)(B:swapsWithSole t m h9.line env=pure F) (u:Pk t m env=pure N):bf M A (exec (.Assign t m h9) env) Q E s:=by refine aa (exec_Assign_arm ..)<|bQ<|bD<|gO<|aa B<|bQ<|bD<|av ?_;exact aa (if_neg (by decide))<|bQ<|hH h (λv i X=>bD<|aa u<|ag<|av<|ag<|bK X (λ_ _ x=>av x) λ_ _ x=>x) λ_ _ x=>x
theorem Zh (h:aj M A (eval L env) (λx i=>aj M A (pyIter x) (λp g=>eC M A (.forLoop b p o O env) (λr u=>match r with|.ok f=>Q f u|.error e=>BK M A env E e u) g) E i) E s)(B:∀x,aaB L env x=pure x):bf M A (exec (.For b L o O h9) env) Q E s:=by{
refine aa (exec_For ..) ?_;refine bQ (bD (gO (bQ (bD (bK h (λx i X=>bQ (bD (gw (B x) (bQ (bD (gO (bQ (rC
 (bD<|bK X (λp g q=>?_) λ_ _ C=>C))))))))) λ_ _ C=>C)))))
exact zZ<|hH (ZF q) (λ_ _ x=>x) λ_ _ x=>bD x}
end
theorem B3{R:jC->ah->Prop}(h:aj (ao H w) A (gP a env) (λf u=>R (.ok f) u) (nJ (ao H w) A env λe u=>R (.error e) u) s):eC (ao H w) A (.block a env) R s:=λn p b o _=>(codeAny_block h) n p b o
theorem YV{A:aI}{R:jC->ah->Prop}(w:wj c=T)(o:c.quiet=T)(I:Nat->ah->Prop)(y:∀n s,I n s->bf M (A.under c) (M.den c) (λa u=>match a with
    |.done f=>R (.ok f) u
    |.again B=>(B=c/\∃m,m<n/\I m u)\/(B.quiet=T/\eC M A B R u)) (λe u=>R (.error e) u) s) (n:Nat) (h:I n s):eC M A c R s:=by{
induction n using Nat.strongRecOn generalizing s with
|ind n Z=>{
refine rG w<|hH (y n s h) (λa u G=>?_) λ_ _ C=>C;cases a with
|done f=>exact G
|again B=>{
clear h s y w;rcases G with⟨rfl,m,E,b⟩|G
.exact⟨o,Z m E b⟩
.exact G}}}
theorem RF{R:jC->ah->Prop}(I:Nat->ah->Prop)(y:∀n s,I n s->aj (ao H w) A (xU p) (λr i=>match r with
   |none=>aj (ao H w) A (gP O env) (λf k=>R (.ok f) k) (nJ (ao H w) A env λe u=>R (.error e) u) i
   |some v=>aj (ao H w) A (Pl b p v) (λ_ c=>aj (ao H w) A (assign b env v) (λ_ g=>bf (ao H w) A (gP o env) (λf k=>match f with
      |.next|.cont=>∃m,m<n/\I m k
      |.brk=>R (.ok .next) k
      |.ret v=>R (.ok<|.ret v) k) (nJ (ao H w) A env λe u=>R (.error e) u) g) (nJ (ao H w) A env λe u=>R (.error e) u) c) (nJ (ao H w) A env λe u=>R (.error e) u) i) (nJ (ao H w) A env λe u=>R (.error e) u) s) (n:Nat) (h:I n s):eC (ao H w) A (.forLoop b p o O env) R s:=by{
refine YV J J I (λn s d=>?_) n h;refine let P:=_;let l:=_;(?_:bf _ _ _ P l _)
show bf _ A ((forTurn b p o O env).onRaise (λx=>do GH x env;theTreesLotGoes x)) _ _ s;refine Ra<|bQ<|bD<|gO<|bQ<|zZ<|bD<|bK (y n s d) (λr i X=>?_) λ_ _ C=>bD<|gO C;cases r with
|none=>exact bD<|av<|.inr ⟨J,B3 X⟩
|some v=>{
refine bQ<|bD<|bK X (λ_ c j=>bQ<|bD<|bK j (λ_ g q=>bQ<|hH q (λf k a=>bD ?_) λ_ _ C=>C) λ_ _ C=>C) λ_ _ C=>C;cases f with
|next=>exact av<|.inl ⟨J,a⟩
|cont=>exact av<|.inl ⟨J,a⟩
|brk=>exact av a
|ret v=>exact av a}}
theorem UF{A:aI}{R:jC->ah->Prop}(h:bf (ao H w) (A.deeper env) (gP o env) (λf u=>R (.ok (.ret (match f with|.ret v=>v|_=>.none))) u) (λe u=>aj (ao H w) (A.deeper env) (leaving env e) (λ_ M=>R (.error e) M) (λa M=>R (.error a) M) u) s):eC (ao H w) A (.func o env) R s:=by refine rG J<|bQ<|bD<|BL<|bQ<|zZ<|hH h (λf u C=>bD ?_) λ_ _ C=>bD C;cases f<;>exact av C
theorem QH{A:aI}{s:ah}(I:A.depth<su)(Y:s.heap.get? a=S o)(r:o.data= .func X) (f:X.scope.isCoroutine=F) (k:X.scope.isGenerator=F) (l:X.body= .stmts t) (v:s.heap.CodeRec X.code X.qualname)(h:aj (ao H w) A.in1 (bindArgs X args) (λb i=>aj (ao H w) A.in1 (newFunctionEnv X.scope X.globals X.closure b (X.qualname++".<locals>.") (S a) X.code N X.builtins) (λenv g=>g.heap.NoLimit/\eC (ao H w) A (.func t env) R g) (λe u=>R (.error e) u) i) (λe u=>R (.error e) u) s):eC (ao H w) A (.call (.ref a) args) R s:=by{
refine rG tt<|bD ?_;refine let P:=_;let z:=_;let j:=_;let U:=_;let x:=_;(?_:aj P z j U x _)
refine ag<|uF Y ?_;refine ie v λc y Z B=>?_;obtain⟨p,d,m,n,D⟩:=B;refine aa r ?_;show aj _ _ (callFunction _ _ _) _ _ _;delta callFunction;refine aa f<|aa k<|aa l<|aa d ?_;rw[d] at h;refine ag<|kR m n D<|ag<|av ?_;exact ag (bK h (λb i E=>ag (bK E (λenv g q=>ag (wpAny_enterFrame q.1 I
 (av<|cj J q.2))) λ_ _ C=>C)) λ_ _ C=>C)}
theorem ZL{E:Value->Pos->ah->Prop}:∀{j:List Stmt} {p:Pos} {s:ah},qe M n (gP j env) (λf z u=>match f with|.next=>qe M n (gP i env) Q E z u|f=>Q f z u) E p s->qe M n (gP (j++i) env) Q E p s:=by{
intro j
induction j with
|nil=>exact λh=>h
|cons e j Z=>
 intro p s h;show qe M n (gP (e::(j++i)) env) Q E p s;rw[execs_cons,Oj] at h ⊢;refine let P:=_;(?_:qe _ _ _ P _ _ _)
 refine rX M n _ (λf z u C=>?_) (λ_ _ _ C=>C) _ _ h;cases f<;>first|exact Z C|exact C}
theorem Wq(h:aj M A (gP j env) (λf u=>match f with|.next=>bf M A (gP i env) Q E u|f=>Q f u) E s):bf M A (gP (j++i) env) Q E s:=λn p o c b=>by refine ZL<|rX M n _ (λf z u C=>?_) (λ_ _ _ C=>C) _ _<|h n p o;cases f<;>first|exact C n z o c b|exact C
theorem Jt (h:aj M A (eval (.Name x p) env) (λf i=>bf M A (sw h9 f [] (qr h9<|nI args env) []) Q E i) E s):bf M A (eval (.Call (.Name x p) args [] h9) env) Q E s:=bQ<|bD h
theorem Wl(H:args.any (·.1)=F)(h:aj M A (GL (.type D) T args []) (λa i=>bf M A (call (.type D) (first++a.pos) a.kw) Q E i) E s):bf M A (sw h9 (.type D) first args []) Q E s:=bQ<|rC<|bD<|bK h (λa i X=>bQ<|bD<|gO<|aa H<|bQ<|bD<|av<|bQ<|hH X (λr g I=>bD<|ag<|eT<|BL<|av I) λ_ _ x=>x) λ_ _ x=>x
theorem Ro{P:Heap->Prop}(H:args.any (·.1)=F)(d:∀h,P h->∃k,(k=Keeper.frame\/k=Keeper.machine\/k=Keeper.boundFrame)/\dy M h (keeperOf f) k)(h:aj M A (GL f T args []) (λa i=>P i.heap/\bf M A (call f (first++a.pos) a.kw) Q E i) E s):bf M A (sw h9 f first args []) Q E s:=by{
refine bQ<|rC<|bD<|bK h (λa i X=>bQ<|bD<|gO ?_) λ_ _ x=>x;refine aU (d _ X.1) λk e w=>?_;refine aa H<|bQ<|bD<|w.here ?_;have l:∀{t:Sem Value},bf M A t Q E i->bf M A (t>>=λr=>ux [r] point>>=λ_=>pure r) Q E i:=λv=>bQ<|hH v (λr g I=>bD<|ag<|eT<|BL<|av I) λ_ _ x=>x
have m y:bf M A (callMarked y f (first++a.pos) a.kw) Q E i:=by unfold callMarked;exact(λn p o c b=>by exact aa (Sem.wp_keep ..)<|X.2 n p o c b)
clear w h d H h9;rcases e with rfl|rfl|rfl<;>first|exact l X.2|(show bf M A (ite _ _ _) Q E i;exact iteInduction (motive:=λt=>bf M A t Q E i) (λ_=>l X.2) λ_=>l<|m _)}
theorem Rc{A:aI}(Y:Makes (ao H w) h C)(Z:dy (ao H w) h (oP (.ref C) "__init__")<|S n)(D:∀q,dy (ao H w) h (bindSpecial n q) (n,[q])) (X:(S n !=S (Pf "object.__init__"))=T)(hq:eC (ao H w) (A.under<|.builtin "type.__call__" ⟨.ref C::i,[]⟩) (.call n ⟨.ref (h.objs.size+1)::i,[]⟩) (InitBack (h.objs.size+1) R) ⟨(h.push xS).push<|qh C h.objs.size,g,d,t,m⟩):eC (ao H w) A (.call (.ref C) ⟨i,[]⟩) R ⟨h,g,d,t,m⟩:=by{
refine let p:=_;(?_:p)
have O:=Y;obtain⟨⟨y,B,G,sl,M,e1,I,Q⟩,h0,c,q,a,call,s⟩:=Y;refine rG tt<|bD<|nd_load M ((ag<|call.at ?_):aj _ _ (aal (.ref C) _) _ _ _)
dsimp only
refine aa (tc_bind ..) (ag (av (ag (av (av (a:=Fin.again<|.call _ ⟨.ref C::i,[]⟩) (cj tt (La (by decide+kernel) (GA _ (by decide+kernel)) entry_typeCall<|GQ tc_kind tc_split s (tc_args _ _ _) ?_)))))));delta Builtin.«type.__call__»;have E:dy (ao H w) h (mroOf<|.ref C) G.mro:=((oS M).andThen .now).andThen .now
dsimp only
refine aa (if_neg kS)<|bQ<|bD<|E.at<|wU Q (let P:=_;let zb:=_;let j:=_;let U:=_;let x:=_;let l:=_;((bQ<|bD<|h0.at ?_):bf P zb j U x l));refine bQ<|bD<|av<|bQ<|bD<|eT<|uH<|new_K O Z (.inl X) ?_;have k:∀b o,h.get? b=S o->((h.push xS).push<|qh C h.objs.size).get? b=S o:=λb o e=>cu _<|cu _ e;have f:((h.push xS).push<|qh C h.objs.size).get? (h.objs.size+1)=S (qh C h.objs.size):=by heap_get
have L:dy (ao H w) ((h.push xS).push<|qh C h.objs.size) (qs<|.ref<|h.objs.size+1) _:=(oS f).andThen .now;refine bQ<|bD<|ag<|L.at<|(q.keeps k).at<|wU ff<|bQ<|rC (let P:=_;let zb:=_;(?_:bf _ _ _ P zb _));refine bQ<|bD<|ag<|L.at<|(Z.keeps k).at<|rC<|bQ<|bD<|((D _).keeps k).at<|bQ<|vA<|wt hq λr u z=>?_;rcases r with e|(v|_|_|_)<;>first|exact z|exact z.elim|skip
obtain⟨rfl,z⟩:=z;exact bD<|av<|bD<|av z}
theorem sQ(h:cS a U l H s (λ_ _=>False) e u):False:=by obtain⟨_,_,_,_,_,_,_,_,_,_,_,q⟩:=h;exact q
theorem NE{A:aI}(B:eB t)(h0:aq t U l H s)(j:vP t d fd o)(r:RepL t s.heap Z m)(D:pq d Z=S C)(I:A.depth<su)(h8:A.frames=S U.frames)(h:∀env i,env.scope=fd.scope->pA (kO t d U env)->env.frame=S env.locals->aq t (kO t d U env) C H i->bf (ao t.prog t.w) (A.deeper env) (gP o env) (eM t (kO t d U env) H i λfl _ Y=>match fl with|.next=>Q .none Y|.ret v=>Q v Y) (λ_ _=>False) i):eC (ao t.prog t.w) A (.call (.ref d.addr) ⟨m,[]⟩) (mL t U l H s Q X) s:=by{
refine let P:=_;let zb:=_;let zc:=_;(?_:eC P _ zb zc _)
refine af (j.at_) λoc L=>?_;refine let p:=_;(?_:p)
refine af (L) λod y=>af (y) λh9 ho=>af (j.dfl) λdv L=>ai (λq h4=>ai (λh3 h5=>QH I ((B.X.keeps h0.base) _ _ ho) J j.co j.gen j.body (codeRec_of (B.X.keeps h0.base) j.code) (kp_binds (B.X.keeps h0.base) (h4 m (by rw[r.len];exact h3.1) (by exact aa r.len h3.2)) _ _ _ _<|j.clo▸?_))<|Kx D)<|L;refine aa1 j.kind (λx hx=>?_) λenv he i x=>?_
·(refine af (bZ.mp (aa2 hx).1) λn L=>?_;refine ai (λO e=>?_)<|L)
 exact(j.names n O).2.imp (λG=>e▸G) λG=>e▸⟨G,AZ<|.inr<|yA G⟩
obtain⟨h1,M,h6,h2,h7⟩:env.scope=fd.scope/\env.globals=fd.globals/\env.builtins=fd.builtins/\env.frame=some env.locals/\env.cells=OT (s.heap.objs.size+1) fd.scope.names []:=by subst he;exact⟨J,J,J,J,J⟩
have b:=λn c E=>am x.toInCall.fresh<|bU<|x.above n c E;have g:=h0.enter j (r.n7<|q _ h0.base) h1 h2 x b (λn O w=>by exact aa h7<|AZ<|.inr<|yA w) (by(refine af (x.toInCall.same) λh' L=>?_;refine af (L) λtk e=>?_);refine e▸?_;exact⟨J,J,J⟩);replace g:=h5▸g;have k:=x.toInCall.keep;have D:=λC Y u=>h0.back (d:=kO t d U env) (C:=C) (Y:=Y) (u:=u) k (λa R=>(EH x b a R).z) λa R=>by
 change a∈(env::U.frames).filterMap (·.frame) at R
 rw[OS,h2,bJ] at R;exact R.elim (λe=>e▸.inr (gq x.toInCall.fresh)) .inl
exact⟨(B.lim.keeps h0.base).keeps k,UF (hH (h env i h1 (KV j ⟨by refine h1▸?_;exact j.kind,M.trans j.glob,h6.trans j.bi⟩ x) h2 g) (λf u=>JH D) λe u z=>z.elim)⟩}
theorem SG{cx:Cx}(D:hZ m j)(t:∀c d,m.ct c=S d->d.isExc=T->nW m d)(R:cx.ct=m.ct)(Y:Ev m cx U n o X)(O:b=m.sd k)(C:bN A U n cx.hn)(h:bf (ao m.prog m.w) A (eval e U.env) (bH m U l (aE m) H s λx H=>aP cx (λ_ _=>False) l o (λv H=>mC cx (λH=>Q .next l H) H v k x) H) (λ_ _=>False) s):bf (ao m.prog m.w) A (exec (.Assign [.Attribute X b M] e h9) U.env) (eM m U H s Q) (λ_ _=>False) s:=by{
refine aa O ?_;refine Sd (hH h (λu i E=>?_) λ_ _ z=>z) AO.1 (AO (d:=0)).2;obtain⟨x,Z,r,f,G,q⟩:=E;refine bK (E:=gH m U H s λ_ _ _=>False) ?_ (λ_ _ z=>z) λ_ _ z=>zg z;show aj _ _ (do
 let P<-ux [u] (eval X U.env)
 BD M.atName
 ux _ (By P (m.sd k) u)
 release _ []) _ _ _
refine ag<|eT<|hO (G.d5) (Y A l Z i _ _ C f q) λv g y h1 I L w p q'=>ag<|gO<|ag<|eT<|zX p (Ee D t R L I (r.keep<|f.d6 w) q') λh2 h3 a h0 B=>wpAny_release<|mX h0 a B}
theorem Xa{cx:Cx}(D:hZ t ft)(R:cx.ct=t.ct)(ha:lh t cx U n ms j)(O:j.all dJ=T)(M:t.ct c=S d)(hl:c<1000)(hx:d.isExc=F)(h0:yn t X d)(G:om t U nm<|.ref d.addr)(C:∀(A:aI) (l:ae) (H:MH) (s:ah) (Z:List V) (m:List Value) (Q:QV),tM A U n cx.hn->aq t U l H s->RepL t s.heap Z m->cx.call cx.hn d.init Z Q (λ_ _=>False) H->∃e,X d.init=S e/\eC (ao t.prog t.w) A (.call (.ref e.addr) ⟨m,[]⟩) (mL t U l H s Q λ_ _=>False) s)(y:bN A U n cx.hn) (h3:aq t U l H s) (h:aP cx (λ_ _=>False) l (.new c ms) Q H):bf (ao t.prog t.w) A (eval (.Call (.Name nm p) j [] h9) U.env) (bH t U l (aE t) H s Q) (λ_ _=>False) s:=by{
refine let za:=_;let zb:=_;let zc:=_;(?_:bf za _ zb zc _ _)
refine Jt<|vV D.B h3.base y.ek G<|Ro (eA O) (keeps_K h0.keep)<|jj (eA O)<|bK (bF Go.refl (ha A l H s _ _ h9 y h3 h) λZ i L h4 r f g G' k=>⟨D.B.X.keeps f.base,?_⟩) (λ_ _ z=>z) λ_ _ z=>sQ z;refine let Gz:=_;(?_:Gz)
have Xs:=D.B.X.keeps f.base;refine af (h0.init) λe h1=>ai (λhe h6=>ai (λh7 hf=>?_)<|h6)<|h1;replace k:=M▸R▸k;have k:oo cx (λ_ _=>False) Q c L h4 d:=k;delta oo at k;have P:i.heap.get? (i.heap.objs.size+1)=N:=gq<|si _;have w:t.d9 c=d.addr:=by unfold St.d9;exact aa M J
have kk:∀o1 o2 b o,i.heap.get? b=S o->((i.heap.push o1).push o2).get? b=S o:=λo1 o2 b o e=>cu _<|cu _ e;rw[hx,if_neg kS] at k;have h5:=f.new (o:=.inst c i.heap.objs.size []) (t:=i.toks) (kk xS<|qh d.addr i.heap.objs.size) P (λb hb=>by cases cJ.mp hb;exact⟨(gq<|cD _),fu<|iO _⟩)
 ⟨⟨d,M,hx,hl⟩,by refine aa w ?_;heap_get,⟨[],0,cu _<|eD _ ff,J⟩,λp O=>(by cases O)⟩
refine af (C (A.under<|.builtin "type.__call__" ⟨.ref d.addr::Z,[]⟩) l _ _ _ _ _ (LH y) h5.S (wm qT<|r.keep<|fP<|kk _ _)<|k _ i.heap.objs.size<|f.i8 P) λe' h1=>ai (λh2 B=>?_)<|h1;replace h2:=he▸h2;(obtain rfl:=aA h2);refine vA<|wt (Rc (R:=mL t U l h4 i Q λ_ _=>False) (makes_of Xs<|h0.make hx) (xT Xs h7) (λh8=>bind_fn Xs h8 hf) tt<|wt B λr u z=>?_) λr u I=>?_
.induction r using uI with
 |error e=>exact(sQ z).elim
 |ok a=>induction a using xI with
  |ret v=>
   obtain⟨x,Y,r,E,z0,q⟩:=z
   induction x using V.casesOn with
   |none=>exact⟨r,.ref _,Y,J,E,h5.G.trans z0,q⟩
   |_=>exact q.elim
  |_=>exact z
.induction r using uI with
 |error e=>exact(sQ I).elim
 |ok a=>induction a using xI with
  |ret v=>exact bH.trans G' I
  |_=>exact I}
theorem G6(D:hZ c j)(u:Ev c cx U n m e)(O:dJ e=T)(w:U.env.kindOf d=S .globalImplicit)(E:c.mg d=N)(o:c.mb d=S (.type "bytearray"))(a:(d==("__debug__":Str))=F)(y:bN A U n cx.hn) (Y:aq c U l H s) (h:aP cx (λ_ _=>False) l m (λx H=>KY x λn=>n<=1000000/\gB H (.bytearr n) Q) H):bf (ao c.prog c.w) A (eval (.Call (.Name d p) [e] [] h9) U.env) (bH c U l (aE c) H s Q) (λ_ _=>False) s:=by{
refine Jt<|xP (En D.B Y.base y.ek w E o<|Wl (eA<|bm.mpr ⟨O,tt⟩)<|jj (eA<|bm.mpr ⟨O,tt⟩) ?_) a;refine let P:=_;(?_:aj _ _ _ P _ _)
refine aa (mJ O)<|oR<|bK (u A l H s _ _ y Y h) (λv i ⟨x,I,r,f,G,k⟩=>xR ?_) λ_ _ z=>sQ z
induction x using V.casesOn with
|bytes n=>exact hH ((by refine af (r) λb L=>af (L) λt q=>ai (λB o=>?_)<|q;refine aa B ?_;exact We (aa o k.1) λC g M=>pU (o:=.bytearr n) f M (gq<|cD _) (λ_ h=>absurd h aJ) ⟨b,0,g,o⟩ k.2)) (λ_ _ z=>bH.trans G z) λ_ _ z=>z
|_=>exact k.elim}
def NU(Q:Fl->ae->MH->Prop)(I:ae->MH->Prop)(a:Fl)(l:ae)(H:MH):Prop:=match a with|.next=>I l H|.ret v=>Q (.ret v) l H
inductive GI (st:St) (fr:aF) (I:Addr) (Sf:Nat->Heap->Prop) (H₀:MH) (s₀:ah) (Inv:Nat->ae->MH->Prop) (N j:Nat) (s:ah):Prop
 |mk (k:Nat) (l:ae) (H:MH) (e:j=N-k) (hk:k<=N) (T:ju st fr I Sf H₀ s₀ k l H s) (h:Inv k l H)
theorem XJ{A:aI}{cx:Cx}(Inv:Nat->ae->MH->Prop)(R:A.handled=N)(g:iW U t tg)(hb:∀k l C H s x,Inv k l H->M[k]?=S x->cT t x l=S C->aq d U C H s->bf (ao d.prog d.w) A (gP o U.env) (eM d U H s<|NU Q<|Inv<|k+1) (λ_ _=>False) s)(hl:∀k l H x,Inv k l H->M[k]?=S x->∃C,cT t x l=S C) (he:∀l H,Inv M.length l H->Q .next l H)(y:bN A U n cx.hn) (B:kG d A I M (λ_=>True) Y) (O:hV d U I m) (D:ju d U I Y Z m 0 l H s) (h:Inv 0 l H):eC (ao d.prog d.w) A (.forLoop tg (.ref I) o [] U.env) (λr u=>match r with|.ok f=>eM d U Z m Q f u|.error e=>False) s:=by{
refine let P:=_;(?_:eC _ _ _ P _)
refine RF (GI d U I Y Z m Inv M.length) ?_ M.length ⟨0,l,H,J,bW _,D,h⟩;rintro j s ⟨k,l,H,rfl,w,D,h⟩;refine let P:=_;let zb:=_;(?_:aj _ _ _ P zb _)
refine CM B O D trivial ?_;cases G:M[k]? with
|none=>exact λu S' p _=>xX ⟨.next,l,H,J,S',p,he l H<|kj w (uL.mp G)▸h⟩
|some x=>{
refine af (hl k l H x h G) λh5 h0=>λv h9 c q _=>CP g B q.at_<|DG g y R q.S Go.refl c h0 λh6 L h7=>hH (hb k l h5 H h6 x h G h0 L) (λf h8 zp=>?_) λe h8 z=>z.elim;have b:=q.body B O L h7;have X:=(cW.mp G).1;obtain⟨fl,h1,h2,i,a,h3,h4⟩:=zp;cases fl with
|next=>exact i.symm▸⟨_,uR X<|iO k,k+1,h1,h2,J,X,b.body B O a h3,h4⟩
|ret v=>exact i.elim λE z=>z.1▸⟨.ret v,h1,h2,⟨E,J,z.2⟩,a,b.G.trans h3,h4⟩}}
theorem UH{A:aI}{m:Nat}(Inv:Nat->ae->MH->Prop)(Z:qE q cx U n p e)(v:qX e=T)(g:iW U t b)(R:A.handled=N)(w:∀(a:List V->(MH->Prop)->MH->Prop),(a (jJ m) (λ_=>True) H)->wpI cx (λ_ _=>False) l p a H)(D:∀k l C H s x,Inv k l H->(jJ m)[k]?=S x->cT t x l=S C->aq q U C H s->bf (ao q.prog q.w) A (gP o U.env) (eM q U H s<|NU Q<|Inv<|k+1) (λ_ _=>False) s)(hl:∀k l H x,Inv k l H->(jJ m)[k]?=S x->∃C,cT t x l=S C) (he:∀l H,Inv m l H->Q .next l H)(y:bN A U n cx.hn) (E:aq q U l H s) (h:Inv 0 l H):bf (ao q.prog q.w) A (exec (.For b e o [] h9) U.env) (eM q U H s Q) (λ_ _=>False) s:=by{
refine Zh (Z A l H s (λ_ _=>False) (λM i Y=>M=jJ m/\i=(λ_=>True)/\Y=H) _ _ y R E (w _<|bp J J J) (λe u z=>sQ z) λI h2 d M i Sf L h0 O c B h1 k=>?_)<|Dh v;refine let P:=_;let zb:=_;let j:=_;(?_:eC P _ zb j _)
clear E w v Z p;obtain⟨rfl,rfl,rfl⟩:=k;refine wt (XJ Inv R g D hl (λl H z=>he l H ?_) y B O ⟨L,h0.d5,c,h1⟩ h) λr u z=>?_
.have:(jJ m).length=m:=by
  have G:=yH (n:=m) (k:=m);rw[if_neg<|jZ m] at G;refine kj (uL.mp G) ?_;refine dw λz=>?_;have X:=(λk=>yH (n:=m) (k:=k)) (jJ m).length;rw[if_pos z,iP<|cD _] at X;exact aD X
 rw[this] at z;exact z
.induction r using uI with
 |ok f=>exact z
 |error e=>exact z.elim}
theorem Ar{a b:List Int}(h:aY.t a= .t b):a=b:=by injection h
def eO(a:List Addr)(H Y:MH):Prop:=∀b,H b≠N->b∉a->Y b=H b
abbrev Gr (H Y:MH):Prop:=eO [] H Y
theorem Gr.rfl:Gr H H:=λ_ _ _=>Eq.refl _
theorem Gr.at(g:Gr H Y)(h:H a=S o):Y a=S o:=(g a (by refine aa h ?_;exact(by intro z;cases z)) aJ).trans h
theorem eO.at(g:eO b H Y)(h:H a=S o)(n:a∉b):Y a=S o:=(g a (by refine aa h ?_;exact(by intro z;cases z)) n).trans h
theorem Gr.trans(g:Gr H Y)(w:Gr Y G):Gr H G:=λb h n=>by exact(w b (by refine aa (g b h n) ?_;exact h) n).trans<|g b h n
theorem Gr.new(h:H a=N):Gr H (H.set a o):=λb D _=>MH.c9 λe=>D<|aa e h
theorem bq{o:Option D}{P:D->Prop}{x:D}(h:o=S x)(k:P x):cB o P:=by exact aa h k
theorem ir(h:o=S (.list x))(k:P x):tV o P:=by exact aa h k
def Pv(cx:Cx)(l:ae)(H:MH)(e:ME)(v:V):Prop:=∀I,Gr H I->∀(X:QE) (Q:QV),Q v I->aP cx X l e Q I
theorem Pv.gr(h:Pv cx l H e v)(g:Gr H Y):Pv cx l Y e v:=λI w=>h I<|g.trans w
theorem Pv.to(h:Pv cx l H e v)(q:v=E):Pv cx l H e E:=au q h
theorem eh:Pv cx l H .none .none:=λ_ _ _ _ q=>q
theorem eU:Pv cx l H (.bool b) (.bool b):=λ_ _ _ _ q=>q
theorem ar:Pv cx l H (.int i) (.int i):=λ_ _ _ _ q=>q
theorem aQ:Pv cx l H (.str n) (.str n):=λ_ _ _ _ q=>q
theorem ab{l:ae}(h:l.at i=S v):Pv cx l H (.loc i) v:=λI _ _ Q q=>bq h q
theorem CA{H:MH}(R:H a=S (.inst c i D))(G:cy D n=S v)(q:Q v H):vH Q H (.ref a) n:=bq R<|bq G q
theorem aN(h:Pv cx l H e<|.ref a)(R:H a=S (.inst c i D))(G:cy D n=S v):Pv cx l H (.attr e n) v:=λI g X Q q=>h I g X _ (CA (g.at R) G q)
theorem zC{k:Nat}(w:L[k]?=S v)(D:k<1000000)(q:Q v H):wK Q H (.tup L) (.int k):=⟨⟨cR k,by exact ql (cM.mpr D) (by decide)⟩,bq w q⟩
theorem cG{k:Nat}(h:Pv cx l H e<|.tup L)(Z:Pv cx l H i<|.int k)(w:L[k]?=S v)(D:k<1000000):Pv cx l H (.idx e i) v:=λI g X Q q=>h I g X _ (Z I g X _<|zC w D q)
theorem iJ{k:Nat}(h:Pv cx l H e<|.ref a)(R:H a=S (.list L))(Z:Pv cx l H i<|.int k)(w:L[k]?=S v)(D:k<1000000):Pv cx l H (.idx e i) v:=λI g X Q q=>h I g X _ (Z I g X _ (bq (g.at R) ⟨⟨cR k,by exact ql (cM.mpr D) (by decide)⟩,bq w q⟩))
theorem iz(h:Pv cx l H a<|.int x)(C:Pv cx l H b<|.int y):Pv cx l H (.bin .add a b) (.int<|x+y):=λI g X Q q=>h I g X _<|C I g X _ q
theorem mM(h:Pv cx l H a<|.int x)(C:Pv cx l H b<|.int y):Pv cx l H (.bin .sub a b) (.int<|x-y):=λI g X Q q=>h I g X _<|C I g X _ q
theorem vG(h:Pv cx l H a<|.int x)(C:Pv cx l H b<|.int y)(n:0<y/\y<2^30):Pv cx l H (.bin .fdiv a b) (.int<|x/y):=λI g X Q q=>h I g X _<|C I g X _ ⟨n,q⟩
theorem bC(h:Pv cx l H a x)(C:Pv cx l H b y)(u:∀H,wv H o x y=S t):Pv cx l H (.cmp a o b) (.bool t):=λI g X Q q=>h I g X _<|C I g X (kD o (λc H=>Q _ H) x)<|bq (u _) q
theorem iR(h:Pv cx l H a<|.int x)(C:Pv cx l H b<|.int y):Pv cx l H (.cmp a .lt b) (.bool<|decide<|x<y):=bC h C λ_=>J
theorem nV(h:Pv cx l H a<|.int x)(C:Pv cx l H b<|.int y):Pv cx l H (.cmp a .gt b) (.bool<|decide<|x>y):=bC h C λ_=>J
theorem FV(h:Pv cx l H a<|.int x)(C:Pv cx l H b<|.int y):Pv cx l H (.cmp a .le b) (.bool<|decide<|x<=y):=bC h C λ_=>J
theorem gF(h:Pv cx l H a<|.int x)(C:Pv cx l H b<|.int y):Pv cx l H (.cmp a .eq b) (.bool<|x==y):=bC h C λ_=>aT
theorem fC(h:Pv cx l H a<|.int x)(C:Pv cx l H b<|.int y):Pv cx l H (.cmp a .ne b) (.bool<|!(x==y)):=bC h C λ_=>aT
theorem ig(h:Pv cx l H a x):Pv cx l H (.isNone a) (.bool x.f9):=λI g X Q q=>h I g X _ q
theorem fR(h:Pv cx l H a x):Pv cx l H (.notNone a) (.bool !x.f9):=λI g X Q q=>h I g X _ q
theorem ni(h:Pv cx l H a<|.bool b):Pv cx l H (.not a) (.bool !b):=λI g X Q q=>h I g X (bR λb H=>Q _ H) q
theorem eW(h:Pv cx l H a<|.bool p)(C:p=F->Pv cx l H b (.bool q)):Pv cx l H (.bop F<|.cons a<|.cons b .nil) (.bool<|p||q):=λI g X Q k=>
 h I g X (λv H=>bR (λc H=>if c=F then wpB cx X l F _ Q H else Q v H) v H) (by{
clear h a
induction p using aX with
|true=>exact k
|false=>exact C ff I g X _ k})
theorem dD(h:Pv cx l H a<|.bool p)(C:p=T->Pv cx l H b (.bool q)):Pv cx l H (.bop T<|.cons a<|.cons b .nil) (.bool<|p&&q):=λI g X Q k=>
 h I g X (λv H=>bR (λc H=>if c=T then wpB cx X l T _ Q H else Q v H) v H) (by{
clear h a
induction p using aX with
|false=>exact k
|true=>exact C tt I g X _ k})
def dA(cx:Cx)(l:ae)(H:MH)(j:MEs)(Z:List V):Prop:=∀I,Gr H I->∀(X:QE) (Q:List V->MH->Prop),Q Z I->wpEs cx X l j Q I
theorem bc:dA cx l H .nil []:=λ_ _ _ _ q=>q
theorem aB(h:Pv cx l H e v)(C:dA cx l H j Z):dA cx l H (.cons e j) (v::Z):=λI g X Q q=>h I g X _<|C I g X _ q
def yu(l:ae)(m:ME):Option V:= @ME.casesOn (λ_=>Option V) m (S .none) (λb=>S<|.bool b) (λi=>S<|.int i) (λn=>S<|.str n) N (λi=>l.at i) (λ_ _=>N) (λ_ _=>N) (λ_ _=>N) (λ_ _=>N) (λ_=>N) (λ_=>N) (λ_=>N) (λ_ _ _=>N) (λ_=>N) (λ_ _ _=>N) (λ_ _ _ _ _=>N) (λ_=>N) (λ_=>N) (λ_ _=>N) (λ_ _ _=>N) (λ_ _=>N) (λ_ _=>N) (λ_ _ _=>N) (λ_ _ _=>N) (λ_=>N) (λ_ _=>N) (λ_ _=>N) (λ_ _=>N) (λ_=>N) λ_ _ _ _=>N
theorem Vj{m:ME}{v:V}(h:yu l m=S v):Pv cx l H m v:=by{
induction m using ME.casesOn with
|none=>exact aA h▸eh
|bool b=>exact aA h▸eU
|int i=>exact aA h▸ar
|str n=>exact aA h▸aQ
|loc i=>exact ab h
|_=>exact aD h}
def zl(l:ae):MEs->Option (List V)
 |.nil=>S []
 |.cons e r=>match yu l e with
  |some v=>(match zl l r with|some Z=>S (v::Z)|none=>N)
  |none=>N
theorem aM{j:MEs}:∀{Z:List V},zl l j=S Z->dA cx l H j Z:=by{
induction j using MEs.rec (motive_1:=λ_=>True) (motive_3:=λ_=>True) with
|nil=>exact λh=>aA h▸bc
|cons e r _ a=>{
intro Z h;have h:(match yu l e with|some v=>(match zl l r with|some Z=>S _|none=>N)|none=>N)=S Z:=h
induction g:yu l e using aV with
|none=>exact aD<|g▸h
|some v=>{
induction I:zl l r using aV with
|none=>exact aD<|I▸g▸h
|some k=>rw[g,I] at h;exact au (aA h)<|aB (Vj g)<|a I}}
|_=>trivial}
theorem cP(h:dA cx l H j Z)(E:Z.length<=1000000):Pv cx l H (.tup j) (.tup Z):=λI g X Q q=>h I g X _ ⟨E,q⟩
theorem vE{cx:Cx}(O:cx.hn=T)(h:Pv cx l H e x)(o:∀I,Gr H I->∀Q:QV,Q (.int k) I->EL Q I x):Pv cx l H (.bi .len<|.cons e .nil) (.int k):=λI g X Q q=>⟨O,h I g X _<|o I g Q q⟩
theorem fO{cx:Cx}(O:cx.hn=T)(h:Pv cx l H e<|.tup L)(E:L.length<=1000000):Pv cx l H (.bi .len<|.cons e .nil) (.int L.length):=vE O h λ_ _ _ q=>⟨E,q⟩
theorem iB{cx:Cx}(O:cx.hn=T)(h:Pv cx l H e<|.ref a)(R:H a=S (.list L))(E:L.length<=1000000):Pv cx l H (.bi .len<|.cons e .nil) (.int L.length):=vE O h λ_ g _ q=>bq (g.at R) ⟨E,q⟩
theorem R7{cx:Cx}(O:cx.hn=T)(h:Pv cx l H e<|.ref a)(R:H a=S (.dict L))(E:L.length<=1000000):Pv cx l H (.bi .len<|.cons e .nil) (.int L.length):=vE O h λ_ g _ q=>bq (g.at R) ⟨E,q⟩
abbrev dE (cx:Cx) (X:Addr->ae->MH->Prop) (r:MSs) (Q:Fl->ae->MH->Prop):Fl->ae->MH->Prop:=pM (λl H=>wpSs cx X r Q l H) Q
abbrev cL (Q:QV):Fl->ae->MH->Prop:=tB Q
abbrev fy (X:QE) (a:Addr) (_:ae) (H:MH):Prop:=X a H
abbrev pJ (z8:ae->MH->Prop) (Q:Fl->ae->MH->Prop):Fl->ae->MH->Prop:=pM z8 Q
theorem cc(h:pn cx X s (dE cx X r Q) l H):wpSs cx X (.cons s r) Q l H:=h
theorem bA{Q:Fl->ae->MH->Prop}(h:Q .next l H):wpSs cx X .nil Q l H:=h
theorem aK(h:wpSs cx X r Q l H):wpSs cx X .nil (dE cx X r Q) l H:=h
theorem ic(h:z8 l H):wpSs cx X .nil (pJ z8 Q) l H:=h
theorem aW{i:Nat}{e:ME}{v:V}(h:Pv cx l H e v)(k:wpSs cx X r Q (l.set i<|S v) H)(Z:fh i l.length=T:=by exact tt):wpSs cx X (.cons (.asg i e) r) Q l H:=cc ⟨fY.mp Z,h H Gr.rfl _ _ k⟩
theorem aZ{Q:Fl->ae->MH->Prop}(h:Pv cx l H e v)(k:Q (.ret v) l H):wpSs cx X (.cons (.ret e) r) Q l H:=cc<|h H Gr.rfl _ _ k
theorem aH(h:Pv cx l H c<|.bool t)(k:t=T->wpSs cx X a (dE cx X r Q) l H)(d:t=F->wpSs cx X b (dE cx X r Q) l H):wpSs cx X (.cons (.ite c a b) r) Q l H:=
 cc (h H Gr.rfl _ (bR _) (by{
clear h c
induction t using aX with
|true=>exact k J
|false=>exact d J}))
inductive qJ (cx:Cx) (X:Addr->ae->MH->Prop) (c:ME) (b r:MSs) (J:ae->MH->Prop) (Q:Fl->ae->MH->Prop) (l:ae) (H:MH):Prop
 |mk (t:Bool) (h:Pv cx l H c (.bool t)) (y:t=true->wpSs cx X b (pJ J Q) l H) (n:t=false->wpSs cx X r Q l H)
theorem qa{cx:Cx}(I:Nat->ae->MH->Prop)(n:Nat)(e:I n l H)(O:cx.hn=T)(U:∀(z8:ae->MH->Prop) n l H,I n l H->(∀m C Y,m<n->I m C Y->z8 C Y)->qJ cx X c b r z8 Q l H):wpSs cx X (.cons (.while_ c b) r) Q l H:=by{
refine cc ⟨O,n+1,?_⟩
suffices z:∀m n l H,n<m->I n l H->Aw (λs l H=>aP cx (λa H=>X a l H) l c (bR s) H) (λs l H=>wpSs cx X b s l H) (dE cx X r Q) m l H from z _ n l H (iO _) e
intro m
induction m with
|zero=>intro n l H h _;exact absurd h<|lV n
|succ m Z=>{
intro n l H h i;obtain⟨t,u,y,z⟩:=U (Aw (λs l H=>aP cx (λa H=>X a l H) l c (bR s) H) (λs l H=>wpSs cx X b s l H) (dE cx X r Q) m) n l H i λk C Y w d=>Z k C Y (cO w<|kh h) d;refine u H Gr.rfl _ (bR _) ?_;refine let P:=_;(?_:bR P _ _)
induction t using aX with
|true=>exact y J
|false=>exact z J}}
theorem iY{cx:Cx}{X:Addr->ae->MH->Prop}(O:cx.hn=T)(E:M.length<=1000000)(Z:∀s:List V->(MH->Prop)->MH->Prop,s M i H->wpI cx (λa H=>X a l H) l p s H)(h:mS (cT t) i (λs l H=>wpSs cx X b s l H) (dE cx X r Q) M l H):wpSs cx X (.cons (.for_ t p b) r) Q l H:=cc ⟨O,Z _ ⟨E,h⟩⟩
theorem fH{Q:Fl->ae->MH->Prop}{a:V->ae->Option ae}(c:i H)(h:Q .next l H):mS a i B Q [] l H:=⟨c,h⟩
theorem dh{a:V->ae->Option ae}(c:i H)(D:a v l=S C)(h:B (pJ (mS a i B Q Z) Q) C H):mS a i B Q (v::Z) l H:=⟨c,bq D h⟩
theorem wV{X:QE}(h:Pv cx l H e<|.tup L)(s:List V->(MH->Prop)->MH->Prop)(k:s L (λ_=>True) H):wpI cx X l (.ex e) s H:=h H Gr.rfl X _ k
theorem zj{n:Nat}{X:QE}(h:Pv cx l H e<|.int n)(E:n<=1000000)(s:List V->(MH->Prop)->MH->Prop)(k:s (jJ n) (λ_=>True) H):wpI cx X l (.range1 e) s H:=h H Gr.rfl X _ ⟨⟨by exact cR _,by exact dG.mpr ‹_›⟩,k⟩
theorem pB{X:QE}(h:Pv cx l H e<|.ref a)(R:H a=S (.list L))(s:List V->(MH->Prop)->MH->Prop)(k:s L (λH=>H a=S (.list L)) H):wpI cx X l (.ex e) s H:=h H Gr.rfl X _<|ir R k
abbrev MX (g:Nat->Option CD) (j:Nat->Option FD) (n:Nat) (O:Bool):Cx:=⟨g,λb f Z Q X H=>gk g j n b f Z Q X H,O⟩
theorem aR{j:Nat->Option FD}(l:ae)(G:j f=S d)(D:pq d Z=S l)(h:wpSs (MX g j n O) (fy X) d.body (cL Q) l H):gk g j (n+1) O f Z Q X H:=bq G<|bq D h
section
open ME renaming loc->l,int->s,idx->x,str->f,attr->g,bin->m,cmp->t,callF->d,tup->e,bi->b,list->h,bop->j,callM->o,bool->v,none->A,ite->C,dict->D,not->E,comp->F,new->G,isNone->KQ,notNone->L,isinstT->R,sliceFrom->S,isinst->T,cmp2->U
open MEs renaming cons->c,nil->n
open MSs renaming cons->i,nil->a
open MS renaming asg->r,ite->k,ret->u,setA->p,expr->q,for_->y,raise->z,asgT->M,setI->N,while_->O,aug->P,augA->Q
open MIt renaming ex->w,range1->H
def Im:MSs:=i (q<|.excInit<|c (l 0)<|c (l 1) n)<|i (p (l 0) 180<|l 1)<|i (p (l 0) 78<|s<|-1) a
def VW:MSs:=i (q<|.callC 0 75<|c (l 0)<|c (l 2) n)<|i (p (l 0) 92<|l 1) a
def Sv:MSs:=i (r 1<|D<|c (f 181)<|c (f 178)<|c (f 182)<|c (f 191)<|c (f 183)<|c (f 192)<|c (f 184)<|c (f 193)<|c (f 185)<|c (f 194)<|c (f 186)<|c (f 195)<|c (f 187)<|c (f 196)<|c (f 188)<|c (f 177)<|c (f 189)<|c (f 197)<|c (f 190)<|c (f 198) n)<|i (k (t (l 0) .notIn<|l 1) (i (z<|G 1<|c (m .add (f 295)<|l 0) n) a) a)<|i (u<|x (l 1)<|l 0) a
def Xg:MSs:=i (u<|G 3<|c (l 0)<|c (d 4<|c (l 0) n) n) a
def Mt:MSs:=i (k (j false<|c (t (x (x (l 0)<|l 2)<|s 0) .gt<|x (x (l 1)<|l 2)<|s 1)<|c (t (x (x (l 1)<|l 2)<|s 0) .gt<|x (x (l 0)<|l 2)<|s 1) n) (i (u<|v false) a) a) a
def Zr:MSs:=i (y (.one 2) (H<|b .len<|c (l 0) n) Mt)<|i (u<|v true) a
def MV:MSs:=i (k (t (l 2) .ne<|l 3) (i (u A) a) a)<|i (r 1<|m .add (l 1)<|e<|c (l 2) n) a
def QG:MSs:=i (r 1<|e n)<|i (y (.two 2 3) (w<|l 0) MV)<|i (u<|l 1) a
def YY:MSs:=i (p (l 0) 97<|l 1)<|i (p (l 0) 159<|l 2)<|i (p (l 0) 200<|l 3)<|i (p (l 0) 148<|s 0)<|i (p (l 0) 147<|f 201)<|i (p (l 0) 137<|D n) a
def QB:MSs:=i (u<|j false<|c (t (g (l 0) 200) .eq<|s 0)<|c (t (l 1) .lt<|g (l 0) 200) n) a
def RY:MSs:=i (p (l 0) 202<|D n) a
def Zn:MSs:=i (r 3<|d 7<|c (g (l 1) 97) n)<|i (k (KQ<|l 3) (i (z<|d 5<|c (f 184) n) a) a)<|i (k (L<|o (l 0) 79<|c (l 3)<|c (l 2) n) (i (z<|d 5<|c (f 182) n) a) a)<|i (N (g (l 0) 202) (l 3)<|l 1) a
def K6:MSs:=i (r 3<|d 7<|c (l 1) n)<|i (k (KQ<|l 3) (i (u A) a) a)<|i (u<|o (l 0) 79<|c (l 3)<|c (l 2) n) a
def Qn:MSs:=i (r 3<|o (g (l 0) 202) 281<|c (l 1) n)<|i (k (j false<|c (KQ<|l 3)<|c (E<|d 9<|c (l 3)<|c (l 2) n) n) (i (u A) a) a)<|i (u<|l 3) a
def U2:MSs:=i (r 2<|d 7<|c (l 1) n)<|i (k (j false<|c (KQ<|l 2)<|c (t (l 2) .notIn<|g (l 0) 202) n) (i (z<|d 5<|c (f 181) n) a) a)<|i (u<|o (g (l 0) 202) 282<|c (l 2) n) a
def LC:MSs:=i (q<|o (l 1) 211<|c (x (g (l 0) 202)<|l 2) n) a
def Yw:MSs:=i (r 1<|h n)<|i (y (.one 2) (w<|b .sorted<|c (g (l 0) 202) n) LC)<|i (u<|l 1) a
def Qg:MSs:=i (u<|b .len<|c (g (l 0) 202) n) a
def VA:MSs:=i (p (l 0) 202<|D n) a
def I0:MSs:=i (r 4<|m .fdiv (m .add (l 2)<|l 3)<|s 2)<|i (k (t (x (x (g (x (l 0)<|l 4) 97)<|s 0)<|s 1) .lt<|l 1) (i (r 2<|m .add (l 4)<|s 1) a)<|i (r 3<|l 4) a) a
def Ur:MSs:=i (r 2<|s 0)<|i (r 3<|b .len<|c (l 0) n)<|i (O (t (l 2) .lt<|l 3) I0)<|i (u<|l 2) a
def Sr:MSs:=i (r 2<|d 11<|c (l 0)<|c (x (x (l 1)<|s 0)<|s 0) n)<|i (k (j true<|c (t (l 2) .lt<|b .len<|c (l 0) n)<|c (t (g (x (l 0)<|l 2) 97) .eq<|l 1) n) (i (u<|l 2) a) a)<|i (u<|s<|-1) a
def Wt:MSs:=i (p (l 0) 101<|h n) a
def Kt:MSs:=i (k (d 9<|c (x (g (l 0) 101)<|l 6)<|c (l 2) n) (i (P 6 .add<|s 1) a)<|i (q<|o (g (l 0) 101) 282<|c (l 6) n) a) a
def SP:MSs:=i (M [3,4]<|x (g (l 1) 97)<|s 0)<|i (r 5<|d 11<|c (g (l 0) 101)<|c (l 3) n)<|i (r 6<|l 5)<|i (O (j true<|c (t (l 6) .lt<|b .len<|c (g (l 0) 101) n)<|c (t (x (x (g (x (g (l 0) 101)<|l 6) 97)<|s 0)<|s 0) .le<|l 4) n) Kt)<|i (k (t (l 6) .gt<|l 5) (i (k (t (g (x (g (l 0) 101)<|l 5) 97) .eq<|g (l 1) 97) (i (z<|d 5<|c (f 182) n) a) a)<|i (z<|d 5<|c (f 189) n) a) a)<|i (q<|o (g (l 0) 101) 283<|c (l 5)<|c (l 1) n) a
def RX:MSs:=i (r 3<|d 12<|c (g (l 0) 101)<|c (l 1) n)<|i (k (j false<|c (t (l 3) .lt<|s 0)<|c (E<|d 9<|c (x (g (l 0) 101)<|l 3)<|c (l 2) n) n) (i (u A) a) a)<|i (u<|x (g (l 0) 101)<|l 3) a
def G8:MSs:=i (r 3<|d 11<|c (g (l 0) 101)<|c (x (l 1)<|s 0) n)<|i (k (t (l 3) .eq<|b .len<|c (g (l 0) 101) n) (i (u A) a) a)<|i (r 4<|x (g (l 0) 101)<|l 3)<|i (k (j false<|c (t (x (x (g (l 4) 97)<|s 0)<|s 0) .gt<|x (l 1)<|s 0)<|c (E<|d 9<|c (l 4)<|c (l 2) n) n) (i (u A) a) a)<|i (u<|l 4) a
def YR:MSs:=i (r 2<|d 12<|c (g (l 0) 101)<|c (l 1) n)<|i (k (t (l 2) .lt<|s 0) (i (z<|d 5<|c (f 181) n) a) a)<|i (u<|o (g (l 0) 101) 282<|c (l 2) n) a
def M1:MSs:=i (u<|b .list<|c (g (l 0) 101) n) a
def UD:MSs:=i (u<|b .len<|c (g (l 0) 101) n) a
def Xr:MSs:=i (p (l 0) 101<|h n) a
def Hz:MSs:=i (r 5<|m .add (l 5)<|s 1) a
def Jb:MSs:=i (r 5<|m .sub (l 5)<|s 1) a
def Qo:MSs:=i (O (j true<|c (t (l 5) .gt<|s 0)<|c (t (m .mod (l 4)<|m .shl (s 1)<|m .add (m .sub (l 2)<|l 5)<|s 1) .eq<|s 0)<|c (t (m .add (l 4)<|m .shl (s 1)<|m .add (m .sub (l 2)<|l 5)<|s 1) .le<|m .add (l 1)<|s 1) n) Jb)<|i (O (t (m .add (l 4)<|m .shl (s 1)<|m .sub (l 2)<|l 5) .gt<|m .add (l 1)<|s 1) Hz)<|i (q<|o (l 3) 211<|c (e<|c (l 4)<|c (l 5) n) n)<|i (r 4<|m .add (l 4)<|m .shl (s 1)<|m .sub (l 2)<|l 5) a
def XB:MSs:=i (r 3<|h n)<|i (r 4<|l 0)<|i (r 5<|l 2)<|i (O (t (l 4) .le<|l 1) Qo)<|i (u<|l 3) a
def KU:MSs:=i (q<|o (g (l 0) 116) 211<|c (m .mul (h<|c (s 0) n)<|m .shl (s 1)<|l 2) n) a
def UJ:MSs:=i (p (l 0) 107<|l 1)<|i (p (l 0) 206<|l 2)<|i (p (l 0) 207<|m .fdiv (m .sub (m .add (l 1)<|l 2)<|s 1)<|l 2)<|i (p (l 0) 116<|h n)<|i (y (.one 3) (H<|g (l 0) 207) KU)<|i (p (l 0) 82<|s 0)<|i (p (l 0) 208<|h n) a
def Hu:MSs:=i (N (l 7) (m .add (l 10)<|l 11)<|m .bor (x (l 7)<|m .add (l 10)<|l 11)<|l 4) a
def WA:MSs:=i (P 5 .sub<|g (l 0) 206)<|i (r 8<|m .sub (g (l 0) 206)<|b .max<|c (s 0)<|c (b .min<|c (g (l 0) 206)<|c (l 6) n) n)<|i (P 6 .sub<|g (l 0) 206)<|i (r 9<|m .band (m .shr (l 1)<|l 5)<|m .sub (m .shl (s 1)<|g (l 0) 206)<|s 1)<|i (r 10<|m .shl (m .shr (l 9)<|l 8)<|l 8)<|i (y (.one 11) (H<|m .shl (s 1)<|l 8) Hu) a
def WB:MSs:=i (r 4<|m .shl (s 1)<|g (l 0) 82)<|i (r 5<|m .mul (g (l 0) 207)<|g (l 0) 206)<|i (r 6<|m .add (m .sub (l 5)<|g (l 0) 107)<|l 2)<|i (y (.one 7) (w<|g (l 0) 116) WA)<|i (Q (l 0) 82 .add<|s 1)<|i (q<|o (g (l 0) 208) 211<|c (l 3) n) a
def XN:MSs:=i (P 4 .sub<|g (l 0) 206)<|i (r 3<|m .band (l 3)<|x (l 5)<|m .band (m .shr (l 1)<|l 4)<|m .sub (m .shl (s 1)<|g (l 0) 206)<|s 1) a
def Uc:MSs:=i (k (t (m .shr (l 1)<|g (l 0) 107) .ne<|s 0) (i (u<|s 0) a) a)<|i (r 3<|l 2)<|i (r 4<|m .mul (g (l 0) 207)<|g (l 0) 206)<|i (y (.one 5) (w<|g (l 0) 116) XN)<|i (u<|l 3) a
def VL:MSs:=i (k (t (m .band (l 4)<|s 1) .eq<|s 1) (i (M [5,6]<|x (g (l 0) 208)<|l 3)<|i (r 2<|m .bor (l 2)<|m .sub (m .shl (s 1)<|l 6)<|m .shl (s 1)<|l 5) a) a)<|i (r 4<|m .shr (l 4)<|s 1)<|i (P 3 .add<|s 1) a
def Sl:MSs:=i (r 2<|s 0)<|i (r 3<|s 0)<|i (r 4<|l 1)<|i (O (t (l 4) .ne<|s 0) VL)<|i (u<|l 2) a
def IJ:MSs:=i (q<|d 17<|c (l 5)<|c (l 9)<|c (l 10)<|c (l 3) n) a
def LP:MSs:=i (r 5<|x (g (l 0) 212)<|l 4)<|i (M [6,7]<|x (g (l 1) 97)<|l 4)<|i (r 8<|g (l 5) 82)<|i (y (.two 9 10) (w<|d 15<|c (l 6)<|c (l 7)<|c (g (l 5) 107) n) IJ)<|i (r 3<|e<|c (l 8)<|c (g (l 5) 82) n) a
def Ym:MSs:=i (r 2<|b .len<|c (g (l 0) 101) n)<|i (r 3<|e<|c (l 2)<|c (m .add (l 2)<|s 1) n)<|i (y (.one 4) (.range3 (m .sub (b .len<|c (g (l 0) 212) n)<|s 1)<|s<|-1) LP)<|i (q<|o (g (l 0) 101) 211<|c (l 1) n) a
def XV:MSs:=i (p (l 0) 107<|l 1)<|i (p (l 0) 206<|l 2)<|i (p (l 0) 212<|h n)<|i (p (l 0) 101<|h n)<|i (q<|o (l 0) 86<|c (h n) n) a
def NN:MSs:=i (q<|d 20<|c (l 0)<|c (l 3) n) a
def E2:MSs:=i (q<|o (g (l 0) 212) 211<|c (G 16<|c (l 2)<|c (g (l 0) 206) n) n) a
def VX:MSs:=i (p (l 0) 212<|h n)<|i (y (.one 2) (w<|g (l 0) 107) E2)<|i (p (l 0) 101<|h n)<|i (y (.one 3) (w<|l 1) NN) a
def Du:MSs:=i (k (E<|d 6<|c (g (l 5) 97)<|c (g (l 1) 97) n) (i (q<|o (l 3) 211<|c (l 5) n) a)<|i (k (d 9<|c (l 5)<|c (l 2) n) (i (q<|o (l 3) 211<|c (l 5) n)<|i (r 4<|f 189)<|i (k (t (g (l 5) 97) .eq<|g (l 1) 97) (i (r 4<|f 182) a) a) a) a) a) a
def QC:MSs:=i (r 3<|h n)<|i (r 4<|f 201)<|i (y (.one 5) (w<|g (l 0) 101) Du)<|i (k (t (b .len<|c (l 3) n) .lt<|b .len<|c (g (l 0) 101) n) (i (q<|o (l 0) 86<|c (l 3) n) a) a)<|i (k (t (l 4) .ne<|f 201) (i (z<|d 5<|c (l 4) n) a) a)<|i (q<|d 20<|c (l 0)<|c (l 1) n) a
def Mg:MSs:=i (k (j true<|c (t (g (l 3) 97) .eq<|l 1)<|c (d 9<|c (l 3)<|c (l 2) n) n) (i (u<|l 3) a) a) a
def US:MSs:=i (y (.one 3) (w<|g (l 0) 101) Mg)<|i (u A) a
def LX:MSs:=i (k (j true<|c (t (m .band (l 3)<|s 1) .eq<|s 1)<|c (d 9<|c (x (g (l 0) 101)<|l 6)<|c (l 2) n) n) (i (u<|x (g (l 0) 101)<|l 6) a) a)<|i (r 3<|m .shr (l 3)<|s 1)<|i (P 6 .add<|s 1) a
def Jj:MSs:=i (r 5<|x (g (l 0) 212)<|l 4)<|i (r 3<|d 19<|c (l 5)<|c (d 18<|c (l 5)<|c (x (l 1)<|l 4)<|c (l 3) n) n) a
def Vh:MSs:=i (r 3<|m .sub (m .shl (s 1)<|g (x (g (l 0) 212)<|s 0) 82)<|s 1)<|i (y (.one 4) (H<|b .len<|c (g (l 0) 212) n) Jj)<|i (r 6<|s 0)<|i (O (t (l 3) .ne<|s 0) LX)<|i (u A) a
def LG:MSs:=i (k (t (g (x (g (l 0) 101)<|l 2) 97) .eq<|l 1) (i (r 3<|x (g (l 0) 101)<|l 2)<|i (q<|o (l 0) 86<|c (m .add (.sliceTo (g (l 0) 101)<|l 2)<|S (g (l 0) 101)<|m .add (l 2)<|s 1) n)<|i (u<|l 3) a) a) a
def D3:MSs:=i (y (.one 2) (H<|b .len<|c (g (l 0) 101) n) LG)<|i (z<|d 5<|c (f 181) n) a
def Ij:MSs:=i (q<|o (l 3) 211<|c (x (g (l 0) 101)<|x (l 4)<|s 1) n) a
def LV:MSs:=i (q<|o (l 1) 211<|c (e<|c (g (x (g (l 0) 101)<|l 2) 97)<|c (l 2) n) n) a
def F8:MSs:=i (r 1<|h n)<|i (y (.one 2) (H<|b .len<|c (g (l 0) 101) n) LV)<|i (r 3<|h n)<|i (y (.one 4) (w<|b .sorted<|c (l 1) n) Ij)<|i (u<|l 3) a
def P5:MSs:=i (u<|b .len<|c (g (l 0) 101) n) a
def K1:MSs:=i (q<|o (l 0) 86<|c (h n) n) a
def G4:MSs:=i (p (l 0) 217<|l 1)<|i (p (l 0) 218<|l 2) a
def WS:MSs:=i (p (l 0) 130<|l 1)<|i (p (l 0) 218<|l 2)<|i (p (l 0) 219<|l 3) a
def Qp:MSs:=i (p (l 0) 130<|l 1)<|i (p (l 0) 132<|l 2)<|i (p (l 0) 123<|l 3)<|i (p (l 0) 133<|l 4)<|i (p (l 0) 126<|l 5)<|i (p (l 0) 220<|m .mul (d 25<|c (l 3) n)<|m .pow (s 10)<|s 9)<|i (k (l 5) (i (p (l 0) 221<|m .fdiv (m .mul (g (l 0) 220)<|m .add (l 2)<|l 4)<|l 2) a)<|i (p (l 0) 221<|m .mul (m .fdiv (g (l 0) 220)<|l 2)<|l 4) a)<|i (p (l 0) 127<|g (l 0) 221)<|i (p (l 0) 128<|s 0) a
def ZR:MSs:=i (r 1<|D<|c (f 222)<|c (s 1)<|c (f 223)<|c (s 60)<|c (f 224)<|c (s 3600)<|c (f 225)<|c (s 86400)<|c (f 226)<|c (s 604800) n)<|i (k (t (l 0) .notIn<|l 1) (i (z<|G 1<|c (m .add (f 297)<|l 0) n) a) a)<|i (u<|x (l 1)<|l 0) a
def Qk:MSs:=i (k (g (l 0) 126) (i (u<|m .fdiv (m .mul (g (l 0) 220)<|l 1)<|g (l 0) 132) a) a)<|i (u<|m .fdiv (g (l 0) 220)<|g (l 0) 132) a
def Un:MSs:=i (p (l 0) 127<|b .min<|c (g (l 0) 221)<|c (m .add (g (l 0) 127)<|m .mul (m .sub (l 1)<|g (l 0) 128)<|m .pow (s 10)<|s 6) n)<|i (p (l 0) 128<|l 1)<|i (r 3<|d 26<|c (l 0)<|c (l 2) n)<|i (k (t (g (l 0) 127) .ge<|l 3) (i (Q (l 0) 127 .sub<|l 3)<|i (u<|E<|g (l 0) 130) a) a)<|i (u<|g (l 0) 130) a
def VQ:MSs:=i (k (T (l 0) 22) (i (Q (l 0) 217 .add<|s 1)<|i (Q (l 0) 218 .add<|l 2)<|i (u<|v true) a) a)<|i (k (T (l 0) 23) (i (Q (l 0) 219 .add<|l 2)<|i (k (g (l 0) 130) (i (u<|t (g (l 0) 219) .ge<|g (l 0) 218) a) a)<|i (u<|t (g (l 0) 219) .lt<|g (l 0) 218) a) a)<|i (u<|d 27<|c (l 0)<|c (l 1)<|c (l 2) n) a
def ZB:MSs:=i (k (t (l 1) .eq<|s 0) (i (z<|G 2<|c (f 285) n) a) a)<|i (k (j true<|c (t (l 3) .eq<|s 0)<|c (E<|l 4) n) (i (z<|G 2<|c (f 286) n) a) a)<|i (u<|G 24<|c (l 0)<|c (l 1)<|c (l 2)<|c (l 3)<|c (l 4) n) a
def J4:MSs:=i (r 1<|x (l 0)<|s 0)<|i (k (t (l 1) .eq<|f 229) (i (u<|G 22<|c (x (l 0)<|s 1)<|c (x (l 0)<|s 2) n) a) a)<|i (k (t (l 1) .eq<|f 230) (i (u<|G 23<|c (x (l 0)<|s 1)<|c (x (l 0)<|s 2)<|c (x (l 0)<|s 3) n) a) a)<|i (k (t (l 1) .eq<|f 125) (i (u<|d 29<|c (x (l 0)<|s 1)<|c (x (l 0)<|s 2)<|c (x (l 0)<|s 3)<|c (x (l 0)<|s 4)<|c (x (l 0)<|s 5) n) a) a)<|i (u A) a
def Ug:MSs:=i (k (T (l 0) 22) (i (u<|e<|c (f 229)<|c (g (l 0) 217)<|c (g (l 0) 218) n) a) a)<|i (k (T (l 0) 23) (i (u<|e<|c (f 230)<|c (g (l 0) 130)<|c (g (l 0) 218)<|c (g (l 0) 219) n) a) a)<|i (u<|e<|c (f 125)<|c (g (l 0) 130)<|c (g (l 0) 132)<|c (g (l 0) 123)<|c (g (l 0) 133)<|c (g (l 0) 126) n) a
def VY:MSs:=i (q<|d 30<|c (l 4) n) a
def Nd:MSs:=i (r 3<|d 30<|c (x (l 0)<|l 2) n)<|i (k (L<|l 3) (i (N (l 1) (l 2)<|l 3) a)<|i (k (t (x (x (l 0)<|l 2)<|s 0) .eq<|f 298) (i (y (.one 4) (w<|x (x (l 0)<|l 2)<|s 5) VY) a) a) a) a
def P8:MSs:=i (r 1<|D n)<|i (y (.one 2) (H<|b .len<|c (l 0) n) Nd)<|i (u<|l 1) a
def ZV:MSs:=i (k (t (f 231) .notIn<|x (l 0)<|s 2) (i (u<|G 10 n) a) a)<|i (k (t (b .len<|c (l 1) n) .eq<|s 1) (i (u<|G 13 n) a) a)<|i (u<|G 21<|c (l 1) n) a
def A6:MSs:=i (p (l 0) 141<|l 1)<|i (p (l 0) 138<|l 2)<|i (p (l 0) 107<|l 3)<|i (p (l 0) 232<|s 0)<|i (p (l 0) 233<|v false)<|i (p (l 0) 234<|v false)<|i (p (l 0) 105<|d 33<|c (l 2)<|c (l 3) n) a
def TH:MSs:=i (u<|o (g (l 0) 105) 79<|c (l 1)<|c (l 2) n) a
def IC:MSs:=i (k (j false<|c (t (l 3) .notIn<|l 0)<|c (t (x (x (l 0)<|l 3)<|s 0) .eq<|s 0) n) (i (z<|d 5<|c (f 184) n) a) a)<|i (q<|o (l 2) 211<|c (x (x (l 0)<|l 3)<|s 0) n) a
def Rh:MSs:=i (k (t (b .len<|c (l 1) n) .eq<|s 0) (i (z<|d 5<|c (f 184) n) a) a)<|i (r 2<|h n)<|i (y (.one 3) (w<|l 1) IC)<|i (u<|b .tuple<|c (l 2) n) a
def KC:MSs:=i (M [3,4,5,6,7,8]<|l 2)<|i (r 9<|d 35<|c (l 0)<|c (l 3) n)<|i (k (j true<|c (L<|l 4)<|c (t (l 4) .ne<|f 287) n) (i (q<|d 35<|c (l 0)<|c (l 4) n) a) a)<|i (k (j true<|c (l 8)<|c (j false<|c (t (f 231) .notIn<|l 5)<|c (t (f 148) .in_<|l 5)<|c (L<|l 4)<|c (t (b .len<|c (l 3) n) .gt<|s 1) n) n) (i (z<|d 5<|c (f 184) n) a) a)<|i (k (j true<|c (t (l 6) .ne<|s 0)<|c (t (f 148) .notIn<|l 5) n) (i (z<|d 5<|c (f 184) n) a) a)<|i (u<|G 34<|c (l 1)<|c (l 2)<|c (l 9) n) a
def IH:MSs:=i (q<|o (g (l 0) 105) 80<|c (l 3) n) a
def QJ:MSs:=i (r 2<|F (g (l 4) 97) (.one 4) (w<|o (g (l 0) 105) 81 n)<|E<|d 9<|c (l 4)<|c (l 1) n)<|i (y (.one 3) (w<|l 2) IH)<|i (u<|b .len<|c (l 2) n) a
def SL:MSs:=i (q<|d 37<|c (l 0)<|c (l 1) n)<|i (u<|j false<|c (t (x (g (l 0) 138)<|s 4) .eq<|s 0)<|c (t (o (g (l 0) 105) 82 n) .lt<|x (g (l 0) 138)<|s 4) n) a
def TI:MSs:=i (q<|o (g (l 0) 105) 83 n) a
def XW:MSs:=i (r 2<|s 0)<|i (k (t (g (l 0) 200) .ne<|s 0) (i (r 2<|b .max<|c (m .sub (g (l 0) 200)<|l 1)<|c (s 1) n) a) a)<|i (u<|e<|c (g (l 0) 97)<|c (g (l 0) 159)<|c (l 2)<|c (g (l 0) 147) n) a
def Kg:MSs:=i (M [8,9]<|x (l 2)<|l 7)<|i (k (j false<|c (t (l 8) .gt<|l 9)<|c (t (l 9) .ge<|m .shl (s 1)<|x (g (l 0) 107)<|l 7) n) (i (z<|d 5<|c (f 184) n) a) a) a
def VV:MSs:=i (M [2,3,4,5]<|l 1)<|i (r 6<|x (g (l 0) 138)<|s 2)<|i (k (t (b .len<|c (l 2) n) .ne<|b .len<|c (g (l 0) 107) n) (i (z<|d 5<|c (f 184) n) a) a)<|i (y (.one 7) (H<|b .len<|c (l 2) n) Kg)<|i (k (j true<|c (t (f 231) .notIn<|l 6)<|c (KQ<|d 7<|c (l 2) n) n) (i (z<|d 5<|c (f 184) n) a) a)<|i (k (j true<|c (t (l 4) .ne<|s 0)<|c (t (f 148) .notIn<|l 6) n) (i (z<|d 5<|c (f 184) n) a) a)<|i (k (t (KQ<|l 3) .ne<|KQ<|x (g (l 0) 138)<|s 1) (i (z<|d 5<|c (f 184) n) a) a)<|i (k (j true<|c (L<|l 3)<|c (t (x (g (l 0) 138)<|s 1) .ne<|f 287)<|c (t (b .len<|c (l 3) n) .ne<|b .len<|c (x (g (l 0) 138)<|s 1) n) n) (i (z<|d 5<|c (f 184) n) a) a)<|i (k (j true<|c (L<|l 3)<|c (j false<|c (t (l 3) .eq<|e n)<|c (t (R (x (l 3)<|s 0) true) .ne<|t (x (g (l 0) 138)<|s 1) .eq<|f 287) n) n) (i (z<|d 5<|c (f 184) n) a) a) a
def WW:MSs:=i (M [3,4,5,6]<|l 1)<|i (r 7<|G 8<|c (l 3)<|c (l 4) n)<|i (p (l 7) 147<|l 6)<|i (p (l 7) 148<|l 5)<|i (k (t (l 5) .eq<|s 0) (i (p (l 7) 148<|x (g (l 0) 138)<|s 3) a) a)<|i (k (t (g (l 7) 148) .ne<|s 0) (i (p (l 7) 200<|m .add (l 2)<|g (l 7) 148) a) a)<|i (u<|l 7) a
def UY:MSs:=i (k (j true<|c (g (l 0) 234)<|c (t (f 289) .in_<|x (g (l 0) 138)<|s 2) n) (i (z<|d 5<|c (f 183) n) a) a)<|i (q<|d 41<|c (l 0)<|c (l 1) n)<|i (r 4<|o (g (l 0) 105) 78<|c (x (l 1)<|s 0)<|c (l 2) n)<|i (k (L<|l 4) (i (k (j false<|c (l 3)<|c (t (g (l 4) 159) .ne<|x (l 1)<|s 1) n) (i (z<|d 5<|c (f 182) n) a) a)<|i (u<|v false) a) a)<|i (k (E<|d 38<|c (l 0)<|c (l 2) n) (i (z<|d 5<|c (f 188) n) a) a)<|i (k (x (g (l 0) 138)<|s 5) (i (u<|d 43<|c (l 0)<|c (l 1)<|c (l 2) n) a) a)<|i (.tryR (i (q<|o (g (l 0) 105) 77<|c (d 42<|c (l 0)<|c (l 1)<|c (l 2) n)<|c (l 2) n) a) 3<|d 5<|c (f 182) n)<|i (u<|v true) a
def VC:MSs:=i (k (t (b .len<|c (l 1) n) .ne<|b .len<|c (g (l 0) 107) n) (i (z<|d 5<|c (f 181) n) a) a)<|i (k (x (g (l 0) 138)<|s 5) (i (q<|d 45<|c (l 0)<|c (l 1)<|c (l 2) n)<|i .ret0 a) a)<|i (k (KQ<|o (g (l 0) 105) 78<|c (l 1)<|c (l 2) n) (i (z<|d 5<|c (f 181) n) a) a)<|i (q<|o (g (l 0) 105) 80<|c (l 1) n) a
def Ie:MSs:=i (k (t (m .shr (x (l 1)<|l 2)<|x (g (l 0) 107)<|l 2) .ne<|s 0) (i (u<|v false) a) a) a
def ZX:MSs:=i (y (.one 2) (H<|b .len<|c (l 1) n) Ie)<|i (u<|v true) a
def Yg:MSs:=i (k (t (l 2) .ne<|s 0) (i (u<|l 2) a) a)<|i (u<|C (t (x (g (l 0) 138)<|s 3) .ne<|s 0) (x (g (l 0) 138)<|s 3)<|g (l 1) 148) a
def CJ:MSs:=i (k (E<|d 28<|c (x (g (l 8) 137)<|l 10)<|c (l 6)<|c (l 9) n) (i (u<|e<|c (f 299)<|c (f 201) n) a) a) a
def Vz:MSs:=i (r 6<|g (l 0) 100)<|i (r 7<|b .tuple<|c (F (e<|c (l 11)<|c (l 11) n) (.one 11) (w<|l 3)<|v true) n)<|i (k (t (l 2) .eq<|f 238) (i (k (L<|o (g (l 1) 105) 78<|c (l 7)<|c (l 6) n) (i (q<|o (g (l 1) 105) 80<|c (l 7) n) a) a)<|i (u A) a) a)<|i (r 8<|o (g (l 1) 105) 79<|c (l 3)<|c (l 6) n)<|i (k (KQ<|l 8) (i (k (j false<|c (E<|d 47<|c (l 1)<|c (l 3) n)<|c (E<|d 38<|c (l 1)<|c (l 6) n) n) (i (u<|e<|c (f 299)<|c (f 201) n) a) a)<|i (r 8<|d 42<|c (l 1)<|c (e<|c (l 7)<|c A<|c (l 4)<|c (f 201) n)<|c (l 6) n)<|i (p (l 8) 137<|d 32<|c (l 5) n)<|i (q<|o (g (l 1) 105) 77<|c (l 8)<|c (l 6) n) a)<|i (k (j true<|c (t (l 2) .eq<|f 276)<|c (t (g (l 8) 148) .ne<|s 0) n) (i (p (l 8) 200<|m .add (l 6)<|d 48<|c (l 1)<|c (l 8)<|c (l 4) n) a) a) a)<|i (r 9<|b .len<|c (g (g (l 0) 253) 159) n)<|i (y (.one 10) (w<|b .sorted<|c (g (l 8) 137) n) CJ)<|i (u A) a
def Lq:MSs:=i (N (l 0) (l 1)<|s 0) a
def U5:MSs:=i (r 0<|D n)<|i (y (.one 1) (w<|e<|c (f 240)<|c (f 241)<|c (f 242)<|c (f 243)<|c (f 244)<|c (f 245)<|c (f 246) n) Lq)<|i (N (l 0) (f 247)<|s 1)<|i (N (l 0) (f 248)<|s 1)<|i (u<|l 0) a
def ui:MSs:=i (p (l 0) 159<|b .bytearray<|c (l 1) n)<|i (p (l 0) 249<|b .bytearray<|c (l 3) n)<|i (p (l 0) 135<|l 2)<|i (p (l 0) 250<|s<|-1)<|i (p (l 0) 251<|s<|-1)<|i (p (l 0) 96<|s 0)<|i (p (l 0) 252<|d 50 n) a
def Yu:MSs:=i (p (l 0) 253<|l 1)<|i (p (l 0) 100<|l 3)<|i (p (l 0) 254<|l 4)<|i (p (l 0) 256 A)<|i (p (l 0) 257<|s 1)<|i (p (l 0) 258<|s 0)<|i (p (l 0) 259 A)<|i (p (l 0) 260<|D n)<|i (p (l 0) 261<|D n)<|i (p (l 0) 212<|l 2)<|i (p (l 0) 262<|D n)<|i (p (l 0) 263<|D n)<|i (p (l 0) 176<|D n)<|i (p (l 0) 264<|D n)<|i (p (l 0) 265<|f 266)<|i (p (l 0) 267<|h n)<|i (p (l 0) 268<|h n)<|i (p (l 0) 269 A)<|i (p (l 0) 270<|D n) a
def Qj:MSs:=i (u<|C (t (l 1) .lt<|b .len<|c (l 0) n) (x (l 0)<|l 1)<|s 0) a
def K3:MSs:=i (r 1<|d 53<|c (l 0)<|c (s 0) n)<|i (r 2<|d 53<|c (l 0)<|c (s 1) n)<|i (r 3<|C (t (m .mod (l 1)<|s 3) .eq<|s 2) (e<|c (f 94)<|c (f 95) n)<|e<|c (f 94) n)<|i (r 4<|e<|c (f 271) n)<|i (k (t (m .mod (m .fdiv (l 2)<|s 32)<|s 3) .eq<|s 2) (i (r 4<|e<|c (f 289)<|c (f 271) n) a) a)<|i (k (t (m .mod (l 2)<|s 2) .eq<|s 1) (i (r 4<|m .add (l 4)<|e<|c (f 231) n) a) a)<|i (r 5<|s 0)<|i (k (t (m .mod (m .fdiv (l 2)<|s 2)<|s 4) .ne<|s 3) (i (r 4<|m .add (l 4)<|e<|c (f 148) n)<|i (r 5<|x (h<|c (s 30)<|c (s 0)<|c (s 50)<|c (s 1000) n)<|m .mod (m .fdiv (l 1)<|s 12)<|s 4) a) a)<|i (r 6<|x (h<|c A<|c (e<|c (f 95) n)<|c (f 287)<|c A n)<|m .mod (m .fdiv (l 2)<|s 8)<|s 4)<|i (u<|e<|c (l 3)<|c (l 6)<|c (l 4)<|c (l 5)<|c (x (h<|c (s 2)<|c (s 3)<|c (s 0)<|c (s 1) n)<|m .mod (m .fdiv (l 1)<|s 3)<|s 4)<|c (v false) n) a
def MT:MSs:=i (r 4 (C (t (f 231) .in_ (x (l 0) (s 2))) (x (h (c (s 0) (c (s 0) (c (s 1) (c (s 2) n))))) (m .mod (m .fdiv (l 3) (s 8)) (s 4))) (s 0))) (i (r 5 (m .mod (l 3) (s 4))) (i (r 6 (e (c (e (c (l 5) (c (m .add (l 5) (l 4)) n))) n))) (i (k (t (b .len (c (x (l 0) (s 0)) n)) .eq (s 2)) (i (r 7 (C (t (f 231) .in_ (x (l 0) (s 2))) (m .mod (m .fdiv (l 3) (s 32)) (s 2)) (s 0))) (i (r 6 (m .add (l 6) (e (c (e (c (m .mod (m .fdiv (l 3) (s 4)) (s 2)) (c (m .add (m .mod (m .fdiv (l 3) (s 4)) (s 2)) (l 7)) n))) n)))) a)) a) (i (r 8 (C (t (f 148) .in_ (x (l 0) (s 2))) (x (h (c (s 0) (c (s 20) (c (s 45) n)))) (m .mod (m .fdiv (l 3) (s 64)) (s 3))) (s 0))) (i (r 9 (x (l 0) (s 1))) (i (k (L (l 9)) (i (r 9 (C (t (l 9) .eq (f 287)) (x (h (c (e (c (f 300) (c (f 201) n)))<|c (e<|c (f 80)<|c (f 201) n) n))<|m .mod (m .fdiv (l 3)<|s 192)<|s 2)<|e<|c (m .mod (m .fdiv (l 3)<|s 192)<|s 2) n)) a) a)<|i (r 10<|m .mod (m .fdiv (l 2)<|s 10)<|s 12)<|i (k (j true<|c (t (l 10) .eq<|s 5)<|c (L<|l 9) n) (i (r 9<|C (j true<|c (t (x (l 0)<|s 1) .ne<|f 287)<|c (t (m .mod (m .fdiv (l 3)<|s 192)<|s 2) .eq<|s 0) n) (e<|c (f 300)<|c (f 201) n)<|e<|c (s 1)<|c (s 1) n) a) a)<|i (k (t (l 10) .eq<|s 6) (i (r 8<|s 20) a) a)<|i (k (t (l 10) .eq<|s 7) (i (r 6<|m .add (l 6)<|e<|c (e<|c (s 0)<|c (s 0) n) n) a) a)<|i (k (t (l 10) .eq<|s 8) (i (r 6<|m .add (e<|c (e<|c (l 5)<|c (s 16) n) n)<|S (l 6)<|s 1) a) a)<|i (k (t (l 10) .eq<|s 9) (i (r 6<|m .add (e<|c (e<|c (m .add (l 5)<|s 1)<|c (l 5) n) n)<|S (l 6)<|s 1) a) a)<|i (k (t (l 10) .eq<|s 10) (i (r 6<|m .add (e<|c (e<|c (l 5)<|c (m .add (l 5)<|s 1) n) n)<|S (l 6)<|s 1) a) a)<|i (k (t (l 10) .eq<|s 11) (i (r 9<|C (KQ<|l 9) (e<|c (s 1) n) A) a) a)<|i (u<|e<|c (l 6)<|c (l 9)<|c (l 8)<|c (.kstr<|l 1) n) a))))))
def SZ:MSs:=i (k (t (l 0) .eq<|s 1) (i (u<|e<|c (e<|c (f 229)<|c (s 0)<|c (s 0) n) n) a) a)<|i (k (t (l 0) .eq<|s 2) (i (u<|e<|c (e<|c (f 230)<|c (v false)<|c (s 60)<|c (s 0) n)<|c (e<|c (f 229)<|c (s 0)<|c (s 0) n) n) a) a)<|i (k (t (l 0) .eq<|s 3) (i (u<|e<|c (e<|c (f 229)<|c (s 2)<|c (s 7) n)<|c (e<|c (f 230)<|c (v true)<|c (s 40)<|c (s 1) n) n) a) a)<|i (k (t (l 0) .eq<|s 4) (i (u<|e<|c (e<|c (f 125)<|c (v false)<|c (s 1)<|c (f 222)<|c (s 1)<|c (v false) n)<|c (e<|c (f 229)<|c (s 0)<|c (s 0) n) n) a) a)<|i (u<|e n) a
def FA:MSs:=i (r 6<|m .add (l 6)<|x (l 7)<|s 2)<|i (k (t (t (l 6) .ge<|x (l 4)<|s 2) .eq<|x (l 4)<|s 1) (i (q<|o (l 5) 211<|c (l 7) n) a) a) a
def IF:MSs:=i (k (j false<|c (E<|l 5)<|c (t (m .sub (x (l 7)<|s 1)<|x (x (l 5)<|m .sub (b .len<|c (l 5) n)<|s 1)<|s 1) .ge<|s 1000) n) (i (q<|o (l 5) 211<|c (l 7) n) a) a) a
def FM:MSs:=i (r 5<|h n)<|i (k (t (x (l 4)<|s 0) .eq<|f 229) (i (r 5<|l 2)<|i (q<|o (l 3) 211<|c (e<|c (f 229)<|c (m .add (x (l 4)<|s 1)<|b .len<|c (l 2) n)<|c (m .add (x (l 4)<|s 2)<|b .sum<|c (F (x (l 8)<|s 2) (.one 8) (w<|l 2)<|v true) n) n) n) a)<|i (k (t (x (l 4)<|s 0) .eq<|f 230) (i (r 6<|x (l 4)<|s 3)<|i (y (.one 7) (w<|l 2) FA)<|i (q<|o (l 3) 211<|c (e<|c (f 230)<|c (x (l 4)<|s 1)<|c (x (l 4)<|s 2)<|c (l 6) n) n) a)<|i (y (.one 7) (w<|l 2) IF)<|i (q<|o (l 3) 211<|c (l 4) n) a) a)<|i (r 2<|l 5) a
def XS:MSs:=i (r 2<|l 1)<|i (r 3<|h n)<|i (y (.one 4) (w<|l 0) FM)<|i (u<|e<|c (l 3)<|c (j true<|c (t (b .len<|c (l 2) n) .gt<|s 0)<|c (t (x (l 2)<|m .sub (b .len<|c (l 2) n)<|s 1) .eq<|x (l 1)<|m .sub (b .len<|c (l 1) n)<|s 1) n) n) a
def B5:MSs:=i (u<|j false<|c (t (x (l 0)<|s 2) .eq<|s 0)<|c (t (x (l 0)<|s 2) .gt<|l 1) n) a
def VG:MSs:=i (u<|t (s 0) .eq<|b .len<|c (F (l 2) (.one 2) (H<|b .len<|c (l 0) n)<|E<|U (x (x (l 0)<|l 2)<|s 0) .le (x (l 1)<|l 2) .le<|x (x (l 0)<|l 2)<|s 1) n) a
def Si:MSs:=i (r 2<|F (b .max<|c (x (x (l 0)<|l 3)<|s 0)<|c (x (x (l 1)<|l 3)<|s 0) n) (.one 3) (H<|b .len<|c (l 0) n)<|v true)<|i (u<|t (s 0) .eq<|b .len<|c (F (l 3) (.one 3) (H<|b .len<|c (l 0) n)<|t (x (l 2)<|l 3) .gt<|b .min<|c (x (x (l 0)<|l 3)<|s 1)<|c (x (x (l 1)<|l 3)<|s 1) n) n) a
def IM:MSs:=i (M [8,9]<|x (l 2)<|l 7)<|i (k (j false<|c (E<|U (l 8) .le (l 9) .le<|x (l 6)<|l 7)<|c (j true<|c (t (l 8) .lt<|l 9)<|c (t (f 231) .notIn<|x (l 0)<|s 2) n) n) (i (u<|v false) a) a) a
def Ux:MSs:=i (M [2,3,4,5]<|l 1)<|i (r 6<|h<|c (s 15)<|c (s 3) n)<|i (k (j false<|c (t (b .len<|c (l 2) n) .ne<|b .len<|c (x (l 0)<|s 0) n)<|c (t (KQ<|l 3) .ne<|KQ<|x (l 0)<|s 1) n) (i (u<|v false) a) a)<|i (k (j true<|c (L<|l 3)<|c (t (R (x (l 3)<|s 0) true) .ne<|t (x (l 0)<|s 1) .eq<|f 287) n) (i (u<|v false) a) a)<|i (k (j true<|c (L<|l 3)<|c (t (x (l 0)<|s 1) .ne<|f 287)<|c (t (b .len<|c (l 3) n) .ne<|b .len<|c (x (l 0)<|s 1) n) n) (i (u<|v false) a) a)<|i (y (.one 7) (H<|b .len<|c (l 2) n) IM)<|i (u<|j false<|c (t (l 4) .eq<|s 0)<|c (t (f 148) .in_<|x (l 0)<|s 2) n) a
def A5:MSs:=i (r 4<|C (t (x (l 1)<|s 2) .ne<|s 0) (x (l 1)<|s 2)<|x (l 0)<|s 3)<|i (u<|h<|c (x (l 1)<|s 0)<|c (x (l 1)<|s 1)<|c (C (t (l 4) .ne<|s 0) (m .add (l 2)<|l 4)<|s 0)<|c (l 4)<|c (x (l 1)<|s 3)<|c (l 3)<|c (h n) n) a
def YL:MSs:=i (k (d 60<|c (x (l 7)<|s 0)<|c (x (l 3)<|s 0) n) (i (u<|e<|c (f 182)<|c (l 6) n) a) a) a
def Yl:MSs:=i (k (t (x (l 7)<|s 0) .eq<|x (l 3)<|s 0) (i (u<|e<|c (C (j false<|c (l 5)<|c (t (x (l 7)<|s 1) .ne<|x (l 3)<|s 1) n) (f 182)<|v false)<|c (l 0) n) a) a) a
def M2:MSs:=i (k (j true<|c (l 2)<|c (t (f 289) .in_<|x (l 1)<|s 2) n) (i (u<|e<|c (f 183)<|c (l 0) n) a) a)<|i (k (E<|d 61<|c (l 1)<|c (l 3) n) (i (u<|e<|c (f 184)<|c (l 0) n) a) a)<|i (r 6<|F (l 8) (.one 8) (w<|l 0)<|d 58<|c (l 8)<|c (l 4) n)<|i (y (.one 7) (w<|l 6) Yl)<|i (k (U (s 0) .lt (x (l 1)<|s 4) .le<|b .len<|c (l 6) n) (i (u<|e<|c (f 188)<|c (l 6) n) a) a)<|i (y (.one 7) (w<|l 6) YL)<|i (u<|e<|c (v true)<|c (m .add (l 6)<|h<|c (d 62<|c (l 1)<|c (l 3)<|c (l 4)<|c (e n) n) n) n) a
def Fs:MSs:=i (r 8 (F (l 12) (.one 12) (w (l 0)) (j true (c (d 58 (c (l 12) (c (l 6) n))) (c (d 59 (c (x (l 12) (s 0)) (c (l 3) n))) n))))) (i (k (t (l 2) .eq (f 238)) (i (r 9 (b .tuple (c (F (e (c (l 12) (c (l 12) n))) (.one 12) (w (l 3)) (v true)) n))) (i (u (e (c A (c (F (l 12) (.one 12) (w (l 0)) (j false (c (t (x (l 12) (s 0)) .ne (l 9)) (c (E (d 58 (c (l 12) (c (l 6) n)))) n)))) n)))) a)) a) (i (k (E (l 8)) (i (k (t (s 0) .lt (b .len (c (F (l 12) (.one 12) (H (b .len (c (l 3) n))) (t (x (l 3) (l 12)) .gt (x (h (c (s 15) (c (s 3) n))) (l 12)))) n))) (i (u (e<|c (e<|c (f 299)<|c (f 201) n)<|c (l 0) n)) a) a)<|i (r 0<|F (l 12) (.one 12) (w<|l 0)<|d 58<|c (l 12)<|c (l 6) n)<|i (k (U (s 0) .lt (x (l 1)<|s 4) .le<|b .len<|c (l 0) n) (i (u<|e<|c (e<|c (f 299)<|c (f 201) n)<|c (l 0) n) a) a)<|i (r 10<|d 62<|c (l 1)<|c (e<|c (b .tuple<|c (F (e<|c (l 12)<|c (l 12) n) (.one 12) (w<|l 3)<|v true) n)<|c A<|c (l 4)<|c (f 201) n)<|c (l 6)<|c (l 5) n)<|i (r 0<|m .add (l 0)<|h<|c (l 10) n) a)<|i (r 10<|x (l 8)<|s 0)<|i (k (j true<|c (t (l 2) .eq<|f 276)<|c (t (x (l 10)<|s 3) .ne<|s 0) n) (i (N (l 10) (s 2)<|m .add (l 6)<|C (t (l 4) .ne<|s 0) (l 4)<|C (t (x (l 1)<|s 3) .ne<|s 0) (x (l 1)<|s 3)<|x (l 10)<|s 3) a) a) a)<|i (N (l 10) (s 6)<|m .add (x (l 10)<|s 6)<|h<|c (e<|c (b .len<|c (x (l 10)<|s 6) n)<|c (l 6)<|c (l 7) n) n)<|i (r 11<|x (d 57<|c (x (l 10)<|s 5)<|c (x (l 10)<|s 6) n)<|s 1)<|i (u<|e<|c (C (l 11) A<|e<|c (f 299)<|c (f 201) n)<|c (l 0) n) a))
def Qt:MSs:=i (r 2<|e<|c (x (l 0)<|s 0)<|c (x (l 0)<|s 1)<|c (C (t (x (l 0)<|s 2) .eq<|s 0) (s 0)<|b .max<|c (s 1)<|c (m .sub (x (l 0)<|s 2)<|l 1) n)<|c (x (l 0)<|s 4) n)<|i (u<|e<|c (l 2)<|c (x (l 0)<|s 2)<|c (x (l 0)<|s 3)<|c (C (x (l 0)<|s 6) (x (d 57<|c (x (l 0)<|s 5)<|c (x (l 0)<|s 6) n)<|s 0)<|h n) n) a
def QR:MSs:=i (r 2<|b .sorted<|c (F (e<|c (x (x (l 0)<|l 3)<|s 0)<|c (l 3) n) (.one 3) (H<|b .len<|c (l 0) n)<|v true) n)<|i (u<|F (d 65<|c (x (l 0)<|l 4)<|c (l 1) n) (.two 3 4) (w<|l 2)<|v true) a
def NS:MSs:=i (r 4<|F (d 31<|c (x (g (l 3) 137)<|l 5) n) (.one 5) (w<|b .sorted<|c (g (l 3) 137) n)<|v true)<|i (q<|o (l 2) 211<|c (e<|c (d 40<|c (l 3)<|c (l 1) n)<|c (g (l 3) 200)<|c (g (l 3) 148)<|c (l 4) n) n) a
def Wp:MSs:=i (r 2<|h n)<|i (y (.one 3) (w<|o (g (l 0) 105) 81 n) NS)<|i (u<|l 2) a
def D8:MSs:=i (k (j true<|c (d 58<|c (l 12)<|c (l 7) n)<|c (d 59<|c (x (l 12)<|s 0)<|c (l 5) n) n) (i (u<|e<|c (x (d 65<|c (l 12)<|c (l 7) n)<|s 0)<|c (l 0) n) a) a) a
def R9:MSs:=i (M [8,9,10]<|l 6)<|i (k (t (l 2) .in_<|h<|c (f 275)<|c (f 276)<|c (f 238) n) (i (u<|d 64<|c (l 0)<|c (l 1)<|c (l 2)<|c (l 5)<|c (l 8)<|c (l 9)<|c (l 7)<|c (l 10) n) a) a)<|i (k (t (l 2) .in_<|h<|c (f 77)<|c (f 274) n) (i (u<|d 63<|c (l 0)<|c (l 1)<|c (l 3)<|c (l 4)<|c (l 7)<|c (t (l 2) .eq<|f 274) n) a) a)<|i (k (t (l 2) .eq<|f 80) (i (r 11<|F (l 13) (.one 13) (w<|l 0)<|j false<|c (t (x (l 13)<|s 0) .ne<|x (l 4)<|s 0)<|c (E<|d 58<|c (l 13)<|c (l 7) n) n)<|i (u<|e<|c (C (t (b .len<|c (l 11) n) .eq<|b .len<|c (l 0) n) (f 181) A)<|c (l 11) n) a) a)<|i (k (t (l 2) .eq<|f 37) (i (r 11<|F (l 13) (.one 13) (w<|l 0)<|d 58<|c (l 13)<|c (l 7) n)<|i (u<|e<|c (m .sub (b .len<|c (l 0) n)<|b .len<|c (l 11) n)<|c (l 11) n) a) a)<|i (k (t (l 2) .eq<|f 273) (i (u<|e<|c A<|c (h n) n) a) a)<|i (y (.one 12) (w<|l 0) D8)<|i (u<|e<|c A<|c (l 0) n) a
def Vr:MSs:=i (M [6,7,8]<|l 5)<|i (r 9<|g (l 1) 100)<|i (k (t (l 2) .in_<|h<|c (f 275)<|c (f 276)<|c (f 238) n) (i (u<|d 49<|c (l 1)<|c (l 0)<|c (l 2)<|c (l 4)<|c (l 6)<|c (l 7) n) a) a)<|i (k (t (l 2) .eq<|f 77) (i (u<|d 44<|c (l 0)<|c (l 3)<|c (l 9) n) a) a)<|i (k (t (l 2) .eq<|f 274) (i (u<|d 44<|c (l 0)<|c (l 3)<|c (l 9)<|c (v true) n) a) a)<|i (k (t (l 2) .eq<|f 80) (i (u<|d 46<|c (l 0)<|c (x (l 3)<|s 0)<|c (l 9) n) a) a)<|i (k (t (l 2) .eq<|f 37) (i (u<|d 37<|c (l 0)<|c (l 9) n) a) a)<|i (k (t (l 2) .eq<|f 273) (i (u<|d 39<|c (l 0) n) a) a)<|i (r 10<|o (l 0) 79<|c (l 4)<|c (l 9) n)<|i (u<|C (KQ<|l 10) A<|d 40<|c (l 10)<|c (l 9) n) a
def Wx:MSs:=i (r 2<|h<|c (f 275)<|c (f 276)<|c (f 77)<|c (f 238)<|c (f 80)<|c (f 37)<|c (f 79)<|c (f 274)<|c (f 275)<|c (f 276) n)<|i (k (j true<|c (t (m .mod (l 1)<|s 10) .eq<|s 9)<|c (t (m .mod (m .fdiv (l 1)<|s 10)<|s 3) .eq<|s 2) n) (i (u<|f 273) a) a)<|i (k (j true<|c (L<|x (l 0)<|s 1)<|c (t (x (l 2)<|m .mod (l 1)<|s 10) .in_<|h<|c (f 275)<|c (f 276) n) n) (i (u<|f 77) a) a)<|i (u<|x (l 2)<|m .mod (l 1)<|s 10) a
def kK:MSs:=i (r 9 (m .add (d 53 (c (l 0) (c (m .add (s 3) (m .mul (s 3) (l 8))) n))) (x (h (c (s 0) (c (s 0) (c (s 2) (c (s 0) (c (s 1) (c (s 7) (c (s 0) (c (s 6) (c (s 4) (c (s 5) (c (s 3) (c (s 2) n))))))))))))) (l 8)))) (i (r 10 (m .add (d 53 (c (l 0) (c (m .add (s 4) (m .mul (s 3) (l 8))) n))) (x (h (c (s 0) (c (s 0) (c (s 1) (c (s 2) (c (s 0) (c (s 1) (c (s 2) (c (s 1) (c (s 0) (c (s 0) (c (s 2) (c (s 3) n))))))))))))) (l 8)))) (i (r 11 (m .add (d 53 (c (l 0) (c (m .add (s 5) (m .mul (s 3) (l 8))) n))) (x (h (c (s 6) (c (s 2) (c (s 0) (c (s 0) (c (s 0) (c (s 1) (c (s 15) (c (s 1) (c (s 2) (c (s 1) (c (s 0) (c (s 0) n))))))))))))) (l 8)))) (i (r 4 (m .add (l 4) (x (h (c (s 5) (c (s 0) (c (s 10) (c (s 25) (c (s 40) (c (s 1000) n))))))) (m .mod (l 11) (s 6))))) (i (p (l 5) 100 (l 4)) (i (r 12 (x (h (c (s 20) (c (s 28) (c (s 40) n)))) (m .mod (m .fdiv (l 11) (s 30)) (s 3)))) (i (p (l 5) 253 (G 51 (c (b .bytes (c (l 12) n)) (c (s 2048) (c .bytes0 n))))) (i (r 13 (d 70 (c (l 2) (c (l 9) n)))) (i (r 14 (d 55 (c (l 2) (c (l 8) (c (l 9) (c (l 10) n)))))) (i (r 15 (m .mod (m .fdiv (l 11) (s 90)) (s 4))) (i (r 16 (.sliceTo (e (c (m .add (m .mod (l 10) (s 4)) (x (h (c (s 0) (c (s 16) (c (s 0) (c (s 0) n))))) (l 15))) (c (m .add (m .mod (m .fdiv (l 10) (s 4))<|s 2)<|x (h<|c (s 0)<|c (s 0)<|c (s 4)<|c (s 0) n)<|l 15) n)))<|b .len<|c (x (l 2)<|s 0) n))<|i (r 17<|e<|c (C (t (f 148) .in_<|x (l 2)<|s 2) (x (h<|c (s 0)<|c (s 20)<|c (s 45) n)<|m .mod (m .fdiv (l 10)<|s 64)<|s 3)<|s 0)<|c (d 56<|c (m .mod (m .fdiv (l 11)<|s 6)<|s 5) n)<|c (l 12) n)<|i (k (t (l 8) .eq<|m .mod (m .fdiv (d 53<|c (l 0)<|c (s 1) n)<|s 96)<|s 12) (i (r 7<|v true)<|i (p (l 3) 234<|v true) a) a)<|i (M [18,6]<|d 68<|c (l 6)<|c (l 2)<|c (l 13)<|c (l 7)<|c (l 14)<|c (l 16)<|c (l 17)<|c (l 4) n)<|i (k (R (l 18) true) (i (r 18<|e<|c (l 18)<|c (x (l 1)<|l 18) n) a) a)<|i (.try_ (i (r 19<|d 69<|c (l 3)<|c (l 5)<|c (l 13)<|c (l 14)<|c (l 16)<|c (l 17) n) a) 3 20<|i (r 19<|e<|c (g (l 20) 92)<|c (g (l 20) 180) n) a)<|i (k (j false<|c (t (l 19) .ne<|l 18)<|c (t (R (l 19) false) .ne<|R (l 18) false) n) (i (u<|v false) a) a)<|i (k (j false<|c (t (d 67<|c (l 3)<|c (l 4) n) .ne<|d 66<|c (l 6)<|c (l 4) n)<|c (t (o (g (l 3) 105) 82 n) .ne<|b .len<|c (l 6) n) n) (i (u<|v false) a) a) a))))))))))
def zw:MSs:=i (r 1<|D<|c (f 183)<|c (f 192)<|c (f 184)<|c (f 193)<|c (f 182)<|c (f 191) n)<|i (N (l 1) (f 188)<|f 177)<|i (N (l 1) (f 181)<|f 178)<|i (r 2<|d 54<|c (l 0) n)<|i (r 3<|d 36<|c (D<|c (f 94)<|c (e<|c (s 4)<|c (f 302)<|c (f 121)<|c (D n) n)<|c (f 95)<|c (e<|c (s 2)<|c (f 302)<|c (f 121)<|c (D n) n) n)<|c (f 277)<|c (l 2) n)<|i (r 4<|m .mod (d 53<|c (l 0)<|c (s 2) n)<|m .pow (s 2)<|s 40)<|i (r 5<|G 52<|c A<|c (D n)<|c (l 4) n)<|i (r 6<|h n)<|i (r 7<|v false)<|i (y (.one 8) (H<|s 12) kK)<|i (u<|v true) a
def wE:MSs:=.cons (.raise .none) .nil
def vM:List (Nat×FD):=[
 (1075,⟨28,2,[179,180],[],Im⟩),
 (4075,⟨72,3,[179,92,180],[],VW⟩),
 (4,⟨84,1,[92,93],[],Sv⟩),
 (5,⟨91,1,[92],[],Xg⟩),
 (6,⟨98,2,[94,95,96],[],Zr⟩),
 (7,⟨105,1,[97,98,103,104],[],QG⟩),
 (9075,⟨120,4,[179,97,159,200],[.int 0],YY⟩),
 (9,⟨134,2,[99,100],[],QB⟩),
 (11075,⟨148,1,[179],[],RY⟩),
 (11077,⟨155,3,[179,99,100,98],[],Zn⟩),
 (11078,⟨162,3,[179,97,100,98],[],K6⟩),
 (11079,⟨169,3,[179,98,100,99],[],Qn⟩),
 (11080,⟨176,2,[179,97,98],[],U2⟩),
 (11081,⟨183,1,[179,106,98],[],Yw⟩),
 (11082,⟨190,1,[179],[],Qg⟩),
 (11083,⟨197,1,[179],[],VA⟩),
 (11,⟨211,2,[101,102,103,104,204],[],Ur⟩),
 (12,⟨218,2,[101,97,96],[],Sr⟩),
 (14075,⟨232,1,[179],[],Wt⟩),
 (14077,⟨239,3,[179,99,100,103,104,205,96],[],SP⟩),
 (14078,⟨246,3,[179,97,100,96],[],RX⟩),
 (14079,⟨253,3,[179,98,100,96,99],[],G8⟩),
 (14080,⟨260,2,[179,97,96],[],YR⟩),
 (14081,⟨267,1,[179],[],M1⟩),
 (14082,⟨274,1,[179],[],UD⟩),
 (14083,⟨281,1,[179],[],Xr⟩),
 (15,⟨302,3,[103,104,107,106,78,108],[],XB⟩),
 (17075,⟨316,3,[179,107,206,96],[],UJ⟩),
 (17,⟨330,4,[109,110,108,111,112,113,114,115,209,117,210,103],[],WB⟩),
 (18,⟨337,3,[109,117,118,119,113,115],[],Uc⟩),
 (19,⟨344,2,[109,118,120,121,119,210,296],[],Sl⟩),
 (20,⟨351,2,[122,99,121,111,96,109,103,104,205,110,108],[],Ym⟩),
 (22075,⟨366,3,[179,107,206],[.int 4],XV⟩),
 (22086,⟨373,2,[179,101,107,213],[],VX⟩),
 (22077,⟨380,3,[179,99,100,214,92,213],[],QC⟩),
 (22078,⟨387,3,[179,97,100,213],[],US⟩),
 (22079,⟨394,3,[179,98,100,118,96,109,121],[],Vh⟩),
 (22080,⟨401,2,[179,97,121,213],[],D3⟩),
 (22081,⟨408,1,[179,215,121,106,216],[],F8⟩),
 (22082,⟨415,1,[179],[],P5⟩),
 (22083,⟨422,1,[179],[],K1⟩),
 (23075,⟨444,3,[179,217,218],[.int 0,.int 0],G4⟩),
 (24075,⟨466,4,[179,130,218,219],[.int 0],WS⟩),
 (25075,⟨487,6,[179,130,132,123,133,126],[],Qp⟩),
 (25,⟨501,1,[123,124],[],ZR⟩),
 (26,⟨508,2,[125,108],[],Qk⟩),
 (27,⟨515,3,[125,100,108,129],[],Un⟩),
 (28,⟨522,3,[131,100,108],[],VQ⟩),
 (29,⟨529,5,[130,132,123,133,126],[],ZB⟩),
 (30,⟨536,1,[134,135],[],J4⟩),
 (31,⟨543,1,[131],[],Ug⟩),
 (32,⟨550,1,[136,137,96,131,154],[],P8⟩),
 (33,⟨557,2,[138,107],[],ZV⟩),
 (35075,⟨571,4,[179,141,138,107],[],A6⟩),
 (35079,⟨578,3,[179,98,100],[],TH⟩),
 (35,⟨592,2,[139,140,107,141],[],Rh⟩),
 (36,⟨599,3,[142,141,138,139,159,146,148,236,237,107],[],KC⟩),
 (37,⟨604,2,[143,100,144,97],[],QJ⟩),
 (38,⟨611,2,[143,100],[],SL⟩),
 (39,⟨618,1,[143],[],TI⟩),
 (40,⟨625,2,[99,100,119],[],XW⟩),
 (41,⟨632,2,[143,145,97,159,148,147,146,96,103,104],[],VV⟩),
 (42,⟨639,3,[143,145,100,97,159,148,147,99],[],WW⟩),
 (44,⟨654,4,[143,145,100,151,150],[.bool F],UY⟩),
 (46,⟨668,3,[143,97,100],[],VC⟩),
 (47,⟨675,2,[143,98,96],[],ZX⟩),
 (48,⟨682,3,[143,99,148],[],Yg⟩),
 (49,⟨687,6,[152,143,153,98,148,154,100,97,99,108,96],[],Vz⟩),
 (50,⟨694,0,[155,141],[],U5⟩),
 (53075,⟨730,5,[179,253,212,100,254],[.int 0,.str 255],Yu⟩),
 (53,⟨744,2,[156,96],[],Qj⟩),
 (54,⟨751,1,[156,157,158,140,146,148,159],[],K3⟩),
 (55,⟨758,4,[138,160,161,98,162,103,97,272,148,159,163],[],MT⟩),
 (56,⟨765,1,[164],[],SZ⟩),
 (57,⟨770,2,[154,165,166,167,114,214,219,301],[],XS⟩),
 (58,⟨777,2,[115,100],[],B5⟩),
 (59,⟨782,2,[97,98],[],VG⟩),
 (60,⟨787,2,[94,95,168],[],Si⟩),
 (61,⟨794,2,[138,145,97,159,148,147,169,96,103,104],[],Ux⟩),
 (62,⟨801,4,[138,145,100,154,148],[],A5⟩),
 (63,⟨806,6,[170,138,171,145,100,151,172,115],[],M2⟩),
 (64,⟨811,8,[170,138,153,98,148,154,100,108,106,97,115,173],[],Fs⟩),
 (65,⟨818,2,[115,100,145],[],Qt⟩),
 (66,⟨823,2,[170,100,174],[],QR⟩),
 (67,⟨828,2,[143,100,114,99,137],[],Wp⟩),
 (68,⟨833,8,[170,138,153,171,145,98,175,100,148,154,108,119,115],[],R9⟩),
 (69,⟨840,6,[143,152,153,145,98,175,148,154,108,100,106],[],Vr⟩),
 (70,⟨847,2,[138,161,176],[],Wx⟩),
 (43,⟨646,3,[],[],wE⟩),
 (45,⟨661,3,[],[],wE⟩)]
def FT(f:Nat):Option FD:=vM.lookup f
def rR:List (Nat×CD):=[
 (0,⟨31,[180,78],[(75,1075)],1075,T⟩),
 (1,⟨44,[180,78],[],1075,T⟩),
 (2,⟨56,[180,78],[],1075,T⟩),
 (3,⟨75,[180,78,92],[(75,4075)],4075,T⟩),
 (8,⟨123,[97,159,200,148,147,137],[(75,9075)],9075,F⟩),
 (10,⟨200,[202],[(75,11075),(77,11077),(78,11078),(79,11079),(80,11080),(81,11081),(82,11082),(83,11083)],11075,F⟩),
 (13,⟨284,[101],[(75,14075),(77,14077),(78,14078),(79,14079),(80,14080),(81,14081),(82,14082),(83,14083)],14075,F⟩),
 (16,⟨319,[107,206,207,116,82,208],[(75,17075)],17075,F⟩),
 (21,⟨425,[107,206,212,101],[(75,22075),(86,22086),(77,22077),(78,22078),(79,22079),(80,22080),(81,22081),(82,22082),(83,22083)],22075,F⟩),
 (22,⟨447,[217,218],[(75,23075)],23075,F⟩),
 (23,⟨469,[130,218,219],[(75,24075)],24075,F⟩),
 (24,⟨490,[130,132,123,133,126,220,127,128,221],[(75,25075)],25075,F⟩),
 (34,⟨581,[141,138,107,232,233,234,105],[(75,35075),(79,35079)],35075,F⟩),
 (51,⟨711,[159,249,135,250,251,96,252],[],52075,F⟩),
 (52,⟨733,[253,100,254,256,257,258,259,260,261,212,262,263,176,264,265,267,268,269,270],[(75,53075)],53075,F⟩)]
def CT(c:Nat):Option CD:=rR.lookup<|c %1000
end
abbrev an (n:Nat) (O:Bool):Cx:=MX CT FT n O
abbrev cC (n:Nat) (X:Addr->ae->MH->Prop) (t:Tg) (i:MH->Prop) (b:MSs) (Q:Fl->ae->MH->Prop) (M:List V) (l:ae) (H:MH):Prop:=mS (cT t) i (λs l H=>wpSs (an n T) X b s l H) Q M l H
def ew(n:Nat)(O:Bool)(H:MH)(f:Nat)(Z:List V)(v:V):Prop:=∀I,Gr H I->∀(Q:QV) (X:QE),Q v I->gk CT FT n O f Z Q X I
def cI(n:Nat)(O:Bool)(H:MH)(f:Nat)(Z:List V)(P:V->MH->Prop)(E:Addr->MH->Prop):Prop:=∀(Q:QV) (X:QE),(∀v Y,P v Y->Q v Y)->(∀a Y,E a Y->X a Y)->gk CT FT n O f Z Q X H
def Ex(cx:Cx)(l:ae)(H:MH)(e:ME)(P:V->MH->Prop)(E:Addr->MH->Prop):Prop:=∀(Q:QV) (X:QE),(∀v Y,P v Y->Q v Y)->(∀a Y,E a Y->X a Y)->aP cx X l e Q H
theorem ew.tri(h:ew n O H f Z v):cI n O H f Z (λx Y=>x=v/\Y=H) E:=λQ X o _=>h H Gr.rfl Q X<|o v H ⟨J,J⟩
theorem cH(h:dA (an n O) l H j Z)(c:ew n O H f Z v):Pv (an n O) l H (.callF f j) v:=λI g X Q q=>h I g X _<|c I g Q X q
theorem oB(h:dA (an n O) l H j Z)(c:cI n O H f Z P E):Ex (an n O) l H (.callF f j) P E:=λQ X q x=>h H Gr.rfl X _<|c Q X q x
theorem tH{H:MH}(R:H a=S (.inst c i D))(E:(CT c).bind (λd=>d.meths.lookup m)=S f) (G:cy D m=N) (h:∀Q:QV,Q (.ref a) H->aP (an n O) X l e Q H)(k:wpEs (an n O) X l j (λZ H=>gk CT FT n O f (.ref a::Z) Q X H) H):aP (an n O) X l (.callM e m j) Q H:=h _ (bq R (bq E ((by exact aa G k))))
theorem pZ{f c m:Nat}{a i:Addr}{D:List (Nat×V)}{e:ME}{j:MEs}{Z:List V}{v:V}(h:Pv (an n O) l H e<|.ref a)(R:H a=S (.inst c i D))(B:dA (an n O) l H j Z)(k:ew n O H f (.ref a::Z) v)(E:(CT c).bind (λd=>d.meths.lookup m)=S f:=by rfl) (G:cy D m=N:=by exact(J:N=_)):Pv (an n O) l H (.callM e m j) v:=λI g X Q q=>tH (g.at R) E G (λQ q=>h I g X Q q) (B I g X _<|k I g Q X q)
theorem iq{f c m:Nat}{a i:Addr}{D:List (Nat×V)}{e:ME}{j:MEs}{Z:List V}{P:V->MH->Prop}{E:Addr->MH->Prop}(h:Pv (an n O) l H e<|.ref a)(R:H a=S (.inst c i D))(B:dA (an n O) l H j Z)(k:cI n O H f (.ref a::Z) P E)(b:(CT c).bind (λd=>d.meths.lookup m)=S f:=by rfl) (G:cy D m=N:=by exact(J:N=_)):Ex (an n O) l H (.callM e m j) P E:=λQ X q x=>tH R b G (λQ q=>h H Gr.rfl X Q q) (B H Gr.rfl X _<|k Q X q x)
theorem oh{i:Nat}(h:Ex cx l H e P E)(k:∀v Y,P v Y->wpSs cx X r Q (l.set i<|S v) Y)(x:∀a Y,E a Y->X a l Y)(Z:fh i l.length=T:=by exact tt):wpSs cx X (.cons (.asg i e) r) Q l H:=cc ⟨fY.mp Z,h _ _ k x⟩
theorem Ah{X:Addr->ae->MH->Prop}{Q:Fl->ae->MH->Prop}(h:Ex cx l H e P E)(k:∀v Y,P v Y->Q (.ret v) l Y)(x:∀a Y,E a Y->X a l Y):wpSs cx X (.cons (.ret e) r) Q l H:=cc<|h _ _ k x
theorem nT(h:Ex cx l H e P E)(k:∀v Y,P v Y->wpSs cx X r Q l Y)(x:∀a Y,E a Y->X a l Y):wpSs cx X (.cons (.expr e) r) Q l H:=cc<|h _ _ k x
theorem Ib{cx:Cx}{X:Addr->ae->MH->Prop}(O:cx.hn=T)(h:Ex cx l H e (λv Y=>∃a c i D,v= .ref a/\Y a=S (.exc c i N D)/\X a l Y) E) (x:∀a Y,E a Y->X a l Y):wpSs cx X (.cons (.raise e) r) Q l H:=cc ⟨O,h _ _ (λv Y q=>by(refine ie q λa c i Z=>?_;obtain⟨D,g,I,b⟩:=Z);refine aa g ?_;exact bq I b) x⟩
theorem sJ{H:MH}{cx:Cx}(b:H a=S (.inst c i D))(q:R<|H.set a<|.inst c i<|cf D k x)(u:cx.ct c=S d)(w:(d.fields.contains k&&et D.length 1000)=T):mC cx R H (.ref a) k x:=bq b<|bq u ⟨w,q⟩
theorem bY{o e:ME}{k c:Nat}{a i:Addr}{D:List (Nat×V)}{v:V}{d:CD}(h:Pv cx l H e v)(Y:Pv cx l H o<|.ref a)(R:H a=S (.inst c i D))(q:wpSs cx X r Q l<|H.set a<|.inst c i<|cf D k v)(u:cx.ct c=S d:=by rfl) (w:(d.fields.contains k&&et D.length 1000)=T:=by exact tt):wpSs cx X (.cons (.setA o k e) r) Q l H:=cc<|h H Gr.rfl _ _<|Y H Gr.rfl _ _<|sJ R q u w
theorem Js{c f:Nat}{j:MEs}{Z:List V}{d:CD}{P:V->MH->Prop}{E:Addr->MH->Prop}(B:dA (an n O) l H j Z)(k:∀a i,H a=N->cI n O (H.set a<|.inst c i []) f (.ref a::Z) (λr Y=>r= .none/\P (.ref a) Y) E)(u:CT c=S d:=by rfl) (b:d.isExc=F:=by exact ff) (g:d.init=f:=by rfl):Ex (an n O) l H (.new c j) P E:=λQ X q x=>B H Gr.rfl X _ (bq u (by unfold oo;refine b▸(λa i R=>g▸?_);exact k a i R _ X (λv Y p=>by obtain⟨e,p⟩:=p;refine aa e ?_;exact q _ _ p) x))
section
theorem Uy{Q:QV}(h:b=T)(q:Q (cond b x y) H):Q x H:=by subst h;exact q
theorem Zy{Q:QV}(h:b=F)(q:Q (cond b x y) H):Q y H:=by subst h;exact q
theorem eP(h:(!b)=T):b=F:=by obtain⟨⟩:=b<;>first|rfl|exact ak h
theorem dX(h:(!b)=F):b=T:=by obtain⟨⟩:=b<;>first|rfl|exact ak h
abbrev bB:=List (Int×Int)
def dp(p:Int×Int):V:=.tup [.int p.1,.int p.2]
def bv(b:bB):V:=.tup<|b.map dp
set_option genCtorIdx true
inductive Tl where
 |ctr (p o:Int)|quo (b:Bool) (lim used:Int)|lim
structure dN where
 box:bB
 dat:V
 til:Int
 tmo:Int
 cmt:V
 inn:List Tl
 evs:List (Int×Int)
def dN.live(r:dN)(G:Int):Bool:=r.til==0||decide (G<r.til)
def mE(r:dN)(d:Addr):List (Nat×V):=[(97,bv r.box),(159,r.dat),(200,.int r.til),(148,.int r.tmo),(147,r.cmt),(137,.ref d)]
def cw(H:MH)(a:Addr)(r:dN):Prop:=∃i d,H a=S (.inst 8 i<|mE r d)
theorem cw.gr(h:cw H a r)(g:Gr H Y):cw Y a r:=let⟨i,d,e⟩:=h;⟨i,d,g.at e⟩
theorem po(h:cw H a r):ew (n+1) O H 9 [.ref a,.int G] (.bool<|r.live G):=λI g Q X q=>by exact af (h.gr g) λi L=>af (L) λd R=>aR [S _,S _] aT J<|aZ (eW (gF (aN (ab J) R J) ar) λ_=>iR (ab J)<|aN (ab J) R J) q
theorem yP:1<=1000000:=by decide
def tI(u:List Int)(b:bB):V:=List.rec (λu=>.tup<|u.map .int) (λp _ Z u=>cond (p.1==p.2) (Z<|u++[p.1]) .none) b u
theorem tW(h:Pv cx l H a<|.tup x)(C:Pv cx l H b<|.tup y)(E:(x++y).length<=1000000):Pv cx l H (.bin .add a b) (.tup<|x++y):=λI g X Q q=>h I g X _<|C I g X _ ⟨E,q⟩
theorem Nn(h:u.length+(k+1)<=1000):(u.map V.int++[V.int m]).length<=1000000/\(u++[m]).length+k<=1000:=by exact aa bV (aa bV (aa (aL ..) (⟨am (am (gM (oM 1 k) _) h) (by decide),aa (oL ..) h⟩)))
theorem ZY:∀(u:List Int) (x y:Option V),u.length+c.length<=1000->Q (tI u c) H->cC n X (.two 2 3) (λ_=>True) MV (dE (an n T) X (.cons (.ret<|.loc 1) .nil)<|cL Q) (c.map dp) [z,S<|.tup<|u.map .int,x,y] H:=by{
induction c with
|nil=>exact λu x y _ q=>fH trivial<|aZ (ab J) q
|cons p c Z=>intro u x y w q;exact dh trivial aT<|aH (fC (ab J)<|ab J) (λt=>aZ eh<|Zy (eP t) q) λt=>aW ((tW (ab J) (cP (aB (ab J) bc) yP) (Nn w).1).to<|congrArg V.tup (cK (l₂:=[(uK p)])).symm)<|bA<|Z _ _ _ (Nn w).2<|Uy (dX t) q}
theorem Aa(E:b.length<=1000):ew (n+1) T H 7 [bv b] (tI [] b):=λI g Q X q=>aR [S<|bv b,N,N,N] aT J (aW (cP bc<|bW _) (iY tt (am (dr<|aL _) (am E (by decide))) (wV<|ab aT)<|ZY [] N N (am (dr<|da _) E) q))
end
theorem Gr.none{H Y:MH}{a:Addr}(g:Gr H Y)(h:Y a=N):H a=N:=by{
cases e:H a with
|none=>rfl
|some o=>rw[g.at e] at h;cases h}
theorem MH.d4{H:MH}:(H.set a o).set a B=H.set a B:=by funext b;unfold MH.set;split<;>rfl
theorem F9{H:MH}(b:H a=S (.exc c i I D))(q:∀i,R<|H.set a<|.exc c (S i) I<|cf D k x)(u:cx.ct c=S d)(w:(d.fields.contains k&&et D.length 1000)=T):mC cx R H (.ref a) k x:=bq b (bq u ⟨w,by{
clear w u d b cx
induction i using aV with
|none=>exact q
|some i=>exact q i}⟩)
theorem Ft{cx:Cx}{X:Addr->ae->MH->Prop}{Q:Fl->ae->MH->Prop}{r:MSs}{o e:ME}{k c:Nat}{a:Addr}{i I:Option Addr}{D:List (Nat×V)}{v:V}{d:CD}(h:Pv cx l H e v)(Y:Pv cx l H o<|.ref a)(R:H a=S (.exc c i I D))(q:∀i,wpSs cx X r Q l<|H.set a<|.exc c (S i) I<|cf D k v)(u:cx.ct c=S d:=by rfl) (w:(d.fields.contains k&&et D.length 1000)=T:=by exact tt):wpSs cx X (.cons (.setA o k e) r) Q l H:=cc<|h H Gr.rfl _ _<|Y H Gr.rfl _ _<|F9 R q u w
def lR(cx:Cx)(l:ae)(H:MH)(j:MEs)(P:List V->MH->Prop)(E:Addr->MH->Prop):Prop:=∀(Q:List V->MH->Prop) (X:QE),(∀v Y,P v Y->Q v Y)->(∀a Y,E a Y->X a Y)->wpEs cx X l j Q H
theorem AA(h:Ex cx l H e a E)(C:∀v Y,a v Y->lR cx l Y j (λZ=>P<|v::Z) E):lR cx l H (.cons e j) P E:=λQ X q x=>h _ X (λv Y p=>C v Y p _ X (λZ G z=>q _ _ z) x) x
theorem qQ(h:Pv cx l H e v)(C:lR cx l H j (λZ=>P<|v::Z) E):lR cx l H (.cons e j) P E:=λQ X q x=>h H Gr.rfl X _<|C _ X (λZ G z=>q _ _ z) x
theorem yO(p:P [] H):lR cx l H .nil P E:=λQ X q _=>q _ _ p
theorem RT{c f:Nat}{j:MEs}{b:List V->MH->Prop}{d:CD}{P:V->MH->Prop}{E:Addr->MH->Prop}(B:lR (an n O) l H j b E)(k:∀Z Y,b Z Y->Z.length<=10/\∀a,Y a=N->cI n O (Y.set a<|.exc c N N []) f (.ref a::Z) (λr G=>r= .none/\P (.ref a) G) E)(u:CT c=S d:=by rfl) (g:d.isExc=T:=by exact tt) (h:d.init=f:=by rfl):Ex (an n O) l H (.new c j) P E:=λQ X q x=>B _ X (λZ Y p=>bq u (by unfold oo;refine aa g<|⟨(k Z Y p).1,λa R=>?_⟩;refine aa h ?_;exact(k Z Y p).2 a R _ X (λv G p=>by obtain⟨e,p⟩:=p;refine aa e ?_;exact q _ _ p) x)) x
def rf:Nat->Nat
 |182=>191|183=>192|184=>193|188=>177|189=>197|_=>178
inductive jd:Nat->Prop
 |e1:jd 182|e2:jd 183|e3:jd 184|e4:jd 188|e5:jd 189|e6:jd 181
def Lw:List (aY×V):=[(.s 181,.str 178),(.s 182,.str 191),(.s 183,.str 192),(.s 184,.str 193),(.s 185,.str 194),(.s 186,.str 195),(.s 187,.str 196),(.s 188,.str 177),(.s 189,.str 197),(.s 190,.str 198)]
theorem Ic(u:jd c):cY Lw (.s c)=S (.str<|rf c):=by cases u<;>rfl
theorem Jv:dL Lw (.s c)=T:=tt
theorem yC(h:Pv cx l H e x)(C:Pv cx l H A<|.ref a)(R:H a=S (.dict j))(w:iK x=S k)(Y:dL j k=T):Pv cx l H (.cmp e .notIn A) (.bool !(cY j k).isSome):=λI g X Q q=>
 h I g X _ (C I g X (kD .notIn (λc H=>Q _ H) x) (bq (o:=(qS I x _).map (!·)) (by exact congrArg _ ((by unfold qS;simp only[(g.at R)];delta Ab yk;exact aa w (if_pos Y):qS I x (.ref a)=S (cY j k).isSome))) q))
theorem rH(h:Pv cx l H e<|.ref a)(R:H a=S (.dict j))(C:Pv cx l H A x)(b:iK x=S k)(Y:dL j k=T)(w:cY j k=S v):Pv cx l H (.idx e A) v:=λI g X Q q=>h I g X _ (C I g X _<|bq (g.at R)<|bq b ⟨Y,bq w q⟩)
def vF(c:Nat):List (Nat×V):=[(180,.str<|rf c),(78,.int<|-1),(92,.str c)]
def pI(c:Nat)(a:Addr)(H:MH):Prop:=∃i,H a=S (.exc 3 (S i) N<|vF c)
theorem C6{c m f:Nat}{j:MEs}{Z:List V}{P:V->MH->Prop}{E:Addr->MH->Prop}(h:dA (an n O) l H j Z)(k:cI n O H f Z P E)(a:(CT c).bind (λd=>d.meths.lookup m)=S f:=by rfl):Ex (an n O) l H (.callC c m j) P E:=λQ X q x=>bq a<|h H Gr.rfl X _<|k Q X q x
theorem E5{H:MH}(R:H a=S (.exc 3 N N [])):cI (n+2) O H 4075 [.ref a,c,w] (λv Y=>v= .none/\∃i,Y=H.set a (.exc 3 (S i) N [(180,w),(78,.int<|-1),(92,c)])) E:=λQ X q x=>
 aR [S<|.ref a,S c,S w] J J (nT (E:=λ_ _=>False) (C6 (aB (ab J)<|aB (ab aT) bc) ((λQ X q _=>aR [S _,S w] aT J (nT (P:=λv Y=>Y=H) (E:=λ_ _=>False) (λQ X q _=>by
   show lj (H a) λ_ _ _ _=>Q .none H;refine aa R ?_;exact q _ _ J) (λv Y e=>by{
refine aa e ?_;refine Ft (ab aT) (ab aT) R (λi=>Ft ar (ab aT) MH.c5 (λM=>bA<|q _ _ ⟨J,M,?_⟩) aT tt) aT tt;exact MH.d4}) λ_ _ z=>z.elim):cI (n+1) O H 1075 [.ref a,w] (λv Y=>v= .none/\∃i,Y=H.set a (.exc 3 (S i) N [(180,w),(78,.int<|-1)])) λx b↦False))) (λv Y ⟨_,i,e⟩=>by
  refine aa e ?_;exact Ft (ab aT) (ab aT) MH.c5 λi=>bA<|q _ _ ⟨J,i,MH.d4⟩) λ_ _ z=>z.elim)
theorem EW(u:jd c):cI (n+3) O H 5 [.str c] (λv Y=>Gr H Y/\∃a,v= .ref a/\H a=N/\pI c a Y) E:=λQ X q x=>
 aR [S _] aT J (Ah (RT (b:=λZ Y=>Z=[.str c,.str<|rf c]/\Gr H Y) (qQ (ab aT) (AA (oB (aM aT) ((λQ X q _=>aR [S _,N] aT J (oh (P:=λv Y=>∃a,v= .ref a/\H a=N/\Y=H.set a _) (E:=λ_ _=>False) (λQ X q _=>cj ⟨tt,by decide,by decide⟩ λa R=>q _ _ ⟨a,J,R,J⟩) (λv Y ⟨a,b,R,I⟩=>by{
refine aa b ?_;refine aa I ?_;refine aH (yC (ab aT) (ab aT) MH.c5 aT Jv) (λt=>?_) λ_=>bA<|aZ (rH (ab aT) MH.c5 (ab aT) aT Jv<|Ic u)<|q _ _ ⟨J,Gr.new R⟩;replace t:=(Ic u)▸t;exact ak t}) λ_ _ z=>z.elim):cI ((n+1)+1) O H 4 [.str c] (λv Y=>v= .str (rf c)/\Gr H Y) E))) λv Y ⟨e,g⟩=>yO ⟨by exact aa e J,g⟩)) λZ Y ⟨e,g⟩=>⟨by exact aa e (by decide:2<=10),λa R=>by{
refine let P:=_;(?_:cI _ _ _ _ _ P _)
refine aa e ?_;exact λQ X q x=>E5 MH.c5 Q X (λv G ⟨b,i,I⟩=>q v G ⟨b,by rw[MH.d4] at I;refine aa I ?_;exact⟨g.trans<|Gr.new R,a,J,g.none R,i,MH.c5⟩⟩) x}⟩) q x)
theorem ua(u:jd c)(x:∀a Y,Gr H Y->H a=N->pI c a Y->X a l Y):wpSs (an (n+3) T) X (.cons (.raise<|.callF 5<|.cons (.str c) .nil) r) Q l H:=
 Ib (E:=λ_ _=>False) tt (λQ X q B=>oB (E:=λ_ _=>False) (aM J) (EW u) Q X (λv Y p=>by obtain⟨g,a,e,R,h⟩:=p;obtain⟨i,C⟩:=id h;exact q v Y ⟨a,_,_,_,e,C,x a Y g R h⟩) λ_ _ z=>z.elim) λ_ _ z=>z.elim
theorem zP:iK (.tup<|u.map .int)=S (.t u):=congrArg (uV aY.t) (by{
induction u with
|nil=>rfl
|cons k u Z=>exact congrArg (uV _) Z}:vN (u.map .int)=S u)
theorem HR{H:MH}(R:H a=S (.dict j))(Y:dL j (.t u)=T)(k:if m=281 then Q ((cY j<|.t u).getD .none) H else Cg Q H a j u):tR Q H a m [.tup<|u.map .int]:=(by rw[R];exact(bq zP ⟨Y,k⟩):Fj (H a) _)
theorem KI{u:List Int}(h:Pv cx l H e<|.ref a)(R:H a=S (.dict j))(E:yx m=T)(C:Pv cx l H A<|.tup<|u.map .int)(k:tR Q H a m [.tup<|u.map .int]):aP cx X l (.callM e m<|.cons A .nil) Q H:=h H Gr.rfl X _ (bq R ⟨E,C H Gr.rfl X _ k⟩)
theorem F7(h:Pv cx l H e<|.ref a)(R:H a=S (.dict j))(C:Pv cx l H A<|.tup<|u.map .int)(Y:dL j (.t u)=T):Pv cx l H (.callM e 281<|.cons A .nil) ((cY j<|.t u).getD .none):=λI g X Q q=>KI (h.gr g) (g.at R) tt (C.gr g) (HR (g.at R) Y q)
abbrev ay:=Addr×dN
def dK(b:bB):List Int:=b.map (·.1)
def pd(R:List ay):List (aY×V):=R.map λe=>(.t<|dK e.2.box,.ref e.1)
structure lN (H:MH) (s t:Addr) (R:List ay):Prop where
 s:∃dx,H s=some (.inst 10 dx [(202,.ref t)])
 t:H t=some (.dict (pd R))
 el:∀e∈R,cw H e.1 e.2
theorem lN.gr{a b:Addr}(h:lN H a b R)(g:Gr H Y):lN Y a b R:=⟨by(refine af (h.s) λi e=>?_);exact⟨i,g.at e⟩,g.at h.t,λe u=>(h.el e u).gr g⟩
theorem vK:dL (pd R) (.t u)=T:=by delta dL pd;refine aa Bm ?_;rw[im];exact λ_ _=>tt
def pF(R:List ay)(u:List Int):Option ay:=R.find? λe=>decide<|aY.t (dK e.2.box)= .t u
theorem yJ:cY (pd R) (.t u)=(pF R u).map λe=>.ref e.1:=by delta cY pd pF;refine aa (aa3)<|aa (Option.map_map ..) ?_;rfl
def iV:Option ay->V
 |some e=>.ref e.1
 |none=>.none
def be(G:Int)(o:Option ay):Option ay:=o.filter λe=>e.2.live G
theorem EV(h:lN H s t R):ew (n+2) T H 11079 [.ref s,.tup<|u.map .int,.int G] (iV<|be G<|pF R u):=λI g Q X q=>by{
have h:=h.gr g;refine af (h.s) λi B=>aR [S _,S _,S _,N] aT J (aW ((F7 (aN (ab J) B J) h.t (ab J) vK).to ((congrArg (·.getD V.none) yJ).trans (by
 refine let p:=_;(?_:p)
 obtain⟨⟩:=(pF R u)<;>rfl))) ?_)
induction e:pF R u using aV with
|none=>replace q:=e▸q;exact aH (eW (q:=F) (ig<|ab J) λz=>ak z) (λ_=>aZ eh q) λz=>ak z
|some x=>{
rw[e] at q;unfold be at q;refine aH (eW (ig<|ab J) λ_=>ni<|cH (aM aT)<|po<|h.el x<|md e) (λz=>aZ eh ?_) λz=>bA<|aZ (ab J) ?_
.rw[iQ,eP z] at q;exact q
.rw[iQ,dX z] at q;exact q}}
def dg(b:bB):Bool:=b.all λp=>p.1==p.2
theorem CF:∀u:List Int,tI u b=cond (dg b) (.tup<|(u++dK b).map .int) .none:=by{
induction b with
|nil=>exact λu=>congrArg (λx:List Int=>V.tup<|x.map .int) (fm u).symm
|cons p b Z=>{
intro u;show cond (p.1==p.2) (tI _ b) .none=cond ((p.1==p.2)&&dg b) (.tup<|(u++(p.1::dK b)).map .int) .none
induction p.1==p.2 using aX with
|false=>rfl
|true=>exact aa (show u++(p.1::dK b)=u++[p.1]++dK b from(aa4 u p.1<|dK b))<|Z _}}
theorem Fh(h:dg b=T):tI [] b= .tup ((dK b).map .int):=by refine aa (CF ..)<|aa h ?_;rfl
theorem Hw(D:dg b=T)(u:dg c=T)(h:dK b=dK c):b=c:=by{
induction b generalizing c with
|nil=>induction c using aS with
 |nil=>rfl
 |cons q c=>cases h
|cons p b Z=>induction c using aS with
 |nil=>cases h
 |cons q c=>unfold dg at D u;rw[nB,kc,beq_iff_eq] at D u;injection h with G M;exact aa (Z D.2 u.2 M)<|aa (uW G<|D.1.symm.trans<|G.trans u.1) J}
def bI(R:List ay)(b:bB):Option ay:=R.find? λe=>decide<|e.2.box=b
theorem yo(j:∀e∈R,dg e.2.box=T)(D:dg b=T):pF R (dK b)=bI R b:=by{
delta pF bI
induction R with
|nil=>rfl
|cons e R Z=>have:decide (aY.t (dK e.2.box)= .t (dK b))=decide (e.2.box=b):=decide_eq_decide.mpr ⟨λh=>Hw (j e<|bw _) D<|Ar h,λh=>by exact aa h J⟩;exact(fG).trans<|aa (fG)<|aa this<|aa (Z λx f=>j x<|cq _ f) J}
theorem XI(h:lN H s t R)(j:∀e∈R,dg e.2.box=T)(E:b.length<=1000):ew (n+3) T H 11078 [.ref s,bv b,.int G] (iV<|be G<|bI R b):=λI g Q X q=>by{
have h:=h.gr g;refine af (h.s) λi B=>aR [S _,S<|bv b,S _,N] aT J<|aW (cH (aM J)<|Aa E) ?_
induction D:dg b using aX with
|false=>
 rw[(by unfold bI;rw[qu];intro e u h;replace D:=(j e u)▸(of_decide_eq_true h)▸D;exact ak D:bI R b=N)] at q
 exact aa (CF ..)<|aa D<|aH (ig<|ab J) (λ_=>aZ eh q) λz=>ak z
|true=>refine aa (Fh D) ?_;rw[<-yo j D] at q;exact aH (ig<|ab J) (λz=>ak z) λ_=>bA<|aZ (pZ (ab J) B (aM J)<|EV h) q}
theorem Xe(h:lN H s t R)(E:R.length<=1000):ew (n+1) T H 11082 [.ref s] (.int R.length):=λI g Q X q=>by have h:=h.gr g;exact af (h.s) λi B=>aR [S _] aT J (aZ ((R7 tt (aN (ab J) B J) h.t (am (dr<|aL _) (am E (by decide)))).to (by unfold pd;exact aa (aL ..) J)) q)
theorem nS(h:Pv cx l H e v)(G:Pv cx l H o w)(M:Pv cx l H i u)(k:vU (λH=>dE cx X r Q .next l H) H w u v):wpSs cx X (.cons (.setI o i e) r) Q l H:=cc (h H Gr.rfl _ _<|G H Gr.rfl _ _<|M H Gr.rfl _ _ k)
theorem Od(h:cY j k=N):kC j k x=j++[(k,x)]:=by unfold kC;rw[if_neg];intro z;refine af (Pr.mp z) λe L=>ai (λu q=>?_)<|L;unfold cY at h;rw[aa5,qu] at h;exact h e u q
theorem My:(pd R).length=R.length:=aL _
theorem bh(h:k<=1000):k<=1000000:=am h (by decide)
theorem Vm(h:lN H s t R)(j:∀e∈R,dg e.2.box=T)(b:R.length<=1000)(f:cw H a r)(D:dg r.box=T)(o:r.box.length<=1000)(O:bI R r.box=N):cI (n+3) T H 11077 [.ref s,.ref a,.int G] (λv Y=>v= .none/\Y=H.set t (.dict<|pd<|R++[(a,r)])) E:=λQ X q _=>by{
refine let p:=_;(?_:p)
refine af (h.s) λi B=>af (f) λM L=>af (L) λd c=>?_;have w:=(yo j D).trans O;have g:iV (be G<|pF R<|dK r.box)= .none:=by exact aa w J
refine aR [S _,S _,S _,N] aT J (aW ((cH (aB (aN (ab J) c J) bc)<|Aa o).to<|Fh D) (aH (ig<|ab J) (λz=>ak z) λ_=>bA (aH (fR<|pZ (ab J) B (aM aT)<|EV h) (λz=>?_) λ_=>bA
 (nS (ab J) (aN (ab J) B J) (ab J) (bq h.t (bq zP ⟨⟨vK,(by refine aa My ?_;exact bh b)⟩,(q .none _ ⟨J,?_⟩)⟩))))))
.replace z:=g▸z;exact ak z
.rw[Od (by refine aa yJ<|aa w ?_;rfl)];delta pd;refine aa cK ?_;rfl}
theorem NY(h:bI R b=S e):e.2.box=b:=of_decide_eq_true<|sg (p:=λe:ay=>decide<|e.2.box=b) h
theorem Sk(h:lN H s t R)(j:∀e∈R,dg e.2.box=T)(a:R.length<=1000)(o:b.length<=1000)(u:bI R b=S e):cI (n+2) T H 11080 [.ref s,bv b] (λv Y=>v= .ref e.1/\Y=H.set t (.dict<|pd<|R.filter λe=>!decide (e.2.box=b))) E:=λQ X q _=>by{
refine af (h.s) λi B=>?_;have D:=NY u▸j e (md u);have w:cY (pd R) (.t<|dK b)=S (.ref e.1):=by refine yJ▸aa (yo j D) (aa u ?_);rfl
refine aR [S _,S<|bv b,N] aT J (aW ((cH (aM J)<|Aa o).to<|Fh D) (aH (eW (q:=F) (ig<|ab J) λ_=>(yC (ab J) (aN (ab J) B J) h.t zP vK).to ?_) (λz=>ak z) λ_=>bA
 (Ah (E:=λ_ _=>False) (λQ X q _=>KI (aN (ab J) B J) h.t tt (ab J)<|HR h.t vK ?_) (λv Y p=>q _ _ (by refine((by delta tZ pd;refine aa He<|congrArg _<|yc λe u=>?_;show decide (aY.t (dK e.2.box)≠.t (dK b))=!decide (e.2.box=b);refine aa decide_not ?_;exact congrArg _ (decide_eq_decide.mpr ⟨λh=>Hw (j e u) D<|Ar h,λh=>by exact aa h J⟩):tZ (pd R) (.t<|dK b)=pd (R.filter λe=>!decide (e.2.box=b))))▸?_;exact p)) λ_ _ z=>z.elim)))
.exact aa w J
.exact bq w ⟨am (dr My)<|bh a,q _ _ ⟨J,J⟩⟩}
theorem MH.m4{H:MH}(h:H a=S o):H.set a o=H:=by{
funext b;unfold MH.set;split
.rename_i e;exact aa e<|aa h J
.rfl}
def mW(H:MH)(L:List V)(v:V)(Y:MH):Prop:=∃c,v= .ref c/\H c=N/\Y=H.set c (.list L)
theorem oy(h:dA cx l H j Z)(a:Z.length<=1000000):Ex cx l H (.list j) (mW H Z) E:=λQ X q _=>h H Gr.rfl X _ ⟨a,λc u=>q _ _<|bl c J u J⟩
theorem yU{cx:Cx}(O:cx.hn=T)(h:Pv cx l H e<|.ref a)(R:zy (H a)=S L)(b:L.length<64)(w:∀x∈L,∀y∈L,zW x y=T/\(cF 9 x y).isSome=T):Ex cx l H (.bi .sorted<|.cons e .nil) (λv Y=>∃r:List V,r.Perm L/\r.Pairwise (λx y=>cF 9 y x=S F)/\mW H r v Y) E:=λQ X q _=>⟨O,h H Gr.rfl X _<|bl L R ⟨b,w⟩ λr G M c u=>q _ _ ⟨r,G,M,c,J,u,J⟩⟩
theorem vp{cx:Cx}(O:cx.hn=T)(h:Ex cx l H e P E)(k:∀v Y,P v Y->∃c L,v= .ref c/\Y c=S (.list L)/\L.length<=1000000/\mS (cT t) (λH=>H c=S (.list L)) (λs l H=>wpSs cx X b s l H) (dE cx X r Q) L l Y) (x:∀a Y,E a Y->X a l Y):wpSs cx X (.cons (.for_ t (.ex e) b) r) Q l H:=
 cc ⟨O,h _ _ (λv Y p=>by{
refine let d:=_;(?_:Am d _ _)
refine lH (k v Y p) λc L e u f k=>?_;clear p h O;refine aa e ?_;exact ir u ⟨f,k⟩}) x⟩
theorem Fx{X:QE}{Q:QV}(h:Pv cx l H o<|.ref a)(R:H a=S (.list L))(E:AH m=T)(C:dA cx l H j Z)(k:vy Q H a m Z):aP cx X l (.callM o m j) Q H:=h H Gr.rfl X _<|bq R ⟨E,C H Gr.rfl X _ k⟩
theorem NW{H:MH}{Q:QV}(R:H a=S (.list L))(E:L.length<=1000000)(k:Q .none<|H.set a<|.list<|L++[x]):vy Q H a 211 [x]:=ir R ⟨E,k⟩
theorem lM(h:Pv cx l H o<|.ref a)(R:H a=S (.list L))(E:L.length<=1000000)(C:Pv cx l H e x)(k:wpSs cx X r Q l<|H.set a<|.list<|L++[x]):wpSs cx X (.cons (.expr<|.callM o 211<|.cons e .nil) r) Q l H:=cc (Fx h R tt (aB C bc)<|NW R E k)
theorem DT{a w:Type}{f:a->w}{r P:List w}(p:r.Perm P):∀{R:List a},P=R.map f->∃Y:List a,Y.Perm R/\Y.map f=r:=by{
induction p with
|nil=>exact λ{R} h=>⟨R,.refl _,h.symm⟩
|cons x _ Z=>{
intro R h
induction R using aS with
|nil=>cases h
|cons e R=>injection h with G M;exact af (Z M) λY L=>ai (λp A=>⟨e::Y,p.cons e,by exact aa oO<|aa A<|aa G J⟩)<|L}
|swap x y l=>{
intro R h;rcases R with _|⟨e,_|⟨A,R⟩⟩
.cases h
.cases h
.injection h with G M;injection M with M C;exact⟨A::e::R,.swap ..,by exact aa oO<|aa oO<|aa G<|aa M<|aa C J⟩}
|trans _ _ i I=>intro R h;exact af (I h) λY L=>ai (λp e=>af (i e.symm) λD L=>ai (λz A=>⟨D,z.trans p,A⟩)<|L)<|L}
def kv(e:ay):V:=.tup<|(dK e.2.box).map .int
def bO(R:List ay):List V:=R.map λe=>.ref e.1
theorem Sg(m:∀e∈R,cY (pd R) (.t<|dK e.2.box)=S (.ref e.1))(a:f≠c)(L:List V):∀(Y D:List ay) (H:MH) (x:Option V),(∀e∈Y,e∈R)->H s=S (.inst 10 i [(202,.ref t)])->H t=S (.dict<|pd R)->H c=S (.list L)->H f=S (.list<|bO D)->f≠s->f≠t->D.length+Y.length<=1000->Q (.ref f) (H.set f<|.list<|bO<|D++Y)->cC n X (.one 2) (λH=>H c=S (.list L)) LC (dE (an n T) X (.cons (.ret<|.loc 1) .nil)<|cL Q) (Y.map kv) [S<|.ref s,S<|.ref f,x] H:=by{
intro Y
induction Y with
|nil=>intro D H x _ _ _ u G _ _ _ q;rw[fm,MH.m4 G] at q;exact fH u<|aZ (ab J) q
|cons e Y Z=>{
intro D H x h B v u G n1 n2 E q;refine dh u aT (lM (ab J) G (bh (by unfold bO;exact aa (aL ..)<|am (eF _ _) E)) (rH (aN (ab J) B J) v (ab J) zP vK<|m e<|h e<|bw _)<|bA<|Z (D++[e]) _ _ (λe b=>h e<|cq _ b) ((MH.c9 n1.symm).trans B) ((MH.c9 n2.symm).trans v) ?_ ?_ n1 n2 ?_ ?_)
.exact aa (MH.c9 a.symm) u
.refine aa MH.c5 ?_;unfold bO;exact aa cK J
.refine aa bV ?_;rw[iN] at E;exact aa (fZ ..)<|aa (fF _ Y.length) E
.exact aa MH.d4<|au (aa4 ..) q}}
def Tn(H:MH)(R:List ay)(v:V)(Y:MH):Prop:=∃f a,v= .ref f/\H f=N/\Gr H Y/\Y f=S (.list<|bO a)/\a.Perm R/\a.Pairwise λx y=>cF 9 (bv y.2.box) (bv x.2.box)=S F
theorem Yh(j:∀e∈R,dg e.2.box=T)(m:R.Pairwise λx y=>x.2.box≠y.2.box):∀e∈R,cY (pd R) (.t<|dK e.2.box)=S (.ref e.1):=λe u=>by{
refine aa yJ<|aa (yo j<|j e u) ?_;unfold bI
induction R with
|nil=>cases u
|cons x R Z=>{
rw[sC] at m;refine aa (fG) ?_;rcases bJ.mp u with rfl|u
.refine aa (decide_eq_true J) ?_;rfl
.exact aa (decide_eq_false<|m.1 e u)<|Z (λy n=>j y<|cq _ n) m.2 u}}
abbrev oG:V->V->Option Bool:=cA 9 λ_=>N
theorem Ti{f g:List Int}:(dH oG (cF 8) (f.map .int)<|g.map .int).isSome=T:=by{
induction f generalizing g with
|nil=>obtain⟨⟩:=g<;>rfl
|cons a f Z=>{
induction g using aS with
|nil=>rfl
|cons b g=>{
show(match S (a==b) with|some T=>dH oG (cF 8) (f.map .int) (g.map .int)|some F=>S (decide<|a<b)|none=>N).isSome=T
induction a==b using aX with
|true=>exact Z
|false=>rfl}}}
theorem Rq(D:dg b=T)(u:dg c=T):dH oG (cF 8) (b.map dp) (c.map dp)=dH oG (cF 8) ((dK b).map .int) ((dK c).map .int):=by{
induction b generalizing c with
|nil=>obtain⟨⟩:=c<;>rfl
|cons p b Z=>{
induction c using aS with
|nil=>rfl
|cons q c=>{
unfold dg at D u;rw[nB,kc,beq_iff_eq] at D u;show(match S ((p.1==q.1)&&(p.2==q.2&&T)) with|some T=>dH oG (cF 8) (b.map dp) (c.map dp)|some F=>(match S (p.1==q.1) with|some T=>_|some F=>S (decide<|p.1<q.1)|none=>N)|none=>N)=match S (p.1==q.1) with|some T=>dH oG (cF 8) ((dK b).map .int) ((dK c).map .int)|some F=>S (decide<|p.1<q.1)|none=>N
refine D.1▸u.1▸?_
induction p.1==q.1 using aX with
|true=>exact Z D.2 u.2
|false=>rfl}}}
theorem IW(h:e.2.box≠[]):jQ (kv e)=2:=by{
show Ir ((dK e.2.box).map V.int)=2
induction D:e.2.box using aS with
|nil=>exact absurd D h
|cons p b=>rfl}
theorem TS(h:lN H s t R)(j:∀e∈R,dg e.2.box=T/\e.2.box≠[])(m:R.Pairwise λx y=>x.2.box≠y.2.box) (l:R.length<64):cI (n+1) T H 11081 [.ref s] (Tn H R) E:=λQ X q _=>by{
obtain⟨i,B⟩:=h.s;refine aR [S _,N,N] aT J<|oh (E:=λ_ _=>False) (oy bc<|bW _) (λv I p=>?_) λ_ _ z=>z.elim;refine let P:=_;let C:=_;let zc:=_;let U:=_;(?_:wpSs P C _ zc U _)
refine eN p λf e G A=>?_;subst e;refine aa A ?_;have k:∀{a:Addr} {o:MO},H a=S o->a≠f:=λe z=>by replace e:=G▸z▸e;cases e
refine vp (E:=λ_ _=>False) J (yU (L:=R.map kv) J (aN (ab aT) ((MH.c9<|k B).trans B) J) ?_ (by rw[aL];exact l) ?_) (λv h0 p=>?_) λ_ _ z=>z.elim
.rw[((MH.c9<|k h.t).trans h.t)];show S ((pd R).map λe=>e.1.f8)=_;unfold pd;rw[km];rfl
.intro x w y M;refine aU (bZ.mp w) λa ha Z=>?_;refine au Z ?_;refine aU (bZ.mp M) λb D Z=>?_;refine au Z ?_;exact⟨by unfold zW;rw[IW (j a ha).2,IW (j b D).2];rfl,Ti⟩
.refine let Gz:=_;(?_:Gz)
 obtain⟨r,O,p2,c,e,u,A⟩:=p;subst e A;refine aU (DT O J) λY p e=>?_;clear O;subst e;have d:∀{a:Addr} {o:MO},(H.set f _) a=S o->a≠c:=λe z=>by replace e:=u▸z▸e;cases e
 have hl:=p.length_eq;refine⟨c,_,J,MH.c5,by rw[aL,hl];exact am (bU l) (by decide),Sg (Yh (λe he=>(j e he).1) m) (d MH.c5) _ Y [] _ N (λe he=>p.mem_iff.mp he) ((MH.c9<|d<|(MH.c9<|k B).trans B).trans<|(MH.c9<|k B).trans B) ((MH.c9<|d<|(MH.c9<|k h.t).trans h.t).trans<|(MH.c9<|k h.t).trans h.t) MH.c5 ((MH.c9<|d MH.c5).trans MH.c5) (k B).symm (k h.t).symm
  (by rw[jF,da,hl];exact am (bU l) (by decide)) (q _ _ ⟨f,Y,J,G,λb D _=>?_,MH.c5,p,?_⟩)⟩
 .have L:b≠f:=λz=>D (aa z G);have g:b≠c:=λz=>by rw[<-z,MH.c9 L] at u;exact D u
  rw[MH.c9 L,MH.c9 g,MH.c9 L]
 .rw[qt] at p2;exact p2.imp_of_mem λ{x y} w M e=>(Rq (j y<|p.mem_iff.mp M).1 (j x<|p.mem_iff.mp w).1).trans e}
def gg:bB->Int
 |p::_=>p.1
 |[]=>0
def jV:bB->Int
 |p::_=>p.2
 |[]=>0
abbrev lo (e:ay):Int:=gg e.2.box
abbrev hi (e:ay):Int:=jV e.2.box
theorem Il{b:bB}(h:b≠[]):∃r,bv b= .tup (.tup [.int<|gg b,.int<|jV b]::r):=by{
induction b using aS with
|nil=>exact absurd J h
|cons p b=>exact⟨b.map dp,J⟩}
theorem iy(h:Pv cx l H e<|.ref a)(R:cw H a r):Pv cx l H (.attr e 97) (bv r.box):=af (R) λi L=>af (L) λd e=>aN h e J
theorem Do(h:Pv cx l H e<|bv b)(D:b≠[]):Pv cx l H (.idx (.idx e<|.int 0)<|.int 0) (.int<|gg b):=by refine af (Il D) λr e=>?_;rw[e] at h;exact cG (cG h (ar (i:=(0:Nat))) J (by decide)) (ar (i:=(0:Nat))) J (by decide)
theorem ZN(h:Pv cx l H e<|bv b)(D:b≠[]):Pv cx l H (.idx (.idx e<|.int 0)<|.int 1) (.int<|jV b):=by refine af (Il D) λr e=>?_;rw[e] at h;exact cG (cG h (ar) J (by decide)) (ar) J (by decide)
theorem FC{k:Nat}(h:I[k]?=S e):(bO I)[k]?=S (.ref e.1):=by refine aa (gy)<|aa h ?_;rfl
structure jc (H:MH) (t:Addr) (I:List ay):Prop where
 t:H t=some (.list (bO I))
 el:∀e∈I,cw H e.1 e.2/\e.2.box≠[]
 z:I.length<=1000
theorem jc.gr{a:Addr}(h:jc H a I)(g:Gr H Y):jc Y a I:=⟨g.at h.t,λe u=>⟨(h.el e u).1.gr g,(h.el e u).2⟩,h.z⟩
theorem jc.at{a:Addr}(h:jc H a I)(w:k<I.length):∃e,I[k]?=S e/\cw H e.1 e.2/\e.2.box≠[]/\k<1000000:=(yQ (I[k]) (bX w) ((h.el _<|kZ w).1) ((h.el _<|kZ w).2)<|cO w<|bh h.z)
theorem jc.len{a:Addr}(h:jc H a I):(bO I).length<=1000000:=by unfold bO;exact aa (aL ..)<|bh h.z
theorem rm{k:Nat}(h:jc H t I)(Y:Pv cx l H e<|.ref t)(Z:Pv cx l H i<|.int k)(f:I[k]?=S x)(w:k<1000000):Pv cx l H (.idx e i) (.ref x.1):=iJ Y h.t Z (FC f) w
theorem oX(O:cx.hn=T)(h:jc H t I)(Y:Pv cx l H e<|.ref t):Pv cx l H (.bi .len<|.cons e .nil) (.int I.length):=(iB O Y h.t h.len).to (by unfold bO;exact aa (aL ..) J)
structure fS (I:List ay) (k:Int) (p:Nat):Prop where
 le:p<=I.length
 up:∀i e,i<p->I[i]?=some e->hi e<k
 dn:∀i e,p<=i->I[i]?=some e->k<=hi e
theorem CK(h:jc H t I)(P:fS I k p):ew (n+1) T H 11 [.ref t,.int k] (.int p):=λs g Q X q=>by{
have h:=h.gr g;refine aR [S _,S _,N,N,N] aT J (aW (ar) (aW (oX J h<|ab J) (qa (λm C Y=>Y=s/\∃(a b:Nat) (z:Option V),C=[S _,S _,S<|.int a,S<|.int b,z]/\(a<=p/\p<=b/\b<=I.length)/\m=b-a) _ ⟨J,0,_,N,J,(bp (bW _) P.le<|cD _),J⟩ J
 λz8 m C Y i Z=>?_)))
refine let c:=_;(?_:c)
obtain⟨B,a,b,z,E,⟨l,i2,f⟩,R⟩:=i;clear g;subst B E R;refine let G:=_;let M:=_;let j:=_;let U:=_;(?_:qJ G M _ _ _ _ j U _)
refine⟨_,iR (ab J)<|ab J,λo=>?_,λo=>?_⟩
.
 refine let c:=_;(?_:c)
 exact ai (λA d=>af (h.at<|cO d f) λe L=>ai (λu y=>ai (λv x=>ai (λD w=>aW ((vG (iz (ab J)<|ab J) (ar (i:=2)) ⟨by decide,by decide⟩).to<|congrArg V.int J)<|aH (iR (ZN (iy (rm h (ab J) (ab J) u w) v) D)<|ab J) (λt=>aW (iz (ab J) ar)<|bA<|Z _ _ _ (uR (cN A d)<|oU A) ⟨J,_,_,_,J,(bp (BP λr=>absurd (of_decide_eq_true t)<|bT.mpr<|P.dn _ e r u) i2 f),J⟩) λt=>aW (ab J)<|bA<|Z _ _ _ (aaV A d) ⟨J,_,_,_,J,(bp l (dw λr=>of_decide_eq_false t<|P.up _ e r u)<|am (bU d) f),J⟩)<|x)<|y)<|L) (by have h:=cM.mp<|of_decide_eq_true o;exact⟨(aaU (by decide)).mpr<|(Nat.mul_two a).symm▸gM (bU h) a,aaS<|(Nat.two_mul b).symm▸aaT h b⟩)
.
 have:=kj l<|am i2<|dw λz=>of_decide_eq_false o<|cM.mpr z;clear o Z c h f i2 l z8 P;subst this;exact aZ (ab J) q}
theorem WJ(G:∀p q:Int×Int,f (dp p) (dp q)=S (decide<|p=q)){b c:bB}:cQ f (b.map dp) (c.map dp)=S (decide<|b=c):=by{
induction b generalizing c with
|nil=>obtain⟨⟩:=c<;>rfl
|cons p b Z=>{
induction c using aS with
|nil=>rfl
|cons q c=>show(match f (dp p) (dp q),cQ f (b.map dp) (c.map dp) with|some a,S b=>S (a&&b)|_,_=>N)=_;refine aa (G ..)<|aa Z ?_;show S (decide (p=q)&&decide (b=c))=_;exact au (aa6 ..)<|congrArg S<|decide_eq_decide.mpr<|au (Bf.injEq p b q c) nN}}
theorem IS:cA (k+2) H (dp p) (dp q)=S (decide<|p=q):=by show S ((p.1==q.1)&&((p.2==q.2)&&T))=_;exact aa (qi ..)<|congrArg S<|(aa6 (p.1=q.1)<|p.2=q.2).symm.trans<|decide_eq_decide.mpr Prod.ext_iff.symm
theorem BZ:cA 9 H (bv b) (bv c)=S (decide<|b=c):=WJ (f:=cA 8 H) λ_ _=>IS
theorem sL(h:Pv cx l H e<|bv b)(C:Pv cx l H A<|bv c):Pv cx l H (.cmp e .eq A) (.bool<|decide<|b=c):=bC h C λ_=>BZ
def pe(I:List ay)(b:bB)(p:Nat):Option ay:=(I[p]?).filter λe=>decide<|e.2.box=b
def J7(p:Nat):Option ay->V
 |some _=>.int p
 |none=>.int<|-1
theorem JW{b:bB}(h:jc H t I)(D:b≠[])(P:fS I (gg b) p):ew (n+2) T H 12 [.ref t,bv b] (J7 p<|pe I b p):=λc g Q X q=>by{
have h:=h.gr g;refine aR [S _,S<|bv b,N] aT J<|aW (cH (aB (ab J)<|aB (Do (ab J) D) bc)<|CK h P) ?_;refine let a:=_;(?_:a)
by_cases O:p<I.length
·(refine sZ (h.at O) λe u v _ w=>?_)
 unfold pe at q;rw[u,iQ] at q;refine aH (dD (iR (ab J)<|oX tt h<|ab J) λ_=>sL (iy (rm h (ab J) (ab J) u w) v)<|ab J) (λz=>aZ (ab J) ?_) λz=>bA<|aZ ar ?_
 .rw[(bm.mp z).2] at q;exact q
 .rw[decide_eq_true<|cM.mpr O,BS] at z;rw[z] at q;exact q
.unfold pe at q;rw[iP<|dw O] at q;refine aH (dD (q:=F) (iR (ab J)<|oX tt h<|ab J) λz=>absurd (cM.mp<|of_decide_eq_true z) O) (λz=>?_) λz=>bA<|aZ ar q;rw[ny] at z;exact ak z}
structure kP (H:MH) (s t:Addr) (I:List ay):Prop where
 s:∃dx,H s=some (.inst 13 dx [(101,.ref t)])
 l:jc H t I
theorem kP.gr{a t:Addr}(h:kP H a t I)(g:Gr H Y):kP Y a t I:=⟨by(refine af (h.s) λi e=>?_);exact⟨i,g.at e⟩,h.l.gr g⟩
theorem tc(h:pe I b p=S e):I[p]?=S e/\e.2.box=b:=ai (λG M=>⟨G,of_decide_eq_true M⟩)<|mj.mp h
theorem U1{b:bB}(h:kP H s t I)(D:b≠[])(P:fS I (gg b) p):ew (n+3) T H 14078 [.ref s,bv b,.int G] (iV<|be G<|pe I b p):=λj g Q X q=>by{
have h:=h.gr g;refine af (h.s) λi c=>aR [S _,S<|bv b,S _,N] aT J<|aW (cH (aB (aN (ab J) c J)<|aM J)<|JW h.l D P) ?_
induction e:pe I b p using aV with
|none=>replace q:=e▸q;exact aH (eW (q:=F) (iR (ab J) ar) λz=>ak z) (λ_=>aZ eh q) λz=>ak z
|some x=>{
refine let f:=_;(?_:f)
rw[e] at q;have u:=(tc e).1;refine af (cW.mp u) λO _=>?_;refine sZ (h.l.at O) λB d v _ w=>?_;replace d:=u▸d
(obtain rfl:=aA d)
have a:=rm (cx:=an (n+2) T) (l:=[S _,S<|bv b,S<|.int G,S _]) (e:=.attr (.loc 0) 101) (i:=.loc 3) h.l (aN (ab J) c J) (ab J) u w;delta be at q;refine aH (eW (iR (ab J) ar) λ_=>ni<|cH (aB a<|aM J)<|po v) (λz=>aZ eh ?_) λz=>bA<|aZ a ?_
.rw[decide_eq_false<|bT.mpr<|cR p,Bt] at z;rw[iQ,eP z] at q;exact q
.rw[decide_eq_false<|bT.mpr<|cR p,Bt] at z;rw[iQ,dX z] at q;exact q}}
theorem HI{k:Nat}(h:k<1000000):(k:Int)<2^60:=ql (cM.mpr h) (by decide)
theorem lB(O:cx.hn=T)(h:Pv cx l H e<|.tup Z)(B:uo w Z l=S C)(k:wpSs cx X r Q C H):wpSs cx X (.cons (.asgT w e) r) Q l H:=cc ⟨O,h H Gr.rfl _ _<|bq B k⟩
theorem WM(O:cx.hn=T)(h:Pv cx l H e<|.ref a)(R:H a=S (.list L))(b:L.length<=1000000):Ex cx l H (.bi .list<|.cons e .nil) (mW H L) E:=λQ X q _=>⟨O,h H Gr.rfl X _<|bl L (congrArg eS R) b λc u=>q _ _ ⟨c,J,u,J⟩⟩
def vT(I:List ay)(k:Int)(p:Nat):Option ay:=(I[p]?).filter λe=>!decide (lo e>k)
theorem Xk(h:kP H s t I)(P:fS I k p):ew (n+2) T H 14079 [.ref s,.tup<|.int k::a,.int G] (iV<|be G<|vT I k p):=λb g Q X q=>by{
have h:=h.gr g;refine af (h.s) λi B=>?_;have Y:∀{l:ae},l.at 1=S (.tup<|.int k::a)->Pv (an (n+1) T) l b (.idx _<|.int 0) _:=λe=>cG (ab e) (ar) aT (by decide);refine aR [S _,S _,S _,N,N] aT J<|aW (cH (aB (aN (ab J) B J)<|aB (Y J) bc)<|CK h.l P) ?_;refine let f:=_;let C:=_;let j:=_;let U:=_;(?_:wpSs f C _ j U _)
by_cases O:p<I.length
·(refine sZ (h.l.at O) λe u v D w=>?_)
 unfold vT at q;rw[u,iQ] at q;refine aH (gF (ab J)<|oX tt h.l<|aN (ab J) B J) (λz=>absurd (fL.mp<|beq_iff_eq.mp z)<|fu O) λ_=>bA<|aW (rm h.l (aN (ab J) B J) (ab J) u w)<|aH (eW (nV (Do (iy (ab J) v) D)<|Y J) λ_=>ni<|cH (aM aT)<|po v) (λz=>aZ eh ?_) λz=>bA<|aZ (ab J) ?_
 .cases d:decide (lo e>k) with
  |true=>rw[d] at q;exact q
  |false=>rw[d] at q;rw[show decide (gg e.2.box>k)=F from d,Bt] at z;have q:Q (iV<|be G<|S e) b:=q;unfold be at q;rw[iQ,eP z] at q;exact q
 ·(refine ai (λc m=>?_)<|ye.mp z)
  rw[show decide (lo e>k)=F from c] at q;have q:Q (iV<|be G<|S e) b:=q;unfold be at q;rw[iQ,dX m] at q;exact q
.unfold vT at q;rw[iP<|dw O] at q;exact aH (gF (ab J)<|oX tt h.l<|aN (ab J) B J) (λ_=>aZ eh q) λz=>absurd (congrArg xZ<|kj P.le<|dw O)<|beq_eq_false_iff_ne.mp z}
theorem Cq:(bO I).eraseIdx p=bO (I.eraseIdx p):=by{
induction I generalizing p with
|nil=>rfl
|cons x I Z=>{
induction p using fK with
|zero=>rfl
|succ p=>exact congrArg (V.ref x.1::·) Z}}
theorem Yy:(bO I).insertIdx p (.ref e.1)=bO (I.insertIdx p e):=by{
induction I generalizing p with
|nil=>obtain⟨⟩:=p<;>rfl
|cons x I Z=>{
induction p using fK with
|zero=>rfl
|succ p=>exact congrArg (V.ref x.1::·) Z}}
theorem U3{b:bB}(h:kP H s t I)(D:b≠[])(P:fS I (gg b) p)(u:pe I b p=S e):cI (n+3) T H 14080 [.ref s,bv b] (λv Y=>v= .ref e.1/\Y=H.set t (.list<|bO<|I.eraseIdx p)) E:=λQ X q _=>by
 refine af (h.s) λi B=>aR [S _,S<|bv b,N] aT J (aW ((cH (aB (aN (ab J) B J)<|aM J)<|JW h.l D P).to (by exact congrArg _ u)) (aH (iR (ab J) ar) (λz=>absurd (of_decide_eq_true z)<|bT.mpr<|cR p) λ_=>bA
  (Ah (E:=λ_ _=>False) (λQ X q _=>Fx (aN (ab J) B J) h.l.t tt (aM J) (ir h.l.t ⟨(bp (cR p) (HI<|cO (cW.mp (tc u).1).1<|bh h.l.z) h.l.len),bq (FC (tc u).1) (q _ _ ⟨J,by exact aa Cq J⟩)⟩)) q λ_ _ z=>z.elim)))
theorem ZK(h:kP H s t I):ew (n+1) T H 14082 [.ref s] (.int I.length):=λa g Q X q=>by have h:=h.gr g;exact af (h.s) λi B=>aR [S _] aT J<|aZ (oX tt h.l<|aN (ab aT) B J) q
theorem TC(h:kP H s t I):cI (n+1) T H 14081 [.ref s] (mW H<|bO I) E:=λQ X q _=>by exact af (h.s) λi B=>aR [S _] aT J<|Ah (E:=λ_ _=>False) (WM tt (aN (ab aT) B J) h.l.t h.l.len) q λ_ _ z=>z.elim
theorem Fm{l:ae}{cx:Cx}{X:Addr->ae->MH->Prop}{Q:Fl->ae->MH->Prop}{r:MSs}{i:Nat}{e:ME}{x y:Int}(Z:l.at i=S (.int x))(h:Pv cx l H e<|.int y)(k:wpSs cx X r Q (l.set i<|S<|.int<|x+y) H)(o:fh i l.length=T:=by exact tt):wpSs cx X (.cons (.aug i .add e) r) Q l H:=cc (bq Z<|h H Gr.rfl _ _ ⟨fY.mp o,k⟩)
def putL(s a:Addr)(G j R:Int)(p k:Nat):ae:=[S<|.ref s,S<|.ref a,S<|.int G,S<|.int j,S<|.int R,S<|.int p,S<|.int k]
theorem zK{H:MH}(O:cx.hn=T)(B:H s=S (.inst 13 i [(101,.ref t)]))(h:jc H t I)(v:∀e,I[k]?=S e->M=decide (lo e<=R))(r:I[k]?=N->M=F):Pv cx (putL s a G j R p k) H (.bop T<|.cons (.cmp (.loc 6) .lt<|.bi .len<|.cons (.attr (.loc 0) 101) .nil)<|.cons (.cmp (.idx (.idx (.attr (.idx (.attr (.loc 0) 101)<|.loc 6) 97)<|.int 0)<|.int 0) .le<|.loc 4) .nil) (.bool M):=by{
refine let b:=_;(?_:b)
by_cases w:k<I.length
·(refine sZ (h.at w) λe u c D f=>?_)
 refine(dD (iR (ab J)<|oX O h<|aN (ab J) B J) λ_=>FV (Do (iy (rm h (aN (ab J) B J) (ab J) u f) c) D)<|ab J).to ?_;refine aa (decide_eq_true<|cM.mpr w)<|(v e u)▸?_;rfl
.refine(dD (q:=F) (iR (ab J)<|oX O h<|aN (ab J) B J) λz=>absurd (cM.mp<|of_decide_eq_true z) w).to ?_;exact aa (ny ..)<|aa (r<|iP<|dw w) J}
theorem qw{b:bB}(h:b.length=1):∃p,b=[p]:=by{
rcases b with _|⟨p,_|⟨_,_⟩⟩
.cases h
.exact⟨p,J⟩
.cases h}
theorem MK{H:MH}(B:H s=S (.inst 13 i [(101,.ref t)]))(h:jc H t I)(R:cw H a r)(D:r.box.length=1)(P:fS I (gg r.box) p)(k:wpSs (an (n+2) T) (fy X) (.cons (.while_ (.bop T<|.cons (.cmp (.loc 6) .lt<|.bi .len<|.cons (.attr (.loc 0) 101) .nil)<|.cons (.cmp (.idx (.idx (.attr (.idx (.attr (.loc 0) 101)<|.loc 6) 97)<|.int 0)<|.int 0) .le<|.loc 4) .nil) Kt) (.cons (.ite (.cmp (.loc 6) .gt<|.loc 5) (.cons (.ite (.cmp (.attr (.idx (.attr (.loc 0) 101)<|.loc 5) 97) .eq<|.attr (.loc 1) 97) (.cons (.raise<|.callF 5<|.cons (.str 182) .nil) .nil) .nil)<|.cons (.raise<|.callF 5<|.cons (.str 189) .nil) .nil) .nil) (.cons (.expr<|.callM (.attr (.loc 0) 101) 283<|.cons (.loc 5)<|.cons (.loc 1) .nil) .nil))) (cL Q) (putL s a G (gg r.box) (jV r.box) p p) H):gk CT FT (n+3) T 14077 [.ref s,.ref a,.int G] Q X H:=by
 refine af (qw D) λb e=>?_;have c:Pv (an (n+2) T) [S<|.ref s,S<|.ref a,S<|.int G,N,N,N,N] H (.idx (.attr (.loc 1) 97)<|.int 0) (.tup [.int<|gg r.box,.int<|jV r.box]):=by have:=iy (cx:=an (n+2) T) (l:=[S<|.ref s,S<|.ref a,S<|.int G,N,N,N,N]) (e:=.loc 1) (ab J) R;rw[e] at this ⊢;exact cG this (ar (i:=((0:Nat):Int))) aT (by decide)
 exact aR _ aT aT<|lB tt c aT<|aW (cH (aB (aN (ab J) B aT)<|aM aT)<|CK h P)<|aW (ab J) k
theorem Ut(h:kP H s t I)(R:cw H a r)(D:r.box.length=1)(P:fS I (gg r.box) p)(f:∀e,I[p]?=S e->¬lo e<=jV r.box):cI (n+3) T H 14077 [.ref s,.ref a,.int G] (λv Y=>v= .none/\Y=H.set t (.list<|bO<|I.insertIdx p (a,r))) E:=λQ X q _=>by{
refine af (h.s) λl B=>?_;refine MK B h.l R D P<|qa (λm C Y=>C=putL s a G (gg r.box) (jV r.box) p p/\Y=H) 0 ⟨J,J⟩ tt λz8 m C Y i _=>?_;refine let b:=_;let c:=_;let j:=_;(?_:qJ b c _ _ _ _ j _ _)
obtain⟨g,k⟩:=i;clear D R;refine aa g ?_;subst k;refine let b:=_;let c:=_;let j:=_;let U:=_;(?_:qJ b c _ _ _ _ j U _)
refine⟨_,zK (M:=F) tt B h.l (λe u=>(decide_eq_false<|f e u).symm) λ_=>J,(λz=>ak z),λ_=>?_⟩;exact aH (r:=.cons _ .nil) (nV (ab J)<|ab J) (λz=>absurd (of_decide_eq_true z)<|uX _) λ_=>bA (nT (E:=λ_ _=>False) (P:=λv d=>d=Y.set t (.list<|bO<|I.insertIdx p (a,r)))
 (λQ X q _=>Fx (aN (ab J) B J) h.l.t tt (aM aT) (ir h.l.t ⟨(bp (cR p) (dG.mpr (by unfold bO;exact aa (aL ..) P.le)) h.l.len),(q _ _ (by exact aa (Yy (e:=(a,r))) J))⟩)) (λv d e=>bA<|q _ _ ⟨J,e⟩) λ_ _ z=>z.elim)}
theorem Hx(h:k<b):b-(k+1)<b-k:=uR h<|iO k
theorem A4(h:kP H s t I)(R:cw H a r)(D:r.box.length=1)(P:fS I (gg r.box) p)(h0:I[p]?=S e0)(E:lo e0<=jV r.box)(o:∀e∈I,e.2.live G=T):cI (n+4) T H 14077 [.ref s,.ref a,.int G] (λ_ _=>False) (λx Y=>Gr H Y/\H x=N/\∃c,pI c x Y):=λQ X _ M=>by{
refine af (h.s) λdx B=>?_;refine af (cW.mp h0) λO _=>?_;refine MK B h.l R D P<|qa (λm C Y=>Y=H/\∃k,C=putL s a G (gg r.box) (jV r.box) p k/\p<=k/\m=I.length-k) (I.length-p) ⟨J,p,J,cD _,J⟩ tt λz8 m C Y i Z=>?_;refine let l:=_;(?_:l)
obtain⟨e1,k,e2,w,e3⟩:=i;subst e1 e2 e3;have h1:p<k->wpSs (an (n+3) T) (fy X) (.cons (.ite (.cmp (.loc 6) .gt<|.loc 5)
   (.cons (.ite (.cmp (.attr (.idx (.attr (.loc 0) 101)<|.loc 5) 97) .eq<|.attr (.loc 1) 97) (.cons (.raise<|.callF 5<|.cons (.str 182) .nil) .nil) .nil)<|.cons (.raise<|.callF 5<|.cons (.str 189) .nil) .nil) .nil)
  (.cons (.expr<|.callM (.attr (.loc 0) 101) 283<|.cons (.loc 5)<|.cons (.loc 1) .nil) .nil)) (cL Q) (putL s a G (gg r.box) (jV r.box) p k) Y:=λq=>by{
refine let y:=_;let zb:=_;let j:=_;let U:=_;(?_:wpSs y zb _ j U _)
refine af (h.l.at O) λe L=>?_;refine let l:=_;(?_:l)
refine zG (L) λu v _ f=>?_;refine aH (nV (ab J)<|ab J) (λ_=>aH (sL (iy (rm h.l (aN (ab J) B J) (ab J) u f) v)<|iy (ab J) R) (λ_=>ua .e1 λx h2 g n r=>M _ _ ⟨g,n,_,r⟩) λ_=>bA<|ua .e5 λx h2 g n r=>M _ _ ⟨g,n,_,r⟩) λz=>absurd (cM.mpr q)<|of_decide_eq_false z}
induction u:I[k]? using aV with
|none=>
 refine let y:=_;let zb:=_;let j:=_;let U:=_;(?_:qJ y zb _ _ _ _ j U _)
 refine⟨_,zK (M:=F) J B h.l (λe d=>by replace d:=u▸d;exact aD d) λ_=>J,(λz=>ak z),λ_=>h1<|(λz=>sD w<|eE z) λz=>?_⟩;replace u:=h0▸z▸u;cases u
|some e=>{
refine let l:=_;(?_:l)
induction hd:decide (lo e<=jV r.box) using aX with
|false=>{
refine⟨_,zK (M:=F) tt B h.l (λA d=>by replace d:=u▸d;(refine au (aA d) ?_);exact hd.symm) λ_=>J,(λz=>ak z),λ_=>h1<|(λz=>sD w<|eE z) λz=>?_⟩;replace u:=h0▸z▸u
(obtain rfl:=aA u)
exact of_decide_eq_false hd E}
|true=>{
refine af (cW.mp u) λb _=>?_;refine sZ (h.l.at b) λA d v _ f=>?_;replace d:=u▸d
(obtain rfl:=aA d)
refine let y:=_;let zb:=_;let j:=_;let U:=_;(?_:qJ y zb _ _ _ _ j U _)
refine⟨_,zK (M:=T) J B h.l (λA d=>by replace d:=u▸d;(refine au (aA d) ?_);exact hd.symm) (λz=>by replace z:=u▸z;cases z),λ_=>?_,λz=>ak z⟩;refine aH (r:=.nil) (cH (aB (rm h.l (aN (ab J) B J) (ab J) u f)<|aM aT)<|po v) (λ_=>Fm J ar<|bA<|Z _ _ _ (Hx b) ⟨J,k+1,J,kU w,J⟩) λz=>?_;replace z:=(o e<|du u)▸z;exact ak z}}}
structure jU (I:List ay):Prop where
 up:I.Pairwise λx y=>hi x<lo y
 le:∀e∈I,lo e<=hi e
theorem jU.at(Y:jU I){i j:Nat}(h:i<j)(f:I[i]?=S x)(n:I[j]?=S y):hi x<lo y:=by refine af (cW.mp f) λG g=>?_;obtain⟨M,a⟩:=cW.mp n;exact au g<|au a<|BR.mp Y.up i j G M h
theorem AM(Y:jU I)(k:Int):∃p,fS I k p:=by{
induction I with
|nil=>exact⟨0,cD _,λi e h=>absurd h<|lV i,λi e _ h=>(aD h)⟩
|cons x I a=>{
by_cases f:hi x<k
.obtain⟨p,G,M,C⟩:=a (⟨(sC.mp Y.up).2,λe u=>Y.le e<|cq _ u⟩);refine⟨p+1,nG G,λi e Z u=>?_,λi e Z u=>?_⟩
 .induction i with
  |zero=>(refine au (aA u) ?_);exact f
  |succ i=>exact M i e (sB Z) u
 .induction i with
  |zero=>exact absurd Z<|Nat.not_succ_le_zero p
  |succ i=>exact C i e (Bg Z) u
.refine⟨0,bW _,λi e h=>absurd h<|lV i,λi e _ u=>?_⟩
 induction i using fK with
 |zero=>(refine au (aA u) ?_);exact bT.mp f
 |succ i=>exact cV (nA<|lW (bT.mp f)<|Y.at (kf i) aT u)<|Y.le e<|du u}}
theorem NQ(Y:jU I)(P:fS I k p)(u:e∈I)(G:lo e<=k)(M:k<=hi e):I[p]?=S e:=by{
refine af (oV.mp u) λj h9=>?_;rcases BI j p with h|h|h
.exact absurd (P.up j e h h9)<|bT.mpr M
.exact h▸h9
·(refine af (cW.mp h9) λH _=>?_)
 have O:=bX<|lX h H;exact absurd (xC (Y.at h O h9) G)<|bT.mpr<|P.dn p _ (cD _) O}
def Is(R:List ay)(q:ay->Prop)(o:Option ay):Prop:=∀e,o=S e↔e∈R/\q e
theorem Is.eq(h:Is R q o)(C:Is R q B):o=B:=by{
induction B using aV with
|none=>{
induction o using aV with
|none=>rfl
|some e=>exact nomatch (C e).mpr<|(h e).mp aT}
|some e=>exact(h e).mpr<|(C e).mp aT}
theorem Is.perm(p:R.Perm L)(h:Is R q o):Is L q o:=λe=>(h e).trans<|and_congr_left λ_=>p.mem_iff
theorem LR(Y:jU I)(P:fS I (gg b) p):Is I (λe=>e.2.box=b) (pe I b p):=λe=>by{
refine⟨λh=>?_,λh=>?_⟩
·(refine ai (λG M=>?_)<|tc h)
 exact⟨du G,M⟩
.obtain⟨u,D⟩:=h;have:=NQ Y P u (by refine D▸?_;exact cX _) (by refine D▸?_;exact(Y.le e u));exact mj.mpr ⟨this,decide_eq_true D⟩}
theorem A7(Y:jU I)(P:fS I k p):Is I (λe=>lo e<=k/\k<=hi e) (vT I k p):=λe=>by{
refine⟨λh=>?_,λh=>?_⟩
.obtain⟨G,M⟩:=mj.mp h;exact(bp (du G) (bT.mp<|of_decide_eq_false<|eP M)<|P.dn p e (cD _) G)
.have:=NQ Y P h.1 h.2.1 h.2.2;exact mj.mpr ⟨this,by refine aa (decide_eq_false<|bT.mpr h.2.1) ?_;rfl⟩}
theorem fS.o5(P:fS I k p)(h:e∈I.take p):hi e<k:=by{
refine af (oV.mp h) λi Z=>?_;replace Z:=aaL▸Z;split at Z
.exact P.up i e ‹_› Z
.exact aD Z}
theorem fS.first(Y:jU I)(P:fS I k p)(h:e∈I.drop p):∃x,I[p]?=S x/\lo x<=lo e:=by{
refine af (oV.mp h) λi Z=>?_;replace Z:=List.getElem?_drop▸Z
induction i using fK with
|zero=>exact(aG e Z<|cX _)
|succ i=>obtain⟨o,_⟩:=cW.mp Z;have O:=bX<|cN (eF p _) o;exact(aG _ O<|cV (Y.le _<|du O)<|nA<|Y.at (jh<|kf i) O Z)}
theorem Zl{D:Type}{x:D}{I:List D}:∀{p:Nat},p<=I.length->I.insertIdx p x=I.take p++x::I.drop p:=by{
induction I with
|nil=>exact λ{p} h=>by refine aa (Gh.mp h) ?_;rfl
|cons y I Z=>{
intro p h
induction p using fK with
|zero=>rfl
|succ p=>exact congrArg _<|Z<|Bg h}}
theorem jU.o6(Y:jU I)(P:fS I (lo x) p)(f:lo x<=hi x)(E:∀e,I[p]?=S e->¬lo e<=hi x):jU (I.insertIdx p x)/\(I.insertIdx p x).Perm (x::I):=by{
refine⟨⟨?_,λe u=>(bJ.mp<|(aa7 x I P.le).mem_iff.mp u).elim (λz=>aa z f)<|Y.le e⟩,(aa7 x I P.le)⟩;refine aa (Zl P.le) ?_;have B:=Y.up;rw[<-Hf p I,BU] at B;refine ai (λG L=>ai (λM C=>?_)<|L)<|B;have m:∀e∈I.drop p,hi x<lo e:=λe u=>by exact af (P.first Y u) λy L=>ai (λn o=>xC (xB.mp<|E y n) o)<|L
refine BU.mpr<|bp G (sC.mpr ⟨m,M⟩) λa R b D=>?_;clear m M L G B E f Y;rcases bJ.mp D with rfl|D
.exact P.o5 R
.exact C a R b D}
theorem fS.o7(Y:jU I)(P:fS I (lo x) p):(∃e∈I,lo e<=hi x/\lo x<=hi e)↔∃e,I[p]?=S e/\lo e<=hi x:=by{
refine⟨λh=>?_,λh=>?_⟩
·(refine eN (h) λe u G M=>?_)
 rw[<-Hf p I] at u;rcases cp.mp u with u|u
 .exact absurd (P.o5 u)<|bT.mpr M
 ·(refine aU (P.first Y u) λy n o=>?_)
  exact(aG y n<|cV o G)
·(refine aU (h) λe u G=>?_)
 exact(bl e (du u) G<|P.dn p e (cD _) u)}
def dW(k:Nat):Nat->List V
 |0=>[]
 |m+1=>.int k::dW (k+1) m
theorem Qe:dW k m++[.int ((k+m:Nat):Int)]=dW k (m+1):=by{
induction m generalizing k with
|zero=>rfl
|succ m Z=>show V.int k::(dW _ m++[_])=V.int k::dW _ _;exact au Z<|aa (fZ ..)<|aa (fF 1 m) J}
theorem nk:jJ n=dW 0 n:=by{
induction n with
|zero=>rfl
|succ n Z=>refine au Qe<|au Z<|aa (da ..) ?_;rfl}
theorem ow:(dW k m).length=m:=by{
induction m generalizing k with
|zero=>rfl
|succ m Z=>exact congrArg rZ Z}
theorem mu{m:Nat}(h:Pv (an n T) l H e<|.int m)(E:m<=1000)(k:cC n X t (λ_=>True) b (dE (an n T) X r Q) (dW 0 m) l H):wpSs (an n T) X (.cons (.for_ t (.range1 e) b) r) Q l H:=iY tt (by refine aa ow ?_;exact bh E) (λs k=>zj h (bh E) s (by refine aa nk ?_;exact k)) k
theorem zB{b:bB}{k:Nat}(h:b[k]?=S p):(b.map dp)[k]?=S (dp p):=by refine aa (gy)<|aa h ?_;rfl
theorem vS{k:Nat}(h:Pv cx l H e<|bv b)(Z:Pv cx l H i<|.int k)(w:b[k]?=S p)(E:k<1000000):Pv cx l H (.idx (.idx e i)<|.int 0) (.int p.1)/\Pv cx l H (.idx (.idx e i)<|.int 1) (.int p.2):=
 have:=cG h Z (zB w) E
 ⟨cG this (ar) J (by decide),cG this (ar) J (by decide)⟩
def df:bB->bB->Bool
 |p::a,q::b=>!(decide (p.1>q.2)||decide (q.1>p.2))&&df a b
 |_,_=>T
theorem Sj(o:a.length=b.length)(E:a.length<=1000):∀(k:Nat) (x:Option V),k+m=a.length->Q (.bool<|df (a.drop k)<|b.drop k) H->cC n X (.one 2) (λ_=>True) Mt (dE (an n T) X (.cons (.ret<|.bool T) .nil)<|cL Q) (dW k m) [S<|bv a,S<|bv b,x] H:=by{
induction m with
|zero=>intro k x w q;rw[Hg (i:=k)<|dr w.symm] at q;exact fH trivial<|aZ eU q
|succ m Z=>{
intro k x w q;have G:=w▸jh (kf m);have M:=o▸G;have f:=cO G<|bh E;rw[xY G,xY M] at q;have p:=vS (cx:=an n T) (l:=[S<|bv a,S<|bv b,S _]) (H:=H) (e:=.loc 0) (i:=.loc 2) (ab J) (ab J) (bX G) f;have P:=vS (cx:=an n T) (l:=[S<|bv a,S<|bv b,S _]) (H:=H) (e:=.loc 1) (i:=.loc 2) (ab J) (ab J) (bX M) f;refine dh trivial aT (aH (eW (nV p.1 P.2) λ_=>nV P.1 p.2) (λz=>aZ eU ?_) λz=>bA (Z _ _ (by exact(fZ ..).trans<|aa (fF 1 m) w) ?_))
.replace q:Q (.bool<|!(decide (a[k].1>b[k].2)||decide (b[k].1>a[k].2))&&df _ _) H:=q;rw[z] at q;exact q
.replace q:Q (.bool<|!(decide (a[k].1>b[k].2)||decide (b[k].1>a[k].2))&&df _ _) H:=q;rw[z] at q;exact q}}
theorem kq{x y:Nat}(h:Pv cx l H a<|.int x)(C:Pv cx l H b<|.int y):Pv cx l H (.bin .add a b) (.int (x+y:Nat)):=iz h C
theorem oj{x y:Nat}(h:Pv cx l H a<|.int x)(C:Pv cx l H b<|.int y)(n:y<=x):Pv cx l H (.bin .sub a b) (.int (x-y:Nat)):=(mM h C).to<|congrArg V.int (aa8 n).symm
theorem Qx{x y:Nat}(h:Pv cx l H a<|.int x)(C:Pv cx l H b<|.int y)(n:0<y):Pv cx l H (.bin .mod a b) (.int (x %y:Nat)):=λI g X Q q=>h I g X _<|C I g X _ ⟨cM.mpr n,q⟩
theorem kI{k:Nat}(h:Pv cx l H e<|.int k)(w:k<=1000000):Pv cx l H (.bin .shl (.int 1) e) (.int (2^k:Nat)):=λI g X Q q=>h I g X _ ⟨(bp (cR k) (dG.mpr w) (by decide)),by rw[(by refine aa (Int.one_mul ..)<|aa (BV ..) ?_;rfl:(1:Int)*2^(Int.toNat ↑k)=((2^(Int.toNat ↑k):Nat):Int))];exact q⟩
theorem um(h:Pv cx l H a<|.bool p)(C:p=T->Pv cx l H b (.bool q))(d:p=T->q=T->Pv cx l H c (.bool r)):Pv cx l H (.bop T<|.cons a<|.cons b<|.cons c .nil) (.bool<|p&&(q&&r)):=λI g X Q k=>
 h I g X (λv H=>bR (λt H=>if t=T then wpB cx X l T _ Q H else Q v H) v H) (by{
clear h a
induction p using aX with
|false=>exact k
|true=>exact dD (C J) (d J) I g X Q k})
def Cv(d:Nat):Nat->List (Nat×Nat)->Nat->Prop
 |m,[],e=>m=e
 |m,p::r,e=>(p.1=m/\p.2<=d/\m %2^(d-p.2)=0)/\Cv d (m+2^(d-p.2)) r e
theorem Cv.i9(w:k<=d)(R:e %2^(d-k)=0):∀{m:Nat},Cv d m r e->Cv d m (r++[(e,k)]) (e+2^(d-k)):=by{
induction r with
|nil=>exact λ{m} h=>by refine aa h ?_;exact⟨(bp J w R),J⟩
|cons p r Z=>exact λ{m} h=>⟨h.1,Z h.2⟩}
def pp(p:Nat×Nat):V:=.tup [.int p.1,.int p.2]
def pC(m e d:Nat)(f:Addr)(a k:Nat):ae:=[S<|.int m,S<|.int e,S<|.int d,S<|.ref f,S<|.int a,S<|.int k]
theorem SE(E:d<=1000)(w:k<=d)(R:a %2^(d-k)=0)(h:∀k,k<=d->a %2^(d-k)=0->wpSs (an n T) X r Q (pC m e d f a k) H):wpSs (an n T) X (.cons (.while_ (.bop T<|.cons (.cmp (.loc 5) .gt<|.int 0)<|.cons (.cmp (.bin .mod (.loc 4)<|.bin .shl (.int 1)<|.bin .add (.bin .sub (.loc 2)<|.loc 5)<|.int 1) .eq<|.int 0)<|.cons (.cmp (.bin .add (.loc 4)<|.bin .shl (.int 1)<|.bin .add (.bin .sub (.loc 2)<|.loc 5)<|.int 1) .le<|.bin .add (.loc 1)<|.int 1) .nil) Jb) r) Q (pC m e d f a k) H:=
 qa (λj C Y=>Y=H/\∃k,C=pC m e d f a k/\(k<=d/\a %2^(d-k)=0)/\j=k) k ⟨J,k,J,⟨w,R⟩,J⟩ tt λz8 j C Y i Z=>by{
obtain⟨g,k,I,⟨w,R⟩,b⟩:=i;subst g I b;have s:Pv (an n T) (pC m e d f a j) Y (.bin .shl _<|.bin .add (.bin .sub (.loc 2)<|.loc 5)<|.int 1) _:=kI (kq (oj (ab J) (ab J) w)<|ar) (am (nG<|am (nK _ _) E) (by decide));refine⟨_,um (nV (ab J)<|ar) (λ_=>gF (Qx (ab J) s<|sF _)<|ar) λ_ _=>FV (kq (ab J) s)<|kq (ab J)<|ar,λu=>?_,λ_=>h j w R⟩
.
 obtain⟨o,c⟩:=bm.mp u;exact aW (oj (ab J) (ar)<|cM.mp<|of_decide_eq_true o) (bA (Z _ _ _ (Nat.sub_lt (cM.mp<|of_decide_eq_true o) Nat.one_pos) ⟨J,j-1,J,⟨am (nK _ _) w,by exact aa ((Nat.sub_sub_right _<|cM.mp<|of_decide_eq_true o).trans<|Nat.sub_add_comm w)<|fL.mp<|beq_iff_eq.mp (bm.mp c).1⟩,J⟩))}
theorem ND(w:k<=d)(R:a<=e)(h:e+1<a+2^(d-k)):k<d:=sD w λz=>by clear w;subst z;rw[xW] at h;exact absurd h<|je.mpr<|nG R
theorem Sp(E:d<=1000)(b:a<=e)(w:k<=d)(R:a %2^(d-k)=0)(h:∀k,k<=d->a %2^(d-k)=0->a+2^(d-k)<=e+1->wpSs (an n T) X r Q (pC m e d f a k) H):wpSs (an n T) X (.cons (.while_ (.cmp (.bin .add (.loc 4)<|.bin .shl (.int 1)<|.bin .sub (.loc 2)<|.loc 5) .gt<|.bin .add (.loc 1)<|.int 1) Hz) r) Q (pC m e d f a k) H:=
 qa (λj C Y=>Y=H/\∃k,C=pC m e d f a k/\(k<=d/\a %2^(d-k)=0)/\j=d-k) _ ⟨J,k,J,⟨w,R⟩,J⟩ tt λz8 j C Y i Z=>by{
refine let p:=_;(?_:p)
obtain⟨g,k,I,⟨w,R⟩,c⟩:=i;subst g I c;refine⟨_,nV (kq (ab J) (kI (oj (ab J) (ab J) w) (am (am (nK _ _) E) (by decide))))<|kq (ab J)<|ar,λu=>?_,λu=>h k w R<|je.mp λz=>of_decide_eq_false u<|cM.mpr z⟩
.
 exact aW (kq (ab J)<|ar)<|bA<|Z _ _ _ (Hx<|ND w b<|cM.mp<|of_decide_eq_true u) ⟨J,k+1,J,⟨(ND w b<|cM.mp<|of_decide_eq_true u),Nat.mod_eq_zero_of_dvd<|Nat.dvd_trans (Nat.pow_dvd_pow 2<|Nat.sub_le_sub_left (si k) d)<|aa9 R⟩,J⟩}
theorem Xf{m e a p Z:Nat}(G:a+p<=e+1)(O:0<p)(o:Z<=a):e+1-(a+p)<e+1-a/\Z+1<=a+p:=⟨uR (cO (jh O) G)<|jh O,sv o O⟩
theorem Te{m e d:Nat}(c:d<=1000)(y:e<=1000)(l:m<=e+1):cI (n+1) T H 15 [.int m,.int e,.int d] (λv Y=>∃r,Cv d m r (e+1)/\mW H (r.map pp) v Y) E:=λQ X q _=>by{
refine aR [S _,S _,S _,N,N,N] aT J<|oh (E:=λ_ _=>False) (oy bc<|bW _) (λv M p=>?_) λ_ _ z=>z.elim;refine let P:=_;let A:=_;let B:=_;let U:=_;(?_:wpSs P A _ B U _)
refine eN p λf g D I=>?_;subst g;refine aa I ?_;refine aW (ab J) (aW (ab J) (qa (λj C Y=>∃r a k,C=pC m e d f a k/\Y=H.set f (.list<|r.map pp)/\Cv d m r a/\(k<=d/\a %2^(d-k)=0)/\(a<=e+1/\r.length<=a)/\j=e+1-a) _
 ⟨[],m,d,J,J,J,⟨cD _,by exact aa (xW ..)<|aa (Nat.pow_zero ..)<|Nat.mod_one ..⟩,⟨l,bW _⟩,J⟩ tt λz8 j C Y i Z=>?_))
refine let t:=_;(?_:t)
obtain⟨r,a,k,g,I,h,⟨w,R⟩,⟨b,o⟩,L⟩:=i;subst g I L;refine⟨_,FV (ab J)<|ab J,λu=>?_,λu=>?_⟩
rotate_left
.
 have:=kj b<|BP λz=>of_decide_eq_false u<|dG.mpr z;clear t b U l;subst this;exact aZ (ab J)<|q _ _<|aG r h ⟨f,J,D,J⟩
.
 have s:=dG.mp<|of_decide_eq_true u;refine SE c w R λk w R=>Sp c s w R λk w R G=>?_;have x:=Xf (m:=m) G (sF _) o;refine lM (ab J) MH.c5 (by exact aa (aL ..)<|bh<|am o<|am s y) (cP (aM aT) (by decide:2<=1000000)) ?_;refine aa MH.d4<|aa (show r.map pp++[V.tup [.int a,.int k]]=(r++[(a,k)]).map pp from(cK (l₂:=[(a,k)])).symm) ?_;exact aW (kq (ab J) (kI (oj (ab J) (ab J) w) (am (am (nK _ _) c) (by decide)))) (bA (Z _ _ _ x.1 ⟨_,_,k,J,J,h.i9 w R,⟨w,by rw[aba];exact R⟩,⟨G,by exact aa bV x.2⟩,J⟩))}
section
theorem Kj{x y:Nat}(h:Pv cx l H a<|.int x)(C:Pv cx l H b<|.int y)(f:x<=1000000)(n:y<=1000000):Pv cx l H (.bin .mul a b) (.int (x*y:Nat)):=λI g X Q q=>h I g X _ (C I g X _ ⟨⟨cN f (by decide),cN n (by decide)⟩,q⟩)
theorem qc{x y:Nat}(h:Pv cx l H a<|.int x)(C:Pv cx l H b<|.int y):Pv cx l H (.bin .shr a b) (.int (x>>>y:Nat)):=λI g X Q q=>h I g X _ (C I g X _ ⟨cR y,by show Q (.int<|x/2^y) I;rw[show x/2^y=((x>>>y):Int) by refine aa (PD ..)<|aa (Int.natCast_ediv ..)<|aa (BV ..) ?_;rfl];exact q⟩)
theorem wg{x y:Nat}(h:Pv cx l H a<|.int x)(C:Pv cx l H b<|.int y):Pv cx l H (.bin .band a b) (.int (x&&&y:Nat)):=λI g X Q q=>h I g X _<|C I g X _ ⟨⟨cR x,cR y⟩,q⟩
theorem Ka{x y:Nat}(h:Pv cx l H a<|.int x)(C:Pv cx l H b<|.int y):Pv cx l H (.bin .bor a b) (.int (x|||y:Nat)):=λI g X Q q=>h I g X _<|C I g X _ ⟨⟨cR x,cR y⟩,q⟩
theorem EE{l:ae}{cx:Cx}{X:Addr->ae->MH->Prop}{Q:Fl->ae->MH->Prop}{r:MSs}{i:Nat}{e:ME}{x y:Int}(Z:l.at i=S (.int x))(h:Pv cx l H e<|.int y)(k:wpSs cx X r Q (l.set i<|S<|.int<|x-y) H)(o:fh i l.length=T:=by exact tt):wpSs cx X (.cons (.aug i .sub e) r) Q l H:=cc (bq Z<|h H Gr.rfl _ _ ⟨fY.mp o,k⟩)
set_option genCtorIdx false
structure Rl where
 first:Nat
 cnt:Nat
 g1:Nat
 g2:Nat
def hit(U:List Rl)(r v:Nat):Bool:=match U[r]? with
 |some x=>decide<|x.first<=v/\v<x.first+x.cnt
 |none=>F
structure SS (rs:List Rl) (ws:List V):Prop where
 len:ws.length=16
 bit:∀v,v<16->∃w:Nat,ws[v]?=some (.int w)/\∀r,w.testBit r=hit rs r v
def Dq(r:Rl):V:=.tup [.int r.g1,.int r.g2]
structure fI (H:MH) (a:Addr) (bits:Nat) (rs:List Rl) (dx bk row gl:Addr) (ws:List V):Prop where
 a:H a=some (.inst 16 dx [(107,.int bits),(206,.int (4:Nat)),(207,.int (1:Nat)),(116,.ref bk),(82,.int rs.length),(208,.ref gl)])
 bk:H bk=some (.list [.ref row])
 row:H row=some (.list ws)
 gl:H gl=some (.list (rs.map Dq))
 b:SS rs ws
theorem fI.gr{c:Addr}{i s o m:Addr}(h:fI H c d U i s o m M)(g:Gr H Y):fI Y c d U i s o m M:=⟨g.at h.a,g.at h.bk,g.at h.row,g.at h.gl,h.b⟩
theorem NT(w:v<16):v>>>0&&&(2^4-1)=v:=by exact aa BW<|aa (Nat.and_two_pow_sub_one_eq_mod ..)<|Pt w
end
theorem Zb(h:a<=b):(2^b-2^a).testBit i=(decide (a<=i)&&decide (i<b)):=by{
have e:2^b-2^a=(2^(b-a)-1)<<<a:=by exact aa (Nat.shiftLeft_eq ..)<|aa (Nat.sub_mul ..)<|aa (Nat.one_mul ..)<|au (Nat.pow_add ..)<|aa (Hb h) J
refine aa e<|aa (Nat.testBit_shiftLeft ..)<|aa (abb ..) ?_
induction G:decide (a<=i) using aX with
|false=>rfl
|true=>have G:=of_decide_eq_true G;exact congrArg (T&&·)<|decide_eq_decide.mpr<|Nat.sub_lt_sub_iff_right G}
def vW(U:List Rl)(b k x:Nat):Prop:=∀i,x.testBit i=T↔∃r R,r<k/\U[r]?=S R/\b.testBit r=T/\R.g1<=i/\i<R.g2
theorem vW.add(h:vW U b k x)(D:b.testBit k=T)(j:U[k]?=S R)(a:R.g1<=R.g2):vW U b (k+1) (x|||(2^R.g2-2^R.g1)):=λi=>by{
refine aa (abc ..)<|aa (GO ..) ?_;rw[h i,Zb a,kc];refine⟨λz=>?_,λz=>?_⟩
.rcases z with z|z
 ·(refine mZ (z) λr L G M=>?_)
  exact(dm r L (uG G) M)
 .exact⟨k,R,iO k,j,D,of_decide_eq_true z.1,of_decide_eq_true z.2⟩
.refine lH z λr L G M C s=>?_;rcases BM (kh G) with h|h
 .exact .inl<|kA r L h M C s
 .replace M:=j▸h▸M
  (refine aa (aA M) ?_)
  exact .inr ⟨decide_eq_true s.1,decide_eq_true s.2⟩}
theorem Lx:((x>>>k&&&1:Nat)==1)=x.testBit k:=by rw[Nat.testBit,abd];have:=Nat.and_one_is_mod<|x>>>k;rw[abd] at this;refine aa this ?_;rcases Nat.mod_two_eq_zero_or_one (x>>>k) with e|e<;>rw[e]<;>rfl
theorem Jx(h:x>>>k≠0):x>>>(k+1)<x>>>k:=by exact aa (Nat.shiftRight_succ ..) (Nat.div_lt_self (Nat.pos_of_ne_zero h) (by decide))
theorem JX(h:x>>>k=0)(Z:k<=i):x.testBit i=F:=by
 have:(x>>>k).testBit (i-k)=x.testBit i:=by exact aa (Nat.testBit_shiftRight ..)<|congrArg _<|BO Z
 exact au this<|aa h<|Hh ..
def AU(a:Addr)(b p k l:Nat)(x y:Option V):ae:=[S<|.ref a,S<|.int b,S<|.int p,S<|.int k,S<|.int l,x,y]
theorem C9{b:Nat}(h:fI H a d U dx h1 o m ws)(hz:U.length<=1000)(I:∀r,b.testBit r=T->r<U.length)(hg:∀R∈U,R.g1<=R.g2/\R.g2<=1000):cI (n+1) T H 19 [.ref a,.int b] (λv Y=>Y=H/\∃x:Nat,v= .int x/\∀i,x.testBit i=T↔∃r R,U[r]?=S R/\b.testBit r=T/\R.g1<=i/\i<R.g2) E:=λQ X q _=>by{
refine aR (AU a b 0 0 b N N|>.take 2|>(·++[N,N,N,N,N])) aT J (aW (ar) (aW (ar) (aW (ab J) (qa (λj C Y=>Y=H/\∃p k x y,C=AU a b p k (b>>>k) x y/\vW U b k p/\j=b>>>k) b
 ⟨J,0,0,N,N,by refine aa BW ?_;rfl,(λi=>by{
refine⟨λz=>?_,λz=>?_⟩
.rw[Hh] at z;exact ak z
·(refine mZ (z) λr R G _=>?_);exact absurd G<|lV r}),BW.symm⟩ tt λz8 j C Y i Z=>?_))))
refine let Gz:=_;(?_:Gz)
obtain⟨g,p,k,x,y,e2,s,e3⟩:=i;subst g e2 e3;refine⟨_,fC (ab J)<|ar,λD=>?_,λD=>?_⟩
rotate_left
.have D:=dX D;have h0:=fL.mp<|beq_iff_eq.mp D;refine aZ (ab J)<|q _ _ ⟨J,p,J,λi=>(s i).trans ⟨λz=>?_,λz=>?_⟩⟩
 .refine mZ z λr R _ z=>?_;exact(eG r R z)
 .refine iC z λr R M l L=>?_;exact(kA r R (BP λz=>(by replace l:=(JX h0 z)▸l;exact ak l)) M l L)
.have D:=eP D;have c:Pv (an n T) (AU a b p k (b>>>k) x y) Y (.cmp (.bin .band (.loc 4) _) .eq<|.int 1) (.bool<|b.testBit k):=(gF (wg (ab J)<|ar (i:=1))<|ar).to (by{
refine Lx▸?_;exact congrArg V.bool (by induction e:(b>>>k&&&1)==1 using aX with
 |true=>refine aa (beq_iff_eq.mp e) ?_;rfl
 |false=>exact beq_eq_false_iff_ne.mpr λz=>beq_eq_false_iff_ne.mp e<|fL.mp z)})
 have P:∀{f:Nat} {B y':Option V},vW U b _ f->wpSs (an n T) (fy X) (.cons (.asg 4<|.bin .shr (.loc 4) _)<|.cons (.aug 3 .add<|.int 1) .nil) (pJ z8<|cL Q) (AU a b f k (b>>>k) B y') Y:=λu=>aW ((qc (ab J)<|ar).to (by exact au (abe ..) J)) (Fm J ar<|Z _ _ _ (Jx λz=>beq_eq_false_iff_ne.mp D<|congrArg xZ z) ⟨J,_,k+1,_,_,J,u,J⟩)
 refine aH c (λt=>?_) λt=>bA (P ((λi=>by{
rw[s i];refine⟨λz=>?_,λz=>?_⟩
.refine mZ z λr R G M=>?_;exact(dm r R (uG G) M)
.refine lH z λr R G M l L=>?_;refine(kA r R (sD (kh G) λe=>?_) M l L);replace l:=t▸e▸l;exact ak l})))
 have w:=I k t;have hR:=bX w;refine ai (λO g2=>?_)<|hg _<|kZ w;have A:(U.map Dq)[k]?=S (.tup [.int U[k].g1,.int U[k].g2]):=by refine aa (gy)<|aa hR ?_;rfl
 exact lB tt (iJ (aN (ab J) h.a J) h.gl (ab J) A<|cO w<|bh hz) aT
  (aW (Ka (ab J) (oj (kI (ab J)<|bh g2) (kI (ab J)<|bh<|am O g2) (PF (by decide) O)))<|bA<|P<|s.add t hR O)}
theorem El{H:MH}(b:H a=S (.list L))(w:k<L.length)(E:k<1000000)(q:R<|H.set a<|.list<|L.set k x):vU R H (.ref a) (.int k) x:=bq b ⟨(bp (cR k) w<|HI E),q⟩
structure Pb (rs:List Rl) (f j:Nat) (ws:List V):Prop where
 len:ws.length=16
 bit:∀v,v<16->∃w:Nat,ws[v]?=some (.int w)/\∀r,w.testBit r=(hit rs r v||(decide (rs.length=r)&&decide (f<=v/\v<f+j)))
def MI(a:Addr)(c Z:V)(g:V)(B s h:V)(o:Addr)(U i:V)(f:Nat)(x:Option V):ae:=[S<|.ref a,S c,S Z,S g,S B,S s,S h,S<|.ref o,S U,S i,S<|.int f,x]
theorem XZ(u:f+c<=16):∀(j:Nat) (M:List V) (H:MH) (x:Option V),j+m=c->H o=S (.list M)->Pb d f j M->(∀Y y,Pb d f c Y->Q .next (MI a t Z g (.int (2^d.length:Nat)) s h o U i f y) (H.set o<|.list Y))->cC n X (.one 11) (λ_=>True) Hu Q (dW j m) (MI a t Z g (.int (2^d.length:Nat)) s h o U i f x) H:=by{
induction m with
|zero=>intro j M H x h9 I O q;replace O:=(show j=c from h9)▸O;have:=q M x O;rw[MH.m4 I] at this;exact fH trivial this
|succ m A=>{
intro j M H x h9 I O q;refine let P:=_;let C:=_;(?_:cC _ _ _ _ _ _ P C _)
have w:=cO (aag (h9▸jh (kf m)) f) u;refine let k:=_;(?_:k)
refine af (O.bit _ w) λD L=>ai (λe _=>dh trivial aT (nS (Ka (iJ (ab J) I (kq (ab J)<|ab J) e (lX w (by decide)))<|ab J) (ab J) (kq (ab J)<|ab J) (El I (by refine aa O.len ?_;exact w) (lX w (by decide)) (A _ _ _ _ (by exact(fZ ..).trans<|aa (fF 1 m) h9) MH.c5 ((by{
refine let P:=_;(⟨by exact GV.trans O.len,λv w=>?_⟩:Pb _ _ _ P)
refine aU (O.bit v w) λB l b=>?_;refine let k:=_;(?_:k)
by_cases h9:f+j=v
.subst h9;rw[l] at e;cases e;refine(aG _ (Ph (by exact aa O.len w)) λr=>?_);exact(abc ..).trans<|aa (b ..)<|aa Nat.testBit_two_pow<|aa (decide_eq_false (p:=f<=f+j/\f+j<f+j) λz=>jZ _ z.2)<|aa (decide_eq_true (p:=f<=f+j/\f+j<f+(j+1)) ⟨eF f j,iO _⟩)<|aa (ny ..)<|aa (yf ..)<|aa (qi ..) J
.refine(aG B ((aap h9).trans l) λr=>?_);exact(b ..).trans<|aa (show decide (f<=v/\v<f+j)=decide (f<=v/\v<f+(j+1)) from decide_eq_decide.mpr<|and_congr_right λ_=>⟨λz=>uG z,λz=>sD (kh z)<|eE h9⟩) J})) λY y p=>?_)))) (L)
exact au MH.d4.symm<|q Y y p}}
theorem yL(O:cx.hn=T)(h:Pv cx l H a<|.int x)(C:Pv cx l H b<|.int y):Pv cx l H (.bi .max<|.cons a<|.cons b .nil) (.int<|max x y):=λI g X Q q=>⟨O,h I g X _<|C I g X _ q⟩
theorem Fk(O:cx.hn=T)(h:Pv cx l H a<|.int x)(C:Pv cx l H b<|.int y):Pv cx l H (.bi .min<|.cons a<|.cons b .nil) (.int<|min x y):=λI g X Q q=>⟨O,h I g X _<|C I g X _ q⟩
theorem Vc{x k:Nat}(h:Pv cx l H a<|.int x)(C:Pv cx l H b<|.int k)(f:x<=1000000)(w:k<=1000000):Pv cx l H (.bin .shl a b) (.int (x*2^k:Nat)):=λI g X Q q=>h I g X _ (C I g X _ ⟨(bp (cR k) (dG.mpr w) (cN f (by decide))),by show Q (.int<|x*2^k) I;rw[show x*2^k=((x*2^k:Nat):Int) by refine aa (Int.natCast_mul ..)<|aa (BV ..) ?_;rfl];exact q⟩)
theorem yF{X:Addr->ae->MH->Prop}{Q:Fl->ae->MH->Prop}{r:MSs}{o e:ME}{k c:Nat}{a i:Addr}{D:List (Nat×V)}{x y:Int}{d:CD}(Y:Pv (an n O) l H o<|.ref a)(R:H a=S (.inst c i D))(G:cy D k=S (.int x))(h:Pv (an n O) l H e<|.int y)(q:wpSs (an n O) X r Q l<|H.set a<|.inst c i<|cf D k<|.int<|x+y)(u:CT c=S d:=by rfl) (w:(d.fields.contains k&&et D.length 1000)=T:=by exact tt):wpSs (an n O) X (.cons (.augA o k .add e) r) Q l H:=cc (Y H Gr.rfl _ _<|CA R G<|h H Gr.rfl _ _<|sJ R q u w)
theorem EY{U:List Rl}(h:dQ k 2=F)(C:dQ k 5=F):k≠xo (.list<|U.map Dq):=by{
induction U using aS with
|nil=>exact BX h
|cons r U=>exact BX C}
theorem fI.ne{c:Addr}{i s o m:Addr}(h:fI H c d U i s o m M):(c≠o/\c≠m)/\(s≠o/\s≠m/\s≠c)/\o≠m:=
 af (h.b.bit 0 (by decide)) λw z=>
  have e:=(by{
induction M using aS with
|nil=>exact aD z.1
|cons x r=>exact aA z.1▸J}:xo (.list M)=4)
  (bp ⟨tE h.a h.row λz=>absurd (z.trans e)<|BX ff,tE h.a h.gl<|EY ff ff⟩ ⟨tE h.bk h.row λz=>absurd (z.trans e)<|BX ff,tE h.bk h.gl<|EY ff ff,tE h.bk h.a<|BX ff⟩<|tE h.row h.gl λz=>EY J J<|e.symm.trans z)
theorem Vy{c Z B t:Nat}(h:fI H a d U i s o m M)(D:d<=4)(L:U.length<=1000)(hl:Z<=d)(hm:c %2^(d-Z)=0)(hc:c+2^(d-Z)<=16)(x:c<16):cI (n+1) T H 17 [.ref a,.int c,.int Z,.tup [.int B,.int t]] (λv Y=>v= .none/\∃C,fI Y a d (U++[⟨c,2^(d-Z),B,t⟩]) i s o m C/\eO [a,o,m] H Y) E:=λQ X q _=>by{
refine let Gz:=_;(?_:Gz)
refine jy h.ne λh0 O R=>?_;obtain⟨n1,n2⟩:=h0;obtain⟨u,n4,j⟩:=O;have P:∀{l:ae} {k:Nat} {v:V},l.at 0=S _->cy _ k=S v->Pv (an n T) l H _ v:=λe f=>aN (ab e) h.a f;refine aR [S _,S _,S _,S _,N,N,N,N,N,N,N,N] aT J (aW (kI (P J J)<|bh L) (aW (Kj (P J J) (P J J) (by decide) (by decide)) (aW (kq (oj (ab J) (P J J) D)<|ab J)
 (iY (M:=[.ref o]) tt yP (pB (P J J) h.bk) (dh h.bk J (EE J (P J J) (aW ((mM (P J J)<|yL J (ar)<|Fk J (P J J)<|ab J).to (congrArg V.int ((by decide:∀d,d<5->∀Z,Z<d+1->(4:Nat)-max ((0:Nat):Int) (min _ (1*4-d+Z:Nat))=(d-Z:Nat)) d (oU D) Z<|oU hl))) (EE J (P J J)
  (aW ((wg (qc (ab J)<|(ab J).to J) (oj (kI (P J J) (by decide)) (ar) (by decide))).to (by rw[NT x]))
  (aW ((Vc (qc (ab J)<|ab J) (ab J) (am (Nat.shiftRight_le _ _) (am (bU x) (by decide))) (am (nK _ _) (am D (by decide)))).to (by rw[(by rw[PD];exact Nat.div_mul_cancel (aa9 hm):(c>>>(d-Z))*2^(d-Z)=c)]))
  (mu (kI (ab J) (am (nK _ _) (am D (by decide)))) (am (PF (by decide)<|am (nK _ _) D) (by decide)) (XZ hc 0 M H N (da _) h.row (⟨h.b.len,λv w=>by obtain⟨G,e,h.b⟩:=h.b.bit v w;exact(aG G e (λr=>by rw[h.b,decide_eq_false (p:=c<=v/\v<c+0) λz=>je.mpr z.1 z.2,ny,yf]))⟩) λC y p=>?_))))))))))))
refine cj ((MH.c9 u).trans h.bk) (yF (ab J) ((MH.c9 n1).trans h.a) J (ar) (lM (aN (ab J) MH.c5 J) ((MH.c9 n2.symm).trans<|(MH.c9 R.symm).trans h.gl) (by rw[aL];exact bh L) (ab J) (q .none _ ⟨J,C,⟨?_,?_,?_,?_,(by{
refine⟨p.len,λv w=>?_⟩;refine aU (p.bit v w) λG e b=>?_;refine(aG G e λr=>(b r).trans ?_);unfold hit;rcases BI r U.length with h|h|h
.rw[xV h,decide_eq_false<|uJ h,abf,yf]
.rw[h,iP<|cD _,uQ<|cD _,xW,decide_eq_true J,BS];rfl
.rw[iP<|bU h,iP (by rw[bV];exact h),decide_eq_false<|fu h];rfl})⟩,?_⟩)))
.rw[MH.c9 n2,MH.c5,bV];rfl
.rw[MH.c9 n4,MH.c9 j,MH.c9 u];exact h.bk
.rw[MH.c9 R,MH.c9 n1.symm,MH.c5]
.rw[MH.c5,cK];rfl
.intro b h1 I;have A:b≠a:=λz=>I<|z▸bw _;have m2:b≠o:=λz=>I<|aa z<|cq _<|bw _;have g:b≠m:=λz=>I<|aa z<|cq _<|cq _<|bw _;rw[MH.c9 g,MH.c9 A,MH.c9 m2]}
theorem KN{X:Addr->ae->MH->Prop}{Q:Fl->ae->MH->Prop}{r:MSs}{o e:ME}{k c:Nat}{a i:Addr}{D:List (Nat×V)}{d:CD}{P:V->MH->Prop}{E:Addr->MH->Prop}(h:Ex (an n O) l H e P E)(q:∀v Y,P v Y->Pv (an n O) l Y o (.ref a)/\Y a=S (.inst c i D)/\wpSs (an n O) X r Q l (Y.set a<|.inst c i<|cf D k v))(x:∀a Y,E a Y->X a l Y)(u:CT c=S d:=by rfl) (w:(d.fields.contains k&&et D.length 1000)=T:=by exact tt):wpSs (an n O) X (.cons (.setA o k e) r) Q l H:=
 cc (h _ _ (λv Y p=>by{
refine let b:=_;(?_:b)
refine jy (q v Y p) λG M C=>?_;exact G Y Gr.rfl _ _<|sJ M C u w}) x)
theorem rj{H:MH}{l:ae}{X:Addr->ae->MH->Prop}{Q:Fl->ae->MH->Prop}{r:MSs}{i k c:Nat}{a b:Addr}{D:List (Nat×V)}{d:CD}(o:l.at i=S (.ref a))(R:H a=S (.inst c b D))(q:∀f,H f=N->wpSs (an n O) X r Q l ((H.set f<|.list []).set a<|.inst c b<|cf D k<|.ref f))(u:CT c=S d:=by rfl) (w:(d.fields.contains k&&et D.length 1000)=T:=by exact tt):wpSs (an n O) X (.cons (.setA (.loc i) k<|.list .nil) r) Q l H:=
 KN (E:=λ_ _=>False) (oy bc<|bW _) (λv Y p=>by refine eN p λf e G A=>?_;subst e;refine aa A ?_;exact(bp (ab o) ((MH.c9 λz=>by replace R:=G▸z▸R;exact aD R).trans R)<|q f G)) (λ_ _ z=>z.elim) u w
theorem Jy:Ex cx l H (.dict .nil) (λv Y=>∃c,v= .ref c/\H c=N/\Y=H.set c (.dict [])) E:=λQ X q _=>cj (bp tt gW<|bW _) λc u=>q _ _<|bl c J u J
theorem KS{H:MH}{l:ae}{X:Addr->ae->MH->Prop}{Q:Fl->ae->MH->Prop}{r:MSs}{i k c:Nat}{a b:Addr}{D:List (Nat×V)}{d:CD}(o:l.at i=S (.ref a))(R:H a=S (.inst c b D))(q:∀f,H f=N->wpSs (an n O) X r Q l ((H.set f<|.dict []).set a<|.inst c b<|cf D k<|.ref f))(u:CT c=S d:=by rfl) (w:(d.fields.contains k&&et D.length 1000)=T:=by exact tt):wpSs (an n O) X (.cons (.setA (.loc i) k<|.dict .nil) r) Q l H:=
 KN (E:=λ_ _=>False) Jy (λv Y p=>by refine eN p λf e G A=>?_;subst e;refine aa A ?_;exact(bp (ab o) ((MH.c9 λz=>by replace R:=G▸z▸R;exact aD R).trans R)<|q f G)) (λ_ _ z=>z.elim) u w
theorem Rp(h:lN H s t R):cI (n+1) T H 11083 [.ref s] (λv Y=>v= .none/\∃M,H M=N/\lN Y s M []/\eO [s] H Y) E:=λQ X q _=>by{
refine af (h.s) λi B=>aR [S _] aT J<|KS aT B λf G=>bA<|q _ _ ⟨J,f,G,⟨⟨i,MH.c5⟩,(MH.c9 λz=>?_).trans MH.c5,λ_ h=>absurd h aJ⟩,λb D a=>?_⟩
.replace G:=B▸z▸G;cases G
.have g:b≠s:=λz=>a (z▸bw _);have I:b≠f:=λz=>D<|aa z G;exact aa (MH.c9 g)<|MH.c9 I}
theorem Ts(h:kP H s t I):cI (n+1) T H 14083 [.ref s] (λv Y=>v= .none/\∃M,H M=N/\kP Y s M []/\eO [s] H Y) E:=λQ X q _=>by{
obtain⟨i,B⟩:=h.s;refine aR [S _] aT J<|rj aT B λf G=>bA<|q _ _ ⟨J,f,G,⟨⟨i,MH.c5⟩,(MH.c9 λz=>?_).trans MH.c5,(λ_ h=>absurd h aJ),bW _⟩,λb D a=>?_⟩
.replace G:=B▸z▸G;cases G
.have g:b≠s:=λz=>a (z▸bw _);have c:b≠f:=λz=>D<|aa z G;exact aa (MH.c9 g)<|MH.c9 c}
theorem Vg{k:Nat}(h:Ex cx l H e (mW H [a]) E)(C:∀Y,Gr H Y->Pv cx l Y A (.int k))(w:k<=1000000):Ex cx l H (.bin .mul e A) (λv Y=>∃c,v= .ref c/\Gr H Y/\H c=N/\Y c=S (.list<|fj k a)) E:=λQ X q x=>h _ X (λv Y p=>by
 refine let P:=_;(?_:aP _ _ _ _ P _)
 refine eN p λc g u I=>?_;subst g;refine aa I ?_;refine C _ (Gr.new u) _ Gr.rfl X _ ?_;exact⟨a,congrArg eS MH.c5,⟨cR k,dG.mpr w⟩,λd m=>q _ _<|yQ d J ((Gr.new u).trans<|Gr.new m) ((Gr.new u).none m) MH.c5⟩) x
theorem Ez(h:Pv cx l H o<|.ref a)(R:H a=S (.list L))(b:L.length<=1000000)(C:Ex cx l H e P E)(k:∀v Y,P v Y->Y a=S (.list L)/\wpSs cx X r Q l (Y.set a<|.list<|L++[v]))(x:∀a Y,E a Y->X a l Y):wpSs cx X (.cons (.expr<|.callM o 211<|.cons e .nil) r) Q l H:=cc (h H Gr.rfl _ _ (bq R ⟨tt,C _ _ (λv Y p=>(show vy (λ_ H=>wpSs cx X r Q l H) Y a 211 [v] from NW (k v Y p).1 b (k v Y p).2)) x⟩))
abbrev Fi (d:Nat):List (Nat×V):=[(107,.int d),(206,.int (4:Nat)),(207,.int (1:Nat))]
theorem Th(P:G a=S (.inst 16 i<|Fi d++[(116,.ref s)]))(c:G s=S (.list []))(x:s≠a)(q:∀o m Y,G o=N->G m=N->fI Y a d [] i s o m (fj 16<|.int ((0:Nat):Int))->eO [a,s] G Y->Q .none Y):wpSs (an n T) (fy X) (.cons (.for_ (.one 3) (.range1<|.attr (.loc 0) 207) KU)<|.cons (.setA (.loc 0) 82<|.int 0)<|.cons (.setA (.loc 0) 208<|.list .nil) .nil) (cL Q) [S<|.ref a,S<|.int d,S<|.int (4:Nat),N] G:=
 mu (aN (ab J) P J) (by decide) (dh trivial aT (Ez (E:=λ_ _=>False) (aN (ab J) P J) c (bW _) (Vg (oy (aB (ar (i:=(0:Nat))) bc) yP) (λY _=>kI (ab J) (by decide)) (by decide)) (λv Y p=>by{
refine sZ p λo e g I H=>?_;refine aa e ?_;have u:o≠a:=λz=>by replace I:=P▸z▸I;cases I
refine⟨g.at c,bA<|cj trivial<|bY (ar) (ab J) ((MH.c9 x.symm).trans<|g.at P)<|rj J MH.c5 λm M=>?_⟩;have k:m≠a:=λz=>by replace M:=MH.c5▸z▸M;cases M
replace M:=(MH.c9 k)▸M;have j:m≠s:=λz=>by replace M:=MH.c5▸z▸M;cases M
replace M:=(MH.c9 j)▸M;have R:m≠o:=λz=>by replace M:=H▸z▸M;cases M
refine bA (q o m _ I (g.none M) ⟨MH.c5,?_,?_,?_,⟨J,λv w=>(aG 0 (by exact aa (Y9)<|aa (if_pos w) J) λr=>Hh r)⟩⟩ λb D E=>?_)
.refine aa (MH.c9 x)<|aa (MH.c9 j.symm)<|aa (MH.c9 x)<|aa MH.c5 ?_;rfl
.exact aa (MH.c9 u) (aa (MH.c9 R.symm) (aa (MH.c9 u) (aa (MH.c9 (λz=>by replace I:=c▸z▸I;cases I)) H)))
.refine aa (MH.c9 k)<|aa MH.c5 ?_;rfl
.have f:b≠a:=λz=>E (z▸bw _);have h:b≠s:=λz=>E<|z▸cq _ (bw _);have l:b≠m:=λz=>D<|aa z<|g.none M;refine aa (MH.c9 f)<|aa (MH.c9 l)<|aa (MH.c9 f)<|aa (MH.c9 h) ?_;exact g b D aJ}) λ_ _ z=>z.elim))
theorem A8{H:MH}{d:Nat}(D:1<=d/\d<=4)(R:H a=S (.inst 16 i [])):cI (n+1) T H 17075 [.ref a,.int d,.int (4:Nat)] (λv Y=>v= .none/\∃s o m,(H s=N/\H o=N/\H m=N)/\fI Y a d [] i s o m (fj 16<|.int ((0:Nat):Int))/\eO [a] H Y) E:=λQ X q _=>by{
refine aR [S _,S _,S _,N] aT J<|bY (ab J) (ab J) R<|bY (ab J) (ab J) MH.c5 ?_;refine aa MH.d4 (bY ((vG (mM (iz (ab J)<|ab J) ar) (ab J) ⟨by decide,by decide⟩).to (congrArg V.int ((by decide:∀d:Nat,d<5->1<=d->(d+(4:Nat)-1)/(4:Nat)=(1:Int)) d (oU D.2) D.1))) (ab J) MH.c5 ?_);refine aa MH.d4<|rj J MH.c5 λs h=>?_;have n1:s≠a:=λz=>by replace h:=MH.c5▸z▸h;cases h
replace h:=(MH.c9 n1)▸h;refine Th MH.c5 ((MH.c9 n1).trans MH.c5) n1 λo m Y G M f x=>q _ _ ⟨J,s,o,m,(bp h ?_ ?_),f,λb D c=>?_⟩
.have g:o≠a:=λz=>by rw[z,MH.c5] at G;cases G
 have I:o≠s:=λz=>by replace G:=MH.c5▸(MH.c9 n1)▸z▸G;cases G
 rw[MH.c9 g,MH.c9 I,MH.c9 g] at G;exact G
.have g:m≠a:=λz=>by rw[z,MH.c5] at M;cases M
 have I:m≠s:=λz=>by replace M:=MH.c5▸(MH.c9 n1)▸z▸M;cases M
 rw[MH.c9 g,MH.c9 I,MH.c9 g] at M;exact M
.have g:b≠a:=λz=>c (z▸bw _);have I:b≠s:=λz=>D<|aa z h;have e:(((H.set a<|.inst 16 i<|Fi d).set s<|.list []).set a<|.inst 16 i<|Fi d++[(116,.ref s)]) b=H b:=by exact aa (MH.c9 g)<|aa (MH.c9 I)<|MH.c9 g
 exact(x b (λz=>D<|au e z) λz=>(bJ.mp z).elim g λz=>I<|cJ.mp z).trans e}
def RB(b y:V)(d:Addr):List (Nat×V):=[(97,b),(159,y),(200,.int 0),(148,.int 0),(147,.str 201),(137,.ref d)]
theorem YA{H:MH}(R:H a=S (.inst 8 i [])):cI (n+1) O H 9075 [.ref a,b,y] (λv Y=>v= .none/\∃d,H d=N/\Y a=S (.inst 8 i<|RB b y d)/\Y d=S (.dict [])/\eO [a] H Y) E:=λQ X q _=>by
 refine aR [S _,S b,S y,S _] aT J<|bY (ab J) (ab J) R<|bY (ab J) (ab J) MH.c5 ?_;refine aa MH.d4<|bY (ab J) (ab J) MH.c5 ?_;refine aa MH.d4<|bY ar (ab J) MH.c5 ?_;refine aa MH.d4<|bY aQ (ab J) MH.c5 ?_;refine aa MH.d4<|KS J MH.c5 λd m=>?_;have n1:d≠a:=λz=>by replace m:=MH.c5▸z▸m;cases m
 replace m:=(MH.c9 n1)▸m;refine bA<|q _ _ ⟨J,d,m,MH.c5,(MH.c9 n1).trans MH.c5,λx f c=>?_⟩;have g:x≠a:=λz=>c<|z▸bw _;have I:x≠d:=λz=>f<|aa z m;exact aa (MH.c9 g)<|aa (MH.c9 I)<|MH.c9 g
def Rl.f6(R:Rl)(v:Nat):Prop:=R.first<=v/\v<R.first+R.cnt
def vx(U:List Rl)(B t i:Nat):Prop:=∀r,(B<=r/\r<t)↔∃R:Rl,U[r]?=S R/\R.g1=i
def kE(a b c d:Nat):bB:=[((a:Int),(b:Int)),((c:Int),(d:Int))]
structure iL (I:List ay) (r1 r2:List Rl):Prop where
 two:∀e∈I,∃a b c d:Nat,e.2.box=kE a b c d/\(a<=b/\b<16)/\(c<=d/\d<4)
 g2:∀R∈r2,R.g2=R.g1+1/\R.g1<I.length
 g1:∀R∈r1,R.g1<=R.g2/\R.g2<=r2.length/\∃i,i<I.length/\vx r2 R.g1 R.g2 i
 c2:∀i e a b c d,I[i]?=some e->e.2.box=kE a b c d->∀v:Nat,(c<=v/\v<=d)↔∃R∈r2,R.g1=i/\R.f6 v
 c1:∀i e a b c d,I[i]?=some e->e.2.box=kE a b c d->∀v:Nat,(a<=v/\v<=b)↔∃R∈r1,vx r2 R.g1 R.g2 i/\R.f6 v
theorem iL.nil:iL [] [] [] where
 two:=λ_ h=>(by cases h)
 g2:=λ_ h=>(by cases h)
 g1:=λ_ h=>(by cases h)
 c2:=λ_ _ _ _ _ _ h=>(aD h)
 c1:=λ_ _ _ _ _ _ h=>(aD h)
theorem Cv.f6:∀{m e:Nat},Cv d m r e->m<=e/\((m<=v/\v<e)↔∃p∈r,p.1<=v/\v<p.1+2^(d-p.2)):=by{
induction r with
|nil=>exact λ{m e} h=>⟨dr h,λz=>absurd (cN z.1 z.2) (by refine aa h ?_;exact jZ _),λz=>by(refine aU (z) λp O _=>?_);cases O⟩
|cons p r Z=>{
intro m e h;obtain⟨⟨G,_⟩,M⟩:=h;refine ai (λl A=>⟨am (bU<|jh<|sF _) l,λz=>?_,λz=>?_⟩)<|Z M
.refine let a:=_;(?_:a)
 by_cases c:v<m+2^(d-p.2)
 .exact(aG p (bw _) (by exact aa G ⟨z.1,c⟩))
 .refine aU (A.mp ⟨dw c,z.2⟩) λq o k=>?_;exact(aG q (cq _ o) k)
.obtain⟨q,o,k⟩:=z;clear M Z;rcases bJ.mp o with rfl|o
 .rw[G] at k;exact⟨k.1,cO k.2 l⟩
 .have:=A.mpr (aG q o k);exact⟨am (bU<|jh<|sF _) this.1,this.2⟩}}
def jN(d B t:Nat)(r:List<|Nat×Nat):List Rl:=r.map λp=>⟨p.1,2^(d-p.2),B,t⟩
theorem Mv(h:Cv d m r e):(m<=v/\v<e)↔∃R∈jN d B t r,R.f6 v:=by{
rw[(Cv.f6 h).2];refine⟨λz=>?_,λz=>?_⟩
·(refine aU (z) λp O k=>?_);exact(aG _ (ya O) k)
.refine let a:=_;(?_:a)
 refine aU z λR j k=>?_;refine aU (bZ.mp j) λp O e=>?_;clear j h m;subst e;exact(aG p O k)}
theorem rN(h:R∈jN d B t r):R.g1=B/\R.g2=t:=by refine aU (bZ.mp h) λp _ e=>?_;clear h;subst e;exact⟨J,J⟩
theorem KR(o:∀R∈q,R.g1=k)(X:i≠k):vx (M++q) B t i↔vx M B t i:=by{
have z:∀r,(∃R:Rl,(M++q)[r]?=S R/\R.g1=i)↔∃R:Rl,M[r]?=S R/\R.g1=i:=λr=>by{
refine⟨λw=>?_,λw=>?_⟩
·(refine aU (w) λR e h=>?_)
 by_cases c:r<M.length
 .rw[xV c] at e;exact⟨R,e,h⟩
 .rw[uQ<|dw c] at e;exact absurd (h.symm.trans<|o R<|du e) X
·(refine aU (w) λR e h=>?_)
 exact(aG R ((xV (cW.mp e).1).trans e) h)}
exact forall_congr' λr=>iff_congr nN<|z r}
theorem FJ(h:kE a b c d=kE e C B L):a=e/\b=C/\c=B/\d=L:=by injection h with G M;injection M with M _;injection G with G f;injection M with M s;exact(ot (fL.mp G) (fL.mp f) (fL.mp M)<|fL.mp s)
theorem Ea{D:Type}{I:List D}{x e:D}(h:(I++[x])[i]?=S e):(i<I.length/\I[i]?=S e)\/(i=I.length/\e=x):=by{
by_cases c:i<I.length
.exact .inl ⟨c,(xV c).symm.trans h⟩
.replace h:=(uQ<|dw c)▸h
 induction k:i-I.length using fK with
 |zero=>replace h:=k▸h;(refine aa (aA h) ?_);exact .inr ⟨kj (Nat.le_of_sub_eq_zero k)<|dw c,J⟩
 |succ m=>replace h:=k▸h;exact aD h}
theorem Nv{D:Type}{p:D->Prop}{l m:List D}(h:∀x∈m,¬p x):(∃x,x∈l++m/\p x)↔∃x,x∈l/\p x:=⟨λz=>z.imp λx y=>⟨(cp.mp y.1).resolve_right λw=>h x w y.2,y.2⟩,λz=>z.imp λ_ y=>⟨V2 _ y.1,y.2⟩⟩
theorem Jw{D:Type}{p:D->Prop}{l m:List D}(h:∀x∈l,¬p x):(∃x,x∈l++m/\p x)↔∃x,x∈m/\p x:=⟨λz=>z.imp λx y=>⟨(cp.mp y.1).resolve_left λw=>h x w y.2,y.2⟩,λz=>z.imp λ_ y=>⟨xx _ y.1,y.2⟩⟩
theorem EU{D:Type}{p q r:D->Prop}(h:∀x,p x->(q x↔r x)):(∃x,p x/\q x)↔∃x,p x/\r x:=exists_congr λx=>and_congr_right λy=>h x y
theorem iL.find(D:iL I X M){Y q f H:Nat}(G:∀i,f.testBit i=T↔∃(r:Nat) (R:Rl),X[r]?=S R/\R.f6 Y/\R.g1<=i/\i<R.g2)(h2:∀i,H.testBit i=T↔∃(r:Nat) (R:Rl),M[r]?=S R/\(f.testBit r=T/\R.f6 q)/\R.g1<=i/\i<R.g2)(i:Nat):H.testBit i=T↔∃e a b c d,I[i]?=S e/\e.2.box=kE a b c d/\(a<=Y/\Y<=b)/\(c<=q/\q<=d):=by{
rw[h2];refine⟨λw=>?_,λw=>?_⟩
.refine let p:=_;(?_:p)
 refine lH w λr R e P g n=>?_;obtain⟨C,E⟩:=P;refine af ((G r).mp C) λs t=>af (t) λL y=>ai (λA x=>ai (λk v=>?_)<|x)<|y;refine jy (D.g1 L<|du A) λ_ _ Z=>?_;obtain⟨j,h9,O⟩:=Z;have Q:=D.g2 R<|du e;have o:=kj g<|kh<|Nat.lt_of_lt_of_eq n Q.1;refine aU ((O r).mp v) λz h ej=>?_;replace h:=e▸h
 (obtain rfl:=aA h)
 have hi:=o▸Q.2;have u:=bX hi;refine ie (D.two _<|kZ hi) λa b c Z=>?_;obtain⟨d,l,_⟩:=Z;refine⟨_,a,b,c,d,u,l,(D.c1 i _ a b c d u l Y).mpr<|bl L (du A) (au (ej.symm.trans o) O) k,(D.c2 i _ a b c d u l q).mpr<|bl R (du e) o E⟩
.refine let p:=_;(?_:p)
 refine ie w λe a b Z=>?_;obtain⟨c,d,u,l,C,E⟩:=Z;refine af ((D.c1 i e a b c d u l Y).mp C) λL t=>ai (λm' y=>ai (λO g=>af ((D.c2 i e a b c d u l q).mp E) λR t=>ai (λm y=>ai (λo n=>?_)<|y)<|t)<|y)<|t;obtain⟨r,U⟩:=oV.mp m;obtain⟨s,B⟩:=oV.mp m';exact(kA r R U ⟨(G r).mpr ⟨s,L,B,g,(O r).mpr ⟨R,U,o⟩⟩,n⟩ (dr o)<|aa ((D.g2 R m).1)<|aa o<|iO _)}
theorem eO.trans(g:eO a H Y)(w:eO a Y G):eO a H G:=λb h m=>by exact(w b (by refine aa (g b h m) ?_;exact h) m).trans<|g b h m
theorem eO.nil(g:Gr H Y):eO a H Y:=λb h _=>g b h aJ
def DY(I v:Addr)(c:V)(B t p:Nat)(a:Addr)(k Z l:Nat)(x y:Option V):ae:=[S<|.ref I,S<|.ref v,S c,S<|.tup [.int B,.int t],S<|.int p,S<|.ref a,S<|.int k,S<|.int Z,S<|.int l,x,y]
def Ll(d:Nat)(p:Nat×Nat):Prop:=(p.2<=d/\p.1 %2^(d-p.2)=0)/\p.1+2^(d-p.2)<=16/\p.1<16
theorem Cv.ok:∀{m e:Nat},Cv d m r e->e<=16->∀p∈r,Ll d p:=by{
induction r with
|nil=>exact λ_ _ p O=>(by cases O)
|cons q r Z=>{
intro m e h u p O;obtain⟨⟨G,M,C⟩,s⟩:=h;have z:=(Cv.f6 (v:=0) s).1;rcases bJ.mp O with rfl|O
.rw[<-G] at C z;have:=am z u;exact(bp ⟨M,C⟩ this<|cO (jh<|sF _) this)
.exact Z s u p O}}
theorem Cv.len:∀{m e:Nat},Cv d m r e->m+r.length<=e:=by{
induction r with
|nil=>exact λh=>dr h
|cons q r Z=>intro m e h;have:=Z h.2;refine aa iN ?_;rw[fF r.length,<-fZ];exact am (sA (gM (sF _) m) _) this}
theorem TO{B t u d k Z l:Nat}(D:d<=4)(b:g≠a/\g≠o/\g≠m):∀(r:List<|Nat×Nat) (U:List Rl) (M:List V) (H:MH) (x y:Option V),fI H a d U i s o m M->(∀p∈r,Ll d p)->U.length+r.length<=1000->H g=S (.list L)->(∀Y h0 x y,fI Y a d (U++jN d B t r) i s o m h0->eO [a,o,m] H Y->Q .next (DY I el c B t u a k Z l x y) Y)->cC (n+1) X (.two 9 10) (λH=>H g=S (.list L)) IJ Q (r.map pp) (DY I el c B t u a k Z l x y) H:=by{
intro r
induction r with
|nil=>intro U M H x y f _ _ R q;have:=q H M x y (by exact aa (show U++jN d B t []=U from fm U) f) λ_ _ _=>J;exact fH R this
|cons p r ih=>{
intro U M H x y f O hz R q;refine let P:=_;let C:=_;let j:=_;let zd:=_;(?_:cC P _ _ C _ _ j zd _)
refine jy (O p<|bw _) λh1 k3 k4=>?_;obtain⟨k1,k2⟩:=h1;replace hz:=iN▸hz;refine dh R aT<|nT (E:=λ_ _=>False) (oB (aM aT)<|Vy f D (am (eF _ _) hz) k1 k2 k3 k4) (λv Y z=>let Gz:=_;((ai (λ_ h2=>af (h2) λh0 h3=>ai (λw e=>?_)<|h3)<|z):Gz)) λ_ _ z=>z.elim;refine bA<|ih _ h0 Y _ _ w (λp h=>O p<|cq _ h) ?_ (e.at R ?_) λG h4 x y h5 A=>q G h4 x y ?_<|e.trans A
.rw[bV];exact am (dr (by refine aa sG<|(fZ ..).trans ?_;rw[fF 1])) hz
.intro E;rcases bJ.mp E with h|E
 .exact b.1 h
 .rcases bJ.mp E with h|E
  .exact b.2.1 h
  .exact b.2.2<|cJ.mp E
.exact aa (show U++jN d B t _=U++[⟨p.1,2^(d-p.2),B,t⟩]++jN d B t r from(ip U [_] _).symm) h5}}
theorem JN{B t u d k Z:Nat}(f:fI H a d U i s h0 m M)(D:d<=4)(E:U.length<=900)(y:k<=Z/\Z<16)(G:∀{l:ae},l.at 0=S (.ref I)->l.at 4=S (.int u)->Pv (an (n+1) T) l H (.idx (.attr (.loc 0) 212)<|.loc 4) (.ref a)) (he:∀{l:ae},l.at 1=S (.ref el)->l.at 4=S (.int u)->Pv (an (n+1) T) l H (.idx (.attr (.loc 1) 97)<|.loc 4) (.tup [.int k,.int Z]))(q:∀Y O r c x,Cv d k r (Z+1)->fI Y a d (U++jN d B t r) i s h0 m O->eO [a,h0,m] H Y->Q .next (DY I el h1 U.length (U.length+r.length) u a k Z U.length c x) Y):wpSs (an (n+1) T) X LP Q [S<|.ref I,S<|.ref el,S h1,S<|.tup [.int B,.int t],S<|.int u,x5,x6,x7,x8,c,x] H:=by{
refine let P:=_;let C:=_;(?_:wpSs P _ _ _ C _)
refine aW (G J J) (lB J (he J J) aT (aW (aN (ab J) f.a J) (vp (E:=λ_ _=>False) J (oB (aB (ab J)<|aB (ab J)<|aB (aN (ab J) f.a J) bc) (Te (am D (by decide)) (am (bU y.2) (by decide))<|kU y.1)) (λv h2 z=>let p:=_;(?_:p)) λ_ _ z=>z.elim)));obtain⟨r,h,g,e,R,A⟩:=z;subst e A;have ng:∀{b:Addr} {o:MO},H b=S o->g≠b:=λe z=>by replace R:=e▸z▸R;cases R
refine(kA g (r.map pp) J MH.c5 ?_ (TO D ⟨ng f.a,ng f.row,ng f.gl⟩ r U M _ c x (f.gr<|Gr.new R) (h.ok y.2) (am (sv E<|am (oM _ k)<|am h.len y.2) (by decide)) MH.c5 λY O L j w ex=>(aW ((cP (aB (ab J)<|aB (aN (ab J) w.a J) bc) (by decide:2<=1000000)).to (by refine aa bV ?_;unfold jN;exact aa (aL ..) J))<|bA<|q Y O r L j h w<|(eO.nil<|Gr.new R).trans ex)));exact aa (aL ..) (am (am (oM _ k)<|am h.len y.2) (by decide))}
def RN(A:Nat->Addr):List (Nat×V):=[(107,.tup [.int (4:Nat),.int (2:Nat)]),(206,.int (4:Nat)),(212,.ref<|A 1),(101,.ref<|A 2)]
structure lq (H:MH) (A:Nat->Addr) (I:List ay) (r1 r2:List Rl):Prop where
 inj:∀i j,i<11->j<11->A i=A j->i=j
 s:∃dx,H (A 0)=some (.inst 21 dx (RN A))
 fl:H (A 1)=some (.list [.ref (A 3),.ref (A 7)])
 it:H (A 2)=some (.list (bO I))
 f1:∃dx ws,fI H (A 3) 4 r1 dx (A 6) (A 4) (A 5) ws
 f2:∃dx ws,fI H (A 7) 2 r2 dx (A 10) (A 8) (A 9) ws
 z:r1.length<=16*I.length/\r2.length<=16*I.length
theorem lq.ne{A:Nat->Addr}{I:List ay}{X M:List Rl}(h:lq H A I X M)(i j:Nat)(Z:fh i 11=T:=by exact tt) (h9:fh j 11=T:=by exact tt) (d:dQ i j=F:=by exact ff):A i≠A j:=λe=>by have:=h.inj i j (fY.mp Z) (fY.mp h9) e;clear e h9 Z h M X I A;subst this;rw[PG] at d;exact ak d
theorem fI.ext{e:Addr}{i s o m:Addr}(h:fI H e d U i s o m M)(g:eO c H Y)(R:e∉c)(D:s∉c)(I:o∉c)(f:m∉c):fI Y e d U i s o m M:=⟨g.at h.a R,g.at h.bk D,g.at h.row I,g.at h.gl f,h.b⟩
theorem iI{b x y z:Addr}(G:b≠x)(M:b≠y)(C:b≠z):b∉[x,y,z]:=λE=>by{
rcases bJ.mp E with h|E
.exact G h
.rcases bJ.mp E with h|E
 .exact M h
 .exact C<|cJ.mp E}
def nj(A:Nat->Addr)(H Y:MH):Prop:=∀b,H b≠N->(∀i,i<11->b≠A i)->Y b=H b
theorem Jf(g:eO [A i,A j,A k] H Y)(Z:i<11)(h9:j<11)(w:k<11):nj A H Y:=λb D y=>g b D<|iI (y i Z) (y j h9)<|y k w
theorem nj.trans(g:nj A H Y)(w:nj A Y G):nj A H G:=λb D y=>by exact(w b (by refine aa (g b D y) ?_;exact D) y).trans<|g b D y
def JQ(o:MO):Bool:= @MO.casesOn (λ_=>Bool) o (λ_=>T) (λ_=>T) (λc _ _=>!dQ c 8) (λ_ _ _ _=>T) λ_=>T
theorem lq.all(D:lq H A I X M){P:Addr->Prop}(h:∀b o,H b=S o->JQ o=T->P b):∀i,i<11->P (A i):=
 af D.s λ_ f=>af D.f1 λ_ c=>af c λ_ g=>af D.f2 λ_ c=>af c λ_ a=>bM (bM (bM (bM (bM (bM (bM (bM (bM (bM (bM pE<|h _ _ f tt)<|h _ _ D.fl tt)<|h _ _ D.it tt)<|h _ _ g.a tt)<|h _ _ g.row tt)<|h _ _ g.gl tt)<|h _ _ g.bk tt)<|h _ _ a.a tt)<|h _ _ a.row tt)<|h _ _ a.gl tt) (h _ _ a.bk tt)
theorem cw.out(D:lq H A I X M)(h:cw H a r):∀i,i<11->a≠A i:=D.all λ_ _ e n z=>af h λ_ y=>af y λ_ y=>ak<|((congrArg JQ<|aA<|y.symm.trans<|aa z e).trans n).symm
theorem cw.k6(D:lq H A I X M)(h:cw H a r)(g:nj A H Y):cw Y a r:=af (h) λi L=>af (L) λd e=>(eG i d ((g a (by refine aa e ?_;exact(by intro z;cases z))<|h.out D).trans e))
theorem O0(h:Pv cx l H a<|.int x)(C:Pv cx l H b<|.int y)(E: -1000000<=y/\y<=1000000/\-1000000<=x/\x<=1000000)(s:List V->(MH->Prop)->MH->Prop)(k:s (AJ y (x-y).toNat) (λ_=>True) H):wpI cx X l (.range3 a b) s H:=h H Gr.rfl X _ (C H Gr.rfl X _ ⟨E,k⟩)
theorem nx(h:z8 l H):pM z8 Q .next l H:=h
theorem ED:bO I++[.ref e.1]=bO (I++[e]):=(cK (l₂:=[e])).symm
theorem fA:(bO I).length=I.length:=aL _
structure gE (H:MH) (A:Nat->Addr) (I:List ay):Prop where
 x:∃r1 r2,lq H A I r1 r2/\iL I r1 r2
 el:∀e∈I,cw H e.1 e.2
theorem gE.gr(h:gE H A I)(g:Gr H Y):gE Y A I:=af (h.x) λX L=>af (L) λM y=>ai (λa t=>⟨⟨X,M,(by
 refine let p:=_;(?_:p)
 exact af (a.s) λi e=>af (a.f1) λD L=>af (L) λz b=>af (a.f2) λG L=>af (L) λw c=>⟨a.inj,⟨i,g.at e⟩,g.at a.fl,g.at a.it,(eG D z<|b.gr g),(eG G w<|c.gr g),a.z⟩),t⟩,λe u=>(h.el e u).gr g⟩) (y)
theorem KM{l:ae}{p k Z:Nat}(h:cw H v x)(D:x.box=kE a b c d)(w:(kE a b c d)[p]?=S ((k:Int),(Z:Int)))(O:p<1000000)(G:l.at 1=S (.ref v))(s:l.at 4=S (.int p)):Pv cx l H (.idx (.attr (.loc 1) 97)<|.loc 4) (.tup [.int k,.int Z]):=by have:=iy (cx:=cx) (ab G) h;rw[D] at this;exact cG this (ab s) (zB w) O
theorem Ih(D:gE H A I)(u:cw H e.1 e.2)(hb:e.2.box=kE a b c d)(h6:a<=b/\b<16)(h2:c<=d/\d<4)(hz:I.length<=20):cI (n+2) T H 20 [.ref<|A 0,.ref e.1] (λv Y=>v= .none/\gE Y A (I++[e])/\nj A H Y) E:=λQ X q _=>by{
refine let Gz:=_;(?_:Gz)
refine af (D.x) λr1 h0=>af (h0) λM z7=>ai (λl m=>af (l.s) λdx B=>af (l.f1) λz8 h0=>af (h0) λx3 F1=>af (l.f2) λz9 h0=>af (h0) λx4 F2=>?_)<|z7;have z2:=l.z.1;have z3:=l.z.2;refine aR [S _,S _,N,N,N,N,N,N,N,N,N] aT J (aW ((iB J (aN (ab J) B J) l.it (by refine aa fA ?_;exact am hz (by decide))).to<|congrArg (λk:Nat=>V.int k) fA) (aW (cP (aB (ab J)<|aB (kq (ab J)<|ar) bc) (by decide:2<=1000000))
 (iY (M:=[.int (1:Nat),.int (0:Nat)]) J (by decide:2<=1000000) (λKQ k=>O0 (mM (iB tt (aN (ab J) B J) l.fl (by decide:2<=1000000)) ar) ar (show-1000000<=(-1)/\(-1)<=1000000/\-1000000<=1/\(1:Int)<=1000000 by decide) KQ k) ?_)))
refine let P:=_;let zb:=_;let zc:=_;(?_:mS _ _ P zb _ zc _)
refine dh trivial J (JN F2 (by decide) (am z3 (am (yg 16 hz) (by decide))) ⟨h2.1,lX h2.2 (by decide)⟩ (λh7 s=>iJ (aN (ab h7) B J) l.fl (ab s) J (by decide)) (λG s=>KM u hb J (by decide) G s) λH2 x0 p2 y9 x5 h8 G2 h3=>?_);have y:=Jf h3 (by decide) (by decide) (by decide);have h9:=h3.at B<|iI (l.ne 0 7) (l.ne 0 8)<|l.ne 0 9;have z4:=h3.at l.fl<|iI (l.ne 1 7) (l.ne 1 8)<|l.ne 1 9;refine nx (dh trivial J (JN (F1.ext h3 (iI (l.ne 3 7) (l.ne 3 8)<|l.ne 3 9) (iI (l.ne 6 7) (l.ne 6 8)<|l.ne 6 9) (iI (l.ne 4 7) (l.ne 4 8)<|l.ne 4 9)<|iI (l.ne 5 7) (l.ne 5 8)<|l.ne 5 9) (by decide) (am z2 (am (yg 16 hz) (by decide))) h6 (λh7 s=>iJ (aN (ab h7) h9 J) z4 (ab s) J (by decide)) (λG s=>KM (u.k6 l y) hb J (by decide) G s) λH1 x1 p1 x6 x7 z5 h4 t=>?_));have h5:=G2.ext t (iI (l.ne 7 3) (l.ne 7 4)<|l.ne 7 5) (iI (l.ne 10 3) (l.ne 10 4)<|l.ne 10 5) (iI (l.ne 8 3) (l.ne 8 4)<|l.ne 8 5)<|iI (l.ne 9 3) (l.ne 9 4)<|l.ne 9 5;refine nx (cj trivial (nx (lM (aN (ab J) (t.at h9<|iI (l.ne 0 3) (l.ne 0 4)<|l.ne 0 5) J) (t.at (h3.at l.it<|iI (l.ne 2 7) (l.ne 2 8)<|l.ne 2 9)<|iI (l.ne 2 3) (l.ne 2 4)<|l.ne 2 5) (by refine aa fA ?_;exact am hz (by decide)) (ab J)<|bA ?_)));have g3:nj A H1 (H1.set (A 2)<|.list<|bO I++[.ref e.1]):=λb _ hA=>MH.c9 (hA 2 (by decide));have o:=(y.trans (Jf t (by decide) (by decide) (by decide))).trans g3;have l1:=z5.len;have l2:=h8.len;have U:∀{x:Addr} {o:MO},x≠A 2->H1 x=S o->(H1.set (A 2)<|.list<|bO I++[.ref e.1]) x=S o:=λh e=>(MH.c9 h).trans e;refine q _ _ ⟨J,⟨(dm _ _ ⟨l.inj,⟨dx,U (l.ne 0 2)<|t.at h9<|iI (l.ne 0 3) (l.ne 0 4)<|l.ne 0 5⟩,U (l.ne 1 2)<|t.at z4<|iI (l.ne 1 3) (l.ne 1 4)<|l.ne 1 5,by exact aa MH.c5<|aa ED J,⟨z8,x1,U (l.ne 3 2) h4.a,U (l.ne 6 2) h4.bk,U (l.ne 4 2) h4.row,U (l.ne 5 2) h4.gl,h4.b⟩,⟨z9,x0,U (l.ne 7 2) h5.a,U (l.ne 10 2) h5.bk,U (l.ne 8 2) h5.row,U (l.ne 9 2) h5.gl,h5.b⟩,?_⟩ ((by{
refine let P:=_;let zb:=_;let zc:=_;(?_:iL P zb zc)
have Z:(I++[e]).length=I.length+1:=bV;have z6:(M++jN 2 I.length (I.length+1) p2).length=M.length+p2.length:=by refine aa bV ?_;unfold jN;exact congrArg _<|aL ..
have O:∀R∈jN 2 I.length (I.length+1) p2,R.g1=I.length:=λR j=>(rN j).1;have y:=λR j=>(m.g2 R j).2;have z0:=z6▸(λr=>by{
refine⟨λh=>?_,λw=>?_⟩
.have ez:=bX h.2;refine(aG _ ez ?_);rw[uQ h.1] at ez;exact O _<|du ez
·(refine aU (w) λR ez h=>?_)
 refine⟨dw λc=>?_,(cW.mp ez).1⟩;rw[xV c] at ez;exact absurd (y R<|du ez) (by refine aa h ?_;exact jZ _)}:vx (M++_) M.length (M++_).length<|qp I)
refine af ((by{
induction p2 using aS with
|nil=>exact absurd h8<|fu<|oU h2.1
|cons p ps=>exact⟨_,(uQ<|cD _).trans (by exact congrArg _<|xW ..),J⟩}:∃R,(M++jN 2 (qp I) ((qp I)+1) p2)[M.length]?=S R/\R.g1=(qp I))) λR0 h0=>ai (λz1 g0=>⟨λez u=>?_,λR j=>?_,λR j=>?_,λi ez a' C c' d' u h1 v=>?_,λi ez a' C c' d' u h1 v=>?_⟩)<|h0
.rcases cp.mp u with u|u
 .exact m.two ez u
 .exact⟨a,b,c,d,aa (cJ.mp u) hb,h6,h2⟩
.refine aa Z ?_;rcases cp.mp j with j|j
 .exact⟨(m.g2 R j).1,uG (m.g2 R j).2⟩
 ·(refine ai (λe1 e2=>?_)<|rN j)
  exact aa e1<|aa e2<|⟨J,iO _⟩
.refine Z.symm▸z6.symm▸?_;rcases cp.mp j with j|j
 .refine jy (m.g1 R j) λk1 k2 zr=>?_;obtain⟨i,k3,k4⟩:=zr;exact(bp k1 (am k2<|eF _ _) ⟨i,uG k3,(KR O<|fu k3).mpr k4⟩)
 ·(refine ai (λe1 e2=>?_)<|rN j)
  exact aa e1<|aa e2<|(bp (eF _ _) (cD _) ⟨_,iO _,z0⟩)
.rcases Ea u with⟨hi,u⟩|⟨hi,u⟩
 .exact(m.c2 i ez a' C c' d' u h1 v).trans (Nv λR j w=>absurd ((O R j).symm.trans w.1)<|uJ hi).symm
 .rw[u,hb] at h1;have z:=FJ h1;exact z.2.2.1▸z.2.2.2▸hi▸((and_congr nN abg.symm).trans<|(Mv h8).trans<|(EU λR j=>⟨λw=>⟨O R j,w⟩,And.right⟩).trans (Jw λR j w=>absurd w.1<|fu<|y R j).symm)
.rcases Ea u with⟨hi,u⟩|⟨hi,u⟩
 .refine(m.c1 i ez a' C c' d' u h1 v).trans ((EU λR j=>and_congr_left λ_=>(KR O<|fu hi).symm).trans (Nv λR j w=>?_).symm);replace w:=w.1;rw[(rN j).1,(rN j).2] at w;refine aU ((w M.length).mp<|(z0 M.length).mpr ⟨R0,z1,g0⟩) λL x2 g=>?_;exact absurd ((congrArg Rl.g1<|aA<|z1.symm.trans x2).symm.trans g0|>.symm.trans g)<|uJ hi
 .rw[u,hb] at h1;have z:=FJ h1;exact z.1▸z.2.1▸hi▸((and_congr nN abg.symm).trans<|(Mv z5).trans<|(EU λR j=>⟨λw=>⟨(rN j).1▸(aa ((rN j).2) z0),w⟩,And.right⟩).trans (Jw λR j w=>absurd (cO ((w.1 M.length).mpr<|aG R0 z1 g0).2 (m.g1 R j).2.1)<|jZ _).symm)}))),λx f=>(dP (cp.mp f) (λf=>(D.el x f).k6 l o) λf=>(cJ.mp f).symm▸u.k6 l o)⟩,o⟩
unfold jN;exact aa bV (aa bV (aa bV (aa (aL ..) (aa (aL ..) (aa sG (⟨sv z2<|am (oM _ a)<|am l1 h6.2,sv z3 (am (oM _ c) (am l2 (am h2.2 (by decide))))⟩))))))}
theorem Ba:v>>>b=0↔v<2^b:=by exact aa (PD ..)<|Nat.div_eq_zero_iff_lt<|sF b
theorem Qs{v b:Nat}(h:fI H a d U i s o m M)(D:d<=4)(w:∀R∈U,R.f6 v->v<2^d):∃y:Nat,ew (n+1) T H 18 [.ref a,.int v,.int b] (.int y)/\∀r,y.testBit r=T↔b.testBit r=T/\∃R:Rl,U[r]?=S R/\R.f6 v:=by{
refine let p:=_;(?_:p)
by_cases c:v<2^d
.have x:=cO c (PF (by decide) D);exact af (h.b.bit v x) λj L=>ai (λu B=>⟨_,(λI g Q X q=>by
  have h:=h.gr g;have f:Pv (an n T) [S _,S _,S<|.int b,S<|.int b,S _,S<|.ref o] I (.bin .band (.bin .shr (.loc 1)<|.loc 4)<|.bin .sub (.bin .shl _<|.attr (.loc 0) 206)<|.int 1) _:=(wg (qc (ab J)<|(ab J).to J) (oj (kI (aN (ab J) h.a J) (by decide)) (ar) (by decide))).to (by exact aa (NT x) J)
  refine aR [S _,S _,S _,N,N,N] J J (aH (fC (qc (ab J)<|aN (ab J) h.a J)<|ar) (λz=>?_) λ_=>bA (aW (ab J) (aW (Kj (aN (ab J) h.a J) (aN (ab J) h.a J) (by decide) (by decide)) (iY (M:=[.ref o]) J yP (pB (aN (ab J) h.a J) h.bk)
   (dh h.bk J (EE J (aN (ab J) h.a J) (aW (wg (ab J) (iJ (ab J) h.row f u (lX x (by decide))))<|bA<|cj h.bk<|aZ (ab J) q)))))))
  rw[(Ba.mpr c)] at z;exact ak z),λr=>by refine aa (Nat.testBit_and ..)<|aa (kc ..)<|aa (B ..) ?_;rw[(by{
unfold hit;refine⟨λz=>?_,λj=>?_⟩
.induction e:U[r]? using aV with
 |none=>replace z:=e▸z;exact ak z
 |some R=>replace z:=e▸z;exact(aG R J (of_decide_eq_true z:R.first<=v/\v<R.first+R.cnt))
·(refine aU (j) λR e k=>?_)
 exact e▸decide_eq_true k}:hit U r v=T↔∃R:Rl,U[r]?=S R/\R.f6 v)]⟩) (L)
.refine(aG 0 (λI g Q X q=>aR [S _,S _,S _,N,N,N] J J<|aH (fC (qc (ab J)<|aN (ab J) (h.gr g).a J)<|ar) (λ_=>aZ (ar) q) λl=>absurd (fL.mp<|beq_iff_eq.mp<|dX l) λz=>c<|Ba.mp z) λr=>⟨λz=>?_,λz=>?_⟩)
 .rw[Hh] at z;exact ak z
 ·(refine ai (λ_ L=>?_)<|z;refine aU (L) λR e k=>?_)
  exact absurd (w R (du e) k) c}
theorem iL.p7(D:iL I X M):∀R∈X,R.f6 v->v<16:=λR j k=>by refine jy (D.g1 R j) λ_ _ Z=>?_;obtain⟨i,hi,O⟩:=Z;refine ie (D.two _<|kZ hi) λa b c Z=>?_;obtain⟨d,e,q,_⟩:=Z;exact cN ((D.c1 i _ a b c d (bX hi) e v).mpr<|bl R j O k).2 q.2
theorem iL.p8(D:iL I X M):∀R∈M,R.f6 v->v<4:=λR j k=>by have hi:=(D.g2 R j).2;refine ie (D.two _<|kZ hi) λa b c Z=>?_;obtain⟨d,e,_,f⟩:=Z;exact cN ((D.c2 _ _ a b c d (bX hi) e v).mpr<|bl R j J k).2 f.2
def Wi(Y q:Nat)(e:ay):Prop:=∃a b c d,e.2.box=kE a b c d/\(a<=Y/\Y<=b)/\(c<=q/\q<=d)
def uk(s:Addr)(Y q:Nat)(G:Int)(b:Nat)(p f m:Option V):ae:=[S<|.ref s,S<|.tup [.int Y,.int q],S<|.int G,S<|.int b,p,f,m]
theorem Iz{Z k1 u v d b:Nat}(j:fI H a d U dx h2 o gl M)(D:d<=4)(E:U.length<=1000)(w:∀R∈U,R.f6 v->v<2^d)(hg:∀R∈U,R.g1<=R.g2/\R.g2<=1000)(hf:∀{l:ae},l.at 0=S (.ref s)->l.at 4=S (.int u)->Pv (an (n+1) T) l H (.idx (.attr (.loc 0) 212)<|.loc 4) (.ref a)) (hk:([V.int Z,.int k1])[u]?=S (.int v)) (O:u<1000000)(q:∀x f,(∀i,x.testBit i=T↔∃(r:Nat) (R:Rl),U[r]?=S R/\(b.testBit r=T/\R.f6 v)/\R.g1<=i/\i<R.g2)->Q .next (uk s Z k1 G x (S<|.int u) f m) H):wpSs (an (n+1) T) X Jj Q (uk s Z k1 G b (S<|.int u) f m) H:=by{
refine let P:=_;(?_:wpSs _ _ _ _ P _)
obtain⟨y,h,B⟩:=Qs j D w;have C:=λr z=>by exact ai (λ_ h0=>af (h0) λR h1=>ai (λe _=>(cW.mp e).1)<|h1)<|(B r).mp z
refine aW (hf J J)<|oh (E:=λ_ _=>False) (oB (aB (ab J)<|aB (cH (aB (ab J)<|aB (cG (ab J) (ab J) hk O)<|aM J) h) bc)<|C9 j E C hg) (λt Y z=>let p:=_;(?_:p)) λ_ _ z=>z.elim;obtain⟨g,x,I,hx⟩:=z;clear C h O hk hf hg w E D j M gl o h2 dx d;subst g I;refine bA<|q x _ λi=>(hx i).trans ⟨λt=>?_,λt=>?_⟩
.refine let p:=_;((af (t) λr h0=>af (h0) λR h1=>ai (λe h3=>ai (λz t=>?_)<|h3)<|h1):p)
 obtain⟨c,L,A,k⟩:=(B r).mp z;replace A:=e▸A
 (obtain rfl:=aA A)
 exact(fN r R e ⟨c,k⟩ t)
.refine let p:=_;(?_:p)
 refine iC t λr R e h4 t=>?_;obtain⟨c,k⟩:=h4;exact(fN r R e ((B r).mpr ⟨c,R,e,k⟩) t)}
theorem YZ:(2^k-1).testBit r=T↔r<k:=by exact aa (abb ..) decide_eq_true_iff
theorem AR{l:ae}{k:Nat}(D:lq H A I X M)(r:l.at 0=S (.ref<|A 0))(Z:Pv cx l H e<|.int k)(f:I[k]?=S x)(w:k<1000000):Pv cx l H (.idx (.attr (.loc 0) 101) e) (.ref x.1):=af (D.s) λi B=>iJ (aN (ab r) B J) D.it Z (FC f) w
theorem LK{l:ae}(h:l.at i=S (.int (x>>>k:Nat))):Pv cx l H (.cmp (.bin .band (.loc i)<|.int 1) .eq<|.int 1) (.bool<|x.testBit k):=(gF (wg (ab h)<|ar (i:=1))<|ar).to (by{
refine Lx▸(congrArg V.bool ?_)
induction e:(x>>>k&&&1)==1 using aX with
|true=>refine aa (beq_iff_eq.mp e) ?_;rfl
|false=>exact beq_eq_false_iff_ne.mpr λz=>beq_eq_false_iff_ne.mp e<|fL.mp z})
theorem N5{B:ay->Prop}(D:lq H A I r1 M)(v:∀e∈I,cw H e.1 e.2)(E:I.length<=1000)(O:∀i,x.testBit i=T↔∃e,I[i]?=S e/\B e)(R:Is I B o)(q:Q (iV<|be G o) H):wpSs (an (n+1) T) X (.cons (.while_ (.cmp (.loc 3) .ne<|.int 0) LX)<|.cons (.ret .none) .nil) (cL Q) (uk (A 0) l w G x p f<|S<|.int (0:Nat)) H:=by{
refine let P:=_;let zb:=_;let zc:=_;((qa (λj C Y=>Y=H/\∃k,C=uk (A 0) l w G (x>>>k) p f (S<|.int k)/\(∀i e,i<k->x.testBit i=T->I[i]?=S e->e.2.live G=F)/\j=x>>>k) x ⟨J,0,by exact aa BW J,λi e h=>absurd h<|lV i,BW.symm⟩ tt λz8 j C Y i hJ=>?_):wpSs P _ _ zb zc _)
obtain⟨g,k,e2,a,e3⟩:=i;subst g e2 e3;refine let P:=_;(⟨_,fC (ab J)<|ar,λL=>?_,λL=>?_⟩:qJ _ _ _ _ _ _ _ P _)
.have r:=λz=>beq_eq_false_iff_ne.mp (eP L) (congrArg xZ z);have U:(∀e,x.testBit k=T->I[k]?=S e->e.2.live G=F)->wpSs (an (n+1) T) X (.cons (.asg 3<|.bin .shr (.loc 3) _)<|.cons (.aug 6 .add<|.int 1) .nil) (pJ z8<|cL Q) (uk (A 0) l w G (x>>>k) p f<|S<|.int k) Y:=λb=>
  aW ((qc (ab J)<|ar).to (by rw[<-abe])) (Fm J ar (hJ _ _ _ (Jx r) ⟨J,k+1,J,λi e Z c u=>(BM<|kh Z).elim (λh=>a i e h c u) λh=>by subst h;exact b e c u,J⟩))
 by_cases t:x.testBit k=T
 ·(refine aU ((O k).mp t) λe u s=>?_)
  have m:=du u;have y:=(R e).mpr ⟨m,s⟩;have it:=λcx=>AR (cx:=cx) (l:=uk (A 0) l w G (x>>>k) p f _) (e:=.loc 6) D J (ab J) u<|cO ((cW.mp u).1)<|bh E;refine aH (dD (LK J) λ_=>cH (aB (it _)<|aM aT)<|po<|v e m) (λz=>aZ (it _) ?_) λz=>bA<|U λe' _ d=>?_
  .rw[y] at q;unfold be at q;rw[iQ,(bm.mp z).2] at q;exact q
  .replace d:=u▸d;(refine au (aA d) ?_);rw[t] at z;exact z
 .have t:=mi.mpr t;refine aH (dD (q:=T) (LK J) λz=>by rw[t] at z;exact ak z) (λz=>?_) λz=>bA (U λe' c=>by replace c:=t▸c;exact ak c);rw[t] at z;exact ak z
.have r:=fL.mp (beq_iff_eq.mp<|dX L);refine aZ eh ?_
 suffices z:be G o=N by rw[z] at q;exact q
 induction o using aV with
 |none=>rfl
 |some e=>{
obtain⟨m,s⟩:=(R e).mp J;obtain⟨i,Z⟩:=oV.mp m;have t:=(O i).mpr<|aG e Z s;have:=BP λz=>by replace t:=(JX r z)▸t;exact ak t
unfold be;refine aa iQ<|aa (a i e this t Z) ?_;rfl}}
theorem Qy(h:gE H A I)(U:I.length<=20)(ho:Is I (Wi k0 k1) o):cI (n+2) T H 22079 [.ref<|A 0,.tup [.int k0,.int k1],.int G] (λv Y=>v=iV (be G o)/\Y=H) E:=λQ X q _=>by{
refine let t:=_;(?_:t)
refine af (h.x) λr1 L=>af (L) λM y=>ai (λD m=>af (D.s) λdx B=>af (D.f1) λh3 L=>af (L) λz g=>af (D.f2) λh4 L=>af (L) λh5 f=>?_)<|y;have k:M.length<=1000:=am D.z.2 (am (yg 16 U) (by decide));have fld:∀{l:ae} {cx:Cx} {i:ME} {p:Nat} {a:Addr},l.at 0=S _->Pv cx l H i _->([V.ref<|A 3,V.ref<|A 7])[p]?=S _->p<1000000->Pv cx l H (.idx (.attr _ 212) i) (.ref a):=λh0 Z hx O=>iJ (aN (ab h0) B J) D.fl Z hx O;refine aR [S _,S _,S _,N,N,N,N] J J (aW (oj (kI (aN (fld J (ar (i:=(0:Nat))) J (by decide)) g.a J) (bh (am D.z.1 (am (yg 16 U) (by decide))))) (ar)<|sF _)
 (mu (m:=2) (iB J (aN (ab J) B J) D.fl (by decide:2<=1000000)) (by decide) (dh trivial J (Iz g (by decide) (am D.z.1 (am (yg 16 U) (by decide))) m.p7 (λR j=>⟨(m.g1 R j).1,am (m.g1 R j).2.1 k⟩) (λh0 s=>fld h0 (ab s) J (by decide)) J (by decide) λx1 f1 h1=>?_))))
refine nx (dh trivial J (Iz f (by decide) k m.p8 (λR j=>?_) (λh0 s=>fld h0 (ab s) J (by decide)) J (by decide) λx2 f2 h2=>?_))
·(refine ai (λe Z=>?_)<|m.g2 R j)
 exact aa e ⟨si _,am Z (am U (by decide))⟩
refine nx (cj trivial (nx (aW (ar) (N5 D h.el (am U (by decide)) (λi=>?_) ho<|q _ _ ⟨J,J⟩))));rw[m.find (λi=>(h1 i).trans ⟨λw=>?_,λw=>?_⟩) h2]
.refine⟨λw=>?_,λw=>?_⟩
 .refine let t:=_;(?_:t)
  refine ie w λe a b zr=>?_;obtain⟨c,d,u,w⟩:=zr;exact⟨e,u,a,b,c,d,w⟩
 .refine let t:=_;(?_:t)
  refine aU w λe u zr=>?_;obtain⟨a,b,c,d,w⟩:=zr;exact⟨e,a,b,c,d,u,w⟩
.refine let t:=_;(?_:t)
 refine iC w λr R e P C=>?_;obtain⟨_,w⟩:=P;exact(fN r R e w C)
.refine let t:=_;((af (w) λr L=>af (L) λR y=>ai (λe x=>?_)<|y):t)
 refine ai (λw C=>?_)<|x;exact(fN r R e ⟨YZ.mpr (cW.mp e).1,w⟩ C)}
def lL(b:bB)(G:Int)(e:ay):Bool:=decide (e.2.box=b)&&e.2.live G
theorem RP{H:MH}(Z:H p=S (.list L)):∀(z8:List ay) (x:Option V),(∀e∈z8,cw H e.1 e.2)->Q (iV<|z8.find?<|lL b G) H->cC (n+1) X (.one 3) (λH=>H p=S (.list L)) Mg (dE (an (n+1) T) X (.cons (.ret .none) .nil)<|cL Q) (bO z8) [S<|.ref s,S<|bv b,S<|.int G,x] H:=by{
intro z8
induction z8 with
|nil=>exact λx _ q=>fH Z<|aZ eh q
|cons e z8 a=>{
intro x v q;have u:=v e<|bw _;rw[fG] at q;refine dh Z J<|aH (t:=lL b G e) (dD (sL (iy (ab J) u)<|ab J) λ_=>cH (aM J)<|po u) (λz=>aZ (ab J) ?_) λz=>bA<|a _ (λe u=>v e<|cq _ u) ?_
.rw[z] at q;exact q
.rw[z] at q;exact q}}
abbrev P2:List V:=fj 16 (.int ((0:Nat):Int))
structure Dz (H:MH) (bits:Nat) (v:V) (H':MH) (a dx bk row gl:Addr):Prop where
 v:v= .ref a
 f:(H a=none/\H bk=none/\H row=none/\H gl=none)
 F:fI H' a bits [] dx bk row gl P2
 g:Gr H H'
theorem MW{d:Nat}(D:1<=d/\d<=4)(B:dA (an (n+1) T) l H j [.int d,.int (4:Nat)]):Ex (an (n+1) T) l H (.new 16 j) (λv Y=>∃a i s o m,Dz H d v Y a i s o m) E:=
 Js B λa i R=>λQ X q x=>A8 D MH.c5 Q X (λv Y z=>q v Y (by{
refine let p:=_;(?_:p)
obtain⟨e,s,o,m,⟨G,M,C⟩,g,h⟩:=z;have nn:∀{b:Addr},(H.set a<|.inst 16 i []) b=N->H b=N:=λ{b} e=>by{
by_cases c:b=a
.replace e:=MH.c5▸c▸e;cases e
.replace e:=(MH.c9 c)▸e;exact e}
refine⟨e,a,i,s,o,m,J,(ot R (nn G) (nn M)<|nn C),g,λb f _=>?_⟩;have c:b≠a:=λz=>f<|aa z R;exact(h b (by refine aa (MH.c9 c) ?_;exact f) λk=>c<|cJ.mp k).trans<|MH.c9 c})) x
theorem E8{w:List Addr}(h:w.Nodup)(Z:i<w.length)(h9:j<w.length)(e:w.getD i 0=w.getD j 0):i=j:=by rw[yd,yd,bX Z,bX h9] at e;exact(Z4 Z h).mp (by refine aa (bX Z)<|aa (bX h9) ?_;exact congrArg S e)
def tF(i:Nat):Nat:=[10,9,0,8,6,5,7,4,2,1,3].getD i 0
theorem U4:∀i j:Fin 11,tF i=tF j->i=j:=by unfold tF;decide
theorem JR:∀i:Fin 11,tF i<11:=by unfold tF;decide
def sT(w:List Addr)(i:Nat):Addr:=w.getD (tF i) 0
theorem Yv(h:w.Nodup)(o:w.length=11)(i j:Nat)(Z:i<11)(h9:j<11)(e:sT w i=sT w j):i=j:=by have:=E8 h (o▸JR ⟨i,Z⟩) (o▸JR ⟨j,h9⟩) e;exact Fin.mk.inj<|U4 ⟨i,Z⟩ ⟨j,h9⟩ this
theorem wk{H:MH}{w:List Addr}(h:∀x∈w,H x≠N)(R:H a=N):a∉w:=λE=>h a E R
theorem ul{H:MH}(e:H a=S o)(h:∀x∈w,H x≠N):∀x∈a::w,H x≠N:=λx f=>by{
rcases bJ.mp f with rfl|f
.exact nn e
.exact h x f}
theorem Dz.nd{e:V}(c:Dz H d e Y a i s o m)(P:w.Nodup)(h:∀x∈w,H x≠N):(m::o::s::a::w).Nodup/\∀x∈m::o::s::a::w,Y x≠N:=by refine ai (λG L=>ai (λM l=>ai (λC n=>?_)<|l)<|L)<|c.f;refine jy c.F.ne λX O R=>?_;obtain⟨n1,n2⟩:=X;obtain⟨u,k,j⟩:=O;have U:∀{x y:Addr} {w:List Addr},x≠y->x∉w->x∉y::w:=λh p E=>(bJ.mp E).elim h p;exact⟨fq.mpr ⟨U R.symm<|U k.symm<|U n2.symm<|wk h n,fq.mpr ⟨U u.symm<|U n1.symm<|wk h C,fq.mpr ⟨U j<|wk h M,fq.mpr ⟨wk h G,P⟩⟩⟩⟩,(ul c.F.gl<|ul c.F.row<|ul c.F.bk<|ul c.F.a λx b=>aa (c.g x (h x b) aJ)<|h x b)⟩
def Fa(f i:Addr):List (Nat×V):=[(107,.tup [.int (4:Nat),.int (2:Nat)]),(206,.int (4:Nat)),(212,.ref f),(101,.ref i)]
def wD(e:ay):Prop:=∃a b c d:Nat,e.2.box=kE a b c d/\(a<=b/\b<16)/\(c<=d/\d<4)
theorem eO.set:eO [x] H (H.set x o):=λb _ E=>MH.c9 λz=>E<|z▸bw _
theorem fc{b x:Addr}(h:b≠x):b∉[x]:=λE=>h<|cJ.mp E
theorem U7:∀(z8 I:List ay) (H:MH) (y:Option V),gE H A I->H g=S (.list L)->(∀i,i<11->g≠A i)->(∀e∈z8,cw H e.1 e.2/\wD e)->I.length+z8.length<=20->(∀Y y,gE Y A (I++z8)->nj A H Y->Q .next [S<|.ref<|A 0,S x,z,y] Y)->cC (n+2) X (.one 3) (λH=>H g=S (.list L)) NN Q (bO z8) [S<|.ref<|A 0,S x,z,y] H:=by{
intro z8
induction z8 with
|nil=>exact λI H y D R _ _ _ q=>fH R (q H y (by exact aa (fm ..) D) λ_ _ _=>J)
|cons e z8 Z=>
 intro I H y D R t r E q;refine let P:=_;let C:=_;let j:=_;let U:=_;(?_:cC P _ _ C _ _ j U _)
 obtain⟨u,a,b,c,d,O,k,h0⟩:=r e<|bw _;refine dh R J<|nT (E:=λ_ _=>False) (oB (aM J)<|Ih D u O k h0<|am (eF _ _) E) (λv Y w=>let p:=_;(?_:p)) λ_ _ z=>z.elim;refine ai (λ_ s=>ai (λh o=>af (D.x) λr1 s=>af (s) λM h1=>ai (λl _=>bA (Z _ Y _ h ((o g (by refine aa R ?_;exact(by intro z;cases z)) t).trans R) t (λx f=>⟨(r x<|cq _ f).1.k6 l o,(r x<|cq _ f).2⟩) ?_ λG y m B=>q G y (by rw[ip] at m;exact m)<|o.trans B))<|h1)<|s)<|w;refine aa bV<|aa sG<|aa (fZ ..) ?_;rw[fF 1];exact E}
theorem I8{H:MH}(B:H s=S (.inst 21 dx<|Fa f0 i0))(R:H g=S (.list<|bO z8))(el:∀e∈z8,cw H e.1 e.2/\wD e)(hz:z8.length<=20):cI (n+3) T H 22086 [.ref s,.ref g] (λv Y=>v= .none/\∃A:Nat->Addr,A 0=s/\(∀i,i<11->A i=s\/H (A i)=N)/\gE Y A z8/\∀b,H b≠N->b≠s->Y b=H b) E:=λQ X q _=>by{
have gs:g≠s:=λz=>by replace R:=B▸z▸R;cases R
refine aR [S _,S _,N,N] J J<|rj J B λa w=>?_;have M:s≠a:=λz=>by replace w:=B▸z▸w;cases w
generalize e1:(H.set a _).set s _=I;refine let za:=_;let zb:=_;let zc:=_;let U:=_;(?_:wpSs za zb _ zc U _)
have m:I s=S (.inst 21 dx<|Fa a i0):=e1▸MH.c5;have h2:=e1▸(MH.c9 M.symm).trans MH.c5;have h6:∀b,H b≠N->b≠s->I b=H b:=λb D c=>e1▸(MH.c9 c).trans (MH.c9 λz=>D<|aa z w);have C:∀b,I b=N->H b=N:=λb h=>by{
by_cases c:b=s
.replace h:=m▸c▸h;cases h
.induction k:H b using aV with
 |none=>rfl
 |some o=>exact au k (au (h6 b (by refine aa k ?_;exact(by intro z;cases z)) c) h)}
refine iY J (by decide) (wV<|aN (ab J) m J) (dh trivial J (Ez (E:=λ_ _=>False) (aN (ab J) m J) h2 (bW _) (MW (by decide)<|aB (ab J)<|aB (aN (ab J) m J) bc) (λv H2 h3=>?_) λ_ _ z=>z.elim));refine ie h3 λG x0 h7 zr=>?_;obtain⟨h8,z0,L⟩:=zr;obtain⟨x1,z1⟩:=L.nd (fq.mpr ⟨fc M.symm,fq.mpr ⟨aJ,gW⟩⟩)<|ul h2<|ul m λ_ h=>absurd h aJ;have v1:=L.v;refine aa v1 ?_;refine⟨L.g.at h2,bA<|nx<|dh trivial J ?_⟩;generalize e3:H2.set a _=H3;refine let za:=_;let zb:=_;let zc:=_;let U:=_;(?_:wpSs za zb _ zc U _)
have g3:=e3▸eO.set;have h4:=g3.at (L.g.at m)<|fc M;have P:=e3▸MH.c5;have x2:=λx f=>by{
by_cases c:x=a
.exact c▸nn P
.exact aa (g3 x (z1 x f)<|fc c)<|z1 x f}
refine Ez (E:=λ_ _=>False) (aN (ab J) h4 J) P (by decide:1<=1000000) (MW (by decide)<|aB (ab J)<|aB (aN (ab J) h4 J) bc) (λv H4 h3=>?_) λ_ _ z=>z.elim;refine ie h3 λz2 x3 z3 zr=>?_;obtain⟨z4,z5,N2⟩:=zr;refine ai (λx4 z6=>?_)<|N2.nd x1 x2;have v2:=N2.v;refine aa v2 ?_;refine⟨N2.g.at P,bA<|nx<|cj trivial<|nx ?_⟩;generalize O:H4.set a _=H5;have r:=O▸eO.set;have h5:=O▸MH.c5;have x5:=λx f=>by{
by_cases c:x=a
.exact c▸nn h5
.exact aa (r x (z6 x f)<|fc c)<|z6 x f}
refine rj J (r.at (N2.g.at h4)<|fc M) λp t=>?_;have z7:=Yv (fq.mpr ⟨wk x5 t,x4⟩) J;have l:∀i j,fh i 11=T->fh j 11=T->dQ i j=F->sT _ i≠sT _ j:=λi j Z h9 d e=>by have:=z7 i j (fY.mp Z) (fY.mp h9) e;subst this;rw[PG] at d;exact ak d
generalize e6:(H5.set p _).set s _=H6;have x6:=e6▸(MH.c9<|l 2 0 J J J).trans MH.c5;have g6:eO [p,s] H5 H6:=λb _ hm=>by exact au e6 ((MH.c9 λz=>hm (by refine z▸?_;exact cq _<|bw _)).trans (MH.c9 λz=>hm (by refine z▸?_;exact bw _)))
have h0:∀{b:Addr},b≠p->b≠s->b∉[p,s]:=λx7 x8 hm=>(bJ.mp hm).elim x7 λh=>x8<|cJ.mp h;have F1:=(((L.F.ext g3 (fc<|l 3 1 J J J) (fc<|l 6 1 J J J) (fc<|l 4 1 J J J)<|fc<|l 5 1 J J J).gr N2.g).ext r (fc<|l 3 1 J J J) (fc<|l 6 1 J J J) (fc<|l 4 1 J J J)<|fc<|l 5 1 J J J).ext g6
 (h0 (l 3 2 J J J)<|l 3 0 J J J) (h0 (l 6 2 J J J)<|l 6 0 J J J) (h0 (l 4 2 J J J)<|l 4 0 J J J) (h0 (l 5 2 J J J)<|l 5 0 J J J)
have F2:=(N2.F.ext r (fc<|l 7 1 J J J) (fc<|l 10 1 J J J) (fc<|l 8 1 J J J)<|fc<|l 9 1 J J J).ext g6
 (h0 (l 7 2 J J J)<|l 7 0 J J J) (h0 (l 10 2 J J J)<|l 10 0 J J J) (h0 (l 8 2 J J J)<|l 8 0 J J J) (h0 (l 9 2 J J J)<|l 9 0 J J J)
have h1:∀b,H b≠N->b≠s->H6 b=H b:=λb D c=>by have c1:b≠a:=λz=>D<|aa z w;have k1:=h6 b D c;have k2:=(L.g b (by refine aa k1 ?_;exact D) aJ).trans k1;have k3:=(g3 b (by refine aa k2 ?_;exact D)<|fc c1).trans k2;have k4:=(N2.g b (by refine aa k3 ?_;exact D) aJ).trans k3;have k5:=(r b (by refine aa k4 ?_;exact D)<|fc c1).trans k4;exact(g6 b (by refine aa k5 ?_;exact D) (h0 (λz=>by replace k5:=t▸z▸k5;exact D<|aa z k5.symm) c)).trans k5
have hA:∀i,i<11->sT (p::z5::z4::z3::z2::z0::h8::h7::G::[a,s]) i=s\/H (sT (p::z5::z4::z3::z2::z0::h8::h7::G::[a,s]) i)=N:=by{
have u:∀b,H3 b=N->H b=N:=λb h=>(λb h=>C b<|L.g.none h) b (by{
induction k:H2 b using aV with
|none=>rfl
|some o=>
 have c:b≠a:=λz=>by replace h:=P▸z▸h;cases h
 replace h:=(g3.at k<|fc c)▸h;cases h})
have n5:∀b,H5 b=N->H b=N:=λb h=>u b (N2.g.none (by{
induction k:H4 b using aV with
|none=>rfl
|some o=>
 have c:b≠a:=λz=>by replace h:=h5▸z▸h;cases h
 replace h:=(r.at k<|fc c)▸h;cases h}))
exact bM (bM (bM (bM (bM (bM (bM (bM (bM (bM (bM pE<|.inl J)<|.inr w)<|.inr<|n5 p t)<|.inr<|C _ L.f.1)<|.inr<|C _ L.f.2.2.1)<|.inr<|C _ L.f.2.2.2)<|.inr<|C _ L.f.2.1)<|.inr<|u _ N2.f.1)<|.inr<|u _ N2.f.2.2.1)<|.inr<|u _ N2.f.2.2.2)<|.inr<|u _ N2.f.2.1}
have z9:=(h1 g (by refine aa R ?_;exact(by intro z;cases z)) gs).trans R;refine iY J (by refine aa fA ?_;exact bh (am hz (by decide))) (pB (ab J) z9) (U7 z8 [] H6 N (⟨(dm ([]) ([]) ⟨z7,⟨dx,by refine au e6 ?_;exact MH.c5⟩,g6.at h5<|h0 (l 1 2 J J J) M.symm,x6,⟨x0,_,F1⟩,⟨x3,_,F2⟩,bW _,bW _⟩ iL.nil),λ_ h=>(by cases h)⟩) z9 (λi Z=>?_) (λe he=>?_) (by exact aa jF<|aa (da ..) hz) λY y T' o=>nx<|bA<|q _ _ ⟨J,_,J,hA,T',λb D c=>?_⟩)
.exact dP (hA i Z) (λz=>z.symm▸gs) λz=>λk=>by replace z:=R▸k▸z;cases z
·(refine ai (λk x9=>?_)<|el e he)
 exact af (k) λe0 e2=>af (e2) λd k=>⟨(eG e0 d ((h1 _ (by refine aa k ?_;exact(by intro z;cases z)) (λz=>by replace k:=B▸z▸k;cases k)).trans k)),x9⟩
.refine(o b (by refine aa (h1 b D c) ?_;exact D) λi Z=>?_).trans (h1 b D c);exact dP (hA i Z) (λz=>z.symm▸c) λz=>λk=>D<|aa k z}
structure lT (H:MH) (s:Addr) (J:List ay) (H':MH) (A:Nat->Addr):Prop where
 h0:A 0=s
 new:∀i,i<11->A i=s\/H (A i)=none
 T:gE H' A J
 old:∀b,H b≠none->b≠s->H' b=H b
theorem lT.after{H:MH}(h:lT I s z8 Y A)(g:∀b,H b≠N->b≠s->I b=H b):lT H s z8 Y A where
 h0:=h.h0
 new:=λi Z=>by
  by_cases k:A i=s
  .exact .inl k
  .refine .inr ?_
   induction e:H (A i) using aV with
   |none=>rfl
   |some o=>rw[<-g _ (by exact aa e (by intro z;cases z)) k,((h.new i Z).resolve_left k)] at e;exact aD e
 T:=h.T
 old:=λb D c=>by
  exact(h.old b (by refine aa (g b D c) ?_;exact D) c).trans<|g b D c
theorem Eg{H:MH}(B:H s=S (.inst 21 i<|Fa o b))(R:H g=S (.list<|bO z8))(a:∀e∈z8,cw H e.1 e.2/\wD e)(c:z8.length<=20):cI (n+3) T H 22086 [.ref s,.ref g] (λv Y=>v= .none/\∃A,lT H s z8 Y A) E:=λQ X q x=>I8 B R a c Q X (λv Y w=>by obtain⟨e,A,r,G,D,M⟩:=w;exact q v Y ⟨e,A,r,G,D,M⟩) x
theorem Zp{H:MH}(B:H s=S (.inst 21 u [])):cI (n+4) T H 22075 [.ref s,.tup [.int (4:Nat),.int (2:Nat)]] (λv Y=>v= .none/\∃A,lT H s [] Y A) E:=λQ X q _=>by{
refine aR [S _,S _,S _] J J<|bY (ab J) (ab J) B<|bY (ab J) (ab J) MH.c5<|au MH.d4.symm<|rj J MH.c5 λf G=>?_;have d:s≠f:=λz=>by replace G:=MH.c5▸z▸G;cases G
replace G:=(MH.c9 d.symm)▸G;refine rj J MH.c5 λi a=>?_;have l:s≠i:=λz=>by replace a:=MH.c5▸z▸a;cases a
have M:f≠i:=λz=>by rw[<-z,MH.c9 d.symm,MH.c5] at a;cases a
replace a:=(MH.c9 l.symm)▸(MH.c9 M.symm)▸(MH.c9 l.symm)▸a;generalize e:(MH.set _ _ _)=I;have m:=e▸MH.c5;have p:∀b,H b≠N->b≠s->I b=H b:=λb D c=>by have k:b≠f:=λz=>D<|aa z G;have o:b≠i:=λz=>D<|aa z a;exact au e<|aa (MH.c9 c)<|aa (MH.c9 o)<|aa (MH.c9 c)<|aa (MH.c9 k)<|MH.c9 c
refine nT (E:=λ_ _=>False) (λQ X q x=>tH m (by rfl) (by rfl) (λQ q=>ab J I Gr.rfl X Q q)<|AA (oy (E:=λ_ _=>False) bc<|bW _) (λv y w=>let P:=_;let C:=_;let j:=_;(?_:lR P C _ _ j _)) _ X (λZ Y w=>w) λ_ _ z=>z.elim) (λv Y w=>bA<|q _ _ ⟨J,w⟩) λ_ _ z=>z.elim;refine eN w λg r R t=>?_;subst r;refine aa t ?_;exact yO (Eg (E:=λ_ _=>False) ((MH.c9 (λz=>by replace R:=m▸z▸R;cases R)).trans m) MH.c5 (λ_ h=>(by cases h)) (bW _) Q X (λv Y w=>ai (λ_ L=>af (L) λA w=>q v Y ⟨A,(w.after λb D _=>Gr.new R b D aJ).after p⟩)<|w) λ_ _ z=>z.elim)}
theorem IE{f c m:Nat}{a i:Addr}{D:List (Nat×V)}{e:ME}{j:MEs}{b:List V->MH->Prop}{P:V->MH->Prop}{E:Addr->MH->Prop}(h:Pv (an n O) l H e<|.ref a)(R:H a=S (.inst c i D))(B:lR (an n O) l H j b E)(k:∀Z Y,b Z Y->cI n O Y f (.ref a::Z) P E)(g:(CT c).bind (λd=>d.meths.lookup m)=S f:=by rfl) (G:cy D m=N:=by exact(J:N=_)):Ex (an n O) l H (.callM e m j) P E:=λQ X q x=>tH R g G (λQ q=>h H Gr.rfl X Q q) (B _ X (λZ Y p=>k Z Y p Q X q x) x)
theorem Mk(h:Ex cx l H e P E):lR cx l H (.cons e .nil) (λZ Y=>∃v,Z=[v]/\P v Y) E:=AA h λv Y p=>yO<|aG v J p
theorem RW{k:Nat}(h:Pv cx l H e<|.ref c)(u:H c=S (.list L))(Z:Pv cx l H i<|.int k)(a:L.length<=1000000):Ex cx l H (.sliceTo e i) (mW H<|L.take k) E:=λQ X q _=>h H Gr.rfl X _ (Z H Gr.rfl X _<|ir u ⟨⟨cR k,a⟩,λd m=>q _ _<|bl d J m J⟩)
theorem Sz{k:Nat}(h:Pv cx l H e<|.ref c)(u:H c=S (.list L))(Z:Pv cx l H i<|.int k)(a:L.length<=1000000):Ex cx l H (.sliceFrom e i) (mW H<|L.drop k) E:=λQ X q _=>h H Gr.rfl X _ (Z H Gr.rfl X _<|ir u ⟨⟨cR k,a⟩,λd m=>q _ _<|bl d J m J⟩)
def ZC(H:MH)(L:List V)(v:V)(Y:MH):Prop:=∃c,v= .ref c/\Gr H Y/\H c=N/\Y c=S (.list L)
theorem YG(h:Ex cx l H a (mW H L) E)(C:∀Y,Gr H Y->Ex cx l Y b (mW Y P) E)(e:(L++P).length<=1000000):Ex cx l H (.bin .add a b) (ZC H<|L++P) E:=λQ X q x=>
 h _ X (λv j w=>by{
refine let i:=_;(?_:aP _ _ _ _ i _)
refine eN w λc g u I=>?_;subst g;refine aa I ?_;refine C _ (Gr.new u) _ X (λk n w=>?_) x;refine eN w λd g m I=>?_;refine aa g ?_;refine aa I ?_;refine(kA L P (congrArg eS ((MH.c9 (λz=>by replace m:=MH.c5▸z▸m;cases m)).trans MH.c5)) (congrArg eS MH.c5) e λf G=>q _ _ ⟨f,J,((Gr.new u).trans<|Gr.new m).trans<|Gr.new G,(Gr.new u).none<|(Gr.new m).none G,MH.c5⟩)}) x
theorem C8(h:gE H A I):cI (n+4) T H 22083 [.ref<|A 0] (λv Y=>v= .none/\∃o,lT H (A 0) [] Y o) E:=λQ X q _=>by
 refine let p:=_;(?_:p)
 refine af (h.x) λf L=>af (L) λM y=>ai (λD _=>af (D.s) λi B=>aR [S _] J J<|nT (E:=λ_ _=>False) (IE (ab J) B (Mk<|oy bc<|bW _) λZ k w=>let P:=_;let C:=_;let j:=_;(?_:cI P _ _ _ C j _)) (λv Y w=>bA<|q _ _ ⟨J,w⟩) λ_ _ z=>z.elim)<|y;obtain⟨v,e,g,a,R,c⟩:=w;subst e a;refine aa c ?_;exact λQ X q x=>Eg (z8:=[]) (E:=λ_ _=>False) ((MH.c9 (λz=>by replace R:=B▸z▸R;cases R)).trans B) MH.c5 (λ_ h=>(by cases h)) (bW _) Q X (λv Y w=>by refine ai (λ_ L=>af (L) λo w=>?_)<|w;exact q v Y ⟨o,w.after λb d _=>Gr.new R b d aJ⟩) λ_ _ z=>z.elim
theorem O4(h:gE H A I)(E:I.length<=20)(C:I[k]?=S e)(O:e.2.box=b)(G:∀i x,i<k->I[i]?=S x->x.2.box≠b):∀(j:Nat) (x y:Option V),j+m=I.length->j<=k->(∀Y,(∃o,lT H (A 0) (I.eraseIdx k) Y o)->Q (.ref e.1) Y)->cC (n+3) X (.one 2) (λ_=>True) LG (dE (an (n+3) T) X r<|cL Q) (dW j m) [S<|.ref<|A 0,S<|bv b,x,y] H:=by{
refine af (id h.x) λr1 L=>af (L) λM d=>ai (λD _=>?_)<|d;obtain⟨dx,B⟩:=D.s
induction m with
|zero=>exact λj x y e U _=>absurd (cN U<|(cW.mp C).1) (by refine e▸?_;exact jZ _)
|succ m ih=>{
intro j x y a f q;have jl:=a▸jh (kf m);have h9:=bX jl;have p:=λcx y=>AR (cx:=cx) (l:=[S _,S<|bv b,S _,y]) (e:=.loc 2) D J (ab J) h9 (cO jl (bh (am E (by decide))));refine dh trivial J (aH (sL (iy (p _ _)<|h.el _<|kZ jl)<|ab J) (λt=>?_) λt=>bA (ih _ _ _ (by exact(fZ ..).trans<|aa (fF 1 m) a) (sD f λz=>?_) q))
.have t:=of_decide_eq_true t;have:=kj f<|dw λc=>G j _ c h9 t;clear f a ih d G;subst this;rw[C] at h9;have l:=p (an (n+3) T) y;rw[<-aA h9] at l;refine aW l (nT (E:=λ_ _=>False) (IE (ab J) B (Mk (YG (RW (aN (ab J) B J) D.it (ab J) (by rw[fA];exact bh (am E (by decide)))) (λY g=>Sz (aN (ab J) (g.at B) J) (g.at D.it) (kq (ab J)<|ar) (by exact aa fA (bh (am E (by decide))))) ?_)) λZ H1 w=>?_) (λv Y w=>aZ (ab J)<|q Y w) λ_ _ z=>z.elim)
 .exact au (PH ..) (aa Cq (aa fA (bh (am (OA _ _) (am E (by decide))))))
 .refine let P:=_;(?_:cI _ _ _ _ _ P _)
  obtain⟨v,e1,g,e2,s,_,R⟩:=w;refine aa e1 ?_;refine aa e2 ?_;rw[<-PH,Cq] at R;exact λQ X q x=>Eg (E:=λ_ _=>False) (s.at B) R (λe u=>by(refine ai (λU h2=>?_)<|af (h.x) λr1 L=>af (L) λM d=>ai (λ_ h0=>⟨h.el e<|(Hi I j).subset u,h0.two e<|(Hi I j).subset u⟩)<|d);exact⟨U.gr s,h2⟩) (am (OA _ _) E) Q X (λv Y w=>by refine ai (λ_ L=>af (L) λo w=>?_)<|w;exact q v Y ⟨o,w.after λb O _=>s b O aJ⟩) λ_ _ z=>z.elim
.clear p q f a y x ih m B dx D d L G E h r A Q X;subst z;rw[C] at h9;replace t:=(aA h9)▸t;exact of_decide_eq_false t O}}
theorem XX(h:gE H A I)(a:I.length<=20)(w:I[k]?=S e)(c:e.2.box=b)(G:∀i x,i<k->I[i]?=S x->x.2.box≠b):cI (n+4) T H 22080 [.ref<|A 0,bv b] (λv Y=>v= .ref e.1/\∃o,lT H (A 0) (I.eraseIdx k) Y o) E:=λQ X q _=>by
 refine let p:=_;(?_:p)
 exact af (h.x) λf L=>af (L) λM y=>ai (λD _=>af (D.s) λg B=>aR [S _,S<|bv b,N,N] J J (mu ((iB J (aN (ab J) B J) D.it (by exact aa fA (bh (am a (by decide))))).to<|congrArg (λk:Nat=>V.int k) fA) (am a (by decide))<|O4 h a w c G 0 N N (da _) (bW _) λY d=>q _ _ ⟨J,d⟩))<|y
theorem HC(h:Pv cx l H a<|.str x)(C:Pv cx l H b<|.str y):Pv cx l H (.cmp a .ne b) (.bool<|!(x==y)):=bC h C λ_=>J
structure wh (b:bB) (J:List ay) (c c':Nat):Prop where
 no:(∀e∈J,df e.2.box b=false)->c'=c
 yes:(∃e∈J,df e.2.box b=true)->jd c'
 old:jd c->jd c'
theorem Wg:bO (s++[e]++z8)=bO (s++e::z8):=by exact congrArg _<|ip ..
theorem UP(ne:g≠m):∀(z8 l:List ay) (H:MH) (c:Nat) (x:Option V),H m=S (.list L)->H g=S (.list<|bO l)->cw H a r->(∀e∈z8,cw H e.1 e.2/\e.2.live G=T/\e.2.box.length=r.box.length/\e.2.box.length<=1000)->(l++z8).length<=1000->(∀B x,wh r.box z8 c B->Q .next [S<|.ref s,S<|.ref a,S<|.int G,S<|.ref g,S<|.str B,x] (H.set g<|.list<|bO<|l++z8))->cC (n+1) X (.one 5) (λH=>H m=S (.list L)) Du Q (bO z8) [S<|.ref s,S<|.ref a,S<|.int G,S<|.ref g,S<|.str c,x] H:=by{
intro z8
induction z8 with
|nil=>intro l H c x hi R _ _ _ q;have:=q c x ⟨λ_=>J,λw=>(by(refine aU (w) λe u _=>?_);cases u),λh=>h⟩;rw[fm,MH.m4 R] at this;exact fH hi this
|cons e z8 Z=>{
intro l H c x hi R A v E q;refine let Gz:=_;((ai (λu h0=>ai (λhl y=>ai (λj O=>?_)<|y)<|h0)<|v e<|bw _):Gz)
have D:l.length<=1000:=by rw[bV] at E;exact am (eF _ _) E
have U:∀{b:Addr} {r:dN},cw H b r->cw (H.set g<|.list<|bO l++[.ref e.1]) b r:=λh=>by exact af (h) λi h0=>af (h0) λd h=>(eG i d ((MH.c9 λz=>by replace h:=R▸z▸h;cases h).trans h))
have go:∀o:Nat,(∀B,wh r.box z8 o B->wh r.box (e::z8) c B)->cC (n+1) X (.one 5) (λH=>H m=S _) Du Q (bO z8) [S<|.ref s,S<|.ref a,S _,S<|.ref g,S<|.str o,S<|.ref e.1] (H.set g _):=λo k=>
 Z (l++[e]) _ o _ ((MH.c9<|eE ne).trans hi) (by exact MH.c5.trans<|aa ED J) (U A) (λx f=>by(refine ai (λh2 M=>?_)<|v x<|cq _ f);exact⟨U h2,M⟩) (by exact aa (ip ..) E) λB x p=>by exact aa MH.d4<|aa Wg<|q B x<|k B p
have Y:∀{I:MSs} {C:Fl->ae->MH->Prop} {o:Nat},wpSs (an (n+1) T) X I C [S<|.ref s,S<|.ref a,S _,S<|.ref g,S<|.str o,S _] (H.set g _)->wpSs (an (n+1) T) X (.cons (.expr<|.callM (.loc 3) 211<|.cons (.loc 5) .nil) I) C [S<|.ref s,S<|.ref a,S<|.int G,S<|.ref g,S<|.str o,S<|.ref e.1] H:=λh=>lM (ab J) R (by exact aa fA<|bh D) (ab J) h
refine dh hi J (aH (ni (cH (aB (iy (ab J) u)<|aB (iy (ab J) A) bc) (λh3 g Q X q=>aR [S<|bv<|dN.box<|ji e,S<|bv<|dN.box r,N] aT J (mu ((fO tt (ab J) (by exact aa (aL ..)<|bh O)).to (by exact aa (aL ..) J)) O<|Sj j O 0 N (da _) q)))) (λt=>Y<|aK<|ic<|go c λB p=>⟨λz=>p.no λx f=>z x<|cq _ f,λw=>?_,p.old⟩) λt=>?_)
·(refine aU (w) λx f w=>?_)
 refine dP (bJ.mp f) (λf=>?_) λf=>p.yes<|aG x f w;replace w:=(eP t)▸f▸w;exact ak w
.refine let P:=_;(?_:wpSs _ _ _ P _ _)
 have hm:=dX t;have cd:∀o,jd o->∀B,wh r.box z8 o B->wh r.box (e::z8) c B:=λo h B p=>⟨λz=>(by replace hm:=(z e<|bw _)▸hm;exact ak hm),λ_=>p.old h,λ_=>p.old h⟩;have h1:=po (n:=n) (O:=T) (G:=G) u;rw[hl] at h1;refine aH (cH (aM J) h1) (λ_=>Y<|aW aQ<|aH (sL (iy (ab J)<|U u)<|iy (ab J)<|U A) (λ_=>aW aQ<|aK<|aK<|aK<|ic<|go _<|cd _ .e1) λ_=>aK<|aK<|aK<|ic<|go _<|cd _ .e5) λz=>ak z}}
theorem YH(h:gE H A I)(E:I.length<=19)(u:cw H e.1 e.2)(hb:wD e)(hl:∀x∈I,x.2.live G=T):cI (n+4) T H 22077 [.ref<|A 0,.ref e.1,.int G] (λv Y=>v= .none/\(∀x∈I,df x.2.box e.2.box=F)/\gE Y A (I++[e])/\nj A H Y) (λa Y=>(∃x∈I,df x.2.box e.2.box=T)/\Gr H Y/\H a=N/\∃c,pI c a Y):=λQ X q M=>by{
refine let Gz:=_;((af (id h.x) λr1 L=>af (L) λr2 h3=>ai (λD h2=>af (D.s) λi hs=>?_)<|h3):Gz)
have l:I.length<=1000:=am E (by decide);have h1:∀{x:ay},wD x->x.2.box.length=2:=λw=>by(refine ie w λa b c Z=>?_;obtain⟨d,w,_⟩:=Z);exact congrArg _ w
refine aR [S _,S _,S _,N,N,N] J J<|oh (E:=λ_ _=>False) (oy bc<|bW _) (λv H1 w=>let P:=_;let C:=_;let j:=_;let U:=_;(?_:wpSs P C _ j U _)) λ_ _ z=>z.elim;refine eN w λg e1 R e2=>?_;subst e1;refine aa e2 ?_;have s:Gr H (H.set g<|.list []):=Gr.new R;refine aW aQ (iY J (by refine aa fA ?_;exact bh l) (pB (aN (ab J) (s.at hs) J)<|s.at D.it) (UP ((λe z=>by replace R:=e▸z▸R;cases R) D.it) I [] _ _ N (s.at D.it) MH.c5 (u.gr s) (λx f=>(ot ((h.el x f).gr s) (hl x f) ((h1<|h2.two x f).trans (h1 hb).symm) (am (dr<|h1<|h2.two x f) (by decide)))) l λc y p=>?_));rw[MH.d4,qv];have h0:Gr H (H.set g<|.list<|bO I):=Gr.new R;refine nx (aH (iR ((iB J (ab J) MH.c5 (by refine aa fA ?_;exact bh l)).to<|congrArg (λk:Nat=>V.int k) fA) ((λO r=>(iB O (aN (ab r) (h0.at hs) J) (h0.at D.it) (by refine aa fA ?_;exact bh l)).to<|congrArg (λk:Nat=>V.int k) fA) J J)) (λt=>absurd (of_decide_eq_true t)<|uX _) λ_=>aK ?_);by_cases m:∃x∈I,df x.2.box e.2.box=T
.refine let P:=_;(?_:wpSs _ _ _ _ P _)
 have hc:=p.yes m;refine aH (t:=T) ((HC (ab J) aQ).to ?_) (λ_=>?_) λz=>ak z
 .cases hc<;>rfl
 .refine Ib (E:=λ_ _=>False) J (λQ X q B=>oB (E:=λ_ _=>False) (aM J) (EW hc) Q X (λv Y w=>?_) λ_ _ z=>z.elim) λ_ _ z=>z.elim;obtain⟨g',a,e,ha,h⟩:=w;exact af (id h) λi h'=>q v Y ⟨a,_,_,_,e,h',M a Y<|ot m (h0.trans g') (h0.none ha) ⟨_,h⟩⟩
.have m:=λx f=>mi.mpr λz=>m (aG x f z);rw[p.no m];refine let P:=_;(?_:wpSs _ _ _ _ P _)
 refine ie hb λa b c' Z=>?_;obtain⟨d,hb,h4,h5⟩:=Z;refine aH (HC (ab J) aQ) (λz=>ak z) λ_=>aK<|nT (E:=λ_ _=>False) (oB (aM J)<|Ih (h.gr h0) (u.gr h0) hb h4 h5<|kU E) (λv Y w=>ai (λ_ L=>ai (λT' o=>?_)<|L)<|w) λ_ _ z=>z.elim;exact bA (q _ _ ⟨J,m,T',λb hb hA=>by exact(o b (by refine aa (h0 b hb aJ) ?_;exact hb) hA).trans<|h0 b hb aJ⟩)}
def ol(p q:Int×Int):Bool:=if p.1=q.1 then decide (p.2<q.2) else decide<|p.1<q.1
def jR:bB->bB->Bool
 |[],[]=>F
 |[],_::_=>T
 |_::_,[]=>F
 |p::b,q::c=>if p=q then jR b c else ol p q
theorem wn(h:f x y=S t):dH f g (x::r) (y::s)=if t=T then dH f g r s else g x y:=by show(match f x y with|some T=>dH f g r s|some F=>g x y|none=>N)=_;refine h▸?_;clear h;obtain⟨⟩:=t<;>rfl
theorem NL:cF (k+3) (bv b) (bv c)=S (jR b c):=by{
show dH oG (cF _) (b.map dp) (c.map dp)=_
induction b generalizing c with
|nil=>obtain⟨⟩:=c<;>rfl
|cons p b Z=>{
induction c using aS with
|nil=>rfl
|cons q c=>{
rw[oO,oO,wn<|IS,Z,(by{
show dH oG (cF _) _ _=_;refine aa (wn J) ?_;unfold ol;by_cases c:p.1=q.1
.refine aa (if_pos<|beq_iff_eq.mpr c) (aa (if_pos c)<|(wn J).trans ?_);by_cases d:p.2=q.2
 .refine aa (if_pos<|beq_iff_eq.mpr d) (aa (decide_eq_false (by refine aa d ?_;exact uX _)) ?_);rfl
 .exact(if_neg λz=>d<|beq_iff_eq.mp z)
.refine aa (if_neg λz=>c<|beq_iff_eq.mp z)<|aa (if_neg c) ?_;rfl}:cF (k+2) (dp p) (dp q)=S (ol p q))]
show _=S (if p=q then jR b c else ol p q);by_cases d:p=q
.exact aa (if_pos<|decide_eq_true d)<|aa (if_pos d) J
.exact aa (if_neg λz=>d<|of_decide_eq_true z)<|aa (if_neg d) J}}}
def FO(H:MH)(R:List ay)(v:V)(Y:MH):Prop:=∃f a,v= .ref f/\H f=N/\Gr H Y/\Y f=S (.list<|bO a)/\a.Perm R/\a.Pairwise λx y=>jR y.2.box x.2.box=F
def bk(e:ay)(k:Nat):V:=.tup [bv e.2.box,.int k]
def jS(I:List ay):List V:=I.zipIdx.map λp=>bk p.1 p.2
theorem AD:cF 9 (bk e k) (bk A v)=S (if e.2.box=A.2.box then decide ((k:Int)<v) else jR e.2.box A.2.box):=by{
show dH oG (cF 8) _ _=_;refine aa (wn<|BZ) ?_;by_cases c:e.2.box=A.2.box
.refine aa (if_pos<|decide_eq_true c) (aa (if_pos c)<|(wn J).trans ?_);by_cases d:(k:Int)=v
 .refine aa (if_pos<|beq_iff_eq.mpr d) (aa (decide_eq_false (by refine aa d ?_;exact uX _)) ?_);rfl
 .exact(if_neg λz=>d<|beq_iff_eq.mp z)
.exact aa (if_neg λz=>c<|of_decide_eq_true z)<|aa (if_neg c) NL}
theorem Np:jR b b=F:=by{
induction b with
|nil=>rfl
|cons p b Z=>exact(if_pos J).trans Z}
theorem Mn:(jS I).length=I.length:=by unfold jS;exact aa (aL ..) sH
theorem QA(D:gE H A I)(G:H f=N)(E:I.length<=20)(q:∀x,Q .next [S<|.ref<|A 0,S<|.ref f,x,z,w]<|H.set f<|.list<|jS I):∀(j:Nat) (x:Option V),j+m=I.length->cC (n+1) X (.one 2) (λ_=>True) LV Q (dW j m) [S<|.ref<|A 0,S<|.ref f,x,z,w] (H.set f<|.list<|jS<|I.take j):=by{
induction m with
|zero=>intro j x a;exact aa (Ow (i:=j)<|dr a.symm)<|fH trivial<|q x
|succ m Z=>{
intro j x a;refine let p:=_;(?_:p)
have Y:=a▸jh (kf m);have h9:=bX Y;have h:=D.gr<|Gr.new (o:=.list<|jS<|I.take j) G;refine af (h.x) λb L=>af (L) λM y=>ai (λl c=>let P:=_;(?_:cC _ _ _ _ _ _ _ P _))<|y;have k:(I.take j).length=j:=by exact aa Bo<|aad<|bU Y
refine dh trivial J (lM (ab J) MH.c5 (by exact aa Mn (aa k (bh (am (bU Y) (am E (by decide)))))) (cP (aB (iy (AR l J (ab J) h9 (cO Y (bh (am E (by decide)))))<|h.el _<|kZ Y)<|aM J) (by decide:2<=1000000))<|ic ?_);have e:jS (I.take j)++[.tup [bv I[j].2.box,.int j]]=jS (I.take<|j+1):=by
 rw[(by refine aa List.take_add_one<|aa h9 ?_;rfl:I.take (j+1)=I.take j++[_]),<-(by unfold jS;refine aa Hj<|aa cK<|aa (da ..) ?_;rfl:jS (PJ j I)++[bk _ (PJ j I).length]=jS ((PJ j I)++[_])),k]
 rfl
exact au MH.d4.symm (au e.symm (Z _ _ (by exact aa (fZ ..)<|aa (fF 1 m) a)))}}
def zY(p:ay×Nat):V:=bk p.1 p.2
theorem UW(D:gE H A I)(G:H f=N)(u:H c=S (.list L))(E:I.length<=20):∀(Y s:List<|ay×Nat) (x:Option V),(∀p∈Y,I[p.2]?=S p.1)->(s++Y).length<=1000->Q (.ref f) (H.set f (.list (bO ((s++Y).map (·.1)))))->cC (n+1) X (.one 4) (λH=>H c=S (.list L)) Ij (dE (an (n+1) T) X (.cons (.ret<|.loc 3) .nil)<|cL Q) (Y.map zY) [S<|.ref<|A 0,p,w,S<|.ref f,x] (H.set f (.list (bO (s.map (·.1))))):=by{
intro Y
induction Y with
|nil=>intro s x _ _ q;rw[fm] at q;exact fH ((MH.c9 (λz=>by replace u:=G▸z▸u;exact aD u)).trans u)<|aZ (ab J) q
|cons p Y Z=>{
intro s x h a q;refine let b:=_;((af ((D.gr (Gr.new (o:=.list (bO (s.map (·.1)))) G)).x) λi d=>af (d) λM y=>ai (λl m=>let P:=_;(?_:cC _ _ _ _ _ _ _ P _))<|y):b)
have O:=h p<|bw _;have g:s.length<=1000:=by rw[bV] at a;exact am (eF _ _) a
refine dh ((MH.c9 (λz=>by replace u:=G▸z▸u;exact aD u)).trans u) J (lM (ab J) MH.c5 (by exact aa fA<|aa (aL ..)<|bh g) (AR l J (cG (ab J) (ar) J (by decide)) O (cO (cW.mp O).1 (bh (am E (by decide)))))<|ic ?_);have e:bO (s.map (·.1))++[.ref p.1.1]=bO ((s++[p]).map (·.1)):=by refine aa ED<|aa cK ?_;rfl
exact au MH.d4.symm (au e.symm (Z _ _ (λp O=>h p<|cq _ O) (by rw[ip];exact a) (by exact aa (ip ..) q)))}}
theorem RA(D:gE H A I)(t:I.length<=20):cI (n+2) T H 22081 [.ref<|A 0] (FO H I) E:=λQ X q _=>by{
refine let Gz:=_;((af (D.x) λr1 L=>af (L) λM h0=>ai (λl h1=>?_)<|h0):Gz)
obtain⟨i,B⟩:=l.s;have Z:I.length<=1000:=am t (by decide);refine aR [S _,N,N,N,N] J J<|oh (E:=λ_ _=>False) (oy bc<|bW _) (λv H1 w=>let P:=_;let C:=_;let j:=_;let U:=_;(?_:wpSs P C _ j U _)) λ_ _ z=>z.elim;refine eN w λf g G e2=>?_;subst g;refine aa e2 ?_;refine mu ((iB J (aN (ab J) ((Gr.new G).at B) J) ((Gr.new G).at l.it) (by exact aa fA<|bh Z)).to<|congrArg (λk:Nat=>V.int k) fA) Z<|QA D G t (λx=>?_) 0 N<|da _;refine let P:=_;((nx<|oh (E:=λ_ _=>False) (oy bc<|bW _) (λv H2 w=>let P:=_;let C:=_;let j:=_;let U:=_;(?_:wpSs P C _ j U _)) λ_ _ z=>z.elim):dE _ _ _ _ _ P _)
refine eN w λd g m e2=>?_;subst g;refine aa e2 ?_;have h:f≠d:=λz=>by replace m:=MH.c5▸z▸m;cases m
refine vp (E:=λ_ _=>False) J (yU (L:=jS I) J (ab J) (by refine aa (MH.c9 h)<|aa MH.c5 ?_;rfl) (by exact aa Mn (cN t (by decide))) λx hx y hy=>?_) (λv H3 w=>?_) λ_ _ z=>z.elim
·(refine aU (bZ.mp hx) λp _ e=>?_)
 refine af (bZ.mp hy) λp' L=>ai (λ_ e'=>?_)<|L;exact e▸e'▸(aa AD ⟨J,J⟩)
.refine let Gz:=_;(?_:Gz)
 obtain⟨r,O,p2,c,e,u,e'⟩:=w;subst e e';refine aU (DT (f:=zY) O J) λY p e=>?_;subst e;have a:d≠c:=λz=>by replace u:=MH.c5▸z▸u;cases u
 have o:(((H.set f<|.list<|jS I).set d<|.list []).set c<|.list<|Y.map zY)=(((H.set f<|.list<|jS I).set c<|.list<|Y.map zY).set d<|.list []):=by{
funext b;unfold MH.set;by_cases s:b=c
.exact aa (if_pos s)<|aa (if_neg λz=>a<|z.symm.trans s)<|aa (if_pos s) J
.refine aa (if_neg s) ?_;by_cases R:b=d
 .exact aa (if_pos R)<|aa (if_pos R) J
 .exact aa (if_neg R)<|aa (if_neg R)<|aa (if_neg s) J}
 refine(kA c _ J MH.c5 (by exact aa (aL ..)<|aa (p.length_eq.trans sH)<|bh Z) ?_);refine aa o ?_;refine UW (D.gr ((Gr.new G).trans (Gr.new (by rw[MH.c9 a.symm] at u;exact u)))) ((MH.c9 a).trans m) (MH.c5) t Y [] N (λx hx=>Hk.mp<|p.mem_iff.mp hx) (by exact aa (qv ..)<|aa (p.length_eq.trans sH) Z) (q _ _ ⟨d,Y.map (·.1),J,((Gr.new G).none m),((Gr.new G).trans (Gr.new (by rw[MH.c9 a.symm] at u;exact u))).trans<|Gr.new<|(MH.c9 a).trans m,MH.c5,?_,?_⟩)
 .have:=p.map (·.1);rw[Hl] at this;exact this
 .rw[qt] at p2;rw[qt];refine p2.imp λ{x y} e=>?_;have e:=aA<|AD.symm.trans e;by_cases k:y.1.2.box=x.1.2.box
  .exact au k Np
  .rw[if_neg k] at e;exact e}
section
set_option genCtorIdx true
inductive Kd where
 |plain|span|tabs
def eY:bB->List Int->Bool
 |p::b,k::u=>(decide (p.1<=k)&&decide (k<=p.2))&&eY b u
 |_,_=>T
def on(b:bB):Bool:=b.all λp=>decide<|p.1<=p.2
def jY:Kd->Nat->bB->Prop
 |.plain,m,b=>dg b=T/\b.length=m/\(m=1\/m=2)
 |.span,m,b=>(b.length=1/\on b=T)/\m=1
 |.tabs,m,b=>(∃a C c d:Nat,b=kE a C c d/\(a<=C/\C<16)/\(c<=d/\d<4))/\m=2
theorem qF{a b:bB}:df (p::a) (q::b)=T↔(p.1<=q.2/\q.1<=p.2)/\df a b=T:=by show(!(decide (p.1>q.2)||decide (q.1>p.2))&&df a b)=T↔_;refine aa (kc ..)<|aa (Oo ..) ?_;rw[ye,decide_eq_false_iff_not,decide_eq_false_iff_not,bT,bT]
theorem nR{b:bB}:eY (p::b) (k::u)=T↔(p.1<=k/\k<=p.2)/\eY b u=T:=by show((decide (p.1<=k)&&decide (k<=p.2))&&eY b u)=T↔_;refine aa (kc ..)<|aa (kc ..) ?_;rw[decide_eq_true_iff,decide_eq_true_iff]
theorem Rr:∀{a b:bB},a.length=u.length->b.length=u.length->eY a u=T->eY b u=T->df a b=T:=by{
induction u with
|nil=>intro a b G M _ _;obtain⟨⟩:=a<;>obtain⟨⟩:=b<;>first|rfl|cases G|cases M
|cons k u Z=>{
intro a b G M C E
induction a using aS with
|nil=>cases G
|cons p a=>{
induction b using aS with
|nil=>cases M
|cons q b=>
 refine let e:=_;(?_:e)
 obtain⟨⟨f,c⟩,r⟩:=nR.mp C;obtain⟨⟨Y,d⟩,y⟩:=nR.mp E;exact qF.mpr ⟨⟨cV f d,cV Y c⟩,Z (nM G) (nM M) r y⟩}}}
theorem UC:∀{b:bB},df a b=T->df b a=T:=by{
induction a with
|nil=>intro b _;obtain⟨⟩:=b<;>rfl
|cons p a Z=>{
intro b h
induction b using aS with
|nil=>rfl
|cons q b=>obtain⟨⟨G,M⟩,C⟩:=qF.mp h;exact qF.mpr ⟨⟨M,G⟩,Z C⟩}}
theorem sX:on b=T->df b b=T:=by{
induction b with
|nil=>exact λ_=>J
|cons p b Z=>intro h;obtain⟨G,M⟩:=bm.mp h;exact qF.mpr ⟨⟨(of_decide_eq_true G),(of_decide_eq_true G)⟩,Z M⟩}
theorem jY.full{k:Kd}{m:Nat}{b:bB}(h:jY k m b):on b=T:=by{
cases k with
|plain=>obtain⟨h,_⟩:=h;unfold dg at h;refine im.mpr λp O=>?_;have:=beq_iff_eq.mp<|im.mp h p O;exact decide_eq_true<|PL this
|span=>exact h.1.2
|tabs=>obtain⟨⟨a,C,c,d,e,G,M⟩,_⟩:=h;exact aa e<|bm.mpr ⟨decide_eq_true<|dG.mpr G.1,bm.mpr ⟨decide_eq_true<|dG.mpr M.1,J⟩⟩}
theorem jY.len(h:jY k m b):b.length=m/\(m=1\/m=2):=by{
induction k using Kd.casesOn with
|plain=>exact h.2
|span=>exact⟨h.1.1.trans h.2.symm,.inl h.2⟩
|tabs=>obtain⟨⟨a,C,c,d,e,_⟩,M⟩:=h;exact aa e ⟨M.symm,.inr M⟩}
def vD:Kd->Nat->Prop
 |.plain,m=>m=1\/m=2
 |.span,m=>m=1
 |.tabs,m=>m=2
structure cZ (k:Kd) (m:Nat) (R:List ay):Prop where
 hm:vD k m
 ok:∀e∈R,jY k m e.2.box
 ap:R.Pairwise λx y=>df x.2.box y.2.box=false
 z:R.length<=12
theorem cZ.one(g:cZ k m R)(f:x∈R)(n:y∈R)(h:df x.2.box y.2.box=T):x=y:=by{
obtain⟨i,hi⟩:=oV.mp f;obtain⟨j,h9⟩:=oV.mp n;obtain⟨l,i2⟩:=cW.mp hi;obtain⟨U,a⟩:=cW.mp h9;rcases BI i j with c|c|c
.have:=BR.mp g.ap i j l U c;replace this:=h▸a▸i2▸this;exact ak this
.subst c;rw[hi] at h9;exact aA h9
.have:=BR.mp g.ap j i U l c;replace this:=(UC h)▸a▸i2▸this;exact ak this}
theorem cZ.box(g:cZ k m R)(f:x∈R)(n:y∈R)(h:x.2.box=y.2.box):x=y:=g.one f n (by exact aa h<|sX (g.ok y n).full)
theorem cZ.key(g:cZ k m R)(w:u.length=m)(f:x∈R)(n:y∈R)(G:eY x.2.box u=T)(M:eY y.2.box u=T):x=y:=g.one f n (Rr ((g.ok x f).len.1.trans w.symm) ((g.ok y n).len.1.trans w.symm) G M)
theorem DZ[DecidablePred q](h:∀x∈R,∀y∈R,q x->q y->x=y):Is R q (R.find? λe=>decide<|q e):=λe=>by{
refine⟨λz=>⟨md z,of_decide_eq_true<|sg (p:=λe=>decide<|q e) z⟩,λz=>?_⟩;refine ai (λm w=>?_)<|z
induction f:R.find? (λe=>decide<|q e) using aV with
|none=>exact absurd (decide_eq_true w)<|qu.mp f e m
|some A=>exact congrArg S<|h A (md f) e m (of_decide_eq_true<|sg (p:=λe=>decide<|q e) f) w}
theorem cZ.byBox{k:Kd}{m:Nat}{R:List ay}{b:bB}(g:cZ k m R):Is R (λe=>e.2.box=b) (bI R b):=DZ λx f y n G M=>g.box f n<|G.trans M.symm
theorem Is.congr(h:Is R q o)(k:∀e∈R,q e↔n e):Is R n o:=λe=>(h e).trans<|and_congr_right λu=>k e u
end
abbrev Fp:=Addr->Prop
structure bL (F F':Fp) (H H':MH):Prop where
 keep:∀b,H b≠none->¬F b->H' b=H b
 new:∀b,F' b->F b\/H b=none
theorem bL.rfl:bL j j H H:=⟨λ_ _ _=>Eq.refl _,λ_ h=>.inl h⟩
theorem Gr.f5(g:Gr H Y):bL j j H Y:=⟨λb h _=>g b h aJ,λ_ h=>.inl h⟩
theorem bL.trans(c:bL j Z H Y)(d:bL Z a Y G):bL j a H G:=by{
have U:∀b,Y b=N->j b\/H b=N:=λb h=>by{
by_cases f:j b
.exact .inl f
.refine .inr ?_
 induction e:H b using aV with
 |none=>rfl
 |some o=>rw[c.keep b (by exact aa e<|abh _) f,e] at h;cases h}
refine⟨λb h f=>?_,λb h=>(d.new b h).elim (c.new b)<|U b⟩;have e:=c.keep b h f;exact(d.keep b (by refine aa e ?_;exact h) λw=>(c.new b w).elim f h).trans e}
inductive jn (H:MH) (s:Addr) (F:Fp) (R:List ay):Kd->Prop
 |plain (t dx:Addr) (f:∀a,F a↔a=s\/a=t) (hs:H s=some (.inst 10 dx [(202,.ref t)])) (ht:H t=some (.dict (pd R))):jn H s F R .plain
 |span (t dx:Addr) (I:List ay) (f:∀a,F a↔a=s\/a=t) (hs:H s=some (.inst 13 dx [(101,.ref t)])) (ht:H t=some (.list (bO I))) (S:jU I) (p:I.Perm R):jn H s F R .span
 |tabs (A:Nat->Addr) (r1 r2:List Rl) (f:∀a,F a↔∃i,i<11/\a=A i) (h0:A 0=s) (x:lq H A R r1 r2) (t:iL R r1 r2):jn H s F R .tabs
structure bS (k:Kd) (m:Nat) (H:MH) (s:Addr) (F:Fp) (R:List ay):Prop where
 g:cZ k m R
 el:∀e∈R,cw H e.1 e.2
 c:jn H s F R k
theorem Fw{H:MH}(h:H a=S (.inst c i D))(C:H b=S (.inst B M f))(n:dQ c B=F):a≠b:=λe=>by{
replace h:=C▸e▸h
(injection h with z;injection z with z;subst z)
rw[PG] at n;exact ak n}
theorem bS.out(Y:bS k m H s j R)(h:cw H a r):¬j a:=by{
obtain⟨b,l,n⟩:=Y;clear l b m
induction n using jn.casesOn with
|plain t o f B v=>exact af (h) λM L=>af (L) λd e=>λz=>((f a).mp z).elim (Fw e B J) λz=>by replace e:=v▸z▸e;cases e
|span t o I f B v _ _=>exact af (h) λM L=>af (L) λd e=>λz=>((f a).mp z).elim (Fw e B J) λz=>by replace e:=v▸z▸e;cases e
|tabs A X p f q x t=>intro z;exact af ((f a).mp z) λi L=>ai (λZ e=>h.out x i Z e)<|L}
theorem bS.live(Y:bS k m H s j R):(∀a,j a->H a≠N)/\j s:=by{
obtain⟨b,d,h⟩:=Y;clear d b m
induction h using jn.casesOn with
|plain t l f B v=>exact⟨λa z=>((f a).mp z).elim (λz y=>aD<|y.symm.trans<|z▸B) λz y=>aD<|y.symm.trans<|z▸v,(f s).mpr<|.inl J⟩
|span t l I f B v _ _=>exact⟨λa z=>((f a).mp z).elim (λz y=>aD<|y.symm.trans<|z▸B) λz y=>aD<|y.symm.trans<|z▸v,(f s).mpr<|.inl J⟩
|tabs A X M f r x t=>exact⟨λa z=>af ((f a).mp z) λi y=>y.2▸x.all (P:=λa=>H a≠N) (λ_ _ e _ z=>aD<|z.symm.trans e) i y.1,(f s).mpr (aG 0 (by decide) r.symm)⟩}
structure qB (f:ay->ay):Prop where
 a:∀e,(f e).1=e.1
 b:∀e,(f e).2.box=e.2.box
theorem IN(U:qB f):bO (I.map f)=bO I:=by unfold bO;exact km.symm▸uY λe _=>congrArg V.ref<|U.a e
theorem ZS(U:qB f):pd (R.map f)=pd R:=by unfold pd;refine aa km<|uY λe _=>(?_:(aY.t<|dK (f e).2.box,V.ref (f e).1)=_);exact aa (U.a ..)<|aa (U.b ..) J
theorem iL.upd(U:qB f)(D:iL I X M):iL (I.map f) X M:=by{
have P:∀{i:Nat} {e:ay},(I.map f)[i]?=S e->∃x,I[i]?=S x/\e.2.box=x.2.box:=λh=>by replace h:=gy▸h;exact af (jf.mp h) λx L=>ai (λg e=>(aG x g (by exact au e<|aa (U.b ..) J)))<|L
have Z:(I.map f).length=I.length:=aL _;refine⟨λe u=>?_,λR j=>Z▸D.g2 R j,λR j=>Z▸D.g1 R j,λi e a b c d u k=>?_,λi e a b c d u k=>?_⟩
·(refine aU (bZ.mp u) λx g A=>?_)
 exact au A<|aa (U.b ..)<|D.two x g
.obtain⟨x,g,O⟩:=P u;exact D.c2 i x a b c d g<|O▸k
.refine aU (P u) λx g O=>?_;exact D.c1 i x a b c d g<|O▸k}
theorem bS.upd{Y:MH}(U:qB f)(b:bS k m H s j R)(B:∀a,j a->Y a=H a)(h0:∀e∈R,cw Y e.1 (f e).2):bS k m Y s j (R.map f):=by{
refine let P:=_;(⟨(by{
refine⟨b.g.hm,λe u=>?_,?_,by exact aa (aL ..) b.g.z⟩
.refine aU (bZ.mp u) λx l n=>?_;exact au n<|aa (U.b ..)<|b.g.ok x l
.rw[qt];refine b.g.ap.imp λ{x y} h=>?_;refine aa (U.b ..)<|aa (U.b ..) ?_;exact h}),λe u=>?_,?_⟩:bS _ _ _ _ _ P)
·(refine aU (bZ.mp u) λx l n=>?_)
 exact au n<|aa (U.a ..)<|h0 x l
.induction b.c using jn.casesOn with
 |plain t O f Q v=>exact .plain t O f ((B s<|(f s).mpr<|.inl J).trans Q) (by exact aa (ZS U)<|(B t<|(f t).mpr<|.inr J).trans v)
 |span t O I f Q v E p=>exact .span t O _ f ((B s<|(f s).mpr<|.inl J).trans Q) (by exact aa (IN U)<|(B t<|(f t).mpr<|.inr J).trans v) ((by{
refine⟨?_,λe u=>?_⟩
.rw[qt];refine E.up.imp λ{x y} h=>?_;delta hi lo;exact aa (U.b ..)<|aa (U.b ..) h
.refine aU (bZ.mp u) λx l n=>?_;clear u;subst n;delta hi lo;exact aa (U.b ..)<|E.le x l})) (p.map _)
 |tabs A X M f r x t=>
  refine let Gz:=_;(?_:Gz)
  obtain⟨d,e0⟩:=x.s;refine af (x.f1) λD L=>af (L) λz q=>af (x.f2) λG L=>af (L) λw C=>?_;have k:∀i,i<11->∀{o:MO},H (A i)=S o->Y (A i)=S o:=λi Z _ e=>(B _<|(f _).mpr<|aG i Z J).trans e;exact .tabs A X M f r ⟨x.inj,⟨d,k 0 (by decide) e0⟩,k 1 (by decide) x.fl,by rw[IN U];exact k 2 (by decide) x.it,⟨D,z,k 3 (by decide) q.a,k 6 (by decide) q.bk,k 4 (by decide) q.row,k 5 (by decide) q.gl,q.b⟩,⟨G,w,k 7 (by decide) C.a,k 10 (by decide) C.bk,k 8 (by decide) C.row,k 9 (by decide) C.gl,C.b⟩,by exact aa (aL ..) x.z⟩<|t.upd U}
theorem XK:qB id:=⟨λ_=>J,λ_=>J⟩
theorem bS.keep{Y:MH}(b:bS k m H s j R)(B:∀a,j a->Y a=H a)(v:∀e∈R,cw Y e.1 e.2):bS k m Y s j R:=by have:=b.upd XK B v;rw[yh] at this;exact this
theorem bS.gr(b:bS k m H s j R)(d:Gr H Y):bS k m Y s j R:=b.keep (λa h=>d a (b.live.1 a h) aJ) λe u=>(b.el e u).gr d
theorem HO(k:∀x∈R,∀y∈R,x.2.box=b->y.2.box=b->x=y):R.find? (lL b G)=be G (bI R b):=by{
delta be bI
induction R with
|nil=>rfl
|cons e R Z=>{
refine aa (fG)<|aa (fG) ?_;by_cases c:e.2.box=b
.refine aa (decide_eq_true c) ?_;refine aa iQ ?_;have z:lL b G e=e.2.live G:=by unfold lL;refine aa (decide_eq_true c) ?_;rfl
 refine aa z ?_
 induction o:e.2.live G using aX with
 |true=>rfl
 |false=>refine qu.mpr λx f w=>?_;obtain⟨C,E⟩:=bm.mp w;have:=k x (cq _ f) e (bw _) (of_decide_eq_true C) c;rw[this,o] at E;exact ak E
.rw[decide_eq_false c,show lL b G e=F by unfold lL;refine aa (decide_eq_false c) ?_;rfl];exact(Z λx f y n=>k x (cq _ f) y<|cq _ n)}}
theorem zO{D:Type}{l:List D}(h:l.length=2):∃a b,l=[a,b]:=by{
refine let p:=_;(?_:p)
induction l using aS with
|nil=>cases h
|cons a r=>induction r using aS with
 |nil=>cases h
 |cons b r=>induction r using aS with
  |nil=>exact(eG a b J)
  |cons _ _=>cases h}
theorem Rv:∀{b:bB},dg b=T->b.length=u.length->(eY b u=T↔aY.t (dK b)= .t u):=by{
induction u with
|nil=>{
intro b _ o
induction b using aS with
|nil=>exact⟨λ_=>J,λ_=>J⟩
|cons _ _=>cases o}
|cons k u Z=>{
intro b O o
induction b using aS with
|nil=>cases o
|cons p b=>{
obtain⟨G,M⟩:=bm.mp O;have G:=beq_iff_eq.mp G;rw[nR,Z M<|nM o];refine⟨λz=>?_,λz=>?_⟩
.have g:=uU z.1.1 (by exact aa G z.1.2);have I:=Ar z.2;exact congrArg aY.t (show p.1::dK b=k::u by exact aa g<|congrArg _ I)
.have e:=Ar z;injection e with g I;exact⟨⟨PL g,PL<|g.symm.trans G⟩,congrArg aY.t I⟩}}}
theorem qD(x:lq H A R X M)(t:iL R X M)(v:∀e∈R,cw H e.1 e.2):gE H A R:=⟨(dm X M x t),v⟩
theorem vk{R:List ay}(h:R.length<=12):R.length<=20:=am h (by decide)
theorem yV{R:List ay}(h:R.length<=12):R.length<=1000:=am h (by decide)
theorem bS.i7(Y:bS .span m H s j R)(v:H t=S (.list<|bO I))(p:I.Perm R):jc H t I:=⟨v,λe u=>⟨Y.el e<|p.mem_iff.mp u,λz=>by have:=(Y.g.ok e<|p.mem_iff.mp u).1.1;replace this:=z▸this;cases this⟩,by exact aa p.length_eq<|yV Y.g.z⟩
theorem Og(Y:bS k m H s j R)(h:Pv (an (n+1) T) l H e<|.ref s):Pv (an (n+1) T) l H (.callM e 82 .nil) (.int R.length):=by{
refine let a:=_;(?_:a)
induction Y.c using jn.casesOn with
|plain t i f B v=>exact pZ h B bc<|Xe ⟨⟨i,B⟩,v,Y.el⟩<|yV Y.g.z
|span t i I f B v E p=>exact(pZ h B bc<|ZK ⟨⟨i,B⟩,Y.i7 v p⟩).to (by exact aa p.length_eq J)
|tabs A b M f r x t=>{
obtain⟨i,B⟩:=x.s;rw[<-r] at h;exact pZ h B bc ((λc g Q X q=>by
 refine let a:=_;(?_:a)
 exact af (((qD x t Y.el).gr g).x) λb L=>af (L) λM y=>ai (λD _=>af (D.s) λi B=>aR [S _] J J (aZ ((iB J (aN (ab J) B J) D.it (by refine aa fA ?_;exact bh (am (vk Y.g.z) (by decide)))).to<|congrArg (λk:Nat=>V.int k) fA) q)) (y):ew (n+1) T H 22082 [.ref<|A 0]<|.int R.length))}}
theorem FX{b:bB}(Y:bS k m H s Z R)(d:b≠[]/\b.length<=1000)(h:Pv (an (n+3) T) l H e<|.ref s)(a:dA (an (n+3) T) l H j [bv b,.int G]):Pv (an (n+3) T) l H (.callM e 78 j) (iV<|be G<|bI R b):=by{
refine let c:=_;(?_:c)
induction Y.c using jn.casesOn with
|plain t i f B v=>exact pZ h B a<|XI ⟨⟨i,B⟩,v,Y.el⟩ (λe u=>(Y.g.ok e u).1) d.2
|span t i I f B v E p=>obtain⟨q,P⟩:=AM E<|gg b;exact(pZ h B a<|U1 ⟨⟨i,B⟩,Y.i7 v p⟩ d.1 P).to (by exact aa (((LR E P).perm p).eq Y.g.byBox) J)
|tabs A o M f r x t=>{
obtain⟨i,B⟩:=x.s;replace h:=r▸h;exact(pZ h B a ((λh0 g Q X q=>by
 have h:=qD x t Y.el;refine let c:=_;(?_:c)
 exact af ((h.gr g).x) λo L=>af (L) λM w=>ai (λD _=>af (D.s) λi B=>aR [S _,S<|bv b,S _,N] J J (iY J (by refine aa fA ?_;exact bh (am (vk Y.g.z) (by decide))) (pB (aN (ab J) B J) D.it)<|RP D.it R N (h.gr g).el q)) (w):ew ((n+1)+2) T H 22078 [.ref<|A 0,bv b,.int G]<|iV<|R.find?<|lL b G))).to (by exact congrArg _<|HO λx z y C O U=>Y.g.box z C<|O.trans U.symm)}}
def eV(u:List Int):V:=.tup<|u.map .int
theorem JK(U:bS k m H s h5 R)(w:u.length=m/\∀x∈u,0<=x)(ho:Is R (λe=>eY e.2.box u=T) o) (h:Pv (an (n+2) T) l H e<|.ref s) (h0:dA (an (n+2) T) l H es [eV u,.int G]):Ex (an (n+2) T) l H (.callM e 79 es) (λv Y=>v=iV (be G o)/\Y=H) E:=by{
refine let za:=_;(?_:Ex za _ _ _ _ _)
cases U.c with
|plain t dx f B ht=>have D:=λe he=>(Rv (U.g.ok e he).1<|(U.g.ok e he).len.1.trans w.1.symm).symm;have z:=(DZ λx hx y hy h1 M=>U.g.key w.1 hx hy ((D x hx).mp h1)<|(D y hy).mp M).congr D;exact au (z.eq ho)<|iq h B h0<|ew.tri<|EV ⟨⟨dx,B⟩,ht,U.el⟩
|span t dx I f B ht So p=>{
induction u using aS with
|nil=>exact nomatch w.1.trans U.g.hm
|cons k u=>
 have k0:=abi.mp<|nM<|w.1.trans U.g.hm;subst k0;refine af (AM So k) λq P=>?_;have z:Is R (λe=>eY e.2.box [k]=T) (vT I k q):=((A7 So P).perm p).congr λe he=>by refine af (qw (U.g.ok e he).1.1) λx ex=>?_;delta lo hi;refine aa ex ?_;rw[nR];exact⟨λz=>⟨z,J⟩,λz=>z.1⟩
 exact au (z.eq ho)<|iq h B h0<|ew.tri<|Xk ⟨⟨dx,B⟩,U.i7 ht p⟩ P}
|tabs A X r2 f r x t=>{
refine let Gz:=_;((af (x.s) λdx B=>?_):Gz)
replace h:=r▸h;refine mw (zO<|w.1.trans U.g.hm) λa b e=>?_;subst e;refine af (uM<|w.2 a<|bw _) λi ei=>af (uM<|w.2 b<|cq _<|bw _) λj ej=>?_;clear w r;subst ei ej;refine iq h B h0<|Qy (qD x t U.el) (vk U.g.z)<|ho.congr λe he=>?_;refine ie (t.two e he) λa b c Z=>?_;obtain⟨d,O,_⟩:=Z;refine aa O ⟨λz=>?_,λz=>?_⟩
.refine let Gz:=_;(?_:Gz)
 obtain⟨⟨h1,M⟩,z⟩:=nR.mp z;obtain⟨⟨h3,h4⟩,_⟩:=nR.mp z;exact⟨a,b,c,d,O,⟨dG.mp h1,dG.mp M⟩,dG.mp h3,dG.mp h4⟩
.refine let Gz:=_;(?_:Gz)
 obtain⟨a',C,c',L,h2,⟨h1,M⟩,h3,h4⟩:=z;replace h2:=O▸h2;refine zG (FJ h2) λg e2 e3 Q=>?_;clear h2 O he e h0 ho h B dx U t x f r2 X A R h5 s m;subst g e2 e3 Q;exact nR.mpr ⟨⟨dG.mpr h1,dG.mpr M⟩,nR.mpr ⟨⟨dG.mpr h3,dG.mpr h4⟩,J⟩⟩}}
theorem Iv(o:bS k m H s h1 R)(h:Pv (an (n+2) T) l H e<|.ref s):Ex (an (n+2) T) l H (.callM e 81 .nil) (FO H R) E:=by{
refine let L:=_;(?_:L)
induction o.c using jn.casesOn with
|plain t i f B O=>exact iq h B bc λQ X q x=>TS ⟨⟨i,B⟩,O,o.el⟩ (λe u=>⟨(o.g.ok e u).1,λz=>by have:=(o.g.ok e u).len;replace this:=z▸this;rcases this.2 with h|h<;>rw[h] at this<;>cases this.1⟩) (o.g.ap.imp_of_mem λ{x y} U hy h e=>by replace h:=(sX (o.g.ok y hy).full)▸e▸h;exact ak h) (cN o.g.z (by decide)) Q X (λv Y w=>q v Y (by
 refine let L:=_;(?_:L)
 refine lH w λf o G M C Z=>?_;obtain⟨h4,j,P⟩:=Z;exact⟨f,o,G,M,C,h4,j,P.imp λe=>aA<|NL.symm.trans e⟩)) x
|span t i I f B O So p=>exact iq h B bc λQ X q x=>TC ⟨⟨i,B⟩,o.i7 O p⟩ Q X (λv Y w=>q v Y (by{
refine let L:=_;(?_:L)
obtain⟨f,D,G,M,C,h4,j,P⟩:=(by have h0:=λe u=>(o.g.ok e<|p.mem_iff.mp u).1.1;refine eN w λc a hc e'=>?_;refine aa e' ?_;refine⟨c,I,a,hc,Gr.new hc,MH.c5,.refl _,So.up.imp_of_mem λ{x y} U hy w=>?_⟩;obtain⟨g,ep⟩:=qw<|h0 x U;obtain⟨q,b⟩:=qw<|h0 y hy;have G:=So.le x U;unfold lo hi at w G;rw[ep] at w G;rw[b] at w;refine aa ep<|aa b ?_;have z:g.1<q.1:=lW G w;refine(?_:(if q=g then jR [] [] else ol q g)=F);refine aa (if_neg (λd=>by rw[d] at z;exact uX _ z)) ?_;unfold ol;refine aa (if_neg (λd=>by rw[d] at z;exact uX _ z)) ?_;exact decide_eq_false (bT.mpr<|nA z):FO H I v Y)
exact⟨f,D,G,M,C,h4,j.trans p,P⟩})) x
|tabs A r1 r2 f r x t=>obtain⟨i,B⟩:=x.s;rw[<-r] at h;exact iq h B bc<|RA (qD x t o.el)<|vk o.g.z}
def Dj(k:Kd)(m:Nat)(s:Addr)(j:Fp)(R:List ay)(H Y:MH):Prop:=∃Z,bS k m Y s Z R/\bL j Z H Y
theorem cZ.sub(g:cZ k m R)(h:L.Sublist R):cZ k m L:=⟨g.hm,λe u=>g.ok e<|h.subset u,g.ap.sublist h,am h.length_le g.z⟩
theorem cZ.i9(g:cZ k m R)(f:jY k m x.2.box)(E:R.length<12)(c:∀e∈R,df e.2.box x.2.box=F):cZ k m (R++[x]):=by{
refine⟨g.hm,λe u=>?_,BU.mpr (bp g.ap (List.pairwise_singleton _ _) (λa d b D=>by refine aa (cJ.mp D) ?_;exact c a d)),by exact aa bV E⟩;rcases cp.mp u with u|u
.exact g.ok e u
.exact aa (cJ.mp u) f}
theorem lT.f5{j:Fp}{A o:Nat->Addr}(w:lT H s z8 Y o)(r:A 0=s)(f:∀a,j a↔∃i,i<11/\a=A i):bL j (λa=>∃i,i<11/\a=o i) H Y where
 keep:=λb D c=>w.old b D λz=>c ((f b).mpr ⟨0,by decide,z.trans r.symm⟩)
 new:=λb D=>by
  refine af (D) λi L=>ai (λZ e=>?_)<|L;exact aa e ((w.new i Z).imp (λz=>(f _).mpr ⟨0,by decide,z.trans r.symm⟩) id)
theorem bS.o8(b:cZ .tabs m z8)(w:lT H s z8 Y o):bS .tabs m Y s (λa=>∃i,i<11/\a=o i) z8:=by exact let p:=_;((af (w.T.x) λX L=>af (L) λM y=>ai (λx t=>⟨b,w.T.el,.tabs o X M (λ_=>nN) w.h0 x t⟩)<|y):p)
theorem cZ.nil(h:vD k m):cZ k m []:=⟨h,(λ_ h=>(by cases h)),yb,bW _⟩
theorem XM(d:bS k m H s h0 R)(h:Pv (an (n+4) T) l H e<|.ref s):Ex (an (n+4) T) l H (.callM e 83 .nil) (λv Y=>v= .none/\Dj k m s h0 [] H Y) E:=by{
refine let g:=_;let C:=_;let j:=_;(?_:Ex g _ _ C j _)
induction d.c using jn.casesOn with
|plain t i f B u=>
 refine let g:=_;let C:=_;let j:=_;((iq h B bc λQ X q x=>Rp ⟨⟨i,B⟩,u,d.el⟩ Q X (λv Y w=>?_) x):Ex g _ _ C j _)
 obtain⟨e,M,O,P,U⟩:=w;exact af (P.s) λZ G=>q v Y ⟨e,λa=>a=s\/a=M,⟨(cZ.nil d.g.hm),P.el,.plain M Z (λ_=>nN) G P.t⟩,⟨λb D c=>U b D<|fc λz=>c<|(f b).mpr<|.inl z,λb D=>Or.imp (λz=>(f b).mpr<|.inl z) (λz=>by refine z▸?_;exact O) D⟩⟩
|span t i I f B u So p=>refine iq h B bc λQ X q x=>Ts ⟨⟨i,B⟩,d.i7 u p⟩ Q X (λv Y w=>?_) x;obtain⟨e,M,O,P,U⟩:=w;exact af (P.s) λZ G=>q v Y ⟨e,λa=>a=s\/a=M,⟨(cZ.nil d.g.hm),(λ_ h=>(by cases h)),.span M Z [] (λ_=>nN) G P.l.t ⟨yb,λ_ h=>(by cases h)⟩<|.refl _⟩,⟨λb D c=>U b D<|fc λz=>c<|(f b).mpr<|.inl z,λb D=>Or.imp (λz=>(f b).mpr<|.inl z) (λz=>by refine z▸?_;exact O) D⟩⟩
|tabs A r1 r2 f r x t=>refine af (x.s) λi B=>?_;replace h:=r▸h;refine iq h B bc λQ X q y=>C8 (qD x t d.el) Q X (λv Y w=>ai (λe L=>af (L) λo w=>?_)<|w) y;replace w:=r▸w;exact q v Y ⟨e,_,bS.o8 (cZ.nil d.g.hm) w,w.f5 r f⟩}
def jo(R:List ay)(b:bB):List ay:=R.filter λe=>!decide (e.2.box=b)
theorem HX{e:ay}(k:∀x∈I,∀y∈I,x.2.box=y.2.box->x=y)(P:I.Pairwise λx y=>x.2.box≠y.2.box) (h:I[p]?=S e) (D:e.2.box=b):I.eraseIdx p=jo I b:=by{
induction I generalizing p with
|nil=>exact aD h
|cons x I Z=>{
rw[sC] at P;unfold jo
induction p using fK with
|zero=>
 (obtain rfl:=aA h)
 rw[xE (by refine aa (decide_eq_true D) ?_;decide)];refine(qm.mpr λy n=>?_).symm;refine aa (decide_eq_false λz=>P.1 y n<|D.trans z.symm) ?_;rfl
|succ p=>rw[xF (by refine aa (decide_eq_false λz=>P.1 e (du h)<|z.trans D.symm) ?_;rfl)];exact congrArg _<|Z (λx f y n=>k x (cq _ f) y<|cq _ n) P.2 h}}
theorem cZ.nd(g:cZ k m R):R.Pairwise λx y=>x.2.box≠y.2.box:=g.ap.imp_of_mem λ{x y} f n h e=>by replace h:=(sX (g.ok y n).full)▸e▸h;exact ak h
theorem Ej(D:bS k m H s h0 R)(hx:bI R b=S x)(h:Pv (an (n+4) T) l H e<|.ref s)(G:dA (an (n+4) T) l H es [bv b]):Ex (an (n+4) T) l H (.callM e 80 es) (λv Y=>v= .ref x.1/\Dj k m s h0 (jo R b) H Y) E:=by{
refine let za:=_;let zb:=_;let zc:=_;(?_:Ex za _ _ zb zc _)
have hm:=md hx;have O:=NY hx;have h2:b.length<=1000:=by refine O▸((D.g.ok x hm).len.1)▸?_;rcases(D.g.ok x hm).len.2 with z|z<;>refine aa z ?_<;>decide
have bn:b≠[]:=λz=>by have:=(D.g.ok x hm).len;replace this:=z▸O▸this;rcases this.2 with w|w<;>rw[w] at this<;>exact nomatch this.1
have h1:∀{y:ay},y∈jo R b->y∈R:=λhy=>(dZ.mp hy).1
induction D.c using jn.casesOn with
|plain t dx f hs ht=>
 refine iq h hs G λQ X q y=>Sk ⟨⟨dx,hs⟩,ht,D.el⟩ (λe u=>(D.g.ok e u).1) (yV D.g.z) h2 hx Q X (λv Y w=>ai (λg e2=>?_)<|w) y;refine aa e2 ?_;have ne:∀{a:Addr} {o:MO},H a=S o->(∀es,o≠.dict es)->a≠t:=λe h z=>by replace e:=ht▸z▸e;(obtain rfl:=aA e);exact h _ J
 exact q v _ ⟨g,h0,⟨(D.g.sub xG),λy hy=>(af (D.el y<|h1 hy) λM L=>af (L) λd e=>⟨M,d,(MH.c9 (ne e λ_=>(by intro z;cases z))).trans e⟩),.plain t dx f ((MH.c9 (ne hs λ_=>(by intro z;obtain⟨⟩:=z))).trans hs) MH.c5⟩,λC _ c=>MH.c9 λz=>c<|(f C).mpr<|.inr z,λ_ h=>.inl h⟩
|span t dx I f hs ht So p=>{
refine let Gz:=_;((af (AM So<|gg b) λq P=>?_):Gz)
have Z:=((LR So P).perm p).eq D.g.byBox|>.trans hx;refine iq h hs G λQ X qq y=>U3 ⟨⟨dx,hs⟩,D.i7 ht p⟩ bn P Z Q X (λv Y w=>?_) y;obtain⟨g,e2⟩:=w;refine aa e2 ?_;have ne:∀{a:Addr} {o:MO},H a=S o->(∀es,o≠.list es)->a≠t:=λe h z=>by replace e:=ht▸z▸e;(obtain rfl:=aA e);exact h _ J
exact qq v _ ⟨g,h0,⟨(D.g.sub xG),λy hy=>(af (D.el y<|h1 hy) λM L=>af (L) λd e=>⟨M,d,(MH.c9 (ne e λ_=>(by intro z;obtain⟨⟩:=z))).trans e⟩),.span t dx _ f ((MH.c9 (ne hs λ_=>(by intro z;cases z))).trans hs) MH.c5 ((by refine⟨⟨So.up.sublist<|Hi I q,λx hx=>So.le x<|(Hi I q).subset hx⟩,(af (cW.mp<|(tc Z).1) λhp u=>?_)⟩;refine aa (PH ..)<|au u ?_;have:=List.perm_middle (a:=I[q]) (l₁:=I.take q) (l₂:=I.drop<|q+1);rw[<-xY hp,Hf] at this;exact this.symm:jU (I.eraseIdx q)/\(x::I.eraseIdx q).Perm I)).1 (aa (HX (λx hx y hy=>D.g.box (p.mem_iff.mp hx)<|p.mem_iff.mp hy) ((p.symm.pairwise_iff λh=>eE h).mp D.g.nd) (tc Z).1 O)<|p.filter _)⟩,λC _ c=>MH.c9 λz=>c<|(f C).mpr<|.inr z,λ_ h=>.inl h⟩}
|tabs A r1 r2 f r B t=>{
refine af (B.s) λdx hs=>?_;replace h:=r▸h;refine af (oV.mp hm) λi Z=>iq h hs G λQ X q y=>XX (qD B t D.el) (vk D.g.z) Z O (λj z h9 hz ez=>?_) Q X (λv Y w=>?_) y
.have h3:=D.g.box (du hz) hm (ez.trans O.symm);subst h3;refine af (cW.mp hz) λU j2=>?_;refine af (cW.mp Z) λi1 h4=>?_;have:=BR.mp D.g.nd j i U i1 h9;replace this:=j2▸h4▸this;exact this J
·(refine ai (λg L=>?_)<|w;refine af (L) λA' w=>?_)
 replace w:=(HX (λx hx y hy=>D.g.box hx hy) D.g.nd Z O)▸r▸w;exact q v Y ⟨g,_,bS.o8 (D.g.sub xG) w,w.f5 r f⟩}}
theorem Xb:∀{b:bB},dg a=T->dg b=T->a.length=b.length->df a b=T->a=b:=by{
induction a with
|nil=>intro b _ _ o _;induction b with
 |nil=>rfl
 |cons _ _=>cases o
|cons p a Z=>{
intro b R D o h
induction b using aS with
|nil=>cases o
|cons q b=>obtain⟨G,M⟩:=bm.mp R;refine ai (λC s=>?_)<|bm.mp D;obtain⟨⟨A,d⟩,g⟩:=qF.mp h;rw[Z M s (nM o) g,uW (uU (by rw[(beq_iff_eq.mp C)];exact A) (by exact aa (beq_iff_eq.mp G) d)) ((beq_iff_eq.mp G).symm.trans ((uU (by rw[(beq_iff_eq.mp C)];exact A) (by exact aa (beq_iff_eq.mp G) d)).trans<|beq_iff_eq.mp C))]}}
def jx(R:List ay)(b:bB):Bool:=R.any λe=>df e.2.box b
theorem qy:jx R b=T↔∃e∈R,df e.2.box b=T:=Pr
theorem zE(h:jx R b=F):∀e∈R,df e.2.box b=F:=λe u=>mi.mpr<|V1.mp h e u
theorem HS(f:x.2.box.length=1)(n:y.2.box.length=1):df x.2.box y.2.box=T↔lo x<=hi y/\lo y<=hi x:=by refine af (qw f) λp D=>af (qw n) λq b=>?_;delta lo hi;refine aa D<|aa b ?_;rw[qF];exact⟨λz=>z.1,λz=>⟨z,J⟩⟩
def Yt(k:Kd)(m:Nat)(s:Addr)(j:Fp)(R:List ay)(x:ay)(H:MH)(v:V)(Y:MH):Prop:=v= .none/\jx R x.2.box=F/\Dj k m s j (R++[x]) H Y
def Sb(R:List ay)(x:ay)(H:MH)(a:Addr)(Y:MH):Prop:=jx R x.2.box=T/\Gr H Y/\H a=N/\∃c,pI c a Y
theorem LI(h0:bS k m H s h3 R)(ha:cw H a r)(hb:jY k m r.box)(hz:R.length<12)(hl:∀e∈R,e.2.live G=T)(O:∀e∈R,e.2.box≠r.box)(h:Pv (an (n+4) T) l H e<|.ref s)(h4:dA (an (n+4) T) l H j [.ref a,.int G]):Ex (an (n+4) T) l H (.callM e 77 j) (Yt k m s h3 R (a,r) H) (Sb R (a,r) H):=by{
refine let za:=_;let zb:=_;let zc:=_;let zd:=_;(?_:Ex za _ _ zb zc zd)
induction h0.c using jn.casesOn with
|plain t dx f hs ht=>{
have nm:=mi.mpr λz=>by exact af (qy.mp z) λe L=>ai (λu w=>O e u<|Xb (h0.g.ok e u).1 hb.1 ((h0.g.ok e u).2.1.trans hb.2.1.symm) w)<|L
refine iq h hs h4 λQ X q x=>Vm ⟨⟨dx,hs⟩,ht,h0.el⟩ (λe u=>(h0.g.ok e u).1) (yV h0.g.z) ha hb.1 (by refine aa hb.2.1 ?_;rcases hb.2.2 with z|z<;>rw[z]<;>decide) (qu.mpr λe u=>aa (decide_eq_false<|O e u) kS) Q X (λv Y w=>?_) x;refine ai (λg e2=>?_)<|w;refine aa e2 ?_;have ne:∀{b:Addr} {o:MO},H b=S o->(∀j,o≠.dict j)->b≠t:=λe h z=>by replace e:=ht▸z▸e;(obtain rfl:=aA e);exact h _ J
exact q v _ ⟨g,nm,h3,⟨(λz=>h0.g.i9 hb hz<|zE z) nm,λy hy=>(af (((cp.mp hy).elim (h0.el y) λz=>by exact(cJ.mp z)▸ha)) λh6 L=>af (L) λd e=>(eG h6 d ((MH.c9 (ne e λ_=>(by intro z;cases z))).trans e))),.plain t dx f ((MH.c9 (ne hs λ_=>(by intro z;cases z))).trans hs) MH.c5⟩,λC _ c=>MH.c9 λz=>c<|(f C).mpr<|.inr z,λ_ h=>.inl h⟩}
|span t dx I f hs ht So p=>{
refine let Gz:=_;(?_:Gz)
have h1:=hb.1.1;have h7:=λe u=>(h0.g.ok e<|p.mem_iff.mp u).1.1;refine af (AM So<|gg r.box) λq P=>?_;have h8:lo (a,r)<=hi (a,r):=by have z:=hb.full;refine af (qw h1) λx ex=>?_;replace z:=ex▸z;exact((aa ex<|of_decide_eq_true (bm.mp z).1):gg r.box<=jV r.box)
have ne:∀{b:Addr} {o:MO},H b=S o->(∀j,o≠.list j)->b≠t:=λe h z=>by replace e:=ht▸z▸e;(obtain rfl:=aA e);exact h _ J
cases E:jx R r.box with
|false=>
 have U:∀e,I[q]?=S e->¬lo e<=jV r.box:=λe u w=>by refine af ((fS.o7 So (x:=(a,r)) P).mpr<|aG e u w) λy L=>ai (λhy h2=>ai (λw1 w2=>?_)<|h2)<|L;have:=zE E y<|p.mem_iff.mp hy;rw[(HS (h7 y hy) h1).mpr ⟨w1,w2⟩] at this;exact ak this
 refine iq h hs h4 λQ X Z x=>Ut ⟨⟨dx,hs⟩,h0.i7 ht p⟩ ha h1 P U Q X (λv Y w=>ai (λg e2=>let Gz:=_;(?_:Gz))<|w) x;subst e2;exact Z v _ ⟨g,E,h3,⟨(λz=>h0.g.i9 hb hz<|zE z) E,λy hy=>(af (((cp.mp hy).elim (h0.el y) λz=>by exact(cJ.mp z)▸ha)) λh6 L=>af (L) λd e=>(eG h6 d ((MH.c9 (ne e λ_=>(by intro z;cases z))).trans e))),.span t dx _ f ((MH.c9 (ne hs λ_=>(by intro z;cases z))).trans hs) MH.c5 (So.o6 P h8 U).1<|(So.o6 P h8 U).2.trans<|(p.cons _).trans<|List.perm_append_comm (l₁:=[(a,r)])⟩,λC _ c=>MH.c9 λz=>c<|(f C).mpr<|.inr z,λ_ h=>.inl h⟩
|true=>refine af (qy.mp E) λy L=>ai (λhy w=>?_)<|L;have w:=(HS (h7 y<|p.mem_iff.mpr hy) (y:=(a,r)) h1).mp w;exact af ((fS.o7 So P).mp<|aG y (p.mem_iff.mpr hy) w) λe0 L=>ai (λh5 h9=>iq h hs h4 λQ X Z x=>A4 ⟨⟨dx,hs⟩,h0.i7 ht p⟩ ha h1 P h5 h9 (λe u=>hl e<|p.mem_iff.mp u) Q X (λv Y z=>z.elim) λb Y z=>x b Y ⟨E,z⟩)<|L}
|tabs A r1 r2 f h5 x t=>
 refine af (x.s) λdx hs=>?_;replace h:=h5▸h;refine iq (f:=22077) h hs h4 λQ X q y=>YH (e:=(a,r)) (qD x t h0.el) (am (bU hz) (by decide)) ha hb.1 hl Q X (λv Y w=>ai (λg L=>ai (λnm h2=>ai (λD o=>af (D.x) λz0 L=>af (L) λz1 h2=>ai (λB M=>?_)<|h2)<|h2)<|L)<|w) λb Y w=>y b Y ⟨qy.mpr w.1,w.2⟩;have E:jx R r.box=F:=mi.mpr λz=>by refine af (qy.mp z) λe L=>ai (λu w=>?_)<|L;replace w:=(nm e u)▸w;exact ak w
 exact q v Y ⟨g,E,h3,⟨(λz=>h0.g.i9 hb hz<|zE z) E,D.el,.tabs A z0 z1 f h5 B M⟩,λb hb c=>o b hb λi z2 z=>c<|(f b).mpr<|aG i z2 z,λ_ h=>.inl h⟩}
def Cp(n:Nat)(O:Bool)(H:MH)(f:Nat)(Z:List V)(D:QV->Prop)(g:QE->Prop):Prop:=∀(Q:QV) (X:QE),D Q->g X->gk CT FT n O f Z Q X H
def Ec(cx:Cx)(l:ae)(H:MH)(e:ME)(D:QV->Prop)(g:QE->Prop):Prop:=∀(Q:QV) (X:QE),D Q->g X->aP cx X l e Q H
abbrev nX:QE->Prop:=λ_=>True
theorem dk{i:Nat}(h:Ec cx l H e D g)(k:D λv Y=>wpSs cx X r Q (l.set i<|S v) Y) (x:g λa Y=>X a l Y) (Z:fh i l.length=T:=by exact tt):wpSs cx X (.cons (.asg i e) r) Q l H:=cc ⟨fY.mp Z,h _ _ k x⟩
theorem fv{X:Addr->ae->MH->Prop}{Q:Fl->ae->MH->Prop}(h:Ec cx l H e D g)(k:D λv Y=>Q (.ret v) l Y) (x:g λa Y=>X a l Y):wpSs cx X (.cons (.ret e) r) Q l H:=cc<|h _ _ k x
theorem rJ(h:Ec cx l H e D g)(k:D λ_ Y=>wpSs cx X r Q l Y) (x:g λa Y=>X a l Y):wpSs cx X (.cons (.expr e) r) Q l H:=cc<|h _ _ k x
theorem Pv.ec(h:Pv cx l H e v):Ec cx l H e (λQ=>Q v H) nX:=λQ X q _=>h H Gr.rfl X Q q
theorem dC(h:dA (an n O) l H j Z)(c:Cp n O H f Z D g):Ec (an n O) l H (.callF f j) D g:=λQ X q x=>h H Gr.rfl X _<|c Q X q x
theorem VU{f c m:Nat}{a i:Addr}{b:List (Nat×V)}{e:ME}{j:MEs}{Z:List V}{D:QV->Prop}{g:QE->Prop}(h:Pv (an n O) l H e<|.ref a)(R:H a=S (.inst c i b))(B:dA (an n O) l H j Z)(k:Cp n O H f (.ref a::Z) D g)(E:(CT c).bind (λd=>d.meths.lookup m)=S f:=by rfl) (G:cy b m=N:=by exact(J:N=_)):Ec (an n O) l H (.callM e m j) D g:=λQ X q x=>tH R E G (λQ q=>h H Gr.rfl X Q q)<|B H Gr.rfl X _<|k Q X q x
theorem rW{c f:Nat}{j:MEs}{Z:List V}{d:CD}{D:QV->Prop}{g:QE->Prop}(B:dA (an n O) l H j Z)(k:∀a i,H a=N->∀Q X,D Q->g X->gk CT FT n O f (.ref a::Z) (wf Q a) X (H.set a<|.inst c i []))(u:CT c=S d:=by rfl) (b:d.isExc=F:=by exact ff) (e:d.init=f:=by rfl):Ec (an n O) l H (.new c j) D g:=λQ X q x=>B H Gr.rfl X _ (bq u (by unfold oo;refine b▸?_;intro a i R;refine e▸?_;exact k a i R Q X q x))
theorem zQ(h:dA cx l H j Z)(E:Z.length<=1000000):Ec cx l H (.list j) (λQ=>∀f,H f=N->Q (.ref f) (H.set f<|.list Z)) nX:=λQ X q _=>h H Gr.rfl X _ ⟨E,q⟩
def pQ(a:Addr)(H Y:MH):Prop:=∀b,b≠a->Y b=H b
abbrev dB:=Int×Int
def eJ(s:List dB):Int:=(s.map (·.2)).foldr (·+·) 0
def Tl.v:Tl->V
 |.ctr p o=>.tup [.str 229,.int p,.int o]
 |.quo b m u=>.tup [.str 230,.bool b,.int m,.int u]
 |.lim=>.tup [.str 125,.bool F,.int 1,.str 222,.int 1,.bool F]
def lP:List dB->Option Int
 |[]=>N
 |e::s=>S (s.foldl (λk x=>if x.1-k>=1000 then x.1 else k) e.1)
def gA:Tl->List dB->dB->Bool
 |.ctr _ _,_,_=>T
 |.quo b m u,s,e=>decide (u+eJ s+e.2>=m)==b
 |.lim,s,e=>match lP s with|none=>T|some k=>decide<|e.1-k>=1000
inductive wQ (s:List dB) (tk la:Int):Prop
 |new (h:s=[]) (h1:tk=1000000000) (h2:la=0)
 |old (k:Int) (h:lP s=some k) (h1:tk=min 1000000000 ((la-k)*1000000)) (h2:k<=la)
def xq(p o:Int):List (Nat×V):=[(217,.int p),(218,.int o)]
def tK(b:Bool)(m u:Int):List (Nat×V):=[(130,.bool b),(218,.int m),(219,.int u)]
def rP(y L:Int):List (Nat×V):=[(130,.bool F),(132,.int 1),(123,.str 222),(133,.int 1),(126,.bool F),(220,.int 1000000000),(221,.int 1000000000),(127,.int y),(128,.int L)]
inductive dU (H:MH) (c:Addr) (s:List dB) (B:Int):Tl->Prop
 |ctr (dx:Addr) (p o:Int) (h:H c=some (.inst 22 dx (xq (p+s.length) (o+eJ s)))):dU H c s B (.ctr p o)
 |quo (dx:Addr) (b:Bool) (m u:Int) (h:H c=some (.inst 23 dx (tK b m (u+eJ s)))):dU H c s B (.quo b m u)
 |lim (dx:Addr) (tk la:Int) (h:H c=some (.inst 24 dx (rP tk la))) (S:wQ s tk la) (b:0<=la/\la<=B):dU H c s B .lim
theorem xe:eJ (s++[e])=eJ s+e.2:=by{
induction s with
|nil=>exact uT e.2|>.trans (aay e.2).symm
|cons x s Z=>refine(?_:x.2+_=x.2+_+e.2);exact aa (mf ..) (congrArg (x.2+·) Z)}
theorem yK:lP (s++[e])=S (match lP s with|none=>e.1|some k=>if e.1-k>=1000 then e.1 else k):=by{
cases s with
|nil=>rfl
|cons x s=>exact congrArg S List.foldl_append}
theorem E9{s u v:Int}(h:0<=v):min s (min s u+v)=min s (u+v):=(aaA s u).elim (λz=>by exact aa (xD z)<|aa (xD<|Hm h)<|aa (xD<|cV z<|Hm h) J) λz=>by exact aa (abj z) J
theorem HE(c:1000<=a):(1000000000:Int)<=a*1000000:=(Int.mul_le_mul_of_nonneg_right c (by decide))
theorem JU(b:Int)(c:(1000000000:Int)<=a):min 1000000000 a-1000000000=min 1000000000 ((b-b)*1000000):=by refine aa (xD c)<|aa (Int.sub_self b) ?_;rfl
theorem wQ.step(h:wQ s y L)(O:L<=G)(r:0<=L):(gA .lim s (G,Z)=T↔1000000000<=min 1000000000 (y+(G-L)*1000000))/\wQ (s++[(G,Z)]) (if 1000000000<=min 1000000000 (y+(G-L)*1000000) then min 1000000000 (y+(G-L)*1000000)-1000000000 else min 1000000000<|y+(G-L)*1000000) G:=by{
have E:0<=(G-L)*1000000:=Int.mul_nonneg (Pq O) (by decide)
induction h using wQ.casesOn with
|new h a M=>clear r;subst h a;refine au M ?_;have d:=yi.mpr ⟨cX 1000000000,Hm E⟩;exact aa (if_pos d) ⟨⟨λ_=>d,λ_=>J⟩,.old G (yK) (JU G (yi.mp d).2)<|cX _⟩
|old k h a M=>{
have z:min 1000000000 (y+(G-L)*1000000)=min 1000000000 ((G-k)*1000000):=a.symm▸(E9 E).trans (congrArg (min 1000000000) ((Int.add_mul ..).symm.trans (congrArg (·*1000000) (by exact aa (Bk ..)<|au (Int.add_sub_assoc ..)<|aa (Pp ..) J))));have e:gA .lim s (G,Z)=decide (G-k>=1000):=by show(match lP s with|none=>T|some k=>decide<|(G,Z).1-k>=1000)=_;exact aa h J
refine aa z<|aa e ?_;by_cases c:G-k>=1000
.have d:=yi.mpr ⟨cX 1000000000,HE c⟩;exact if_pos d▸⟨⟨λ_=>d,λ_=>decide_eq_true c⟩,.old G (yK.trans (by exact aa h<|congrArg S<|if_pos c)) (JU G<|HE c)<|cX _⟩
.have d:¬1000000000<=min 1000000000 ((G-k)*1000000):=λz=>c (Int.le_of_mul_le_mul_right (yi.mp z).2 (by decide:(0:Int)<1000000));exact if_neg d▸⟨⟨λz=>absurd (of_decide_eq_true z) c,λz=>absurd z d⟩,.old k (yK.trans (by exact aa h<|congrArg S<|if_neg c)) J<|cV M O⟩}}
theorem mD(h:Pv cx l H e<|.ref a)(R:H a=S (.inst c i D)):Pv cx l H (.isinst e k) (.bool<|c==k):=λI g X Q q=>h I g X _<|bq (g.at R) q
theorem YB{X:Addr->ae->MH->Prop}{Q:Fl->ae->MH->Prop}{r:MSs}{o e:ME}{k c:Nat}{a i:Addr}{D:List (Nat×V)}{x y:Int}{d:CD}(Y:Pv (an n O) l H o<|.ref a)(R:H a=S (.inst c i D))(G:cy D k=S (.int x))(h:Pv (an n O) l H e<|.int y)(q:wpSs (an n O) X r Q l<|H.set a<|.inst c i<|cf D k<|.int<|x-y)(u:CT c=S d:=by rfl) (w:(d.fields.contains k&&et D.length 1000)=T:=by exact tt):wpSs (an n O) X (.cons (.augA o k .sub e) r) Q l H:=cc (Y H Gr.rfl _ _<|CA R G<|h H Gr.rfl _ _<|sJ R q u w)
theorem wd(h:Pv cx l H a<|.int x)(C:Pv cx l H b<|.int y):Pv cx l H (.cmp a .ge b) (.bool<|decide<|x>=y):=bC h C λ_=>J
theorem EI(h:Pv cx l H a<|.int x)(C:Pv cx l H b<|.int y)(f:x.natAbs<2^64/\y.natAbs<2^64):Pv cx l H (.bin .mul a b) (.int<|x*y):=λI g X Q q=>h I g X _<|C I g X _ ⟨f,q⟩
theorem KO{k:Nat}(h:k<=1000):Pv cx l H (.bin .pow (.int 10)<|.int k) (.int<|10^k):=λI g X Q q=>cj (bp (cR k) (dG.mpr h) (by decide)) q
theorem pQ.set:pQ a H (H.set a o):=λ_ h=>MH.c9 h
theorem NR:cf (rP y L) 127 (.int x)=rP x L:=J
theorem K8:cf (rP y L) 128 (.int x)=rP y x:=J
theorem Zq(C:dU H c s e .lim)(D:e<=G)(E:G<4611686018427387904):Cp (n+2) T H 27 [.ref c,.int G,.int Z] (λQ=>∀Y,dU Y c (s++[(G,Z)]) G .lim->pQ c H Y->Q (.bool<|gA .lim s (G,Z)) Y) nX:=λQ X q _=>by{
refine let p:=_;(?_:p)
cases C with
|lim i y L h f b=>{
refine ai (λd o=>?_)<|f.step (Z:=Z) (cV b.2 D) b.1;have m:((10:Int)^6)=1000000:=by decide
refine aR [S _,S _,S _,N] J J (bY ((Fk J (aN (ab J) h J) (iz (aN (ab J) h J) (EI (mM (ab J)<|aN (ab J) h J) (KO (by decide)) (⟨cM.mp (au ((W4<|Pq<|cV b.2 D).symm) (lW (Int.sub_le_self G b.1) (ql E (by decide)))),by decide⟩)))).to (by exact aa m J)) (ab J) h ?_);refine aa NR<|bY (ab J) (ab J) MH.c5 ?_;refine aa K8<|aa MH.d4 ?_;have B:(H.set c<|.inst 24 i<|rP (min 1000000000<|y+(G-L)*1000000) G) c=_:=MH.c5;refine aW (cH (aM J) ((λI g Q X q=>by have B:=g.at B;exact aR [S _,S _] J J (aH (aN (ab J) B J) (λz=>ak z) λ_=>aK (aZ (v:=.int 1000000000) (vG (x:=1000000000) (y:=1) (aN (ab J) B J) (aN (ab J) B J) (by decide)) q))))) (aH (wd (aN (ab J) B J)<|ab J) (λt=>?_) λt=>aK ?_)
.have t:=of_decide_eq_true t;rw[if_pos t] at o;refine YB (ab J) B J (ab J) ?_;refine aa NR<|aa MH.d4 ?_;have a:(H.set c<|.inst 24 i<|rP (min 1000000000 (y+(G-L)*1000000)-1000000000) G) c=_:=MH.c5;refine aZ ((ni<|aN (ab J) a J).to J) ?_;have:=q _ (.lim i _ _ a o ⟨cV b.1<|cV b.2 D,cX _⟩) pQ.set;rw[d.mpr t] at this;exact this
.have t:=of_decide_eq_false t;replace o:=(if_neg t)▸o;refine aZ (v:=.bool F) (aN (ab J) B J) ?_;have:=q _ (.lim i _ _ B o ⟨cV b.1<|cV b.2 D,cX _⟩) pQ.set;rw[mi.mpr λz=>t<|d.mp z] at this;exact this}}
theorem C7:cf (cf (xq p o) 217<|.int x) 218 (.int y)=xq x y:=J
theorem J6{e:dB}{p:Int}:p+((s++[e]).length:Nat)=p+(s.length:Nat)+1:=by refine aa bV<|aa sG<|aa (BJ ..)<|au (mf ..) ?_;rfl
theorem YC(C:dU H c s a t)(D:a<=G)(E:G<4611686018427387904):Cp (n+3) T H 28 [.ref c,.int G,.int Z] (λQ=>∀Y,dU Y c (s++[(G,Z)]) G t->pQ c H Y->Q (.bool<|gA t s (G,Z)) Y) nX:=λQ X q _=>by{
refine let d:=_;(?_:d)
induction id C using dU.casesOn with
|ctr i p o h=>
 refine let P:=_;let f:=_;(?_:gk _ _ P _ _ f _ _ _)
 refine aR [S _,S _,S _] J J<|aH (t:=T) (mD (ab J) h) (λ_=>yF (ab J) h J (ar)<|yF (ab J) MH.c5 J (ab J)<|aZ eU ?_) λz=>ak z;rw[MH.d4,C7];exact q _ (.ctr i p o (by refine aa MH.c5<|aa J6<|aa xe ?_;rw[mf o])) pQ.set
|quo i b m u h=>{
refine let P:=_;(?_:gk _ _ _ _ _ P _ _ _)
refine aR [S _,S _,S _] J J<|aH (t:=F) (mD (ab J) h) (λz=>ak z) λ_=>aK<|aH (t:=T) (mD (ab J) h) (λ_=>yF (ab J) h J (ab J) ?_) λz=>ak z;rw[(J:cf (tK b m<|u+eJ s) 219 (.int _)=tK b m _),show u+eJ s+Z=u+eJ (s++[(G,Z)]) by exact aa xe<|mf ..];refine let P:=_;(?_:wpSs _ _ _ _ P _)
have B:(H.set c<|.inst 23 i<|tK b m<|u+eJ (s++[(G,Z)])) c=_:=MH.c5;have q:=q _ (.quo i b m u B) pQ.set;have e:gA (.quo b m u) s (G,Z)=(decide (u+eJ (s++[(G,Z)])>=m)==b):=by show(decide _==b)=_;exact aa xe<|aa (mf ..) J
rw[e] at q;refine aH (aN (ab J) B J) (λt=>aZ (wd (aN (ab J) B J)<|aN (ab J) B J) ?_) λt=>aK<|aZ (iR (aN (ab J) B J)<|aN (ab J) B J) ?_
.rw[t] at q ⊢;rw[show(decide _==T)=decide _ by cases decide (u+eJ _>=m)<;>rfl] at q;exact q
.rw[t] at q ⊢;rw[show(decide _==F)=decide (u+eJ _<m) by{
by_cases k:u+eJ (s++[(G,Z)])>=m
.refine aa (decide_eq_true k)<|aa (decide_eq_false<|bT.mpr k) ?_;rfl
.refine aa (decide_eq_false k)<|aa (decide_eq_true<|xB.mp k) ?_;rfl}] at q
 exact q}
|lim i y L h g b=>exact aR [S _,S _,S _] J J<|aH (t:=F) (mD (ab J) h) (λz=>ak z) λ_=>aK<|aH (t:=F) (mD (ab J) h) (λz=>ak z) λ_=>aK<|fv (dC (aM J)<|Zq C D E) q trivial}
def xi(s:List dB):Tl->Tl
 |.ctr p o=>.ctr (p+s.length)<|o+eJ s
 |.quo b m u=>.quo b m<|u+eJ s
 |.lim=>.lim
theorem SJ(C:dU H c s B t):ew (n+1) O H 31 [.ref c] (xi s t).v:=λI g Q X q=>by{
refine let a:=_;(?_:a)
have P:∀{l:ae} {i:Addr} {k:Nat} {D:List _} {j:Nat} {v:V} {cx:Cx},H c=S (.inst k i D)->l.at 0=S _->cy D j=S v->Pv cx l I _ v:=λh e f=>aN (ab e) (g.at h) f
induction C using dU.casesOn with
|ctr i p o h=>exact aR [S _] J J (aH (t:=T) (mD (ab J)<|g.at h) (λ_=>aZ (cP (aB aQ<|aB (P h J J)<|aB (P h J J) bc) (by decide:3<=1000000)) q) λz=>ak z)
|quo i b m u h=>exact aR [S _] J J (aH (t:=F) (mD (ab J)<|g.at h) (λz=>ak z) λ_=>aK (aH (t:=T) (mD (ab J)<|g.at h) (λ_=>aZ (cP (aB aQ<|aB (P h J J)<|aB (P h J J)<|aB (P h J J) bc) (by decide:4<=1000000)) q) λz=>ak z))
|lim i y L h Y b=>exact aR [S _] J J (aH (t:=F) (mD (ab J)<|g.at h) (λz=>ak z) λ_=>aK (aH (t:=F) (mD (ab J)<|g.at h) (λz=>ak z) λ_=>aK (aZ (cP (aB aQ<|aB (P h J J)<|aB (P h J J)<|aB (P h J J)<|aB (P h J J)<|aB (P h J J) bc) (by decide)) q)))}
theorem ub(h:dA cx l H a Z)(m:vj Z=S j)(w:vC j=T/\(j.map (·.1)).Nodup/\j.length<=15):Ec cx l H (.dict a) (λQ=>∀f,H f=N->Q (.ref f) (H.set f<|.dict j)) nX:=λQ X q _=>h H Gr.rfl X _<|bq m ⟨w,q⟩
def Sh:List (aY×V):=[(.s 222,.int 1),(.s 223,.int 60),(.s 224,.int 3600),(.s 225,.int 86400),(.s 226,.int 604800)]
theorem R3:Cp (n+1) O H 25 [.str 222] (λQ=>∀Y,Gr H Y->Q (.int 1) Y) nX:=λQ X q _=>
 aR [S _,N] J J (dk (ub (j:=Sh) (aM J) J (by decide)) (λf G=>aH (yC (ab J) (ab J) MH.c5 J J) (λz=>ak z) λ_=>aK<|aZ (rH (ab J) MH.c5 (ab J) J J J)<|q _<|Gr.new G) trivial)
theorem VN(h:Ec cx l H a (λQ=>∀Y,Gr H Y->Q (.int x) Y) nX) (D:∀Y,Gr H Y->Pv cx l Y b (.int y)) (f:x.natAbs<2^64/\y.natAbs<2^64):Ec cx l H (.bin .mul a b) (λQ=>∀Y,Gr H Y->Q (.int<|x*y) Y) nX:=λQ X q _=>h _ X (λY g=>D Y g Y Gr.rfl X _ ⟨f,q Y g⟩) trivial
theorem kx(h:Ec cx l H e D g)(q:D λv Y=>aP cx (λa H=>X a l H) l o (λw G=>mC cx (λH=>wpSs cx X r Q l H) G w k v) Y) (x:g λa Y=>X a l Y):wpSs cx X (.cons (.setA o k e) r) Q l H:=cc<|h _ _ q x
def wb(H:MH)(t:Tl)(Q:QV):Prop:=∀c Y,H c=N->dU Y c [] 0 t->Gr H Y->Q (.ref c) Y
theorem JF{H:MH}(R:H a=N)(g:Gr (H.set a o) G):Gr H (G.set a B):=λb D _=>by have c:b≠a:=λz=>D<|aa z R;rw[MH.c9 c,g b (by exact aa (MH.c9 c) D) aJ,MH.c9 c]
theorem QX:Cp (n+4) T H 30 [t.v] (wb H t) nX:=λQ X q _=>by{
have A:∀{l:ae} {cx:Cx} {L:List V} {k:Nat} {v:V},l.at 0=S _->L[k]?=S v->fh k 1000000=T->Pv cx l H _ v:=λr w D=>cG (ab r) (ar) w<|fY.mp D
induction t using Tl.casesOn with
|ctr p o=>exact aR [S<|Tl.v _,N] J J (aW (A J J J) (aH (t:=T) (bC (ab J) aQ λ_=>J) (λ_=>fv ((rW (f:=23075) (aB (A J J J)<|aB (A J J J) bc) λa i R Q X q _=>by refine aR [S _,S _,S _] J J<|bY (ab J) (ab J) MH.c5<|bY (ab J) (ab J) MH.c5<|bA ?_;refine aa MH.d4<|aa MH.d4 ?_;exact q a _ R (.ctr i p o (by refine aa MH.c5 ?_;show S (MO.inst 22 i<|xq p o)=S (.inst 22 i<|xq (p+0)<|o+0);exact aa (uT ..)<|aa (uT ..) J)) (Gr.new R):Ec (an ((n+2)+1) T) _ H (.new 22 _) (wb H<|.ctr p o) nX)) q trivial) λz=>ak z))
|quo b m u=>exact aR [S<|Tl.v _,N] J J (aW (A J J J) (aH (t:=F) (bC (ab J) aQ λ_=>J) (λz=>ak z) λ_=>aK (aH (t:=T) (bC (ab J) aQ λ_=>J) (λ_=>fv ((rW (f:=24075) (aB (A J J J)<|aB (A J J J)<|aB (A J J J) bc) λa i R Q X q _=>by refine aR [S _,S _,S _,S _] J J<|bY (ab J) (ab J) MH.c5<|bY (ab J) (ab J) MH.c5<|bY (ab J) (ab J) MH.c5<|bA ?_;refine aa MH.d4<|aa MH.d4<|aa MH.d4 ?_;exact q a _ R (.quo i b m u (by refine aa MH.c5 ?_;show S (MO.inst 23 i<|tK b m u)=S (.inst 23 i<|tK b m<|u+0);exact aa (uT ..) J)) (Gr.new R):Ec (an ((n+2)+1) T) _ H (.new 23 _) (wb H<|.quo b m u) nX)) q trivial) λz=>ak z)))
|lim=>{
refine let P:=_;(?_:gk _ _ P _ _ _ _ _ _)
have y:Cp (n+3) T H 29 [.bool F,.int 1,.str 222,.int 1,.bool F] (wb H .lim) nX:=λQ X q _=>
 aR [S _,S _,S _,S _,S _] J J (aH (t:=F) (gF (x:=1) (ab J) ar) (λz=>ak z) λ_=>aK (aH (t:=F) (dD (p:=F) (q:=F) (gF (x:=1) (ab J) ar) λz=>ak z) (λz=>ak z) λ_=>aK (fv ((rW (f:=25075) (aM J) λa i R Q X q _=>by{
refine aR [S _,S _,S _,S _,S _,S _] J J<|bY (ab J) (ab J) MH.c5<|bY (ab J) (ab J) MH.c5<|bY (ab J) (ab J) MH.c5<|bY (ab J) (ab J) MH.c5<|bY (ab J) (ab J) MH.c5 ?_;refine aa MH.d4<|aa MH.d4<|aa MH.d4<|aa MH.d4<|aa MH.d4 ?_;generalize c:H.set a _=I;refine let P:=_;let C:=_;let j:=_;let U:=_;(?_:wpSs P C _ j U _)
have d:=c▸MH.c5;refine kx (VN (dC (aM J) R3) (λY g=>(KO (by decide)).to J) (by decide)) (λe g=>ab J e Gr.rfl _ _ (sJ (g.at d) (aH (ab J) (λz=>ak z) λ_=>bY ((EI (x:=1000000000) (vG (x:=1000000000) (y:=1) (aN (ab J) MH.c5 J) (ab J) (by decide)) (ab J) (by decide))) (ab J) MH.c5<|aK<|bY (aN (ab J) MH.c5 J) (ab J) MH.c5<|bY ar (ab J) MH.c5<|bA ?_) J J)) trivial;exact aa MH.d4 (aa MH.d4<|aa MH.d4<|q a _ R (.lim i 1000000000 0 MH.c5 (.new J J J) ⟨cX _,cX _⟩)<|JF R<|aa c g)}:Ec (an (n+2) T) _ H (.new 24 _) (wb H .lim) nX)) q trivial)))
exact aR [S<|Tl.v .lim,N] J J (aW (A J J J) (aH (t:=F) (bC (ab J) aQ λ_=>J) (λz=>ak z) λ_=>aK (aH (t:=F) (bC (ab J) aQ λ_=>J) (λz=>ak z) λ_=>aK (aH (t:=T) (bC (ab J) aQ λ_=>J)
 (λ_=>fv (dC (aB (A J J J)<|aB (A J J J)<|aB (A J J J)<|aB (A J J J)<|aB (A J J J) bc) y) q trivial) λz=>ak z))))}}
theorem Ku{a b:Int}(h:aY.i a= .i b):a=b:=by injection h
theorem dU.at(C:dU H c s B t):∃o,H c=S o/\(∀j,o≠.dict j)/\∀{Y:MH},Y c=H c->dU Y c s B t:=by{
induction C using dU.casesOn with
|ctr i p o h=>exact(bl _ h (λ_=>(by intro z;cases z)) λe=>.ctr i p o<|e.trans h)
|quo i b m u h=>exact(bl _ h (λ_=>(by intro z;cases z)) λe=>.quo i b m u<|e.trans h)
|lim i y L h a b=>exact(bl _ h (λ_=>(by intro z;cases z)) λe=>.lim i y L (e.trans h) a b)}
theorem dU.ne(C:dU H c s B t):H c≠N:=by refine af (C.at) λo L=>ai (λe _=>?_)<|L;refine aa e ?_;exact(by intro z;cases z)
theorem dU.keep{Y:MH}(C:dU H c s B t)(e:Y c=H c):dU Y c s B t:=af (C.at) λ_ L=>ai (λ_ y=>ai (λ_ k=>k e)<|y)<|L
theorem dU.mono(C:dU H c s B t)(h:B<=w):dU H c s w t:=by{
induction C using dU.casesOn with
|ctr i p o h=>exact .ctr i p o h
|quo i b m u h=>exact .quo i b m u h
|lim i y L h Y b=>exact .lim i y L h Y ⟨b.1,cV b.2 ‹_›⟩}
def ib(w:List Addr):List (aY×V):=w.zipIdx.map λp=>(.i p.2,.ref p.1)
theorem Uq:ib w++[(.i w.length,.ref c)]=ib (w++[c]):=by unfold ib;refine aa Hj<|aa cK<|aa (da ..) ?_;rfl
theorem Er:dL (ib w) (.i k)=T:=by delta dL ib;refine aa Bm ?_;rw[im];exact λ_ _=>J
theorem Xl{w:List Addr}:∀{j:Nat},w[k]?=S c->(w.zipIdx j).find? (λp=>decide<|aY.i (p.2:Nat)= .i ((j+k:Nat):Int))=S (c,j+k):=by{
induction w generalizing k with
|nil=>exact λh=>(aD h)
|cons x w Z=>{
intro j h;refine aa abk ?_
induction k using fK with
|zero=>
 (refine au (aA h) ?_)
 rw[List.find?_cons_of_pos (by exact aa (OF ..)<|decide_eq_true J),OF]
|succ k=>{
have e:j+(k+1)=(j+1)+k:=by exact aa (fZ ..)<|aa (fF 1 k) J
exact(aaC (by{
rw[decide_eq_false]
.decide
.intro z;have:=fL.mp<|Ku z;exact absurd this<|fu<|jh<|kf k})).trans (aa e<|Z h)}}}
theorem Mb{k:Nat}(h:w[k]?=S c):cY (ib w) (.i k)=S (.ref c):=by delta cY ib;refine aa (aa3) ?_;have z:=Xl (j:=0) h;rw[da] at z;refine aa z ?_;rfl
structure vr (H₀ H:MH) (d:Addr) (cs:List Addr) (ts:List Tl):Prop where
 h:H d=some (.dict (ib cs))
 len:cs.length<=ts.length
 c:∀(i:Nat) (c:Addr) (t:Tl),cs[i]?=some c->ts[i]?=some t->dU H c [] 0 t
 new:∀c∈cs,H₀ c=none/\c≠d
 nd:cs.Nodup
 g:Gr H₀ H
theorem tx{H:MH}(b:H a=S (.dict j))(w:iK v=S k)(Y:dL j k=T)(E:j.length<=1000000)(q:R<|H.set a<|.dict<|kC j k x):vU R H (.ref a) v x:=bq b<|bq w ⟨⟨Y,E⟩,q⟩
theorem K4(r:j d=N)(E:I.length<=1000):∀(w:List Addr) (H:MH) (x y z:Option V),w.length+m=I.length->vr j H d w I->(∀Y w,vr j Y d w I->w.length=I.length->Q (.ref d) Y)->cC (n+4) X (.one 2) (λ_=>True) Nd (dE (an (n+4) T) X (.cons (.ret<|.loc 1) .nil)<|cL Q) (dW w.length m) [S<|.tup<|I.map Tl.v,S<|.ref d,x,y,z] H:=by{
induction m with
|zero=>exact λw H x y z e f q=>fH trivial<|aZ (ab J)<|q H w f e
|succ m s=>{
intro w H x y z e f q;refine let P:=_;(?_:cC _ _ _ _ _ _ _ P _)
have l:=e▸jh (kf m);have h9:=bX l;have A:=cO l<|bh E;refine dh trivial J (dk (dC (aB (cG (ab J) (ab J) ((by refine aa (gy)<|aa h9 ?_;rfl)) A) bc) QX) (λc M u C g=>?_) trivial);have G:c≠d:=λz=>by replace u:=f.h▸z▸u;cases u
refine aH (fR<|ab J) (λ_=>nS (ab J) (ab J) (ab J) (tx (g.at f.h) J Er (by unfold ib;exact aa (aL ..)<|aa sH<|bU A) ?_)) λz=>ak z;refine aa (Od (by unfold cY;rw[aa5,qu];intro e U z;refine af (bZ.mp U) λp L=>ai (λO e1=>?_)<|L;rw[<-e1] at z;have:=fL.mp<|Ku<|of_decide_eq_true z;have o:=(cW.mp<|Hk.mp O).1;rw[this] at o;exact jZ _ o)) (aa Uq ?_)
have S':vr j (M.set d<|.dict<|ib<|w++[c]) d (w++[c]) I:=by{
refine let P:=_;(⟨MH.c5,by exact aa bV l,λi B t Z v=>?_,λB h0=>?_,?_,?_⟩:vr _ P _ _ _)
.rcases Ea Z with⟨_,Z⟩|⟨ei,ec⟩
 .exact(f.c i B t Z v).keep<|(MH.c9 (f.new B<|du Z).2).trans<|g B (f.c i B t Z v).ne aJ
 .refine aa ec ?_;rw[ei,h9] at v;refine au (aA v) ?_;exact C.keep<|MH.c9 G
.rcases cp.mp h0 with h|h
 .exact f.new B h
 .exact aa (cJ.mp h)<|⟨f.g.none u,G⟩
.refine Hn.mpr (bp f.nd (fq.mpr ⟨aJ,gW⟩) λa R b D z=>?_);rw[cJ.mp D] at z;obtain⟨i,Z⟩:=oV.mp R;have k:=(cW.mp Z).1;exact(f.c i a _ Z<|bX<|cO k f.len).ne<|aa z u
.intro b D _;have c1:b≠d:=λz=>D<|aa z r;exact(MH.c9 c1).trans<|(f.g.trans g) b D aJ}
have:=s _ _ (S<|.int w.length) (S<|.ref c) z (by exact aa bV<|aa sG<|(fZ ..).trans<|aa (fF 1 m) e) S' q;rw[bV] at this;exact nx<|ic this}}
theorem I7(E:I.length<=1000):Cp (n+5) T H 32 [.tup<|I.map Tl.v] (λQ=>∀d Y w,H d=N->vr H Y d w I->w.length=I.length->Q (.ref d) Y) nX:=λQ X q _=>
 aR [S _,N,N,N,N] J J (oh (E:=λ_ _=>False) Jy (λv f a=>by{
refine let P:=_;let C:=_;let j:=_;let U:=_;(?_:wpSs P C _ j U _)
refine eN a λd e m A=>?_;subst e;refine aa A ?_;exact mu ((fO J (ab J) (by exact aa (aL ..)<|bh E)).to (by exact aa (aL ..) J)) E (K4 m E [] _ N N N (da _) ⟨MH.c5,bW _,λi c t h=>((aD h)),λc h=>((by cases h)),gW,Gr.new m⟩ λY w b e=>q d Y w m b e)}) λ_ _ z=>z.elim)
def pY(t:Tl):List dB->List dB->List dB
 |_,[]=>[]
 |P,e::r=>(if gA t P e=T then [e] else [])++pY t (P++[e]) r
def lK(t:Tl)(s:List dB):List dB:=pY t [] s
theorem Vx:∀{P:List dB},pY t P (s++[e])=pY t P s++(if gA t (P++s) e=T then [e] else []):=by{
induction s with
|nil=>exact λ{P}=>by exact aa (fm ..)<|fm _
|cons x s Z=>intro P;refine(?_:_++pY t _ (s++[e])=(_++pY t _ s)++_);refine aa Z<|aa (ip ..)<|aa (ip ..) ?_;rfl}
theorem HP:lK t (s++[e])=lK t s++(if gA t s e=T then [e] else []):=Vx
def fW:List Tl->List dB->dB->Bool
 |[],_,_=>T
 |t::I,s,e=>gA t s e&&fW I (lK t s) e
inductive fT (H:MH) (B:Int):List Addr->List Tl->List dB->Prop
 |nil (s:List dB):fT H B [] [] s
 |cons {c:Addr} {t:Tl} {cs:List Addr} {ts:List Tl} {s:List dB} (h:dU H c s B t) (r:fT H B cs ts (lK t s)):fT H B (c::cs) (t::ts) s
theorem fT.keep{Y:MH}(h:fT H B w I s)(D:B<=a)(k:∀c∈w,Y c=H c):fT Y a w I s:=by{
induction h with
|nil s=>exact .nil s
|cons h _ Z=>exact .cons ((h.keep<|k _<|bw _).mono D)<|Z λc u=>k c<|cq _ u}
theorem fT.new:∀{I:List Tl},w.length=I.length->(∀(i:Nat) (c:Addr) (t:Tl),w[i]?=S c->I[i]?=S t->dU H c [] 0 t)->fT H 0 w I []:=by{
induction w with
|nil=>{
intro I e _
induction I using aS with
|nil=>exact .nil []
|cons _ _=>cases e}
|cons c w Z=>{
intro I e h
induction I using aS with
|nil=>cases e
|cons t I=>exact .cons (h 0 c t J J)<|Z (nM e) λi B M G a=>h (i+1) B M G a}}
theorem fT.ne(h:fT H B w I s):∀c∈w,H c≠N:=by{
induction h with
|nil s=>exact λc h=>(by cases h)
|cons h _ Z=>{
intro c u;rcases bJ.mp u with rfl|u
.exact h.ne
.exact Z c u}}
theorem DS{D:Type}{w:List D}:∀{k:Nat},(w.zipIdx k).map (λp:D×Nat=>V.int p.2)=dW k w.length:=by{
induction w with
|nil=>exact J
|cons c w Z=>intro k;exact aa abk (congrArg (V.int k::·) Z)}
theorem Iq(p:r.Perm ((ib w).map (·.1.f8)))(o:r.Pairwise λx y=>cF 9 y x=S F):r=dW 0 w.length:=by{
have e:(ib w).map (·.1.f8)=dW 0 w.length:=by exact km.trans DS
replace p:=e▸p;have c:∀{x:V} {m k:Nat},x∈dW k m->∃i:Nat,x= .int i/\k<=i:=by{
intro x m
induction m with
|zero=>exact λh=>(by cases h)
|succ m Z=>{
intro k h;refine dP (bJ.mp h) (λh=>(aG k h<|cD _)) λh=>?_
(refine aU (Z h) λi e d=>?_)
exact(aG i e<|abl d)}}
have A:∀m k,(dW k m).Pairwise λx y=>cF 9 y x=S F:=by{
intro m
induction m with
|zero=>exact λ_=>yb
|succ m Z=>intro k;refine sC.mpr ⟨λy n=>(af (c n) λi L=>ai (λe d=>?_)<|L),Z _⟩;exact aa e<|congrArg S<|decide_eq_false<|bT.mpr<|dG.mpr<|abl d}
refine abm (λa b R D G M=>af (c<|p.mem_iff.mp R) λi L=>ai (λg _=>af (c D) λj L=>ai (λI _=>?_)<|L)<|L) o (A _ _) p;rw[g,I] at G M ⊢;exact congrArg V.int<|uU (bT.mp<|of_decide_eq_false<|aA G)<|bT.mp<|of_decide_eq_false<|aA M}
theorem yv(R:t=T->A H)(D:t=F->B H):bR (lm A B) (.bool t) H:=by{
induction t using aX with
|true=>exact R J
|false=>exact D J}
theorem Ad(R:t=F->A H)(D:t=T->B H):bR (λb H=>bR (lm A B) (.bool !b) H) (.bool t) H:=by{
refine let P:=_;(?_:bR P _ _)
induction t using aX with
|true=>exact D J
|false=>exact R J}
theorem Ls(h:Ec cx l H c D g)(k:D<|bR<|lm (λH=>wpSs cx X a (dE cx X r Q) l H) λH=>wpSs cx X b (dE cx X r Q) l H) (x:g λa Y=>X a l Y):wpSs cx X (.cons (.ite c a b) r) Q l H:=cc<|h _ _ k x
theorem DC(h:Ec cx l H c D g)(k:D<|bR λC H=>bR (lm (λH=>wpSs cx X a (dE cx X r Q) l H) λH=>wpSs cx X b (dE cx X r Q) l H) (.bool !C) H) (x:g λa Y=>X a l Y):wpSs cx X (.cons (.ite (.not c) a b) r) Q l H:=cc<|h _ _ k x
def brk:V:=.tup [.str 299,.str 201]
def HW(a b c d e f g:V)(G:Int)(v:Addr)(Z:Int)(x:Option V):ae:=[S a,S b,S c,S d,S e,S f,S<|.int G,S g,S<|.ref v,S<|.int Z,x]
theorem Qw(D:B<=G)(E:G<4611686018427387904)(hz:M.length<=1000)(hf:cy fs 137=S (.ref dd)):∀(w:List Addr) (I:List Tl) (s:List dB) (done:List Addr) (H:MH) (x:Option V),fT H B w I s->M=done++w->M.Nodup->H v=S (.inst 8 dx fs)->H dd=S (.dict<|ib M)->H U=S (.list L)->v∉M->dd∉M->U∉M->(∀Y x,fT Y G w I (s++[(G,Z)])->(∀b,b∉w->Y b=H b)->fW I s (G,Z)=T->wpSs (an (n+3) T) X r (cL Q) (HW a b c d e f g G v Z x) Y)->(∀Y,fT Y G w I (s++[(G,Z)])->(∀b,b∉w->Y b=H b)->fW I s (G,Z)=F->Q brk Y)->cC (n+3) X (.one 10) (λH=>H U=S (.list L)) CJ (dE (an (n+3) T) X r<|cL Q) (dW done.length w.length) (HW a b c d e f g G v Z x) H:=by{
intro w
induction w with
|nil=>intro I s done H x C _ _ _ _ hl _ _ _ k _;cases C;exact fH hl<|nx<|k H x (.nil _) (λ_ _=>J) J
|cons O w ih=>{
intro I s done H x C ea P he m hl n1 n2 n3 q R;refine let p:=_;(?_:p)
cases C with
|cons C1 C=>{
rename_i t I
have u:M[done.length]?=S O:=by rw[ea,uQ<|cD _,xW];rfl
have nc:O∉w:=by rw[ea] at P;exact(fq.mp (Hn.mp P).2.1).1
refine dh hl J<|DC (dC (aB (rH (aN (ab J) he hf) m (ab J) J Er<|Mb u)<|aM J)<|YC C1 D E) (λH1 h1 o=>?_) trivial;have i:∀{b:Addr},b∉M->H1 b=H b:=λh=>o _ λz=>h<|aa z<|du u;refine Ad (λh0=>let za:=_;let zb:=_;let zc:=_;((aZ (cP (aM J) (by decide)) (R H1 (.cons h1 (by rw[HP,h0];exact au ((fm<|lK t s).symm)<|C.keep D λc u=>o c λz=>nc<|z▸u)) (λb D=>o b λz=>D (by refine z▸?_;exact bw _)) (by unfold fW;rw[h0];rfl))):wpSs za _ _ zb zc _)) λh0=>?_;have j:∀{l:MH},fT l G w I (lK t s++[(G,Z)])->(∀b,b∉w->l b=H1 b)->fT l G _ _ _/\∀b,b∉O::w->l b=H b:=λA y=>⟨.cons (h1.keep<|y O nc) (by rw[HP,h0];exact A),λb D=>(y b λz=>D<|cq _ z).trans (o b λz=>D (by refine z▸?_;exact bw _))⟩
have la:fW (t::I) s (G,Z)=fW I (lK t s) (G,Z):=by show(gA t s (G,Z)&&_)=_;refine h0▸?_;rfl
have z:=ih I (lK t s) (done++[O]) H1 (S<|.int done.length) (C.keep (cX _) λc u=>o c λz=>nc<|z▸u) (by rw[ea,ip];rfl) P ((i n1).trans he) ((i n2).trans m) ((i n3).trans hl) n1 n2 n3
 (λl x A y h=>q l x (j A y).1 (j A y).2<|la.trans h) (λl A y h=>R l (j A y).1 (j A y).2<|la.trans h)
rw[bV] at z;exact aK<|ic z}}}
section
set_option genCtorIdx true
inductive Ds where
 |no|b1|vd
def Ds.v:Ds->V
 |.no=>.none
 |.b1=>.tup [.str 95]
 |.vd=>.str 287
structure bj where
 m:Nat
 ds:Ds
 cst:Bool
 iv:Bool
 tm:Bool
 tmo:Int
 size:Int
def pG(m:Nat):V:=.tup (if m=2 then [.str 94,.str 95] else [.str 94])
def gX(s:bj):List V:=(if s.cst then [V.str 289,.str 271] else [.str 271])++(if s.iv then [.str 231] else [])++(if s.tm then [.str 148] else [])
def bj.v(s:bj):V:=.tup [pG s.m,s.ds.v,.tup<|gX s,.int s.tmo,.int s.size,.bool F]
def iu(m:Nat):List V:=if m=2 then [.int (4:Nat),.int (2:Nat)] else [.int (4:Nat)]
def Oi(s:bj)(b:Bool)(U:Addr):List (Nat×V):=[(141,.str 277),(138,s.v),(107,.tup<|iu s.m),(232,.int 0),(233,.bool F),(234,.bool b),(105,.ref U)]
def dO(H:MH)(A:Addr)(s:bj)(b:Bool)(U:Addr):Prop:=∃i,H A=S (.inst 34 i<|Oi s b U)
theorem dO.at{Y:MH}(h:dO H A s b U)(e:Y A=H A):dO Y A s b U:=af (h) λi h=>⟨i,e.trans h⟩
theorem fX{l:ae}(h:dO H A s b U)(r:l.at i=S (.ref A))(w:cy (Oi s b U) k=S v):Pv cx l H (.attr (.loc i) k) v:=af (h) λa h=>aN (ab r) h w
theorem ko{l:ae}{i k:Nat}{v:V}(h:dO H A s b U)(r:l.at i=S (.ref A))(w:([pG s.m,s.ds.v,.tup<|gX s,.int s.tmo,.int s.size,.bool F])[k]?=S v)(D:fh k 1000000=T:=by exact tt):Pv cx l H (.idx (.attr (.loc i) 138)<|.int k) v:=cG (fX h r J) (ar (i:=((k:Nat):Int))) w<|fY.mp D
def mP(s:bj)(r:dN)(t:Int):Int:=if t≠0 then t else if s.tmo≠0 then s.tmo else r.tmo
theorem iw(h:Pv cx l H c<|.bool t)(R:t=T->Pv cx l H a x)(D:t=F->Pv cx l H b y):Pv cx l H (.ite c a b) (cond t x y):=λI g X Q q=>h I g X _ (yv (λe=>R e I g X Q (by rw[e] at q;exact q)) λe=>D e I g X Q (by rw[e] at q;exact q))
theorem AN{x:Int}(h:(!(x==0))=T):x≠0:=λz=>by replace h:=z▸h;exact ak h
theorem Ef{x:Int}(h:(!(x==0))=F):x=0:=beq_iff_eq.mp<|dX h
theorem F0(B:dO H A s b U)(E:cw H a r):ew (n+1) O H 48 [.ref A,.ref a,.int t] (.int<|mP s r t):=λI g Q X q=>by{
refine let p:=_;(?_:p)
have B:dO I A s b U:=B.at (by(refine af (B) λi h=>?_);exact(g.at h).trans<|aa h J);refine af (E.gr g) λi L=>af (L) λd e=>aR [S _,S _,S _] J J<|aH (fC (ab J) ar) (λz=>aZ (ab J) ?_) λz=>aK<|aZ (iw (fC (ko B J J) ar) (λ_=>ko B J J) λ_=>aN (ab J) e J) ?_
.unfold mP at q;rw[if_pos<|AN z] at q;exact q
.unfold mP at q;rw[if_neg λw=>w<|Ef z] at q;by_cases c:s.tmo=0
 .rw[if_neg λw=>w c] at q;exact aa c q
 .rw[if_pos c] at q;rw[show(!(s.tmo==0))=T by refine aa (beq_eq_false_iff_ne.mpr c) ?_;rfl];exact q}
def kL(s:bj)(b:bB)(y:V)(t:Int)(j:V)(G:Int):dN:=
 let L:=if t=0 then s.tmo else t
 ⟨b,y,if L=0 then 0 else G+L,L,j,[],[]⟩
def yp(b y:V)(u t:Int)(c:V)(d:Addr):List (Nat×V):=[(97,b),(159,y),(200,.int u),(148,.int t),(147,c),(137,.ref d)]
theorem Oc(B:dO H A s U h0):Cp (n+2) T H 42 [.ref A,.tup [bv r,y,.int t,j],.int G] (λQ=>∀a i d Y,H a=N->H d=N->a≠d->Y a=S (.inst 8 i<|mE (kL s r y t j G) d)->Y d=S (.dict [])->Gr H Y->Q (.ref a) Y) nX:=λQ X q _=>by{
refine af (B) λf D=>aR [S _,S _,S _,N,N,N,N,N] J J<|lB J (ab J) J<|oh (E:=λ_ _=>False) (P:=λv Y=>∃a i d,v= .ref a/\H a=N/\(H d=N/\a≠d)/\Y a=S (.inst 8 i<|yp (bv r) y 0 0 (.str 201) d)/\Y d=S (.dict [])/\Gr H Y) (Js (aM J) λa i R=>λQ X q x=>YA MH.c5 Q X (λv Y w=>?_) x) (λv E w=>?_) λ_ _ z=>z.elim
.obtain⟨e,d,m,p,M,ex⟩:=w;have c:a≠d:=λz=>by replace m:=MH.c5▸z▸m;cases m
 rw[MH.c9 c.symm] at m;refine q v Y ⟨e,a,i,d,J,R,⟨m,c⟩,p,M,λb D _=>?_⟩;have h:b≠a:=λz=>D<|aa z R;exact(ex b (by refine aa (MH.c9 h) ?_;exact D)<|fc h).trans<|MH.c9 h
.refine let P:=_;let C:=_;let zc:=_;let zd:=_;(?_:wpSs P C _ zc zd _)
 refine eg w λa i d e R Z=>?_;obtain⟨⟨m,c⟩,p,M,g⟩:=Z;subst e;refine bY (ab J) (ab J) p<|bY (ab J) (ab J) MH.c5 ?_;refine aa MH.d4 ?_;have O:∀(u L) o,(o= .inst 8 i (yp (bv r) y u L j d))->yp (bv r) y u L j d=mE (kL s r y t j G) d->Q _ (E.set a o):=λu L o eo ef=>by refine aa eo<|aa ef ?_;exact q a i d _ R m c MH.c5 ((MH.c9 c.symm).trans M) (λb D _=>(MH.c9 λz=>D (by refine aa z ?_;exact R)).trans<|g b D aJ)
 have l:∀L:Int,(∀u,u=(if L=0 then 0 else G+L)->yp (bv r) y u L j d=mE (kL s r y t j G) d)->wpSs (an (n+1) T) (fy X) (.cons (.ite (.cmp (.attr (.loc 7) 148) .ne _) (.cons (.setA (.loc 7) 200<|.bin .add (.loc 2)<|.attr (.loc 7) 148) .nil) .nil)<|.cons (.ret<|.loc 7) .nil) (cL Q) [S<|.ref A,S<|.tup [bv r,y,.int t,j],S _,S<|bv r,S y,S<|.int t,S j,S _] (E.set a _):=λL k=>
  aH (fC (aN (ab J) MH.c5 J) ar) (λz=>bY (iz (ab J)<|aN (ab J) MH.c5 J) (ab J) MH.c5 (aK (aZ (ab J) (by refine aa MH.d4 ?_;exact O _ L _ J<|k _ (if_neg<|AN z).symm)))) λz=>aK<|aZ (ab J)<|O 0 L _ J<|k _ (if_pos<|Ef z).symm
 refine aH (gF (ab J) ar) (λz=>bY (ko ⟨f,(MH.c9 λz=>by replace D:=R▸z▸D;exact aD D).trans<|g.at D⟩ J J) (ab J) MH.c5<|aK ?_) λz=>aK<|l t λu I=>?_
 .refine aa MH.d4 (l s.tmo λu I=>?_);delta kL mE;refine aa (if_pos<|beq_iff_eq.mp z)<|aa I ?_;rfl
 .unfold kL mE;refine aa (if_neg<|beq_eq_false_iff_ne.mp z)<|aa I ?_;rfl}
end
def AP(r:dN)(G:Int):Int:=if r.til=0 then 0 else max (r.til-G) 1
def rd(r:dN)(G:Int):V:=.tup [bv r.box,r.dat,.int<|AP r G,r.cmt]
theorem Jr(E:cw H a r):ew (n+1) T H 40 [.ref a,.int G] (rd r G):=λI g Q X q=>by{
refine let p:=_;((af (E.gr g) λi L=>af (L) λd e=>?_):p)
have b:∀u,u=AP r G->wpSs (an n T) (fy X) (.cons (.ret<|.tup<|.cons (.attr (.loc 0) 97)<|.cons (.attr (.loc 0) 159)<|.cons (.loc 2)<|.cons (.attr (.loc 0) 147) .nil) .nil) (cL Q) [S _,S<|.int G,S _] I:=λu c=>aZ (cP (Z:=[bv r.box,r.dat,.int u,r.cmt]) (aB (aN (ab J) e J)<|aB (aN (ab J) e J)<|aB (ab J)<|aB (aN (ab J) e J) bc) (by decide:4<=1000000)) (by refine aa c ?_;exact q)
exact aR [S _,S _,N] J J<|aW ar<|aH (fC (aN (ab J) e J) ar) (λz=>aW (yL J (mM (aN (ab J) e J)<|ab J) ar)<|aK<|b _ (if_neg<|AN z).symm) λz=>aK<|b 0 (if_pos<|Ef z).symm}
def bP(m:Nat):List Nat:=if m=2 then [4,2] else [4]
theorem HN{m k t:Nat}(h:(bP m)[k]?=S t):(iu m)[k]?=S (.int t):=by
 have:iu m=(bP m).map λt:Nat=>V.int t:=by unfold iu bP;split<;>rfl
 refine aa this<|(gy).trans<|aa h ?_;rfl
theorem Dw(h:(bP m)[k]?=S t):t<=4/\k<1000000:=by{
unfold bP at h;split at h
.rcases k with _|_|k<;>cases h<;>exact⟨by decide,by decide⟩
.rcases k with _|k<;>cases h
 exact⟨by decide,by decide⟩}
def iG:List Nat->List Int->Bool
 |t::I,k::u=>decide (k<2^t)&&iG I u
 |_,_=>T
theorem Ys{t:Nat}(h:Pv cx l H a<|.int k)(C:Pv cx l H b<|.int t)(r:0<=k):Pv cx l H (.cmp (.bin .shr a b) .ne<|.int 0) (.bool<|!decide (k<2^t)):=by{
refine af (uM r) λj e=>?_;clear r;subst e;refine(fC (qc h C)<|ar).to (congrArg V.bool (congrArg (!·) ?_));have p:(2^t)=((2^t:Nat):Int):=by exact(BV ..)
refine aa p ?_;by_cases c:j<2^t
.refine aa (decide_eq_true<|cM.mpr c)<|aa (Ba.mpr c) ?_;rfl
.exact aa (decide_eq_false λz=>c<|cM.mp z)<|beq_eq_false_iff_ne.mpr λz=>c<|Ba.mp<|fL.mp z}
theorem tN{D:Type}{I:List D}{e:D}(h:I[j]?=S e):I.drop j=e::I.drop (j+1):=by refine af (cW.mp h) λo u=>?_;exact(xY o).trans<|aa u J
theorem Tu(B:dO H A s U b)(o:u.length=(bP s.m).length)(r:∀k∈u,0<=k):∀(j:Nat) (x:Option V),j+m=u.length->Q (.bool<|iG ((bP s.m).drop j)<|u.drop j) H->cC n X (.one 2) (λ_=>True) Ie (dE (an n T) X (.cons (.ret<|.bool T) .nil)<|cL Q) (dW j m) [S<|.ref A,S<|eV u,x] H:=by{
induction m with
|zero=>
 intro j x e q;rw[Hg (i:=j)<|dr e.symm] at q;have z:iG ((bP s.m).drop j) []=T:=by cases(bP s.m).drop j<;>rfl
 rw[z] at q;exact fH trivial<|aZ eU q
|succ m Z=>{
intro j x e q;have Y:=e▸jh (kf m);have w:=bX Y;have v:=bX<|au o Y;obtain⟨_,a⟩:=Dw v;rw[tN w,tN v] at q;have kv:(u.map V.int)[j]?=S (.int u[j]):=by refine aa (gy)<|aa w ?_;rfl
refine dh trivial J (aH (Ys (cG (ab J) (ab J) kv a) (cG (fX B J J) (ab J) (HN v) a)<|r _<|kZ Y) (λz=>aZ eU ?_) λz=>aK (ic (Z _ _ (by exact(fZ ..).trans<|aa (fF 1 m) e) ?_)))
.replace q:Q (.bool<|decide (u[j]<2^_)&&iG _ _) _:=q;rw[eP z] at q;exact q
.replace q:Q (.bool<|decide (u[j]<2^_)&&iG _ _) _:=q;rw[dX z] at q;exact q}}
theorem RO(B:dO H A s U a)(o:u.length=(bP s.m).length)(r:∀k∈u,0<=k)(E:u.length<=1000):ew (n+1) T H 47 [.ref A,eV u] (.bool<|iG (bP s.m) u):=λI g Q X q=>by exact aR [S _,S<|eV u,N] J J (mu ((fO J (ab J) (by rw[aL];exact bh E)).to (by exact aa (aL ..) J)) E (Tu (B.at (by(refine af (B) λi h=>?_);exact(g.at h).trans<|aa h J)) o r 0 N (da _) q))
section
set_option genCtorIdx true
inductive Dt where
 |no|vd (c:Nat)|nums (x:Int) (r:List Int)
def Dt.v:Dt->V
 |.no=>.none
 |.vd c=>.tup [.str c,.str 201]
 |.nums x r=>.tup<|.int x::r.map .int
def hM:Ds->Dt->Bool
 |.no,.no=>T
 |.b1,.nums _ r=>r.isEmpty
 |.vd,.vd _=>T
 |_,_=>F
def pV:List Nat->bB->Bool
 |t::I,p::b=>(decide (p.1<=p.2)&&decide (p.2<2^t))&&pV I b
 |_,_=>T
def gY(s:bj)(b:bB)(t:Int)(d:Dt):Bool:=(b.length==(bP s.m).length)&&(pV (bP s.m) b&&((s.iv||dg b)&&((t==0||s.tm)&&hM s.ds d)))
def pi:Dt->Bool
 |.no=>T
 |_=>F
def pr:Ds->Bool
 |.no=>T
 |_=>F
def c6:Ds->Dt->Bool
 |.b1,.vd _=>T
 |.b1,.nums _ r=>!r.isEmpty
 |_,_=>F
def c7:Ds->Dt->Bool
 |.b1,.vd _=>T
 |.vd,.nums _ _=>T
 |_,_=>F
theorem wW:hM a d=(!(!(pi d==pr a))&&(!c6 a d&&!c7 a d)):=by obtain⟨⟩:=a<;>obtain⟨⟩:=d<;>first|rfl|(rename_i x r;obtain⟨⟩:=r<;>rfl)
theorem Dy(h:Pv cx l H e<|.str 231)(C:Pv cx l H A<|.tup<|gX s):Pv cx l H (.cmp e .notIn A) (.bool !s.iv):=bC h C λ_=>by unfold gX;obtain⟨⟩:=s.cst<;>obtain⟨⟩:=s.iv<;>obtain⟨⟩:=s.tm<;>rfl
theorem Ln(h:Pv cx l H e<|.str 148)(C:Pv cx l H A<|.tup<|gX s):Pv cx l H (.cmp e .notIn A) (.bool !s.tm):=bC h C λ_=>by unfold gX;obtain⟨⟩:=s.cst<;>obtain⟨⟩:=s.iv<;>obtain⟨⟩:=s.tm<;>rfl
theorem Av:d.v.f9=pi d:=by obtain⟨⟩:=d<;>rfl
theorem Fg:a.v.f9=pr a:=by obtain⟨⟩:=a<;>rfl
theorem D6(B:dO H A s U h0)(o:b.length=(bP s.m).length):∀(j:Nat) (x y z:Option V),j+m=b.length->(pV ((bP s.m).drop j) (b.drop j)=T->∀x y z,Q .next [S<|.ref A,f,S<|bv b,I,l,L,d,x,y,z] H)->(pV ((bP s.m).drop j) (b.drop j)=F->∀a C Y,Gr H Y->H a=N->pI 184 a Y->X a C Y)->cC (n+3) X (.one 7) (λ_=>True) Kg Q (dW j m) [S<|.ref A,f,S<|bv b,I,l,L,d,x,y,z] H:=by{
induction m with
|zero=>intro j x y z e q _;replace q:=(Hg<|dr e.symm)▸q;exact fH trivial (q (by cases(bP s.m).drop j<;>rfl) x y z)
|succ m Z=>{
intro j x y z e q M;refine let P:=_;(?_:cC _ _ _ _ _ _ _ P _)
have c:=e▸jh (kf m);have i:=bX c;have v:=bX<|au o c;refine ai (λh u=>?_)<|Dw v;rw[tN i,tN v] at q M;have D:∀t:Nat,((2^t:Nat):Int)=2^t:=λt=>by refine aa (BV ..) ?_;rfl
refine dh trivial J (lB J (cG (ab J) (ab J) (zB i) u) J (aH (eW (nV (ab J)<|ab J) λ_=>wd (ab J) (kI (cG (fX B J J) (ab J) (HN v) u) (am h (by decide)))) (λw=>ua .e3 λa Y g O r=>M ?_ a _ Y g O r) λw=>aK (ic (Z _ _ _ _ (by exact aa (fZ ..)<|aa (fF 1 m) e) (λG=>q ?_) λG=>M ?_))))
.have w:¬(b[j].1<=b[j].2/\b[j].2<2^(bP s.m)[j]):=λz=>by
  rw[D] at w;exact dP (uS.mp w) (λw=>bT.mpr z.1<|of_decide_eq_true w) λw=>bT.mpr (of_decide_eq_true w) z.2
 show((decide _&&decide _)&&_)=F
 induction k:decide (b[j].1<=b[j].2) using aX with
 |false=>rfl
 |true=>refine aa (decide_eq_false λz=>w ⟨of_decide_eq_true k,z⟩) ?_;rfl
all_goals
 refine let p:=_;(?_:p)
 obtain⟨R,E⟩:=ye.mp w;refine let p:=_;(?_:p)
 rw[D] at E;show((decide _&&decide _)&&_)=_;rw[(decide_eq_true<|bT.mp<|of_decide_eq_false R),(decide_eq_true<|xB.mp<|of_decide_eq_false E)];exact G}}
end
theorem pc(h:Pv cx l H e v)(w:∀a:Bool->Prop,a t->vB a s v):Pv cx l H (.isinstT e s) (.bool t):=λI g X Q q=>h I g X _<|w (λb=>Q _ I) q
theorem qb(h:Pv cx l H a<|.bool x)(C:Pv cx l H b<|.bool y):Pv cx l H (.cmp a .ne b) (.bool<|!(x==y)):=bC h C λ_=>J
theorem Ng(O:cx.hn=T)(m:Pv cx l H g d.v)(R:Pv cx l H I a.v)(j:pi d=pr a)(E:∀x r,d= .nums x r->r.length<=1000):Pv cx l H (.bop T<|.cons (.notNone g)<|.cons (.cmp I .ne<|.str 287)<|.cons (.cmp (.bi .len<|.cons g .nil) .ne<|.bi .len<|.cons I .nil) .nil) (.bool<|c6 a d):=by{
refine let P:=_;(?_:Pv _ _ _ P _)
induction d using Dt.casesOn with
|no=>exact(um (q:=T) (r:=T) (fR m) (λz=>ak z) λz=>ak z).to (by obtain⟨⟩:=a<;>rfl)
|vd c=>{
refine let p:=_;(?_:p)
induction a using Ds.casesOn with
|no=>exact ak j
|b1=>exact(um (q:=T) (r:=T) (fR m) (λ_=>bC R aQ λ_=>J) λ_ _=>(fC (fO O m (by decide:2<=1000000)) (fO O R (by decide:1<=1000000))).to J).to J
|vd=>exact(um (q:=F) (r:=T) (fR m) (λ_=>bC R aQ λ_=>J) λ_ z=>ak z).to J}
|nums x r=>{
induction a using Ds.casesOn with
|no=>exact ak j
|b1=>{
have Z:(V.int x::r.map V.int).length<=1000000:=by exact aa iN (aa (aL ..) (am (nG<|E x r J) (by decide)))
refine(um (q:=T) (fR m) (λ_=>bC R aQ λ_=>J) λ_ _=>(fC (fO O m Z) (fO O R (by decide:1<=1000000))).to (congrArg V.bool (congrArg (!·) ?_))).to J;clear Z j E P O
induction r using aS with
|nil=>rfl
|cons y r=>refine beq_eq_false_iff_ne.mpr λz=>?_;have z:=fL.mp z;exact nomatch nM z}
|vd=>exact(um (q:=F) (r:=T) (fR m) (λ_=>bC R aQ λ_=>J) λ_ z=>ak z).to J}}
theorem ZT(m:Pv cx l H g d.v)(R:Pv cx l H I a.v)(j:pi d=pr a):Pv cx l H (.bop T<|.cons (.notNone g)<|.cons (.bop F<|.cons (.cmp g .eq<|.tup .nil)<|.cons (.cmp (.isinstT (.idx g<|.int 0) T) .ne<|.cmp I .eq<|.str 287) .nil) .nil) (.bool<|c7 a d):=by{
refine let P:=_;(?_:Pv _ _ _ P _)
have b:∀{x:V} {r:List V},Pv cx l H g (.tup<|x::r)->Pv cx l H (.idx g<|.int 0) x:=λh=>cG h (ar) J (by decide);have f:Pv cx l H _ _:=cP bc<|bW _
induction d using Dt.casesOn with
|no=>exact(dD (q:=T) (fR m) λz=>ak z).to (by obtain⟨⟩:=a<;>rfl)
|vd c=>{
refine let P:=_;(?_:Pv _ _ _ P _)
cases a with
|no=>exact ak j
|b1=>exact(dD (fR m) λ_=>eW (bC m f λ_=>J) λ_=>qb (pc (b m) λ_ k=>k)<|bC R aQ λ_=>J).to J
|vd=>exact(dD (fR m) λ_=>eW (bC m f λ_=>J) λ_=>qb (y:=T) (pc (b m) λ_ k=>k)<|bC R aQ λ_=>J).to J}
|nums x r=>{
cases a with
|no=>exact ak j
|b1=>exact(dD (fR m) λ_=>eW (bC m f λ_=>J) λ_=>qb (pc (b m) λ_ k=>k)<|bC R aQ λ_=>J).to J
|vd=>exact(dD (fR m) λ_=>eW (bC m f λ_=>J) λ_=>qb (y:=T) (pc (b m) λ_ k=>k)<|bC R aQ λ_=>J).to J}}
def wi(H:MH)(c:Nat)(X:QE):Prop:=∀a Y,Gr H Y->H a=N->pI c a Y->X a Y
theorem sY(h:Pv (an (n+3) T) l H c<|.bool t)(x:t=T->wi H 184 X)(k:t=F->wpSs (an (n+3) T) (fy X) r Q l H):wpSs (an (n+3) T) (fy X) (.cons (.ite c (.cons (.raise<|.callF 5<|.cons (.str 184) .nil) .nil) .nil) r) Q l H:=aH h (λz=>ua .e3<|x z) λz=>aK<|k z
theorem ur(h:a=F):(a&&b)=F:=(congrArg (·&&b) h).trans<|abf b
theorem jK(h:b=F):(a&&b)=F:=(congrArg (a&&·) h).trans<|ny a
theorem tJ(h:a=T)(C:b=T):(a&&b)=T:=bm.mpr ⟨h,C⟩
theorem HG(h:a=F)(C:b=F):(a||b)=F:=ye.mpr ⟨h,C⟩
theorem Jc:(tI [] b).f9=!dg b:=by refine aa (CF ..) ?_;cases dg b<;>rfl
theorem Kr(h:(!a&&!b)=F):(a||b)=T:=by obtain⟨⟩:=a<;>obtain⟨⟩:=b<;>first|rfl|exact ak h
theorem Ik{a b:List V}(h:V.tup a= .tup b):a=b:=by injection h
theorem Dm{a b:Int}(h:V.int a= .int b):a=b:=by injection h
inductive gS (H:MH) (B:Int) (a:Addr) (r:dN) (M:Fp):Prop
 |mk (dx d:Addr) (cs:List Addr) (h:H a=some (.inst 8 dx (mE r d))) (hd:H d=some (.dict (ib cs))) (C:fT H B cs r.inn r.evs) (m:∀b,M b↔b=d\/b∈cs) (nd:cs.Nodup) (dc:d∉cs)
theorem gS.el(h:gS H B a r M):cw H a r:=by
 induction h with
 |mk i d w h=>exact(eG i d h)
theorem gS.keep{Y:MH}(h:gS H B a r M)(D:B<=f)(R:Y a=H a)(E:∀b,M b->Y b=H b):gS Y f a r M:=by
 induction h with
 |mk i d w h g C m P e=>exact .mk i d w (R.trans h) ((E d<|(m d).mpr<|.inl J).trans g) (C.keep D λc u=>E c<|(m c).mpr<|.inr u) m P e
theorem gS.live(h:gS H B a r M):H a≠N/\∀b,M b->H b≠N:=by
 induction h with
 |mk i d w h c C m P f=>refine⟨by refine aa h ?_;exact(by intro z;cases z),λb D=>?_⟩;exact dP ((m b).mp D) (λe=>aa e<|nn c) λu=>C.ne b u
structure SA (k:Kd) (m:Nat) (H:MH) (st:Addr) (F:Fp) (M:Addr->Fp) (R:List ay) (B:Int):Prop where
 S:bS k m H st F R
 el:∀e∈R,gS H B e.1 e.2 (M e.1)
 f:∀e∈R,∀a,M e.1 a->¬F a
 o:∀e∈R,∀a,M e.1 a->∀e'∈R,a≠e'.1
 s:∀e∈R,∀e'∈R,∀a,M e.1 a->M e'.1 a->e.1=e'.1
def Gp(j:Fp)(M:Addr->Fp)(R:List ay):Fp:=λa=>j a\/∃e∈R,a=e.1\/M e.1 a
theorem SA.one(Y:SA k m H U t M R B)(a:x∈R)(n:y∈R)(e:x.1=y.1):x=y:=by{
refine af (Y.S.el x a) λi L=>af (L) λd G=>af (Y.S.el y n) λu L=>af (L) λw g=>?_;replace G:=g▸e▸G;refine Y.S.g.box a n ?_;have I:∀{b c:bB},b.map dp=c.map dp->b=c:=by{
intro b
induction b with
|nil=>intro c h;induction c with
 |nil=>rfl
 |cons _ _=>obtain⟨⟩:=h
|cons p b Z=>{
intro c h
induction c using aS with
|nil=>obtain⟨⟩:=h
|cons q c=>injection h with C l;injection(Ik C) with j P;injection P with P _;exact aa (Z l)<|aa (uW (Dm j)<|Dm P) J}}
exact(I (Ik ((congrArg (λr:Option MO=>match r with|some (.inst _ _<|(_,v)::_)=>v|_=>.none) G)))).symm}
theorem SA.live(Y:SA k m H U j M R B):∀a,Gp j M R a->H a≠N:=λa h=>by{
rcases h with h|⟨e,u,h⟩
.exact Y.S.live.1 a h
.rcases h with h|h
 .exact h▸(Y.el e u).live.1
 .exact(Y.el e u).live.2 a h}
theorem SA.keep{Y:MH}(c:SA k m H U j M R B)(D:B<=w)(h:∀a,Gp j M R a->Y a=H a):SA k m Y U j M R w where
 S:=c.S.keep (λa g=>h a<|.inl g) λe u=>by
  exact af (c.S.el e u) λi L=>af (L) λd z=>(eG i d<|(h e.1<|.inr ⟨e,u,.inl J⟩).trans z)
 el:=λe u=>(c.el e u).keep D (h e.1<|.inr<|aG e u<|.inl J) λb E=>h b<|.inr<|aG e u<|.inr E
 f:=c.f
 o:=c.o
 s:=c.s
theorem SA.gr(b:SA k m H U j M R B)(D:B<=w)(g:Gr H Y):SA k m Y U j M R w:=b.keep D λa h=>g a (b.live a h) aJ
theorem SA.j4(i:SA k m H U j M R B)(l:B<=w)(g:∀e∈L,e∈R)(D:bS k m Y U Z L)(c:bL j Z H Y):SA k m Y U Z M L w/\bL (Gp j M R) (Gp Z M L) H Y:=by{
refine⟨⟨D,λe u=>(i.el e<|g e u).keep l (c.keep e.1 (i.el e<|g e u).live.1<|(λe u=>i.S.out<|i.S.el e u) e<|g e u) λb E=>c.keep b ((i.el e<|g e u).live.2 b E)<|i.f e (g e u) b E,λe u a E G=>?_,λe u a E A d=>i.o e (g e u) a E A<|g A d,λe u A d=>i.s e (g e u) A<|g A d⟩,λb l n=>c.keep b l λz=>n<|.inl z,λb l=>?_⟩
.rcases c.new a G with z|z
 .exact i.f e (g e u) a E z
 .exact(i.el e<|g e u).live.2 a E z
.rcases l with h|⟨e,u,h⟩
 .exact(c.new b h).imp .inl id
 .exact .inl<|.inr<|aG e (g e u) h}
abbrev NG (cx:Cx) (l:ae) (a:ME) (b:Tg) (A:ME) (s:List V->MH->Prop) (M:List V) (i:MH->Prop) (H:MH):Prop:=M.length<=1000000/\kF (λv=>cT b v (fD b l)) i (λs l H=>aP cx fM l A (bR s) H) (λs l H=>aP cx fM l a s H) s M [] H
theorem Eo(O:cx.hn=T)(h:Ec cx l H e D g):Ec cx l H (.comp a b (.ex e) A) (λQ=>D λv Y=>Am (NG cx l a b A λm H=>gB H (.list m) Q) v Y) g:=λQ X q x=>⟨O,h _ X q x⟩
theorem CL(u:i H):∀{m:List V},m.length+M.length<=1000000->(∀v∈M,∃C,cT b v (fD b l)=S C/\Pv cx C H A (.bool<|p v)/\(p v=T->Pv cx C H a (f v)))->s (m++(M.filter p).map f) H->kF (λv=>cT b v<|fD b l) i (λs l H=>aP cx fM l A (bR s) H) (λs l H=>aP cx fM l a s H) s M m H:=by{
induction M with
|nil=>exact λ{m} _ _ k=>⟨u,by rw[abn,PM,fm] at k;exact k⟩
|cons v r Z=>{
intro m E h k;refine let c:=_;((af (h v<|bw _) λC L=>ai (λD y=>ai (λG d=>let P:=_;let e:=_;let j:=_;let U:=_;(?_:kF P _ e j _ U _ _))<|y)<|L):c)
refine(bp u (am (eF _ _) E)<|bq D<|G H Gr.rfl fM (bR _) (let P:=_;(?_:bR P _ _)));replace k:=abo▸k
induction O:p v using aX with
|true=>rw[O] at k;exact d O H Gr.rfl fM _ (Z (by refine aa bV<|aa sG<|aa (fZ ..) ?_;rw[fF 1];exact E) (λv w=>h v<|cq _ w) (by exact aa (ip ..) k))
|false=>rw[O] at k;exact Z (am (gM (si _) _) E) (λv w=>h v<|cq _ w) k}}
theorem Ve{H:MH}(u:H c=S (.list L))(E:L.length<=1000000)(h:∀v∈L,∃C,cT b v (fD b l)=S C/\Pv cx C H A (.bool<|p v)/\(p v=T->Pv cx C H a (f v))) (k:∀d,H d=N->Q (.ref d) (H.set d<|.list<|(L.filter p).map f)):Am (NG cx l a b A λm H=>gB H (.list m) Q) (.ref c) H:=ir u ⟨E,CL u (by exact aa jF<|aa (da ..) E) h k⟩
theorem Ex.ec(h:Ex cx l H e P E):Ec cx l H e (λQ=>∀v Y,P v Y->Q v Y) (λX=>∀a Y,E a Y->X a Y):=h
def bG(R:List ay)(G:Int):List ay:=R.filter λe=>e.2.live G
def tu(R D:List ay):List ay:=R.filter λe=>D.all λd=>!decide (e.2.box=d.2.box)
theorem Wd:tu (jo R d.2.box) D=tu R (d::D):=by delta tu jo;refine aa aaW<|yc λe _=>?_;exact aa nB<|abp ..
theorem XE:∀(D R:List ay) (j:Fp) (H:MH) (x:Option V),bS k m H C j R->dO H A s U C->¬j A->¬j g->H g=S (.list L)->(∀d∈D,d∈R)->D.Pairwise (λx y=>x.2.box≠y.2.box)->(∀Z Y x,bS k m Y C Z (tu R D)->bL j Z H Y->Q .next [S<|.ref A,S t,S<|.ref g,x] Y)->cC (n+4) X (.one 3) (λH=>H g=S (.list L)) IH Q (D.map λe=>bv e.2.box) [S<|.ref A,S t,S<|.ref g,x] H:=by{
intro D
induction D with
|nil=>intro R j H x r _ _ _ p _ _ q;have e:tu R []=R:=qm.mpr λ_ _=>J;exact fH p (q j H x (by exact aa e r) bL.rfl)
|cons d D G=>{
intro R j H x r B E b p sub P q;refine let M:=_;(?_:cC _ _ _ _ _ _ _ M _)
rw[sC] at P;refine dh p J<|rJ (Ex.ec (E:=λ_ _=>False)<|Ej r ((r.g.byBox d).mpr ⟨sub d<|bw _,J⟩) (fX B J J)<|aM J) (λv I w=>ai (λ_ O=>?_)<|w) λ_ _ z=>z.elim;refine af (O) λF1 h0=>ai (λS1 c=>?_)<|h0;have l:H A≠N:=by(refine af (B) λi h=>?_);refine h▸?_;exact(by intro z;cases z)
have a:H g≠N:=by refine p▸?_;exact(by intro z;cases z)
refine ic (G _ F1 I _ S1 (B.at<|c.keep A l E) (λz=>(c.new _ z).elim E l) (λz=>(c.new _ z).elim b a) ((c.keep g a b).trans p) (λe u=>dZ.mpr ⟨sub e<|cq _ u,?_⟩) P.2 λf H2 x o c2=>q f H2 x (by replace o:=Wd▸o;exact o)<|c.trans c2);exact congrArg _<|decide_eq_false λz=>P.1 e u z.symm}}
theorem N6{R:List ay}:(R.filter p).length+(R.filter λe=>!p e).length=R.length:=by{
induction R with
|nil=>rfl
|cons e R Z=>{
induction h:p e using aX with
|true=>rw[xF h,xE (by refine aa h ?_;decide),iN,iN,<-Z,oL]
|false=>rw[xE (by refine aa h ?_;decide),xF (by exact congrArg _ h),iN,iN,<-Z,fZ]}}
theorem Qv(g:∀e∈Y,cw H e.1 e.2):∃(p:V->Bool) (f:V->V),(∀e∈Y,p (.ref e.1)=!e.2.live G/\f (.ref e.1)=bv e.2.box)/\(((bO Y).filter p).map f)=(Y.filter λe=>!e.2.live G).map λe=>bv e.2.box:=by{
have o:∀a:Addr,∃r:dN,∀e∈Y,e.1=a->e.2.live G=r.live G/\bv e.2.box=bv r.box:=λa=>by{
by_cases c:∃e∈Y,e.1=a
·(refine af (c) λe L=>?_;refine ai (λu w=>?_)<|L)
 refine⟨e.2,λA k E=>(af (g e u) λi L=>af (L) λd b=>af (g A k) λl L=>af (L) λm M=>?_)⟩;replace b:=w▸b;replace M:=b▸E▸M;injection(aA M) with _ _ C;injection C with s j;injection j with _ P;injection P with h _;exact⟨by unfold dN.live;exact aa (Dm<|(Pz h).2) J,((Pz s).2).symm⟩
.exact⟨⟨[],.none,0,0,.none,[],[]⟩,λe u w=>absurd ⟨e,u,w⟩ c⟩}
refine⟨λv=>match v with|.ref a=>!((PN<|o a).live G)|_=>F,λv=>match v with|.ref a=>bv (PN<|o a).box|_=>.none,λe u=>?_,?_⟩
.have:=PO (o e.1) e u J;exact⟨congrArg (!·) this.1.symm,this.2.symm⟩
.unfold bO;refine aa He<|aa km ?_;have z:(Y.filter ((λv=>match v with|V.ref a=>!((PN<|o a).live G)|_=>F)∘λe=>V.ref e.1))=Y.filter λe=>!e.2.live G:=yc λe u=>congrArg (!·) (PO (o e.1) e u J).1.symm;exact aa z<|uY λe u=>(PO (o e.1) e (dZ.mp u).1 J).2.symm}
theorem Mo(r:bS k m H h0 j R)(B:dO H A s U h0)(nb:¬j A):Cp (n+5) T H 37 [.ref A,.int G] (λQ=>∀Z Y,bS k m Y h0 Z (bG R G)->bL j Z H Y->Q (.int<|R.length-(bG R G).length) Y) nX:=λQ X q _=>by{
refine aR [S _,S _,N,N] J J<|dk (Eo J<|Ex.ec (E:=λ_ _=>False)<|Iv r<|fX B J J) (λv I h2=>let O:=_;(?_:O)) λ_ _ z=>z.elim;refine lH h2 λf D e hf g zr=>?_;obtain⟨a,p,_⟩:=zr;subst e;have l:=λe u=>(r.el e<|p.mem_iff.mp u).gr g;refine af (Qv (G:=G) l) λh3 L=>af (L) λh4 y=>ai (λC b=>?_)<|y;have h1:=p.length_eq▸r.g.z;refine Ve (p:=h3) (f:=h4) a (by refine aa fA ?_;exact am h1 (by decide)) (λv w=>?_) λd t=>?_
.refine let O:=_;((af (bZ.mp w) λe L=>ai (λu i=>?_)<|L):O)
 clear w y L a hf;subst i;exact(bl _ J (let za:=_;((((C e u).1)▸ni (cH (aM J)<|po<|l e u)):Pv _ za _ _ _)) λ_=>(aa ((C e u).2)<|iy (ab J)<|l e u))
.refine b▸?_;have P:=λz=>r.live.1 d z<|g.none t;have lz:((D.filter λe=>!e.2.live G).map λe=>bv e.2.box).length<=1000000:=by exact aa (aL ..) (am (lg _ _) (am h1 (by decide)))
 refine iY J lz (pB (ab J) MH.c5) (XE _ R j _ N (r.gr<|g.trans<|Gr.new t) (B.at ((g.trans<|Gr.new t) A (by(refine af (B) λdx h=>?_);refine h▸?_;exact(by intro z;cases z)) aJ)) nb P MH.c5 (λe u=>p.mem_iff.mp (dZ.mp u).1) (((p.symm.pairwise_iff λh=>eE h).mp r.g.nd).sublist xG) λZ Y x E c=>?_);replace E:=((by{
refine yc λe u=>?_
induction o:e.2.live G using aX with
|true=>{
refine im.mpr λd t=>ai (λh5 M=>?_)<|dZ.mp t;rw[decide_eq_false λz=>?_]
.rfl
.have:=r.g.box u (p.mem_iff.mp h5) z;replace M:=o▸this▸M;exact ak M}
|false=>refine mi.mpr λz=>?_;have:=im.mp z e (dZ.mpr ⟨p.mem_iff.mpr u,by rw[o];rfl⟩);rw[decide_eq_true J] at this;exact ak this}:tu R (D.filter λe=>!e.2.live G)=bG R G))▸E
 refine nx (aZ (iB J (ab J) ((c.keep d (by refine MH.c5▸?_;exact(by intro z;cases z)) P).trans MH.c5) lz) ?_);exact aa (aL ..) (aa ((((p.filter λe=>!e.2.live G).length_eq)▸((W5 _ _).symm.trans (congrArg (·-((R.filter λe=>e.2.live G).length:Int))<|(Bk ..).trans<|congrArg xZ<|N6)):((D.filter λe=>!e.2.live G).length:Int)=R.length-(bG R G).length))<|q Z Y E<|(g.trans<|Gr.new t).f5.trans c)}
theorem R5(b:bS k m H a j R)(B:dO H A s U a):Cp (n+5) T H 39 [.ref A] (λQ=>∀Z Y,bS k m Y a Z []->bL j Z H Y->Q .none Y) nX:=λQ X q _=>
 aR [S _] J J (rJ (Ex.ec (E:=λ_ _=>False)<|XM b<|fX B J J) (λv Y w=>bA (by refine ai (λ_ L=>?_)<|w;refine af (L) λZ y=>ai (λE c=>?_)<|y;exact q Z Y E c)) λ_ _ z=>z.elim)
theorem dO.live(B:dO H A s U a):H A≠N:=by(refine af (B) λi h=>?_);refine aa h ?_;exact(by intro z;cases z)
def gZ(s:bj)(R:List ay):Bool:=(s.size==0)||decide ((R.length:Int)<s.size)
theorem MA(b:bS k m H a j R)(B:dO H A s U a)(v:¬j A):Cp (n+6) T H 38 [.ref A,.int G] (λQ=>∀Z Y,bS k m Y a Z (bG R G)->bL j Z H Y->Q (.bool<|gZ s<|bG R G) Y) nX:=λQ X q _=>
 aR [S _,S _] J J (rJ (dC (aM J)<|Mo b B v) (λZ Y E c=>by have w:=B.at<|c.keep A B.live v;exact aZ (eW (gF (ko w J J) ar) λ_=>iR (Og E<|fX w J J)<|ko w J J)<|q Z Y E c) trivial)
def vn:Dt->Dt->Bool
 |.no,.no=>T
 |.vd c,.vd B=>c==B
 |.nums x r,.nums y t=>(x==y)&&(r==t)
 |_,_=>F
theorem yM(h:hM a d=T)(C:hM a L=T):cA 9 H d.v L.v=S (vn d L):=by{
induction a using Ds.casesOn with
|no=>{
induction d using Dt.casesOn with
|no=>{
induction L using Dt.casesOn with
|no=>rfl
|_=>exact ak C}
|_=>exact ak h}
|b1=>{
induction d using Dt.casesOn with
|nums x r=>{
induction r using aS with
|cons _ _=>exact ak h
|nil=>{
induction L using Dt.casesOn with
|nums y t=>{
induction t using aS with
|cons _ _=>exact ak C
|nil=>rfl}
|_=>exact ak C}}
|_=>exact ak h}
|vd=>{
induction d using Dt.casesOn with
|vd c=>{
induction L using Dt.casesOn with
|vd B=>show S ((c==B)&&((201==201)&&T))=S (c==B);exact aa (show((201==201)&&T)=T from rfl)<|aa (qi ..) J
|_=>exact ak C}
|_=>exact ak h}}
theorem B9(G:Pv cx l H g d.v)(M:Pv cx l H I L.v)(h:hM a d=T)(C:hM a L=T):Pv cx l H (.cmp g .ne I) (.bool<|!vn d L):=bC G M λH=>by refine(?_:(cA 9 H d.v L.v).map (!·)=_);exact congrArg _<|yM h C
theorem zJ(u:jd w)(h:Pv (an (n+3) T) l H c<|.bool t)(x:t=T->wi H w X)(k:t=F->wpSs (an (n+3) T) (fy X) r Q l H):wpSs (an (n+3) T) (fy X) (.cons (.ite c (.cons (.raise<|.callF 5<|.cons (.str w) .nil) .nil) .nil) r) Q l H:=aH h (λz=>ua u<|x z) λz=>aK<|k z
theorem wZ{s:bj}:(iu s.m).length=(bP s.m).length:=by unfold iu bP;split<;>rfl
theorem Ak:(iV o).f9=o.isNone:=by obtain⟨⟩:=o<;>rfl
theorem SM(a:bS k m H d j R)(B:dO H A s U d){b:bB}(D:b≠[]/\b.length<=1000):Cp (n+5) T H 46 [.ref A,bv b,.int G] (λQ=>∀Z Y,b.length=(bP s.m).length->(be G<|bI R b).isSome=T->bS k m Y d Z (jo R b)->bL j Z H Y->Q .none Y) (λX=>(b.length=(bP s.m).length->(be G<|bI R b).isSome=F)->wi H 181 X):=λQ X q x=>by{
have l:(b.map dp).length=b.length:=aL _;have t:(iu s.m).length<=1000000:=by unfold iu;split<;>decide
refine aR [S _,S<|bv b,S _] J J (zJ .e6 (fC (fO J (ab J) (by refine aa l ?_;exact bh D.2))<|fO J (fX B J J) t) (λz=>x λe=>?_) λz=>?_)
.rw[l,e,wZ,beq_self_eq_true] at z;exact ak z
.refine let P:=_;(?_:wpSs _ _ _ _ P _)
 have e:b.length=(bP s.m).length:=by have:=fL.mp<|beq_iff_eq.mp<|dX z;rw[l,wZ] at this;exact this
 refine aH (ko B J J) (λz=>ak z) λ_=>aK<|zJ .e6 (ig<|FX a D (fX B J J)<|aM J) (λz=>x λ_=>?_) λz=>?_
 .rw[Ak] at z;refine au (Ho ..)<|aa z ?_;rfl
 .replace z:=Ak▸z;have g:(be G<|bI R b).isSome=T:=by refine au (Ho ..)<|aa z ?_;rfl
  refine let p:=_;(?_:p)
  induction f:bI R b using aV with
  |none=>replace g:=f▸g;exact ak g
  |some y=>refine rJ (Ex.ec (E:=λ_ _=>False)<|Ej a f (fX B J J)<|aM J) (λv Y w=>bA<|ai (λ_ L=>?_)<|w) λ_ _ z=>z.elim;exact af (L) λZ h=>ai (λE c=>q Z Y e g E c)<|h}
def Zt(c:Nat)(a:Addr)(H:MH):Prop:=∃k i,k %1000=3/\H a=S (.exc k (S i) N<|vF c)
def lQ(H:MH)(c:Nat)(X:QE):Prop:=∀a Y,Gr H Y->H a=N->Zt c a Y->X a Y
theorem lQ.ref(h:lQ H c X):wi H c X:=λa Y g n r=>h a Y g n (by refine af (r) λi r=>?_;exact(dm _ i J r))
theorem Gr.d8(g:Gr H Y)(h:H a=N):Gr H (Y.d8 a):=λb D n=>by have:b≠a:=λz=>D (by refine aa z ?_;exact h);unfold MH.d8;exact(if_neg this).trans<|g b D n
theorem A0(u:jd w)(R:pI c a Y)(g:Gr H Y)(d:H a=N)(x:lQ H w X):lj (Y a) (λB _ _ _=>(B=3/\B<1000)/\aP (an (n+3) F) (λa H=>fy X a l H) l (.callF 5<|.cons (.str w) .nil) (λv H=>iS v λb=>lj (H b) λQ G I f=>Nh (λG f=>fy X b l<|H.set b<|.exc (Q+1000) G N f) Q G I f) (Y.d8 a)):=by
 refine let P:=_;((af (R) λi e=>let P:=_;((e▸⟨⟨J,by decide⟩,oB (E:=λ_ _=>False) (aM J) (EW u) _ _ (λv k w=>let P:=_;(?_:iS _ P)) λ_ _ z=>z.elim⟩):lj _ P)):lj _ P)
 obtain⟨t,b,e,D,G,r⟩:=w;refine aa e ?_;refine(?_:lj (k b) _);refine aa r ?_;have h:=(g.d8 d).none D;exact⟨by decide,x b _ (λy j n=>(MH.c9 λz=>j (by refine aa z ?_;exact h)).trans<|((g.d8 d).trans t) y j n) h<|dm _ G J MH.c5⟩
def vO(M:Addr->Fp)(a:Addr)(c:Fp):Addr->Fp:=λx=>if x=a then c else M x
theorem qZ:vO M a c a=c:=if_pos J
theorem SA.more(x:SA k m H U j M R B0)(Q:H a=N)(L:∀b,O b->H b=N/\b≠a)(g:Gr H I)(E:gS I B0 a r O)(D:bS k m Y U Z<|R++[(a,r)])(c:bL j Z I Y):SA k m Y U Z (vO M a O) (R++[(a,r)]) B0/\bL (Gp j M R) (Gp Z (vO M a O)<|R++[(a,r)]) H Y:=by{
have X:∀{b},H b=N->¬j b:=λh z=>x.S.live.1 _ z h;have G:∀{b},I b≠N->¬j b->Y b=I b:=λh n=>c.keep _ h n;have w:=λe u=>(x.el e u).live;have l:∀{b},H b≠N->b≠a:=λh z=>h (by refine aa z ?_;exact Q);have y:∀e∈R,vO M a O e.1=M e.1:=λe u=>if_neg<|l (w e u).1;have B:∀{b},H b≠N->¬j b->Y b=H b:=λh n=>by have e:=g _ h aJ;rw[G (by exact aa e h) n,e]
have v:∀{b},Z b->j b\/H b=N:=λh=>(c.new _ h).imp id λz=>g.none z;have p:∀{P:ay->Prop},(∀e∈R,P e)->P (a,r)->∀e∈R++[(a,r)],P e:=λh C e u=>(cp.mp u).elim (h e) λz=>by exact aa (cJ.mp z) C
refine⟨⟨D,p (λe u=>?_)<|aa qZ<|E.keep (cX _) (G E.live.1<|X Q) λb t=>G (E.live.2 b t)<|X (L b t).1,p (λe u b t=>?_) λb t=>?_,p (λe u b t=>p (λA d=>?_) ?_) λb t=>p (λA d=>?_) ?_,p (λe u=>p (λA d b t q=>?_) λb t q=>?_)<|p (λA d b t q=>?_) λb t q=>J⟩,λb t nf=>B t λz=>nf<|.inl z,λb t=>?_⟩
.refine aa (y e u) ?_;have i:=x.S.out<|x.S.el e u;exact(x.el e u).keep (cX _) (B (w e u).1 i) λb t=>B ((w e u).2 b t)<|x.f e u b t
.rw[y e u] at t;exact λz=>(v z).elim (x.f e u b t)<|(w e u).2 b t
.rw[qZ] at t;exact λz=>(c.new b z).elim (X (L b t).1)<|E.live.2 b t
.rw[y e u] at t;exact x.o e u b t A d
.replace t:=(y e u)▸t;exact l<|(w e u).2 b t
.rw[qZ] at t;exact λz=>(w A d).1 (by refine z▸?_;exact(L b t).1)
.rw[qZ] at t;exact(L b t).2
.rw[y e u] at t;rw[y A d] at q;exact x.s e u A d b t q
.rw[y e u] at t;rw[qZ] at q;exact absurd (L b q).1<|(w e u).2 b t
.rw[qZ] at t;rw[y A d] at q;exact absurd (L b t).1<|(w A d).2 b q
.rcases t with h|⟨e,u,h⟩
 .exact(v h).imp .inl id
 .revert h;refine p (P:=λe=>(b=e.1\/vO M a O e.1 b)->Gp j M R b\/H b=N) (λe u h=>?_) (λh=>?_) e u
  .rw[y e u] at h;exact .inl<|.inr<|aG e u h
  .rw[qZ] at h;exact .inr (h.elim (λz=>by exact aa z Q) λz=>(L b z).1)}
theorem gS.bare{H:MH}(G:H a=S (.inst 8 c<|mE r d))(M:H d=S (.dict []))(i:r.inn=[]):gS H B a r (·=d):=.mk c d [] G M (by refine aa i ?_;exact .nil _) (λb=>⟨.inl,λz=>z.elim id (λz=>(by cases z))⟩) gW aJ
theorem Io(h:Pv cx l H e<|.str 289)(C:Pv cx l H A<|.tup<|gX s):Pv cx l H (.cmp e .in_ A) (.bool s.cst):=bC h C λ_=>by unfold gX;obtain⟨⟩:=s.cst<;>obtain⟨⟩:=s.iv<;>obtain⟨⟩:=s.tm<;>rfl
theorem B8(g:cZ k m R)(h:be G (bI R b)=N):∀e∈bG R G,e.2.box≠b:=λe u z=>by{
obtain⟨a,M⟩:=dZ.mp u
induction f:bI R b using aV with
|none=>exact absurd (decide_eq_true z)<|qu.mp f e a
|some x=>have I:=g.box (md f) a<|(of_decide_eq_true<|sg (p:=λe:ay=>decide<|e.2.box=b) f).trans z.symm;clear a z u g;subst I;replace h:=f▸h;unfold be at h;replace h:=(if_pos M)▸iQ▸h;cases h}
theorem XY{H:MH}{c f m:Nat}(R:H a=S (.inst c i D))(E:(CT c).bind (λd=>d.meths.lookup m)=S f) (G:cy D m=N) (h:aP (an n O) X [S<|.ref a,S v,S t] (.callM (.loc 0) m<|.cons (.loc 1)<|.cons (.loc 2) .nil) Q H):gk CT FT n O f [.ref a,v,t] Q X H:=by have h:cB (H a) (LJ (an n O) X (λs=>s _ H) Q a m):=h;rw[R] at h;have h:cB ((CT c).bind λd=>d.meths.lookup m) (λf=>vX (cy D m)<|gk CT FT n O f _ Q X H):=h;rw[E] at h;rw[G] at h;exact h
theorem bS.inst(Y:bS k m H U j R):∃a f i D,H U=S (.inst a i D)/\(CT a).bind (λd=>d.meths.lookup 77)=S f/\cy D 77=N:=by{
refine let b:=_;(?_:b)
induction Y.c using jn.casesOn with
|plain t i f B v=>exact⟨_,_,i,_,B,J,J⟩
|span t i I f B v E p=>exact⟨_,_,i,_,B,J,J⟩
|tabs A X M f r x t=>obtain⟨i,B⟩:=x.s;rw[r] at B;exact⟨_,_,i,_,B,J,J⟩}
def MJ(s:bj)(U:Bool)(c A:Addr)(k:Kd)(m:Nat)(H:MH)(e:Fp)(M:Addr->Fp)(R:List ay)(b:bB)(d:Dt)(t:Int)(j:V)(h:Bool)(G f:Int)(Q:QV):Prop:=
 (U&&s.cst)=F->gY s b t d=T->(∀x L,be G (bI R b)=S x->x.2.dat=L.v->hM s.ds L=T->(h||!vn L d)=F->Q (.bool F) H)/\(be G (bI R b)=N->gZ s (bG R G)=T->jx (bG R G) b=F->∀Z i a Y,SA k m Y c Z i (bG R G++[(a,kL s b d.v t j G)]) f->bL (Gp e M R) (Gp Z i<|bG R G++[(a,kL s b d.v t j G)]) H Y->Q (.bool T) Y)
def IP(s:bj)(U:Bool)(a A:Addr)(k:Kd)(m:Nat)(H:MH)(j:Fp)(M:Addr->Fp)(R:List ay)(b:bB)(d:Dt)(t:Int)(h:Bool)(G f:Int)(X:QE):Prop:=
 ((U&&s.cst)=T->lQ H 183 X)/\((U&&s.cst)=F->(gY s b t d=F->lQ H 184 X)/\(gY s b t d=T->(∀x L,be G (bI R b)=S x->x.2.dat=L.v->hM s.ds L=T->(h||!vn L d)=T->lQ H 182 X)/\(be G (bI R b)=N->∀Z Y,SA k m Y a Z M (bG R G) f->bL (Gp j M R) (Gp Z M<|bG R G) H Y->(gZ s (bG R G)=F->lQ Y 188 X)/\(gZ s (bG R G)=T->jx (bG R G) b=T->lQ Y 182 X))))
theorem M5{b:bB}(h0:SA k m H h2 j M R B0)(B:dO H A s U h2)(nb:¬j A)(hm:s.m=1\/s.m=2)(E:b≠[]/\b.length<=1000)(hd:∀x r,d= .nums x r->r.length<=1000)(hk:gY s b t d=T->jY k m b) (hD:∀e∈R,∃L,e.2.dat=L.v/\hM s.ds L=T) (z0:R.length<12)(w:∀h4,FT 44=S h4->pq h4 Z=S [S<|.ref A,S<|.tup [bv b,d.v,.int t,h5],S<|.int G,S<|.bool h,N]):Cp (n+7) T H 44 Z (MJ s U h2 A k m H j M R b d t h5 h G B0) (IP s U h2 A k m H j M R b d t h G B0):=λQ X q x=>by{
refine aR _ J (w _ J) (zJ .e2 (dD (fX B J J) λ_=>Io aQ<|ko B J J) (λz=>(x.1 z).ref) λz1=>let P:=_;let zb:=_;let zc:=_;let zd:=_;(?_:wpSs P zb _ zc zd _));have x:=x.2 z1;have q:=q z1;refine rJ (dC (aM J) ((λQ X q x=>by{
have h6:∀{l:ae} {cx:Cx},cx.hn=T->l.at 2=S (bv b)->Pv cx l H _ _:=λO e=>(fO O (ab e) (by exact aa (aL ..)<|bh E.2)).to (by exact aa (aL ..) J);have wZ:(iu s.m).length=(bP s.m).length:=by unfold iu bP;split<;>rfl
have z3:(iu s.m).length<=1000000:=by unfold iu;split<;>decide
refine aR [S _,S _,N,N,N,N,N,N,N,N] J J<|lB J (ab J) J<|aW (ko B J J)<|sY (fC (h6 J J)<|fO J (fX B J J) z3) (λz=>x<|ur<|beq_eq_false_iff_ne.mpr λh1=>?_) λz1=>?_
.rw[h1,wZ,beq_self_eq_true] at z;exact ak z
have o:=(fL.mp<|beq_iff_eq.mp<|dX z1).trans wZ;refine mu (h6 J J) E.2<|D6 B o 0 N N N (da _) (λz2 w1 w2 w3=>nx<|sY (dD (Dy aQ<|ab J) λ_=>ig<|cH (aM J)<|Aa E.2) (λz=>x<|jK<|jK<|ur<|HG (eP (bm.mp z).1)<|eP<|Jc.symm.trans (bm.mp z).2) λz4=>sY (dD (fC (ab J) ar) λ_=>Ln aQ<|ab J) (λz=>x<|jK<|jK<|jK<|ur<|HG (eP (bm.mp z).1)<|eP (bm.mp z).2) λz5=>?_) λz2 a C Y g O r=>x (jK<|ur z2) a Y g O r;have dt:=λz=>x<|jK<|jK<|jK<|jK z;exact sY ((qb (ig<|ab J)<|ig<|ko B J J).to (by exact aa Av<|aa Fg J)) (λz=>dt (wW.trans (ur (congrArg (!·) z)))) λf=>sY (Ng J (ab J) (ko B J J) (beq_iff_eq.mp<|dX f) hd) (λz=>dt (wW.trans (jK (ur (congrArg (!·) z))))) λz6=>sY (ZT (ab J) (ko B J J)<|beq_iff_eq.mp<|dX f) (λz=>dt (wW.trans (jK (jK (congrArg (!·) z))))) λz7=>bA (q (tJ (beq_iff_eq.mpr o) (tJ z2 (tJ (Kr<|au Jc z4) (tJ (Kr z5) (wW.trans (tJ (congrArg (!·) f) (tJ (congrArg (!·) z6) (congrArg (!·) z7)))))))))}:Cp ((n+2)+4) T H 41 [.ref A,.tup [bv b,d.v,.int t,h5]] (λQ=>gY s b t d=T->Q .none H) λX=>gY s b t d=F->wi H 184 X))) (λz2=>?_) λz2=>(x.1 z2).ref
have x:=x.2 z2;have q:=q z2;refine aW (FX h0.S E (fX B J J) (aB (cG (ab J) (ar) J (by decide))<|aM J)) ?_
induction ho:be G (bI R b) using aV with
|some y=>{
refine let p:=_;(?_:p)
have hy:y∈R:=by exact md (mj.mp ho).1
refine af (hD y hy) λL h3=>ai (λe1 I=>af (h0.S.el y hy) λi h3=>af (h3) λdd ha=>aH ((fR<|ab J).to J) (λ_=>zJ .e1 (eW (ab J) λ_=>B9 (aN (ab J) ha (by exact au e1 J)) (cG (ab J) (ar) J (by decide)) I ?_) (λz=>(x.1 y L ho e1 I z).ref) λz=>aZ eU<|q.1 y L ho e1 I z) λz=>ak z)<|h3;exact(bm.mp (bm.mp (bm.mp (bm.mp z2).2).2).2).2}
|none=>{
refine let P:=_;let zb:=_;let zc:=_;let zd:=_;((aH ((fR<|ab J).to J) (λz=>ak z) λ_=>aK<|DC (dC (aM J)<|MA h0.S B nb) (λF1 H1 S1 c1=>let p:=_;(?_:p)) trivial):wpSs P zb _ zc zd _)
have B1:=B.at<|c1.keep A B.live nb;refine ai (λh7 g1=>?_)<|h0.j4 (cX _) (λe u=>(dZ.mp u).1) S1 c1;have x:=x.2 ho F1 H1 h7 g1;have q:=q.2 ho;refine Ad (λz=>ua .e4 (x.1 z).ref) λz=>aK<|aH (ko B1 J J) (λz=>ak z) λ_=>aK ?_;have q:=q z;refine cc ⟨J,(let P:=_;let zb:=_;(?_:wpSs _ P _ zb _ _))⟩;refine ie S1.inst λci fi x2 zr=>?_;obtain⟨x3,hi,h8,h9⟩:=zr;refine cc<|tH hi h8 h9 (λQ q=>fX B1 J J H1 Gr.rfl _ Q q) (let P:=_;(?_:wpEs _ _ _ _ P _));refine dC (aM J) (Oc B1) _ _ (λa i dd H2 ha z8 z9 e1 I g2=>ab J H2 Gr.rfl _ _<|XY (g2.at hi) h8 h9<|LI (S1.keep (λb D=>g2 b (S1.live.1 b D) aJ) λe u=>(S1.el e u).gr g2) (eG i dd e1) (hk z2) (cN (lg _ _) z0) (λe u=>(dZ.mp u).2) (B8 h0.S.g ho) (ab J) (aM J) _ _ (λv H3 h1=>?_) λa' H3 h1=>?_) trivial
.refine let p:=_;(?_:p)
 refine jy h1 λ_ nm zr=>?_;obtain⟨F3,S3,c3⟩:=zr;obtain⟨S4,c4⟩:=h7.more ha (λb D=>⟨by refine D▸?_;exact z8,by refine D▸?_;exact z9.symm⟩) g2 (gS.bare e1 I J) S3 c3;exact nx<|bA<|aK<|aZ eU<|q nm F3 _ a H3 S4<|g1.trans c4
.refine zG h1 λx0 g3 x1 zr=>?_;obtain⟨c,r⟩:=zr;exact A0 .e1 r (g2.trans g3) (g2.none x1)<|(x.2 z) x0}}
def fB(u:List Int):bB:=u.map λx=>(x,x)
theorem Es(O:cx.hn=T)(h:Pv cx l H e<|eV u)(D:∀v,∃C,cT (.one i) v (fD (.one i) l)=S C/\C.at i=S v)(E:u.length<=1000):Ec cx l H (.bi .tuple<|.cons (.comp (.tup<|.cons (.loc i)<|.cons (.loc i) .nil) (.one i) (.ex e)<|.bool T) .nil) (λQ=>∀Y,Gr H Y->Q (bv<|fB u) Y) nX:=λQ X q _=>
 ⟨O,Eo O h.ec _ X ⟨by exact aa (aL ..)<|bh E,CL trivial (by exact aa jF<|aa (da ..)<|aa (aL ..)<|bh E) (λv _=>by{
refine let p:=_;((af (D v) λC L=>ai (λG M=>?_)<|L):p)
exact⟨C,G,eU,λ_=>cP (aB (ab M)<|aB (ab M) bc) (by decide:2<=1000000)⟩}) λd m=>by refine aa (qm.mpr λ_ _=>J)<|aa km ?_;have e:u.map ((λv=>V.tup [v,v])∘V.int)=(fB u).map dp:=(km (f:=λx:Int=>(x,x)) (g:=dp)).symm;refine⟨_,(congrArg eS MH.c5).trans J,?_⟩;refine aa (qv ..)<|aa e ?_;exact⟨by unfold fB;exact aa (aL ..)<|aa (aL ..)<|bh E,q _<|Gr.new m⟩⟩ trivial⟩
structure js (H:MH) (sc pk ba:Addr) (now:Int) (len:Nat):Prop where
 s:∃dx fs,H sc=some (.inst 52 dx fs)/\cy fs 100=some (.int now)/\cy fs 253=some (.ref pk)
 p:∃dx fs,H pk=some (.inst 51 dx fs)/\cy fs 159=some (.ref ba)
 b:H ba=some (.bytearr len)
 z:len<=1000000
theorem js.live(Y:js H m c u G Z):H m≠N/\H c≠N/\H u≠N:=by refine af (Y.s) λ_ L=>af (L) λ_ y=>ai (λd _=>af (Y.p) λ_ L=>af (L) λ_ y=>ai (λM _=>?_)<|y)<|y;exact aa d (aa M (aa Y.b (bp (by intro a;cases a) (by intro a;cases a) (by intro a;cases a))))
theorem js.keep{Y:MH}(a:js H m c u G Z)(d:Y m=H m)(M:Y c=H c)(C:Y u=H u):js Y m c u G Z where
 s:=aa d a.s
 p:=aa M a.p
 b:=C.trans a.b
 z:=a.z
theorem SA.turn{Y:MH}{q:ay->ay}(U:qB q)(i:SA k m H C j M R L)(r:x∈R)(D:L<=t)(g:∀y∈R,y.1≠x.1->q y=y)(B:∀b,H b≠N->b≠x.1->¬M x.1 b->Y b=H b)(E:gS Y t x.1 (q x).2<|M x.1):SA k m Y C j M (R.map q) t/\bL (Gp j M R) (Gp j M<|R.map q) H Y:=by{
have v:∀e∈R,gS Y t e.1 (q e).2 (M e.1):=λe u=>by{
by_cases c:e.1=x.1
.exact aa (i.one u r c) E
.exact(g e u c).symm▸(i.el e u).keep D (B e.1 (i.el e u).live.1 c λz=>i.o x r _ z e u J) λb l=>B b ((i.el e u).live.2 b l) (i.o e u b l x r) λz=>c<|i.s e u x r b l z}
have Z:∀{P:ay->Prop},(∀e∈R,P<|q e)->∀e∈R.map q,P e:=λh e u=>by refine aU (bZ.mp u) λy n A=>?_;exact A▸h y n
have a1:∀{P:Addr->Prop} e,P e.1->P (q e).1:=λ{P} e h=>by exact aa (U.a ..) h
refine⟨⟨i.S.upd U (λb G=>B b (i.S.live.1 b G) (λz=>i.S.out (i.S.el x r) (by refine z▸?_;exact G)) λz=>i.f x r b z G) λe u=>(v e u).el,Z λe u=>?_,Z λe u b l=>?_,Z λe u b l=>Z λA d=>?_,Z λe u=>Z λA d b l I=>?_⟩,λb h w=>B b h (λz=>w<|.inr ⟨x,r,.inl z⟩) λz=>w<|.inr ⟨x,r,.inr z⟩,λb D=>.inl ?_⟩
.exact a1 (P:=λa=>gS Y t a (q e).2<|M a) e<|v e u
.rw[U.a] at l;exact i.f e u b l
.rw[U.a] at l;exact aa (U.a ..)<|i.o e u b l A d
.rw[U.a] at l I;exact(U.a ..).trans<|aa (U.a ..)<|i.s e u A d b l I
.refine let p:=_;(?_:p)
 rcases D with h|⟨e,u,h⟩
 .exact .inl h
 .refine aU (bZ.mp u) λy n A=>?_;rw[<-A,U.a] at h;exact .inr<|aG y n h}
def lS(a:Addr)(G Z:Int)(x:ay):ay:=if x.1=a then(x.1,{x.2 with evs:=x.2.evs++[(G,Z)]}) else x
theorem Tp:qB (lS a G Z):=⟨λe=>by unfold lS;split<;>rfl,λe=>by unfold lS;split<;>rfl⟩
theorem Ix{s:List dB}(h:fT H B w I s):w.length=I.length:=by{
induction h with
|nil=>rfl
|cons _ _ Z=>exact aa iN<|aa iN<|aa Z J}
theorem yR:(ib w).map (·.1.f8)=dW 0 w.length:=aa km DS
theorem yy:∀{j:Nat},v∈dW j m->∃i:Nat,v= .int i:=by{
induction m with
|zero=>exact λh=>(by cases h)
|succ m Z=>{
intro j h;refine let p:=_;(?_:p)
cases h with
|head=>exact⟨_,J⟩
|tail _ h=>exact Z h}}
theorem Mr(A:SA k m H h4 h0 M R B0)(D:B0<=G)(E:G<4611686018427387904)(u:(l,r)∈R)(O:js H sc z1 ba G Z)(hz:r.inn.length<64)(q:∀Y,SA k m Y h4 h0 M (R.map<|lS l G Z) G->bL (Gp h0 M R) (Gp h0 M<|R.map<|lS l G Z) H Y->Q (if fW r.inn r.evs (G,Z) then .none else brk) Y):wpSs (an (n+3) T) X (.cons (.asg 9<|.bi .len<|.cons (.attr (.attr (.loc 0) 253) 159) .nil)<|.cons (.for_ (.one 10) (.ex<|.bi .sorted<|.cons (.attr (.loc 8) 137) .nil) CJ)<|.cons (.ret .none) .nil) (cL Q) [S<|.ref sc,S b,S c,S d,S e,S f,S<|.int G,S g,S<|.ref l,x9,z2] H:=by{
refine let P:=_;let zb:=_;let zc:=_;((af (O.s) λz3 L=>let Gz:=_;(?_:Gz)):wpSs P _ _ zb zc _)
refine af (L) λz4 h1=>ai (λh5 h6=>ai (λ_ h7=>af (O.p) λz5 L=>af (L) λz6 h1=>ai (λh8 h9=>?_)<|h1)<|h6)<|h1;obtain⟨dx,t,w,h,hd,C,mm,nd,dc⟩:=A.el _ u;have cl:=(Ix C)▸hz;refine aW (vE J (aN (aN (ab J) h5 h7) h8 h9) λ_ g' _ q=>bq (g'.at O.b) ⟨O.z,q⟩) (let P:=_;((vp (E:=λ_ _=>False) J (yU (L:=(ib w).map (·.1.f8)) J (aN (ab J) h J) (by exact congrArg _ hd) (by refine aa yR<|aa ow ?_;exact cl) λx hx y hy=>?_) (λv H3 z0=>?_) λ_ _ z=>z.elim):wpSs _ _ _ _ P _))
.rw[yR] at hx hy;exact af (yy hx) λi e1=>af (yy hy) λj e2=>aa e1<|aa e2 ⟨J,J⟩
.refine let Gz:=_;(?_:Gz)
 obtain⟨I,p,o,U,e1,hl,e2⟩:=z0;subst e1 e2;have:=Iq p o;subst this;have nl:∀{b:Addr},H b≠N->b≠U:=λh z=>h (by refine aa z ?_;exact hl);have B:∀{b:Addr},H b≠N->(H.set U<|.list<|dW 0 w.length) b=H b:=λh=>MH.c9<|nl h;have h2:=λc hc=>(mm c).mpr<|.inr hc;have dn:H t≠N:=by refine aa hd ?_;exact(by intro z;cases z)
 have h3:∀Y,fT Y G w r.inn (r.evs++[(G,(Z:Int))])->(∀b,b∉w->Y b=(H.set U _) b)->Q (if fW r.inn r.evs (G,Z) then .none else brk) Y:=λY s o=>by{
have a:∀{b:Addr},H b≠N->b∉w->Y b=H b:=λh nc=>(o _ nc).trans<|B h;obtain⟨S',c'⟩:=A.turn Tp u D (λy hy ne=>if_neg ne) (λb D ne nm=>a D λz=>nm<|h2 b z) (by refine aa (show(lS l G Z (l,r)).2=_ from congrArg ji<|if_pos J) ?_;exact .mk dx t w ((a (A.el _ u).live.1 λz=>A.o _ u l (h2 l z) _ u J).trans h) ((a dn dc).trans hd) s mm nd dc)
exact q Y S' c'}
 refine(kA U _ J MH.c5 (by exact aa ow (am (bU cl) (by decide))) (Qw (done:=[]) D E (am (bU cl) (by decide)) J w r.inn r.evs _ _ (C.keep (cX _) λc hc=>B<|C.ne c hc) J nd ((B (A.el _ u).live.1).trans h) ((B dn).trans hd) MH.c5 (λz=>A.o _ u l (h2 l z) _ u J) dc (λz=>C.ne U z hl) (λY x s o la=>?_) λY s o la=>?_))
 .have:=h3 Y s o;rw[la] at this;exact aZ eh this
 .have:=h3 Y s o;rw[la] at this;exact this}
theorem N3:dg (fB u)=T:=by{
induction u with
|nil=>rfl
|cons k u Z=>refine(?_:(k==k&&dg (fB u))=T);refine aa (beq_self_eq_true ..)<|Z.trans ?_;rfl}
theorem zv:(fB u).length=u.length:=aL _
theorem RL:∀{b:bB},b.length=u.length->df b (fB u)=T->eY b u=T:=by{
induction u with
|nil=>intro b h _;induction b using aS with
 |nil=>rfl
 |cons _ _=>cases h
|cons k u Z=>{
intro b h w
induction b using aS with
|nil=>cases h
|cons p b=>obtain⟨⟨C,E⟩,g⟩:=qF.mp w;exact nR.mpr ⟨⟨C,E⟩,Z (nM h) g⟩}}
theorem Zu(E:vD k m)(o:u.length=m)(r:∀x∈u,0<=x)(Z:iG (bP m) u=T):jY k m (fB u):=by{
refine let P:=_;(?_:jY _ _ P)
induction k using Kd.casesOn with
|plain=>exact(bp N3 (zv.trans o) E)
|span=>
 refine⟨⟨zv.trans<|o.trans E,?_⟩,E⟩;exact im.mpr λp O=>by refine af (bZ.mp O) λx L=>ai (λ_ e=>?_)<|L;exact au e<|decide_eq_true<|cX x
|tabs=>subst(E);refine mw (zO o) λa b e=>?_;clear o;subst e;obtain⟨i,g⟩:=uM<|r a<|bw _;obtain⟨j,I⟩:=uM<|r b<|cq _<|bw _;clear r;subst g I;obtain⟨G,M⟩:=bm.mp Z;exact⟨⟨i,i,j,j,J,⟨cD _,cM.mp<|of_decide_eq_true G⟩,⟨cD _,cM.mp<|of_decide_eq_true (bm.mp M).1⟩⟩,J⟩}
theorem mN{cx:Cx}{o:ME}{k c:Nat}{a i:Addr}{D:List (Nat×V)}{v:V}{d:CD}{X:QE}{B:MH->Prop}(Y:Pv cx l H o<|.ref a)(R:H a=S (.inst c i D))(q:B<|H.set a<|.inst c i<|cf D k v)(u:cx.ct c=S d:=by rfl) (w:(d.fields.contains k&&et D.length 1000)=T:=by exact tt):aP cx X l o (λb H=>mC cx B H b k v) H:=Y H Gr.rfl X _<|sJ R q u w
def fQ(s:bj)(b:Nat)(t G:Int)(r:dN):dN:=if b=276/\r.tmo≠0 then {r with til:=G+mP s r t} else r
def og(s:bj)(b:Nat)(t G Z:Int)(r:dN):dN:={fQ s b t G r with evs:=r.evs++[(G,Z)]}
def iZ(v:Addr)(f:dN->dN)(x:ay):ay:=if x.1=v then(x.1,f x.2) else x
def oz(b:Bool):V:=if b then .none else brk
def pD(s:bj)(u:List Int)(t:Int)(I:List Tl)(G:Int):dN:={kL s (fB u) .none t (.str 201) G with inn:=I}
inductive mH (s:bj) (op:Nat) (ks:List Int) (t:Int) (ts:List Tl) (now len:Int) (o:Option ay) (R:List ay):List ay->V->Prop
 |gone (h:op=238) (x:(be now (bI R (fB ks))).isSome=true):mH s op ks t ts now len o R (jo R (fB ks)) .none
 |kept (h:op=238) (x:(be now (bI R (fB ks))).isSome=false):mH s op ks t ts now len o R R .none
 |hit (h:op≠238) (e:ay) (x:be now o=some e):mH s op ks t ts now len o R (R.map (iZ e.1 (og s op t now len))) (oz (fW e.2.inn e.2.evs (now,len)))
 |out (h:op≠238) (x:be now o=none) (i:iG (bP s.m) ks=false):mH s op ks t ts now len o R R brk
 |full (h:op≠238) (x:be now o=none) (i:iG (bP s.m) ks=true) (z:gZ s (bG R now)=false):mH s op ks t ts now len o R (bG R now) brk
 |new (h:op≠238) (x:be now o=none) (i:iG (bP s.m) ks=true) (z:gZ s (bG R now)=true) (a:Addr):mH s op ks t ts now len o R (bG R now++[(a,{pD s ks t ts now with evs:=[(now,len)]})]) (oz (fW ts [] (now,len)))
theorem oZ:(fQ s b t G r).box=r.box/\(fQ s b t G r).inn=r.inn/\(fQ s b t G r).evs=r.evs:=by unfold fQ;split<;>exact(bp J J J)
theorem R8{R:List ay}:(R.map<|iZ a<|fQ s b t G).map (lS a G Z)=R.map (iZ a<|og s b t G Z):=by{
refine aa km<|uY λe _=>(?_:lS a G Z (iZ a (fQ s b t G) e)=_);delta lS iZ;by_cases c:e.1=a
.refine aa (if_pos c) (aa (if_pos c)<|aa (if_pos c) ?_);exact aa oZ.2.2 J
.exact aa (if_neg c)<|aa (if_neg c)<|aa (if_neg c) J}
theorem SO{R:List ay}{G:Int}(h:∀e∈R,e.1≠a):R.map (lS a G Z)=R:=by refine(uY λe u=>?_).trans<|yh R;exact if_neg<|h e u
theorem Ch(h:m=1\/m=2):(bP m).length=m:=by rcases h with e|e<;>refine aa e ?_<;>rfl
theorem SA.up(Y:SA k m H U j M R a)(D:a<=t):SA k m H U j M R t:=Y.keep D λ_ _=>J
theorem Ze(h:Pv cx l H a<|.bool p)(C:p=F->Ec cx l H b D g):Ec cx l H (.bop F<|.cons a<|.cons b .nil) (λQ=>(p=T->Q (.bool T) H)/\(p=F->D Q)) g:=λQ X q x=>
 h H Gr.rfl X (λv H=>bR (λc H=>if c=F then wpB cx X l F _ Q H else Q v H) v H) (by{
clear h a
induction p using aX with
|true=>exact q.1 J
|false=>exact C J Q X (q.2 J) x})
theorem QS(h2:SA k m H h3 j M R B0)(D:B0<=G)(z8:0<=B0)(h7:G<4611686018427387904)(Sc:js H sc z9 ba G Z)(h4:dO H A s U h3)(nb:¬Gp j M R A)(h8:¬Gp j M R sc)(h9:¬Gp j M R z9)(n3:¬Gp j M R ba)(em:s.m=m) (hl:u.length=m) (h5:∀x∈u,0<=x) (ht:I.length<64) (x0:∀e∈R,e.2.inn.length<64) (x1:R.length<12) (ho:Is R (λe=>eY e.2.box u=T) o):Cp (n+7) T H 49 [.ref sc,.ref A,.str op,eV u,.int t,.tup<|I.map Tl.v] (λQ=>∀F' M' L v Y,SA k m Y h3 F' M' L G->bL (Gp j M R) (Gp F' M' L) H Y->mH s op u t I G Z o R L v->Q v Y) nX:=λQ X q _=>by{
refine let p:=_;(?_:p)
have h6:m=1\/m=2:=by{
have:=h2.S.g.hm
induction k using Kd.casesOn with
|plain=>exact this
|span=>exact .inl this
|tabs=>exact .inr this}
have kz:u.length<=1000:=by rw[hl];rcases h6 with e|e<;>rw[e]<;>decide
have bz:fB u≠[]/\(fB u).length<=1000:=by refine⟨λz=>?_,by rw[zv];exact kz⟩;have:=congrArg qp z;rw[zv,hl] at this;rcases h6 with e|e<;>rw[e] at this<;>cases this
refine iC Sc.s λx3 x4 e1 e2 e3=>?_;refine aR [S _,S _,S _,S<|eV u,S _,S _,N,N,N,N,N] J J<|aW (aN (ab J) e1 e2)<|dk (Es J (ab J) (λv=>(aG _ J J)) kz) (λH0 g0=>?_) trivial;have S0:=h2.gr (cX _) g0;have g:=Sc.keep (g0 _ Sc.live.1 aJ) (g0 _ Sc.live.2.1 aJ)<|g0 _ Sc.live.2.2 aJ;have h1:=h4.at<|g0 _ h4.live aJ;have q:=λF' M' L v Y a b c=>q F' M' L v Y a ((g0.f5).trans b) c;refine aH (bC (ab J) aQ λ_=>J) (λz=>?_) λz=>?_
.refine let P:=_;let C:=_;let zc:=_;let zd:=_;(?_:wpSs P C _ zc zd _)
 have z:=beq_iff_eq.mp z;refine aH (fR<|FX S0.S bz (fX h1 J J)<|aM J) (λh0=>?_) λh0=>aK<|aZ eh<|q j M R _ H0 (S0.up D) bL.rfl<|.kept z ?_
 .rw[Ak,Ho] at h0
  induction f:bI R (fB u) using aV with
  |none=>rw[f] at h0;exact ak h0
  |some y=>refine rJ (Ex.ec (E:=λ_ _=>False)<|Ej S0.S f (fX h1 J J)<|aM J) (λv Y w'=>aK<|aZ eh ?_) λ_ _ z=>z.elim;obtain⟨_,F',S',c⟩:=w';obtain⟨S2,c2⟩:=S0.j4 D (λe he=>(dZ.mp he).1) S' c;exact q F' M _ _ Y S2 c2<|.gone z h0
 .rw[Ak,Ho] at h0;exact h0
.refine let P:=_;let C:=_;let zc:=_;let zd:=_;(?_:wpSs P C _ zc zd _)
 have z:=beq_eq_false_iff_ne.mp z;refine aK<|dk (Ex.ec (E:=λ_ _=>False)<|JK S0.S ⟨hl,h5⟩ ho (fX h1 J J)<|aM J) (λv H1 h0=>?_) λ_ _ z=>z.elim;obtain⟨ev,e⟩:=h0;clear g0 e3 bz h4 Sc;subst e;refine aa ev ?_
 induction f:be G o using aV with
 |some y=>{
refine let P:=_;let C:=_;let zc:=_;let zd:=_;(?_:wpSs P C _ zc zd _)
have hy:y∈R:=by exact((ho y).mp (mj.mp f).1).1
obtain⟨i,d,w,h,hd,z0,mm,nd,dc⟩:=S0.el y hy;have z1:∀H2,(∀b,H1 b≠N->b≠y.1->H2 b=H1 b)->H2 y.1=S (.inst 8 i<|mE (fQ s op t G y.2) d)->∀x9 z2,wpSs (an (n+6) T) (fy X) _ (cL Q)
  [S _,S<|.ref A,S<|.str op,S<|eV u,S<|.int t,S<|.tup<|I.map Tl.v,S _,S<|bv<|fB u,S _,x9,z2] H2:=λH2 B he x9 z2=>by{
refine let p:=_;(?_:p)
obtain⟨S2,c2⟩:=(by{
have ne:=λb D=>S0.o y hy b D y hy;refine S0.turn (⟨λe=>by unfold iZ;split<;>rfl,λe=>by{
unfold iZ;split
.exact(λr=>oZ.1) e.2
.rfl}⟩) hy (cX _) (λyz x5 c=>if_neg c) (λb D c _=>B b D c) ((show(iZ y.1 (fQ s op t G) y).2=fQ s op t G y.2 from congrArg ji<|if_pos J)▸(.mk i d w he ((B d (by refine aa hd ?_;exact(by intro B;cases B))<|ne d<|(mm d).mpr<|.inl J).trans hd) ?_ mm nd dc))
exact oZ.2.1.symm▸oZ.2.2.symm▸(z0.keep (cX _) λc hc=>B c (z0.ne c hc)<|ne c<|(mm c).mpr<|.inr hc)}:SA k m H2 h3 j M (R.map<|iZ y.1<|fQ s op t G) B0/\bL (Gp j M R) (Gp j M<|R.map<|iZ y.1<|fQ s op t G) H1 H2)
have ne:∀{a:Addr},¬Gp j M R a->a≠y.1:=λh z=>h<|.inr<|aG y hy<|.inl z;refine Mr S2 D h7 (bZ.mpr<|aG y hy<|if_pos J) (g.keep (B _ g.live.1<|ne h8) (B _ g.live.2.1<|ne h9)<|B _ g.live.2.2<|ne n3) (by rw[oZ.2.1];exact x0 y hy) λH3 S3 c3=>?_;rw[R8] at S3 c3;rw[oZ.2.1,oZ.2.2];exact q j M _ _ H3 S3 (c2.trans c3)<|.hit z y f}
refine aH ((ig<|ab J).to J) (λz=>ak z) λ_=>aH (dD (bC (ab J) aQ λ_=>J) λ_=>fC (aN (ab J) h J) ar) (λh0=>?_) λh0=>aK<|aK<|z1 H1 (λ_ _ _=>J) ?_ _ _
.obtain⟨w1,w2⟩:=bm.mp h0;refine bY (iz (ab J)<|cH (aM J)<|F0 h1<|eG i d h) (ab J) h<|aK<|aK<|z1 _ (λb D c=>MH.c9 c) (MH.c5.trans ?_) _ _;delta fQ;rw[if_pos ⟨beq_iff_eq.mp w1,AN w2⟩];rfl
.unfold fQ;rw[if_neg λc=>?_]
 .exact h
 .rw[show((op==276)&&!(y.2.tmo==0))=T from by rw[beq_iff_eq.mpr c.1,beq_eq_false_iff_ne.mpr c.2];rfl] at h0;exact ak h0}
 |none=>{
have z3:∀e∈bG R G,df e.2.box (fB u)=F:=λe he=>mi.mpr λh0=>by obtain⟨z4,x2⟩:=dZ.mp he;have:=(ho e).mpr ⟨z4,RL ((h2.S.g.ok e z4).len.1.trans hl.symm) h0⟩;rw[this] at f;delta be at f;rw[iQ,if_pos x2] at f;cases f
have z5:∀{H2:MH} {l:ae},Pv (an (n+6) T) l H2 (.tup<|.cons (.str 299)<|.cons (.str 201) .nil) brk:=cP (aM J) (by decide);refine aH ((ig<|ab J).to J) (λ_=>let P:=_;let C:=_;let zc:=_;let zd:=_;(?_:wpSs P C _ zc zd _)) λz=>ak z;refine Ls (Ze (ni (cH (aM J) (RO h1 (by rw[em];exact hl.trans (Ch h6).symm) h5 kz))) λ_=>λQ X q x=>(dC (aM J)<|MA S0.S h1 λz=>nb<|.inl z) _ X q x) (cj (λh0=>?_) λh0 F1 H2 S1 c1=>?_) trivial
.exact yv (λ_=>aZ z5<|q j M R brk H1 (S0.up D) bL.rfl<|.out z f<|eP h0) λz=>ak z
refine let p:=_;(?_:p)
have B2:=h1.at<|c1.keep A h1.live λz=>nb<|.inl z;obtain⟨O,g1⟩:=S0.j4 (L:=bG R G) (cX _) (λe he=>(dZ.mp he).1) S1 c1;refine Ad (λr=>aZ z5<|q F1 M _ brk H2 (O.up D) g1<|.full z f (dX h0) r) λr=>aK (dk (dC (aB (ab J) (aB (cP (aM J) (by decide:4<=1000000))<|aM J))<|Oc B2) (λa i d H3 ha hd x6 e1 e2 g2=>?_) trivial);have a3:H3 a≠N:=by rw[e1];exact(abh _)
refine kx (dC (aM J) (I7 (am (bU ht) (by decide)))) (λd' H4 w z6 CS cl=>mN (ab J) ((CS.g.at e1)) (let P:=_;let C:=_;let zc:=_;let zd:=_;let ze:=_;(?_:wpSs P C _ zc zd ze))) trivial;have ca:∀{b:Addr},H3 b=N->b≠a:=λh z=>a3 (by rw[<-z];exact h);have g5:Gr H2 (H4.set a<|.inst 8 i<|mE (pD s u t I G) d'):=λb D _=>(MH.c9 λz=>D (by rw[z];exact ha)).trans ((CS.g b (by rw[g2 b D aJ];exact D) aJ).trans<|g2 b D aJ);have E:gS (H4.set a _) B0 a (pD s u t I G) (λb=>b=d'\/b∈w):=.mk i d' w MH.c5 ((MH.c9<|ca z6).trans CS.h) ((fT.new cl CS.c).keep z8 λc hc=>MH.c9<|ca (CS.new c hc).1) (λ_=>nN) CS.nd λz=>(CS.new _ z).2 J;have z7:=Zu h2.S.g.hm hl h5 (by rw[<-em];exact dX h0);refine rJ (Ex.ec (LI (S1.keep (λb D=>g5 b (S1.live.1 b D) aJ) λe he=>(S1.el e he).gr g5) E.el z7 (cN (lg _ _) x1) (λe he=>(dZ.mp he).2) (λe he z=>by have:=z3 e he;rw[show e.2.box=fB u from z,sX z7.full] at this;exact ak this) (fX (B2.at<|g5 A B2.live aJ) J J) (aM J))) (λv H6 wp=>?_) λa' H6 wp=>?_
.refine jy wp λ_ _ zr=>?_;obtain⟨F6,S6,c6⟩:=zr;obtain⟨S7,c7⟩:=O.more ha (λb D=>by
  have:=D.elim (λz=>by rw[z];exact z6) λz=>(CS.new b z).1;exact⟨g2.none this,ca this⟩) g5 E S6 c6
 have c:=g1.trans c7;refine aK<|aK<|Mr S7 D h7 (cp.mpr<|.inr<|bw _) (g.keep (c.keep _ g.live.1 h8) (c.keep _ g.live.2.1 h9)<|c.keep _ g.live.2.2 n3) ht λH7 S8 c8=>?_;have eq:(bG R G++[(a,pD s u t I G)]).map (lS a G Z)=bG R G++[(a,{pD s u t I G with evs:=[(G,Z)]})]:=by rw[cK,SO λe he z=>(O.el e he).live.1 (by rw[z];exact ha)];exact congrArg (bG R G++[·])<|if_pos J
 rw[eq] at S8 c8;exact q F6 _ _ _ H7 S8 (c.trans c8)<|.new z f (dX h0) r a
.refine aU (qy.mp wp.1) λe he w'=>?_;have:=z3 e he;rw[show df e.2.box (fB u)=T from w'] at this;exact ak this}}
def Gv(cx:Cx)(l:ae)(H:MH)(e:ME)(v:V):Prop:=∀I,Gr H I->∀(X:QE) (Q:QV),(∀d,Gr I d->Q v d)->aP cx X l e Q I
def pO(n:Nat)(O:Bool)(H:MH)(f:Nat)(Z:List V)(v:V):Prop:=∀I,Gr H I->∀(Q:QV) (X:QE),(∀d,Gr I d->Q v d)->gk CT FT n O f Z Q X I
theorem Pv.gv(h:Pv cx l H e v):Gv cx l H e v:=λI g X Q q=>h I g X Q<|q I Gr.rfl
theorem Gv.ec(h:Gv cx l H e v):Ec cx l H e (λQ=>∀Y,Gr H Y->Q v Y) nX:=λQ X q _=>h H Gr.rfl X Q q
theorem nZ(h:dA (an n O) l H j Z)(c:pO n O H f Z v):Gv (an n O) l H (.callF f j) v:=λI g X Q q=>h I g X _<|c I g Q X q
theorem pt{k:Nat}(B:dA cx l H j Z)(a:Pv cx l H i<|.int k)(w:Z[k]?=S v)(E:Z.length<=1000):Gv cx l H (.idx (.list j) i) v:=λI g X Q q=>B I g X _ ⟨bh E,λf G=>
 a (I.set f _) (g.trans<|Gr.new G) X _ (bq MH.c5 ⟨⟨cR k,by have:=(cW.mp w).1;have:k<2^60:=cO this (am E (by decide));exact cM.mpr this⟩,bq w<|q _<|Gr.new G⟩)⟩
theorem AQ(h:Pv cx l H c<|.bool t)(R:t=T->Gv cx l H a x)(D:t=F->Gv cx l H b y):Gv cx l H (.ite c a b) (cond t x y):=λI g X Q q=>h I g X _ (yv (λe=>R e I g X Q (by rw[e] at q;exact q)) λe=>D e I g X Q (by rw[e] at q;exact q))
theorem Gv.to(h:Gv cx l H e v)(A:v=w):Gv cx l H e w:=au A h
theorem iA{i:Nat}{v:V}(h:Gv cx l H e v)(k:∀Y,Gr H Y->wpSs cx X r Q (l.set i<|S v) Y)(Z:fh i l.length=T:=by exact tt):wpSs cx X (.cons (.asg i e) r) Q l H:=dk h.ec k trivial Z
theorem Ke{Q:Fl->ae->MH->Prop}(h:Gv cx l H e v)(k:∀Y,Gr H Y->Q (.ret v) l Y):wpSs cx X (.cons (.ret e) r) Q l H:=fv h.ec k trivial
theorem mK{i:Nat}{c:ME}{t:Bool}{v w:V}(u:Pv cx l H c<|.bool t)(h:t=T->Gv cx l H e v)(k:∀Y,Gr H Y->wpSs cx X r Q (l.set i<|S<|cond t v w) Y)(a:l.set i (S w)=l:=by rfl) (Z:fh i l.length=T:=by exact tt):wpSs cx X (.cons (.ite c (.cons (.asg i e) .nil) .nil) r) Q l H:=
 aH u (λz=>iA (h z) (λY g=>aK (by have:=k Y g;replace this:=z▸this;exact this)) Z) λz=>aK (by have:=k H Gr.rfl;replace this:=z▸this;refine a▸?_;exact this)
def aO(x:Int)(k:Nat):Nat:=(x %(k:Int)).toNat
theorem JC(h:0<k):((aO x k:Nat):Int)=x %(k:Int):=uD (Int.emod_nonneg x (by have:=cM.mpr h;exact Os this))
theorem ia(h:0<k):aO x k<k:=cM.mp (by exact aa (JC h)<|Int.emod_lt_of_pos x<|cM.mpr h)
theorem oa{cx:Cx}{a b:ME}{x:Int}{k:Nat}(h:Pv cx l H a<|.int x)(C:Pv cx l H b<|.int k)(w:fh 0 k=T:=by exact tt):Pv cx l H (.bin .mod a b) (.int (aO x k:Nat)):=λI g X Q q=>h I g X _ (C I g X _ ⟨cM.mpr<|fY.mp w,by refine(JC<|fY.mp w)▸?_;exact q⟩)
def dM{D:Type}(k:Nat)(a b c d:D):D:=match k with|0=>a|1=>b|2=>c|_=>d
theorem Fz{a b c d:D}(h:k<4):[a,b,c,d][k]?=S (dM k a b c d):=bM (bM (bM (bM (pE (P:=λk=>[a,b,c,d][k]?=S (dM k a b c d))) J) J) J) J k h
theorem Mp{a b c d:D}(h:k<3):[a,b,c][k]?=S (dM k a b c d):=bM (bM (bM (pE (P:=λk=>[a,b,c][k]?=S (dM k a b c d))) J) J) J k h
theorem pS{f:D->w}{a b c d:D}:dM k (f a) (f b) (f c) (f d)=f (dM k a b c d):=by{
match k with
|0=>rfl
|1=>rfl
|2=>rfl
|_+3=>rfl}
def gU(l:List Int)(i:Nat):Int:=l[i]?.getD 0
theorem xd{i:Nat}(E:m.length<=1000)(Z:i<=1000):ew (n+1) T H 53 [.scr m,.int i] (.int<|gU m i):=λI g Q X q=>
 aR [S _,S _] J J (aZ (iw (t:=decide<|i<m.length) (x:=.int<|gU m i) (y:=.int<|gU m i) ((iR (ab J)<|vE (x:=.scr m) J (ab J) λ_ _ _ q=>⟨bh E,q⟩).to<|congrArg V.bool<|decide_eq_decide.mpr cM) (λz=>λd _ X Q q=>⟨⟨cR i,cM.mpr (cN Z (by decide:1000<2^60))⟩,bq (bX<|of_decide_eq_true z) (by
  unfold gU at q;replace q:=(bX<|of_decide_eq_true z)▸q;exact q)⟩) λz=>ar.to (by
  unfold gU;refine aa (iP<|dw<|of_decide_eq_false z) ?_;rfl)) (by cases decide (i<m.length)<;>exact q))
def vZ(w:Int):List Tl:=if w=1 then [.ctr 0 0] else if w=2 then [.quo F 60 0,.ctr 0 0] else if w=3 then [.ctr 2 7,.quo T 40 1] else if w=4 then [.lim,.ctr 0 0] else []
def qV(a b:Int):bj:=⟨cond (aO a 3==2) 2 1,dM (aO (b/8) 4) .no .b1 .vd .no,aO (b/32) 3==2,aO b 2==1,!(aO (b/2) 4==3),cond (!(aO (b/2) 4==3)) (dM (aO (a/12) 4) 30 0 50 1000) 0,dM (aO (a/3) 4) 2 3 0 1⟩
theorem gQ{x y:Nat}(h:Pv cx l H a<|.int x)(C:Pv cx l H b<|.int y):Pv cx l H (.cmp a .eq b) (.bool<|x==y):=(gF h C).to<|congrArg V.bool<|Bl.mpr ⟨λz=>beq_iff_eq.mpr<|fL.mp<|beq_iff_eq.mp z,λz=>beq_iff_eq.mpr<|fL.mpr<|beq_iff_eq.mp z⟩
theorem FK{x y:Nat}(h:Pv cx l H a<|.int x)(C:Pv cx l H b<|.int y):Pv cx l H (.cmp a .ne b) (.bool !(x==y)):=(fC h C).to<|congrArg (λt=>V.bool !t)<|Bl.mpr ⟨λz=>beq_iff_eq.mpr<|fL.mp<|beq_iff_eq.mp z,λz=>beq_iff_eq.mpr<|fL.mpr<|beq_iff_eq.mp z⟩
theorem gC{cx:Cx}{e:ME}{x a:Int}{k:Nat}(h:Pv cx l H e<|.int x)(R:0<a/\a<2^30)(w:fh 0 k=T:=by exact tt):Pv cx l H (.bin .mod (.bin .fdiv e<|.int a)<|.int k) (.int (aO (x/a) k:Nat)):=oa (vG h ar R) ar w
theorem lr(h:Pv cx l H e v):Pv cx l H (.tup<|.cons e .nil) (.tup [v]):=cP (aB h bc) (by decide:1<=1000000)
theorem gI(h:Pv cx l H e v)(C:Pv cx l H A E):Pv cx l H (.tup<|.cons e<|.cons A .nil) (.tup [v,E]):=cP (aB h<|aB C bc) (by decide:2<=1000000)
theorem Ao{k:Nat}(G:Pv cx l H g a)(M:Pv cx l H I b)(C:Pv cx l H Y c)(s:Pv cx l H Q d)(Z:Pv cx l H i<|.int k)(w:k<4):Gv cx l H (.idx (.list<|.cons g<|.cons I<|.cons Y<|.cons Q .nil) i) (dM k a b c d):=pt (aB G<|aB M<|aB C<|aB s bc) Z (Fz w) (by decide:4<=1000)
theorem iX{D w:Type}(f:D->w){x y:D}:cond t (f x) (f y)=f (cond t x y):=by obtain⟨⟩:=t<;>rfl
theorem Xz(G:Pv cx l H a v)(M:Pv cx l H b t)(C:Pv cx l H c h)(s:Pv cx l H d i)(j:Gv cx l H e m)(P:∀Y,Pv cx l Y f n)(k:∀Y,Gr H Y->Q (.ret<|.tup [v,t,h,i,m,n]) l Y):wpSs cx X (.cons (.ret<|.tup<|.cons a<|.cons b<|.cons c<|.cons d<|.cons e<|.cons f .nil) r) Q l H:=cc (G H Gr.rfl _ _ (M H Gr.rfl _ _ (C H Gr.rfl _ _ (s H Gr.rfl _ _ (j H Gr.rfl _ _ λY g=>P Y Y Gr.rfl _ _ ⟨by exact(by decide:6<=1000000),k Y g⟩)))))
theorem Kq:gX s=cond s.iv (cond s.cst [V.str 289,.str 271] [.str 271]++[.str 231]) (cond s.cst [V.str 289,.str 271] [.str 271])++cond s.tm [V.str 148] []:=by unfold gX;obtain⟨⟩:=s.cst<;>obtain⟨⟩:=s.iv<;>obtain⟨⟩:=s.tm<;>rfl
theorem J5(E:m.length<=1000):pO (n+2) T H 54 [.scr m] (qV (gU m 0)<|gU m 1).v:=λI g Q X q=>by{
refine aR [S _,N,N,N,N,N,N] J J (aW (cH (aB (ab J)<|aB (ar) bc) (xd E (by decide))) (aW (cH (aB (ab J)<|aB (ar) bc) (xd E (by decide))) ?_));generalize gU m 0=a at q ⊢;generalize gU m 1=b at q ⊢;refine let P:=_;let C:=_;let j:=_;let U:=_;(?_:wpSs P C _ j U _)
refine aW (iw (gQ (oa (ab J) ar) ar) (λ_=>gI aQ aQ) λ_=>lr aQ) (aW (lr aQ) (mK (gQ (y:=2) (gC (k:=3) (ab J) (by decide)) ar) (λ_=>(gI aQ aQ).gv) λk t=>?_));rw[iX V.tup,iX V.tup];refine let P:=_;(?_:wpSs _ _ _ _ P _)
refine mK (gQ (y:=1) (oa (k:=2) (ab J) ar) ar) (λ_=>(tW (ab J) (lr aQ) (by cases aO (b/32) 3==2<;>exact kn J)).gv) λv i=>?_;refine aW ar ?_;have l:∀c L p,Gr I p->V.tup c= .tup (gX<|qV a b)->L=(qV a b).tmo->wpSs (an (n+1) T) (fy X) (.cons (.asg 6<|.idx (.list<|.cons .none<|.cons (.tup<|.cons (.str 95) .nil)<|.cons (.str 287) _)<|.bin .mod (.bin .fdiv (.loc 2)<|.int 8)<|.int 4)<|.cons (.ret<|.tup<|.cons (.loc 3)<|.cons (.loc 6)<|.cons (.loc 4)<|.cons (.loc 5)<|.cons (.idx (.list<|.cons (.int 2)<|.cons (.int 3)<|.cons (.int 0)<|.cons (.int 1) .nil)<|.bin .mod (.bin .fdiv (.loc 1)<|.int 3)<|.int 4)<|.cons (.bool F) .nil) .nil) (cL Q)
  [S<|.scr m,S<|.int a,S<|.int b,S<|.tup<|cond (aO a 3==2) _ _,S<|.tup c,S<|.int L,N] p:=λc L p y d h=>by{
refine let P:=_;(?_:wpSs _ _ _ _ P _)
refine iA (Ao eh (lr aQ) aQ eh (gC (k:=4) (ab J) (by decide)) (ia (by decide))) λf r=>Xz (ab J) (ab J) (ab J) (ab J) (Ao ar ar ar ar (gC (k:=4) (ab J) (by decide)) (ia (by decide))) (λ_=>eU) λe A=>?_;have:=q e<|y.trans<|r.trans A;rw[d,h];have Y:dM (aO (b/8) 4) V.none (.tup _) (.str 287) .none=(qV a b).ds.v:=pS (f:=Ds.v) (a:=.no) (b:=.b1) (c:=.vd) (d:=.no);have O:V.tup (cond (aO a 3==2) [.str 94,.str 95] [.str 94])=pG (qV a b).m:=by delta qV pG;cases aO a 3==2<;>rfl
refine(?_:Q _ e);rw[Y,(pS),O];exact this}
rw[iX V.tup];refine let P:=_;(?_:wpSs _ _ _ _ P _)
refine aH (FK (y:=3) (gC (k:=4) (ab J) (by decide)) ar) (λz=>?_) λz=>aK<|l _ _ v (t.trans i) (congrArg V.tup ?_) ?_
.refine aW (tW (ab J) (lr aQ) (by cases aO b 2==1<;>cases aO (b/32) 3==2<;>exact kn J)) (iA (Ao ar ar ar ar (gC (k:=4) (ab J) (by decide)) (ia (by decide))) λp y=>?_);rw[pS];refine aK<|l _ _ p (t.trans<|i.trans y) (congrArg V.tup ?_) ?_
 .rw[Kq];show _=cond (aO b 2==1) _ _++cond (!(aO (b/2) 4==3)) _ _;rw[z];rfl
 .show _=cond (!(aO (b/2) 4==3)) _ _;rw[z];rfl
.rw[Kq];show _=cond (aO b 2==1) _ _++cond (!(aO (b/2) 4==3)) _ _;rw[z];exact(fm _).symm
.refine(?_:_=cond (!(aO (b/2) 4==3)) _ _);rw[z];rfl}
theorem KA(h:Pv cx l H e<|.str 231)(C:Pv cx l H A<|.tup<|gX s):Pv cx l H (.cmp e .in_ A) (.bool s.iv):=bC h C λ_=>by unfold gX;obtain⟨⟩:=s.cst<;>obtain⟨⟩:=s.iv<;>obtain⟨⟩:=s.tm<;>rfl
theorem Dl(h:Pv cx l H e<|.str 148)(C:Pv cx l H A<|.tup<|gX s):Pv cx l H (.cmp e .in_ A) (.bool s.tm):=bC h C λ_=>by unfold gX;obtain⟨⟩:=s.cst<;>obtain⟨⟩:=s.iv<;>obtain⟨⟩:=s.tm<;>rfl
theorem fE{l:ae}{s:bj}{k:Nat}{i:Nat}{v:V}(r:l.at i=S s.v)(w:([pG s.m,s.ds.v,.tup<|gX s,.int s.tmo,.int s.size,.bool F])[k]?=S v)(D:fh k 1000000=T:=by exact tt):Pv cx l H (.idx (.loc i)<|.int k) v:=cG (ab r) (ar (i:=((k:Nat):Int))) w<|fY.mp D
theorem Fy(R:Pv cx l H a<|.int x)(D:Pv cx l H b<|.int y)(u:Pv cx l H c<|bv r)(E:1<=r.length/\r.length<=3):Pv cx l H (.bin .add (.tup<|.cons (.tup<|.cons a<|.cons b .nil) .nil)<|.sliceFrom c<|.int 1) (bv<|(x,y)::r.drop 1):=by have h:Pv cx l H (.sliceFrom c<|.int 1) _:=λI g X Q q=>u I g X _ ⟨(bp (by decide) (dG.mpr (by rw[(aL _)];exact E.1)) (by rw[(aL _)];exact am E.2 (by decide))),q⟩;exact(tW (lr<|gI R D) h (by rw[bV,abr,(aL _)];exact am (gM (nK _ _) _) (am (gM E.2 _) (by decide:1+3<=1000000)))).to (congrArg V.tup (by exact congrArg _ List.map_drop.symm))
def hdc(t:Bool)(x:Int×Int)(b:bB):bB:=cond t (x::b.drop 1) b
def CX(d:Nat)(k:Int)(b:bB):bB:=hdc (d==10) (k,k+1)<|hdc (d==9) (k+1,k)<|hdc (d==8) (k,16)<|cond (d==7) (b++[(0,0)]) b
theorem Fu:cond t (bv<|x::b.drop 1) (bv b)=bv (hdc t x b):=iX bv
def yI:Ds->Bool
 |.vd=>T
 |_=>F
def AT:Ds->Nat->Dt
 |.no,_=>.no
 |.b1,k=>.nums k []
 |.vd,k=>.vd<|dM k 300 80 80 80
def Db(a:Ds)(d k:Nat):Dt:=cond (d==5&&!pi (AT a k)) (cond (!yI a&&k==0) (.vd 300)<|.nums 1 [1])<|AT a k
def vw(a:Ds)(d k:Nat):Dt:=cond (d==11) (cond (pi<|Db a d k) (.nums 1 []) .no)<|Db a d k
def EM(s:bj)(d:Nat)(a:Int):Int:=cond (d==6) 20<|cond s.tm (dM (aO (a/64) 3) 0 20 45 45) 0
def lG(s:bj)(a:Int):bB:=((aO a 4:Nat),(aO a 4:Nat)+cond s.iv (dM (aO (a/8) 4) 0 0 1 2) 0)::cond (s.m==2) [((aO (a/4) 2:Nat),(aO (a/4) 2:Nat)+cond s.iv ((aO (a/32) 2:Nat):Int) 0)] []
def wc(s:bj)(d:Nat)(a:Int):bB:=CX d (aO a 4:Nat)<|lG s a
theorem TU(h:Pv cx l H e a.v)(m:a≠.no):Pv cx l H (.cmp e .eq<|.str 287) (.bool<|yI a):=bC h aQ λ_=>by{
clear h e cx
induction a using Ds.casesOn with
|no=>exact absurd J m
|b1=>rfl
|vd=>rfl}
theorem Li(h:Pv cx l H e a.v)(m:a≠.no):Pv cx l H (.cmp e .ne<|.str 287) (.bool !yI a):=bC h aQ λ_=>by{
clear h e cx
induction a using Ds.casesOn with
|no=>exact absurd J m
|b1=>rfl
|vd=>rfl}
theorem Ye{d:Dt}:cond t (cond u (.tup [.str 300,.str 201])<|.tup [.int 1,.int 1]) d.v=(cond t (cond u (.vd 300)<|.nums 1 [1]) d).v:=by obtain⟨⟩:=t<;>obtain⟨⟩:=u<;>rfl
theorem TF{d:Dt}:cond t (cond u (.tup [.int 1]) .none) d.v=(cond t (cond u (.nums 1 []) .no) d).v:=by obtain⟨⟩:=t<;>obtain⟨⟩:=u<;>rfl
theorem MQ{a:Ds}(h:(!a.v.f9)=T):a≠.no:=λz=>by replace h:=z▸h;exact ak h
theorem FU(h:1<=b.length/\b.length<=3):1<=(hdc t x b).length/\(hdc t x b).length<=3:=by{
induction t using aX with
|false=>exact h
|true=>refine(?_:1<=(b.drop 1).length+1/\(b.drop 1).length+1<=3);exact aa abr<|aa (Hb h.1) h}
theorem two{P:Nat->Prop}(r:P 0)(G:P 1)(h:k<2):P k:=bM (bM pE r) G k h
set_option maxHeartbeats 2000000 in
theorem L6{s:bj}{g:Nat}(u:cx.hn=T)(B:g<12)(D:1<=b.length/\b.length<=2)(q:∀Y,Gr H Y->Q (.tup [bv<|CX (aO (w/10) 12) (aO a 4:Nat) b,(vw s.ds (aO (w/10) 12)<|aO (a/192) 2).v,.int<|cond (aO (w/10) 12==6) 20 L,.str<|306+g]) Y):wpSs cx X (.cons (.asg 9<|.idx (.loc 0)<|.int 1) (.cons (.ite (.notNone<|.loc 9) (.cons (.asg 9<|.ite (.cmp (.loc 9) .eq<|.str 287) (.idx (.list<|.cons (.tup<|.cons (.str 300)<|.cons (.str 201) .nil)<|.cons (.tup<|.cons (.str 80)<|.cons (.str 201) .nil) .nil)<|.bin .mod (.bin .fdiv (.loc 3)<|.int 192)<|.int 2)<|.tup<|.cons (.bin .mod (.bin .fdiv (.loc 3)<|.int 192)<|.int 2) .nil) .nil) .nil) (.cons (.asg 10<|.bin .mod (.bin .fdiv (.loc 2)<|.int 10)<|.int 12) (.cons (.ite (.bop T<|.cons (.cmp (.loc 10) .eq<|.int 5)<|.cons (.notNone<|.loc 9) .nil) (.cons (.asg 9<|.ite (.bop T<|.cons (.cmp (.idx (.loc 0)<|.int 1) .ne<|.str 287)<|.cons (.cmp (.bin .mod (.bin .fdiv (.loc 3)<|.int 192)<|.int 2) .eq<|.int 0) .nil) (.tup<|.cons (.str 300)<|.cons (.str 201) .nil)<|.tup<|.cons (.int 1)<|.cons (.int 1) .nil) .nil) .nil) (.cons (.ite (.cmp (.loc 10) .eq<|.int 6) (.cons (.asg 8<|.int 20) .nil) .nil) (.cons (.ite (.cmp (.loc 10) .eq<|.int 7) (.cons (.asg 6<|.bin .add (.loc 6)<|.tup<|.cons (.tup<|.cons (.int 0)<|.cons (.int 0) .nil) .nil) .nil) .nil) (.cons (.ite (.cmp (.loc 10) .eq<|.int 8) (.cons (.asg 6<|.bin .add (.tup<|.cons (.tup<|.cons (.loc 5)<|.cons (.int 16) .nil) .nil)<|.sliceFrom (.loc 6)<|.int 1) .nil) .nil) (.cons (.ite (.cmp (.loc 10) .eq<|.int 9) (.cons (.asg 6<|.bin .add (.tup<|.cons (.tup<|.cons (.bin .add (.loc 5)<|.int 1)<|.cons (.loc 5) .nil) .nil)<|.sliceFrom (.loc 6)<|.int 1) .nil) .nil) (.cons (.ite (.cmp (.loc 10) .eq<|.int 10) (.cons (.asg 6<|.bin .add (.tup<|.cons (.tup<|.cons (.loc 5)<|.cons (.bin .add (.loc 5)<|.int 1) .nil) .nil)<|.sliceFrom (.loc 6)<|.int 1) .nil) .nil) (.cons (.ite (.cmp (.loc 10) .eq<|.int 11) (.cons (.asg 9<|.ite (.isNone<|.loc 9) (.tup<|.cons (.int 1) .nil) .none) .nil) .nil) (.cons (.ret<|.tup<|.cons (.loc 6)<|.cons (.loc 9)<|.cons (.loc 8)<|.cons (.kstr<|.loc 1) .nil) .nil))))))))))) (cL Q) [S s.v,S<|.int g,S<|.int w,S<|.int a,M,S<|.int (aO a 4:Nat),S<|bv b,p,S<|.int L,N,N] H:=by{
refine let P:=_;(?_:wpSs _ _ _ _ P _)
have j:∀{H:MH} {l:ae},l.at 3=S (.int a)->Pv cx l H (.bin .mod (.bin .fdiv (.loc 3)<|.int 192)<|.int 2) (.int (aO (a/192) 2:Nat)):=λh=>gC (k:=2) (ab h) (by decide);have R:aO (a/192) 2<2:=ia (by decide);delta vw Db CX at q;generalize aO (a/192) 2=x at*;refine aW (fE (k:=1) J J) (mK (fR<|ab J) (λz=>AQ (TU (a:=s.ds) (ab J)<|MQ z) (λ_=>(pt (k:=x) (aB (gI aQ aQ)<|aB (gI aQ aQ) bc) (j J) (v:=.tup [.str<|dM x 300 80 80 80,.str 201]) (two (k:=x) (P:=λx=>[V.tup [.str 300,.str 201],.tup [.str 80,.str 201]][x]?=S (.tup [.str<|dM x 300 80 80 80,.str 201])) J J R) (by exact(by decide:2<=1000)))) λ_=>(lr<|j J).gv) λO t=>?_);refine au ((by obtain⟨⟩:=(bj.ds s)<;>rfl:(AT (bj.ds s) _).v=cond (!(bj.ds s).v.f9) (cond (yI<|bj.ds s) (.tup [.str<|dM _ 300 80 80 80,.str 201])<|.tup [.int _]) (bj.ds s).v)) ?_;refine let P:=_;(?_:wpSs _ _ _ _ P _)
refine aW (gC (k:=12) (ab J) (by decide)) ?_;generalize aO (w/10) 12=d at*;refine let P:=_;(?_:wpSs _ _ _ _ P _)
refine mK (dD (gQ (y:=5) (ab J) ar) λ_=>(fR<|ab J).to (by exact aa Av J)) (λz=>(iw (dD (Li (a:=s.ds) (fE (k:=1) J J) (λc=>by have:=(bm.mp z).2;replace this:=c▸this;exact ak this)) λ_=>gQ (y:=0) (j J) ar) (λ_=>gI aQ aQ) λ_=>gI ar ar).gv) λv i=>?_;refine aa Ye ?_;refine let P:=_;let C:=_;(?_:wpSs _ _ _ P C _)
refine mK (gQ (y:=6) (ab J) ar) (λ_=>ar.gv) λH4 y=>?_;refine aa (iX V.int) ?_;refine let P:=_;(?_:wpSs _ _ _ _ P _)
refine mK (gQ (y:=7) (ab J) ar) (λ_=>((tW (x:=b.map dp) (ab J) (lr<|gI ar ar) (by refine au bV.symm<|((aL _)).symm▸?_;exact am (sA D.2 _) (by exact(by decide:2+1<=1000000)))).to (E:=bv<|b++[(0,0)]) (congrArg V.tup (by refine aa cK ?_;rfl))).gv) λH5 r=>?_;refine aa (iX bv) ?_;have m:1<=(cond (d==7) (b++[(0,0)]) b).length/\(cond (d==7) (b++[(0,0)]) b).length<=3:=by{
induction d==7 using aX with
|true=>exact aa bV ⟨oM _ _,sA D.2 1⟩
|false=>exact⟨D.1,kU D.2⟩}
generalize cond (d==7) (b++[(0,0)]) b=o at*;refine let P:=_;(?_:wpSs _ _ _ _ P _)
refine mK (gQ (y:=8) (ab J) ar) (λ_=>(Fy (ab J) ar (ab J) m).gv) λH6 A=>?_;refine aa Fu ?_;have n:=FU (t:=d==8) (x:=(((aO a 4:Nat):Int),16)) m;generalize hdc (d==8) (((aO a 4:Nat):Int),16) o=E at*;refine let P:=_;(?_:wpSs _ _ _ _ P _)
refine mK (gQ (y:=9) (ab J) ar) (λ_=>(Fy (iz (ab J) ar) (ab J) (ab J) n).gv) λk G=>?_;refine aa Fu ?_;have U:=FU (t:=d==9) (x:=(((aO a 4:Nat):Int)+1,((aO a 4:Nat):Int))) n;generalize hdc (d==9) (((aO a 4:Nat):Int)+1,((aO a 4:Nat):Int)) E=b9 at*;refine let P:=_;(?_:wpSs _ _ _ _ P _)
refine mK (gQ (y:=10) (ab J) ar) (λ_=>(Fy (ab J) (iz (ab J) ar) (ab J) U).gv) λH8 Z=>?_;refine aa Fu ?_;refine let P:=_;(?_:wpSs _ _ _ _ P _)
refine mK (gQ (y:=11) (ab J) ar) (λ_=>(iw ((ig<|ab J).to (by exact congrArg _ Av)) (λ_=>lr ar) λ_=>eh).gv) λe f=>?_;refine aa TF ?_;refine let P:=_;(?_:wpSs _ _ _ _ P _)
refine aZ (cP (aB (ab J)<|aB (ab J)<|aB (ab J)<|aB (v:=.str<|306+g) (λI _ X Q q=>bq J ⟨⟨cR _,cM.mpr B⟩,q⟩) bc) (by exact(by decide:4<=1000000))) ?_;exact q e<|t.trans<|i.trans<|y.trans<|r.trans<|A.trans<|G.trans<|Z.trans f}
def hU:Nat->MSs->MSs
 |0,s=>s
 |_+1,.nil=>.nil
 |n+1,.cons _ r=>hU n r
theorem QM{l:ae}{s:bj}(O:cx.hn=T)(r:l.at i=S s.v):Pv cx l H (.cmp (.bi .len<|.cons (.idx (.loc i)<|.int 0) .nil) .eq<|.int 2) (.bool<|s.m==2):=by{
refine(gQ (fO O (fE r J) (by split<;>exact kn J)) ar).to<|congrArg V.bool ?_;split
.rename_i e;refine aa e ?_;rfl
.rename_i e;exact(beq_eq_false_iff_ne.mpr e).symm}
theorem yt:dW 0 m=(cE m).map λj=>V.int ((j:Nat):Int):=by{
refine nk▸?_
induction m with
|zero=>rfl
|succ m Z=>refine aa List.range_succ<|cK▸Z▸?_;rfl}
def VT(P:Nat->Bool)(v:V):Bool:=match v with|.int i=>P i.toNat|_=>F
theorem Ld{i m:Nat}{f:V->V}(O:cx.hn=T)(h:Pv cx l H e<|.int m)(E:m<=1000)(D:∀j:Nat,j<m->∃C,cT (.one i) (.int j) (fD (.one i) l)=S C/\Pv cx C H A (.bool<|P j)/\(P j=T->Pv cx C H a (f<|.int j))):Ec cx l H (.comp a (.one i) (.range1 e) A) (λQ=>∀d,H d=N->Q (.ref d) (H.set d<|.list<|((cE m).filter P).map λj=>f<|.int ((j:Nat):Int))) nX:=λQ X q _=>
 ⟨O,zj h (bh E) _ ⟨by exact aa nk<|aa ow<|bh E,CL (p:=VT P) (f:=f) trivial (by exact aa jF<|aa (da ..)<|aa nk<|aa ow<|bh E) (λv w=>by
  replace w:=yt▸nk▸w;obtain⟨j,h9,e⟩:=bZ.mp w;clear w E h O;subst e;exact D j<|kg.mp h9) (by refine aa nk<|aa yt<|aa He<|aa km ?_;exact q)⟩⟩
theorem Kh{i m:Nat}{P:Nat->Bool}(O:cx.hn=T)(h:Pv cx l H e<|.int m)(E:m<=1000)(D:∀j:Nat,j<m->∃C,cT (.one i) (.int j) (fD (.one i) l)=S C/\Pv cx C H A (.bool<|P j)/\Pv cx C H a (.int j)):Gv cx l H (.cmp (.int 0) .eq<|.bi .len<|.cons (.comp a (.one i) (.range1 e) A) .nil) (.bool<|(cE m).all λj=>!P j):=λI g X Q q=>
 cj O (Ld (f:=id) O (h.gr g) E (λj h9=>by
  refine let p:=_;((af (D j h9) λC L=>ai (λG y=>ai (λM b=>?_)<|y)<|L):p)
  exact(bl C G (M.gr g) λ_=>b.gr g)) _ X (λd c=>bq MH.c5 ⟨by
   refine aa (aL ..) ?_;exact am (lg _ _) (by exact aa sE<|bh E),by{
have e:((0:Int)==((((cE m).filter P).map λj=>id<|V.int (j:Nat)).length))=(cE m).all λj=>!P j:=by{
refine aa (aL ..) ?_
induction f:(cE m).all λj=>!P j using aX with
|true=>
 have:(cE m).filter P=[]:=PP.mpr λj h9 z=>by have:=im.mp f j h9;replace this:=z▸this;exact ak this
 refine aa this ?_;rfl
|false=>{
refine aU (PR.mp f) λj h9 z=>?_;refine beq_eq_false_iff_ne.mpr λw=>z ?_;have:=PP.mp (abs (fL.mp w).symm) j h9
induction k:P j using aX with
|true=>exact absurd k this
|false=>rfl}}
have q:=q (I.set d<|.list<|((cE m).filter P).map λj=>id<|V.int (j:Nat))<|Gr.new c;rw[<-e] at q;exact q}⟩) trivial)
theorem NO(G:Pv cx l H a<|.int x)(M:Pv cx l H b<|.int y)(C:Pv cx l H c<|.int z):Pv cx l H (.cmp2 a .le b .le c) (.bool<|decide (x<=y)&&decide (y<=z)):=λI g X Q q=>
 G I g X _ (M I g X _ (by{
refine((let P:=_;(?_:lm P _ _ _)):lm (λH=>aP cx X l c (kD .le (λb H=>Q _ H) _) H) (λH=>Q _ H) (decide<|x<=y) I)
induction m:decide (x<=y) using aX with
|true=>rw[m] at q;exact C I g X _ q
|false=>rw[m] at q;exact q}))
theorem Ks:(cE<|m+1).all P=(P 0&&(cE m).all λj=>P<|j+1):=by refine aa W7<|nB.trans<|aa Bm ?_;rfl
def Al(b:bB)(u:List Int)(j:Nat):Bool:=!(decide ((b[j]?.getD (0,0)).1<=u[j]?.getD 0)&&decide (u[j]?.getD 0<=(b[j]?.getD (0,0)).2))
theorem R6:∀{u:List Int},b.length=u.length->((cE b.length).all λj=>!Al b u j)=eY b u:=by{
induction b with
|nil=>intro u h;induction u using aS with
 |nil=>rfl
 |cons _ _=>cases h
|cons p b Z=>{
intro u h
induction u using aS with
|nil=>cases h
|cons k u=>refine aa iN<|Ks.trans ?_;show(!(!(decide (p.1<=k)&&decide (k<=p.2)))&&(cE b.length).all λj=>!Al b u j)=_;refine aa (Z<|nM h)<|aa (GN ..) ?_;rfl}}
theorem HQ(o:b.length=u.length)(E:b.length<=1000):pO (n+1) T H 59 [bv b,eV u] (.bool<|eY b u):=λI g Q X q=>by{
have C:(b.map dp).length=b.length:=aL _;refine aR [S<|bv b,S<|eV u] J J (Ke (Kh (P:=Al b u) J ((fO J (ab J) (by refine aa C ?_;exact bh E)).to (by exact aa C J)) E λj h9=>(bl _ J ?_<|ab J)) λY t=>?_)
.refine let P:=_;(?_:Pv _ P _ _ _)
 have D:=bX h9;have w:=bX<|au o h9;have a:=cO h9<|bh E;have c:=λ{cx:Cx} {l:ae} {H:MH} (r:l.at 0=S (bv b)) (M:l.at 2=S _)=>vS (cx:=cx) (H:=H) (ab r) (ab M) D a;exact(ni (NO (c J J).1 (cG (ab J) (ab J) (by refine aa (gy)<|aa w ?_;rfl) a) (c J J).2)).to (by unfold Al;refine aa D<|aa w ?_;rfl)
.exact aa (R6 o)<|q Y t}
def kM(b:bB)(j:Nat):Int×Int:=b[j]?.getD (0,0)
def UM(a b:bB)(v:V):V:=match v with|.int i=>.int (max (kM a i.toNat).1 (kM b i.toNat).1)|_=>.none
def FL(a b:bB)(j:Nat):Bool:=decide<|min (kM a j).2 (kM b j).2<max (kM a j).1 (kM b j).1
theorem Xj:∀{b:bB},a.length=b.length->on a=T->on b=T->((cE a.length).all λj=>!FL a b j)=df a b:=by{
induction a with
|nil=>intro b h _ _;induction b with
 |nil=>rfl
 |cons _ _=>cases h
|cons p a Z=>{
intro b h x f
induction b using aS with
|nil=>cases h
|cons q b=>{
obtain⟨e,P⟩:=bm.mp x;refine ai (λc d=>?_)<|bm.mp f;refine aa iN<|Ks.trans ?_;show(!decide (min p.2 q.2<max p.1 q.1)&&(cE a.length).all λj=>!FL a b j)=(!(decide (p.1>q.2)||decide (q.1>p.2))&&df a b);exact aa (Z (nM h) P d) (aa ((by{
refine congrArg (!·) ?_;by_cases o:p.1>q.2
.refine(decide_eq_true o).symm▸(decide_eq_true<|lW (Int.min_le_right _ _)<|xC o<|Int.le_max_left _ _).symm▸?_;rfl
.by_cases Q:q.1>p.2
 .exact aa (decide_eq_true Q)<|(decide_eq_true<|lW (Int.min_le_left _ _)<|xC Q<|Int.le_max_right _ _).trans<|(PT _).symm
 .exact aa (decide_eq_false o) (aa (decide_eq_false Q)<|decide_eq_false<|bT.mpr<|Int.max_le.mpr ⟨yi.mpr ⟨(of_decide_eq_true e),bT.mp o⟩,yi.mpr ⟨bT.mp Q,(of_decide_eq_true c)⟩⟩)}:(!decide (min p.2 q.2<max p.1 q.1))=!(decide (p.1>q.2)||decide (q.1>p.2)))) J)}}}
theorem D5(o:a.length=b.length)(E:a.length<=1000)(x:on a=T)(f:on b=T):pO (n+1) T H 60 [bv a,bv b] (.bool<|df a b):=λI g Q X q=>by{
have p:∀{cx:Cx} {l:ae} {H:MH} {i j k:Nat},l.at i=S (bv a)->l.at k=S (.int j)->j<a.length->Pv cx l H _ _/\Pv cx l H _ (.int (kM a j).2):=λh C h9=>vS (ab h) (ab C) (by unfold kM;refine aa (bX h9) ?_;rfl) (cO h9<|bh E)
have P:∀{cx:Cx} {l:ae} {H:MH} {i j k:Nat},l.at i=S (bv b)->l.at k=S (.int j)->j<a.length->Pv cx l H _ _/\Pv cx l H _ (.int (kM b j).2):=λh C h9=>vS (ab h) (ab C) (by unfold kM;refine aa (bX<|au o h9) ?_;rfl) (cO h9<|bh E)
have Z:∀{l:ae} {H:MH},l.at 0=S (bv a)->Pv (an n T) l H _ (.int a.length):=λh=>(fO J (ab h) (by exact aa (aL _)<|bh E)).to (by exact aa (aL _) J);refine aR [S<|bv a,S<|bv b,N] J J<|dk (Ld (P:=λ_=>T) (f:=UM a b) J (Z J) E λj h9=>(bl _ J eU λ_=>yL J (p J J h9).1 (P J J h9).1)) (λd m=>?_) trivial;refine Ke (Kh (m:=a.length) (P:=FL a b) J (Z J) E λj h9=>(bl _ J ?_<|ab J)) λY t=>?_
.refine(bC (o:=.gt) (x:=.int<|max (kM a j).1 (kM b j).1) (iJ (k:=j) (ab J) MH.c5 (ab J) ?_<|cO h9<|bh E) (Fk J (p J J h9).2 (P J J h9).2) λ_=>J);refine aa (qm.mpr λ_ _=>J)<|(gy).trans<|aa (GK h9) ?_;rfl
.exact aa (Xj o x f)<|q Y<|(Gr.new m).trans t}
def ml(s:List dB):List V:=s.zipIdx.map λp=>.tup [.int ((p.2:Nat):Int),.int p.1.1,.int p.1.2]
def pK(r:dN)(i:Addr):List V:=[bv r.box,r.dat,.int r.til,.int r.tmo,r.cmt,.tup<|r.inn.map Tl.v,.ref i]
structure nQ (H:MH) (a ev:Addr) (r:dN):Prop where
 h:H a=some (.list (pK r ev))
 e:H ev=some (.list (ml r.evs))
theorem nQ.gr(w:nQ H a i r)(g:Gr H Y):nQ Y a i r:=⟨g.at w.h,g.at w.e⟩
theorem lC{cx:Cx}{a i:Addr}{r:dN}{e:ME}{k:Nat}{v:V}(w:nQ H a i r)(h:Pv cx l H e<|.ref a)(b:(pK r i)[k]?=S v)(D:fh k 1000000=T:=by exact tt):Pv cx l H (.idx e<|.int k) v:=iJ h w.h (ar (i:=((k:Nat):Int))) b<|fY.mp D
theorem uq(w:nQ H a i r):ew (n+1) O H 58 [.ref a,.int G] (.bool<|r.live G):=λI g Q X q=>aR [S _,S _] J J (aZ (eW (gF (lC (w.gr g) (ab J) J) ar) λ_=>bC (lC (w.gr g) (ab J) J) (ab J) λ_=>J) q)
theorem Zc(h:lR cx l H j P E):Ec cx l H (.list j) (λQ=>∀Z Y,P Z Y->Z.length<=1000000/\∀f,Y f=N->Q (.ref f) (Y.set f<|.list Z)) (λX=>∀a Y,E a Y->X a Y):=λQ X q x=>h _ X q x
theorem XR:Ex cx l H (.list .nil) (λv Y=>∃i,v= .ref i/\H i=N/\Y=H.set i (.list [])) E:=λQ X q _=>⟨bW _,λi u=>q _ _<|bl i J u J⟩
theorem HU:Cp (n+1) T H 62 [s.v,.tup [bv r,y,.int t,j],.int G,.tup<|I.map Tl.v] (λQ=>∀a i Y,H a=N->H i=N->a≠i->nQ Y a i {kL s r y t j G with inn:=I}->Gr H Y->Q (.ref a) Y) nX:=λQ X q _=>by{
have U:∀{cx:Cx} {l:ae} {H:MH} {k:Nat} {v:V},l.at 1=S _->[bv r,y,.int t,j][k]?=S v->fh k 1000000=T->Pv cx l H _ v:=λh x D=>cG (ab h) (ar) x<|fY.mp D;refine aR [S s.v,S _,S _,S _,N] J J<|aW (iw (fC (U J J J) ar) (λ_=>U J J J) λ_=>fE J J)<|(iX V.int)▸?_;have d:cond (!(t==0)) t s.tmo=if t=0 then s.tmo else t:=by{
by_cases c:t=0
.refine aa (if_pos c)<|aa c ?_;rfl
.refine aa (if_neg c)<|aa (beq_eq_false_iff_ne.mpr c) ?_;rfl}
refine aa d (let P:=_;(?_:wpSs _ _ _ _ P _));have e:∀u:Int,cond (!(u==0)) _ 0=if u=0 then 0 else G+u:=λu=>by{
by_cases c:u=0
.refine aa (if_pos c)<|aa c ?_;rfl
.refine aa (if_neg c)<|aa (beq_eq_false_iff_ne.mpr c) ?_;rfl}
refine fv (Zc (E:=λ_ _=>False) (P:=λZ Y=>∃i,Z=pK {kL s r y t j G with inn:=I} i/\H i=N/\Y=H.set i _) (qQ (U J J J) (qQ (U J J J) (qQ ((iw (fC (ab J) ar) (λ_=>iz (ab J)<|ab J) λ_=>ar).to<|(iX V.int).trans<|congrArg V.int<|e _) (qQ (ab J) (qQ (U J J J) (qQ (ab J) (AA XR λv Y w=>by{
refine let p:=_;(?_:p)
refine eN w λi g A f=>?_;subst g;refine let P:=_;(?_:lR _ _ _ _ P _)
exact yO<|bl i J A f})))))))) (λZ Y w=>⟨?_,λa R=>?_⟩) λ_ _ z=>z.elim
·(refine aU (w) λi g _=>?_)
 exact aa g (by decide:7<=1000000)
refine eN w λi g o f=>?_;refine aa g ?_;subst f;have m:a≠i:=λz=>by replace R:=MH.c5▸z▸R;cases R
replace R:=(MH.c9 m)▸R;exact q a i _ R o m ⟨MH.c5,(MH.c9 m.symm).trans MH.c5⟩ λb D _=>(MH.c9 λz=>D (by rw[z];exact R)).trans (MH.c9 λz=>D (by exact aa z o))}
theorem VZ{k Z D p:Int}(h:p=D+1):(!(decide (k<=Z)&&decide (Z<=D))||(decide (k<Z)&&!i))=!((decide (k<=Z)&&decide (Z<p))&&(i||k==Z)):=by{
have g:decide (Z<p)=decide (Z<=D):=decide_eq_decide.mpr (by exact aa h abt);refine aa g ?_;by_cases a:k<=Z
.have I:decide (k<Z)=!(k==Z):=by{
by_cases c:k=Z
.refine aa c<|(decide_eq_false<|uX _).trans<|aa (beq_self_eq_true ..) ?_;rfl
.refine aa (decide_eq_true<|abu.mpr ⟨a,c⟩)<|aa (beq_eq_false_iff_ne.mpr c) ?_;rfl}
 refine(decide_eq_true a)▸I▸?_;cases decide (Z<=D)<;>obtain⟨⟩:=(k==Z)<;>obtain⟨⟩:=i<;>rfl
.refine aa (decide_eq_false a) ?_;rfl}
def ly(i:Bool)(I:List Nat)(b:bB):Bool:=pV I b&&(i||dg b)
theorem UR{b:bB}:ly i (t::I) (p::b)=(((decide (p.1<=p.2)&&decide (p.2<2^t))&&(i||p.1==p.2))&&ly i I b):=by show((_&&pV I b)&&(i||((p.1==p.2)&&dg b)))=(_&&(pV I b&&(i||dg b)));obtain⟨⟩:=(decide (p.1<=p.2)&&decide (p.2<2^t))<;>cases pV I b<;>obtain⟨⟩:=i<;>obtain⟨⟩:=(p.1==p.2)<;>cases dg b<;>rfl
theorem QT{m k t:Nat}(h:(bP m)[k]?=S t):∃v:Int,[V.int 15,V.int 3][k]?=S (.int v)/\(2:Int)^t=v+1:=by{
unfold bP at h;split at h
.rcases k with _|_|k<;>cases h<;>exact⟨_,J,J⟩
.rcases k with _|k<;>cases h
 exact⟨_,J,J⟩}
theorem Vn{H:MH}{s:bj}(g:H D=S (.list [.int 15,.int 3]))(o:b.length=(bP s.m).length):∀(j:Nat) (x y z:Option V),j+m=b.length->(ly s.iv ((bP s.m).drop j) (b.drop j)=T->∀x y z,Q .next [S s.v,f,S<|bv b,r,l,i,S<|.ref D,x,y,z] H)->(ly s.iv ((bP s.m).drop j) (b.drop j)=F->∀C,Q (.ret<|.bool F) C H)->cC n X (.one 7) (λ_=>True) IM Q (dW j m) [S s.v,f,S<|bv b,r,l,i,S<|.ref D,x,y,z] H:=by{
induction m with
|zero=>intro j x y z e q _;rw[Hg (i:=j)<|dr e.symm] at q;refine fH trivial<|q ?_ x y z;cases(bP s.m).drop j<;>obtain⟨⟩:=s.iv<;>rfl
|succ m Z=>{
intro j x y z e q M;refine let P:=_;(?_:cC _ _ _ _ _ _ _ P _)
have Y:=e▸jh (kf m);have c:=bX Y;have h9:=bX<|au o Y;refine let p:=_;((ai (λh A=>af (QT h9) λv L=>ai (λw O=>?_)<|L)<|Dw h9):p)
rw[tN c,tN h9,UR] at q M;refine dh trivial J (lB J (cG (ab J) (ab J) (zB c) A) J (aH ((eW (ni<|NO (ab J) (ab J)<|iJ (ab J) g (ab J) w A) λ_=>dD (iR (ab J)<|ab J) λ_=>Dy aQ<|fE J J).to<|congrArg V.bool<|VZ O) (λa=>aZ eU<|M ?_ _) λa=>aK (ic (Z _ _ _ _ (by exact(fZ ..).trans<|aa (fF 1 m) e) (λd=>q ?_) λd=>M ?_))))
.refine aa (eP a) ?_;rfl
all_goals rw[dX a];exact d}}
theorem Ud(m:Pv cx l H g d.v)(R:Pv cx l H I a.v)(j:pi d=pr a):Pv cx l H (.bop T<|.cons (.notNone g)<|.cons (.cmp (.isinstT (.idx g<|.int 0) T) .ne<|.cmp I .eq<|.str 287) .nil) (.bool<|c7 a d):=by{
refine let P:=_;(?_:Pv _ _ _ P _)
have U:∀{x:V} {r:List V} {p q:Bool},d.v= .tup (x::r)->(∀s:Bool->Prop,s p->vB s T x)->a.v.f9=F->(∀H,wv H .eq a.v (.str 287)=S q)->Pv cx l H _ _:=λ{x r p q} e f O o=>by replace m:=e▸m;exact dD ((fR m).to J) λ_=>qb (pc ((λh=>cG h (ar (i:=0)) J (by decide)) m) f)<|bC R aQ o
clear R
induction d using Dt.casesOn with
|no=>exact(dD (q:=T) (fR m) λz=>ak z).to (by obtain⟨⟩:=a<;>rfl)
|vd c=>{
refine let P:=_;(?_:Pv _ _ _ P _)
induction a using Ds.casesOn with
|no=>exact ak j
|b1=>exact U J (λ_ k=>k) J λ_=>J
|vd=>exact U (q:=T) J (λ_ k=>k) J λ_=>J}
|nums x r=>{
induction a using Ds.casesOn with
|no=>exact ak j
|b1=>exact U J (λ_ k=>k) J λ_=>J
|vd=>exact U (q:=T) J (λ_ k=>k) J λ_=>J}}
theorem Ep(h:Pv cx l H c<|.bool t)(u:w=(!t&&w))(q:Q (.bool w) H)(k:t=F->wpSs cx X r (cL Q) l H):wpSs cx X (.cons (.ite c (.cons (.ret<|.bool F) .nil) .nil) r) (cL Q) l H:=aH h (λz=>aZ eU (by rw[z] at u;rw[u] at q;exact q)) λz=>aK<|k z
abbrev Lz:=Addr×Addr×ay
abbrev zf (z:Lz):V:=.ref z.1
structure LA (H:MH) (ra:Addr) (Z:List Lz) (R:List ay):Prop where
 h:H ra=some (.list (Z.map zf))
 e:Z.map (·.2.2)=R
 r:∀z∈Z,nQ H z.1 z.2.1 z.2.2.2
 nd:(Z.map (·.1)).Nodup
def Lp(o:Addr)(Z:List Lz):Fp:=λb=>b=o\/∃z∈Z,b=z.1\/b=z.2.1
theorem LA.keep{Y:MH}(w:LA H o Z R)(k:∀b,Lp o Z b->Y b=H b):LA Y o Z R where
 h:=(k _<|.inl J).trans w.h
 e:=w.e
 r:=λz E=>⟨(k _<|.inr ⟨z,E,.inl J⟩).trans (w.r z E).h,(k _<|.inr ⟨z,E,.inr J⟩).trans (w.r z E).e⟩
 nd:=w.nd
theorem LA.live(w:LA H o Z R):∀b,Lp o Z b->H b≠N:=λb a=>by{
rcases a with a|⟨z,E,a|a⟩
.exact aa a<|nn w.h
.exact a▸nn ((w.r z E).h)
.refine a▸(aa ((w.r z E).e) ?_);exact(by intro z;cases z)}
theorem LA.gr(w:LA H o Z R)(g:Gr H Y):LA Y o Z R:=w.keep λb a=>g b (w.live b a) aJ
theorem LA.len(w:LA H o Z R):Z.length=R.length:=by exact au w.e<|aa (aL ..) J
theorem LA.p9(w:LA H o Z R)(q:ay->Bool)(g:Gr H Y)(a:Y d=S (.list<|(Z.filter λz=>q z.2.2).map zf)):LA Y d (Z.filter λz=>q z.2.2) (R.filter q) where
 h:=a
 e:=by refine au w.e<|au He ?_;rfl
 r:=λz E=>(w.r z (dZ.mp E).1).gr g
 nd:=w.nd.sublist<|(xG).map _
theorem AX(q:ay->Bool)(w:LA H o Z R)(g:Gr H Y)(m:H d=N):bL (Lp o Z) (Lp d<|Z.filter λz=>q z.2.2) H Y:=
 ⟨λb D _=>g b D aJ,λb h=>by{
rcases h with h|⟨z,E,h⟩
.exact .inr (by refine aa h ?_;exact m)
.exact .inl<|.inr<|aG z ((dZ.mp E).1) h}⟩
section
variable {cx:Cx} {α:Type} {f:α ->V} {p:α ->Bool} {me mc:ME} {tg:Tg} {chk:MH ->Prop} {KQ:List V ->MH ->Prop}
theorem xr(u:∀Y,Gr H Y->chk Y){L:List α}:∀{m:List V} {I:MH},Gr H I->m.length+L.length<=1000000->(∀x∈L,∃C,cT tg (g x) (fD tg l)=S C/\Gv cx C H mc (.bool<|p x)/\(p x=T->Gv cx C H me (f x)))->(∀Y,Gr I Y->KQ (m++(L.filter p).map f) Y)->kF (λv=>cT tg v<|fD tg l) chk (λKQ l H=>aP cx fM l mc (bR KQ) H) (λKQ l H=>aP cx fM l me KQ H) KQ (L.map g) m I:=by{
induction L with
|nil=>exact λ{m I} s _ _ k=>⟨u I s,by have:=k I Gr.rfl;rw[abn,PM,fm] at this;exact this⟩
|cons v r Z=>{
intro m I s E h k;refine let b:=_;((af (h v<|bw _) λC c=>ai (λD y=>ai (λG M=>let P:=_;let e:=_;let j:=_;let U:=_;(?_:kF P _ e j _ U _ _))<|y)<|c):b)
replace k:=abo▸k;refine(bp (u I s) (am (eF _ _) E)<|bq D<|G I s fM (bR _) λd t=>?_)
induction O:p v using aX with
|true=>
 rw[O] at k;exact M O d (s.trans t) fM _ λn i=>Z (s.trans<|t.trans i) (by refine aa bV<|aa sG<|aa (fZ ..) ?_;rw[fF 1];exact E) (λv w=>h v<|cq _ w) λY a=>by exact aa (ip ..)<|k Y<|t.trans<|i.trans a
|false=>
 refine let P:=_;(?_:bR P _ _)
 rw[O] at k;exact Z (s.trans t) (am (gM (si _) _) E) (λv w=>h v<|cq _ w) λY a=>k Y<|t.trans a}}
end
theorem wq{l:ae}(w:LA H o Z R)(E:R.length<=12)(r:l.at j=S (.ref o))(D:∀z∈Z,∃C,cT (.one i) (zf z) (fD (.one i) l)=S C/\C.at i=S (zf z)/\Gv (an n T) C H A (.bool<|q z.2.2)):Ec (an n T) l H (.comp (.loc i) (.one i) (.ex<|.loc j) A) (λQ=>∀d Y,Gr H Y->H d=N->LA Y d (Z.filter λz=>q z.2.2) (R.filter q)->Q (.ref d) Y) nX:=λQ X k _=>by{
have a:Z.length<=1000000:=by exact aa w.len (am E (by decide))
refine cj J (bq r (ir w.h ⟨by exact aa (aL ..) a,xr (p:=λz:Lz=>q z.2.2) (f:=zf) (λY g=>g.at w.h) Gr.rfl (by exact aa jF<|aa (da ..) a) (λz E=>?_) λI B d m=>?_⟩))
·(refine eN (D z E) λC G M b=>?_)
 exact(bl C G b λ_=>(ab M).gv)
.have t:Gr H (I.set d<|.list<|(Z.filter λz=>q z.2.2).map zf):=B.trans (Gr.new m);exact k d _ t (B.none m)<|w.p9 q t MH.c5}
theorem DK(h:Pv cx l H a<|.bool p)(C:p=T->Gv cx l H b (.bool q)):Gv cx l H (.bop T<|.cons a<|.cons b .nil) (.bool<|p&&q):=λI g X Q k=>
 h I g X (λv H=>bR (λc H=>if c=T then wpB cx X l T _ Q H else Q v H) v H) (by{
clear h a
induction p using aX with
|false=>exact k I Gr.rfl
|true=>exact C J I g X _ k})
theorem qz(h:Gv cx l H c<|.bool t)(k:t=T->∀Y,Gr H Y->wpSs cx X a (dE cx X r Q) l Y)(d:t=F->∀Y,Gr H Y->wpSs cx X b (dE cx X r Q) l Y):wpSs cx X (.cons (.ite c a b) r) Q l H:=Ls h.ec (λY g=>yv (λz=>k z Y g) λz=>d z Y g) trivial
theorem Gv.gr(h:Gv cx l H e v)(g:Gr H Y):Gv cx l Y e v:=λI w=>h I<|g.trans w
theorem De{X:Addr->ae->MH->Prop}{Q:Fl->ae->MH->Prop}{q:ay->Bool}{j:ae}(Z:i<j.length)(u:∀Y,Gr H Y->l Y){d:List Lz}:(∀z∈d,Gv (an n T) (j.set i<|S<|zf z) H c (.bool<|q z.2.2)/\(q z.2.2=T->∀b,Gr H b->aP (an n T) (λa H=>X a (j.set i<|S<|zf z) H) (j.set i<|S<|zf z) e (λv Y=>Q (.ret v) (j.set i<|S<|zf z) Y) b))->((∀z∈d,q z.2.2=F)->∀x Y,Gr H Y->Q .next (j.set i x) Y)->∀(x:Option V) (I:MH),Gr H I->cC n X (.one i) l (.cons (.ite c (.cons (.ret e) .nil) .nil) .nil) Q (d.map zf) (j.set i x) I:=by{
induction d with
|nil=>exact λ_ k x I g=>fH (u _ g) (k (λ_ z=>(by cases z)) x I g)
|cons z d m=>intro h k x I g;refine ai (λG M=>dh (u _ g) ((if_pos (by refine au GV.symm ?_;exact Z)).trans (by exact congrArg _<|aaK ..))<|qz (Gv.gr G g) (λt b f=>cc<|M t b<|g.trans f) λt b f=>aK<|ic<|m (λz E=>h z<|cq _ E) (λa x Y w=>k (λy o=>?_) x Y w) _ b<|g.trans f)<|h z<|bw _;exact dP (bJ.mp o) (λe=>aa e t) λe=>a y e}
def zn(v:V)(d:Dt):Bool:=(cA 9 (λ_=>N) v d.v).getD F
theorem Yo(w:∃L,v=L.v/\hM a L=T)(h:hM a d=T):cA 9 H v d.v=S (zn v d):=by refine af (w) λL b=>ai (λe C=>?_)<|b;refine aa e<|(yM C h)▸?_;unfold zn;refine(yM C h).symm▸?_;rfl
theorem DD(h:gY s b t d=T):hM s.ds d=T:=(bm.mp (bm.mp (bm.mp (bm.mp h).2).2).2).2
def iF(s:bj)(U:Bool)(R:List ay)(b:bB)(d:Dt)(t:Int)(h:Bool)(G:Int):V:=
 cond (U&&s.cst) (.str 183) (cond (gY s b t d) (match be G (bI R b) with
  |some x=>cond (h||!zn x.2.dat d) (.str 182)<|.bool F
  |none=>cond (gZ s<|bG R G) (cond (jx (bG R G) b) (.str 182)<|.bool T)<|.str 188) (.str 184))
def gG(s:bj)(U:Bool)(R:List ay)(b:bB)(d:Dt)(t:Int)(j:V)(G:Int)(a:Addr):List ay:=
 cond (U&&s.cst) R (cond (gY s b t d) (match be G (bI R b) with
  |some _=>R
  |none=>cond (gZ s (bG R G)&&!jx (bG R G) b) (bG R G++[(a,kL s b d.v t j G)])<|bG R G) R)
theorem LD(G:Pv cx l H a<|.int x)(M:Pv cx l H b<|.int y)(C:Pv cx l H c<|.int z):Pv cx l H (.cmp2 a .lt b .le c) (.bool<|decide (x<y)&&decide (y<=z)):=λI g X Q q=>
 G I g X _ (M I g X _ (by{
refine((let P:=_;(?_:lm P _ _ _)):lm (λH=>aP cx X l c (kD .le (λb H=>Q _ H) _) H) (λH=>Q _ H) (decide<|x<y) I)
induction m:decide (x<y) using aX with
|true=>rw[m] at q;exact C I g X _ q
|false=>rw[m] at q;exact q}))
theorem AI{R:List ay}{s:bj}(h:0<=s.size):(decide (0<s.size)&&decide (s.size<=(R.length:Int)))=!gZ s R:=by{
unfold gZ;by_cases c:s.size=0
.refine aa c ?_;rfl
.refine aa (decide_eq_true<|abu.mpr ⟨h,eE c⟩) (aa (beq_eq_false_iff_ne.mpr c) ?_);show decide _=!decide _;exact au decide_not<|decide_eq_decide.mpr bT.symm}
theorem qO{l:ae}(O:cx.hn=T)(w:LA H o Z R)(E:R.length<=12)(r:l.at j=S (.ref o)):Pv cx l H (.bi .len<|.cons (.loc j) .nil) (.int R.length):=(iB O (ab r) w.h (by exact aa (aL ..) (aa w.len (am E (by decide))))).to (by exact aa (aL ..)<|aa w.len J)
theorem pR{Q:Fl->ae->MH->Prop}(h:Pv cx l H e v)(b:l.at i=S (.ref a))(q:Q (.ret<|.tup [v,.ref a]) l H):wpSs cx X (.cons (.ret<|.tup<|.cons e<|.cons (.loc i) .nil) r) Q l H:=aZ (gI h<|ab b) q
theorem Mc{l:ae}{B:Addr->Addr->MH->Prop}(w:LA m U Z R)(E:R.length<=12)(v:l.at i=S (.ref U))(h:Ec cx l H e D nX)(A:∀Q:QV,(∀a j k,B a j k->Q (.ref a) k)->D Q) (d:∀a j k,B a j k->Gr m k/\m a=N/\m j=N/\nQ k a j r):Ec cx l H (.bin .add (.loc i)<|.list<|.cons e .nil) (λQ=>∀a j c k Y,B a j k->(∀x,LA Y c (Z++[(a,j,x,r)]) (R++[(x,r)])/\bL (Lp U Z) (Lp c<|Z++[(a,j,x,r)]) m Y)->Q (.ref c) Y) nX:=λQ X q _=>bq v (h _ X (A _ λa j k s=>by{
refine let p:=_;((ai (λg L=>ai (λt M=>ai (λO P=>⟨by exact(by decide:1<=1000000),λf G=>?_⟩)<|M)<|L)<|d a j k s):p)
exact⟨Z.map zf,[.ref a],congrArg eS<|(g.trans<|Gr.new G).at w.h,congrArg eS MH.c5,by exact aa bV (aa (aL ..) (aa w.len (am (sA E _) (by decide:12+1<=1000000)))),λc u=>q a j c k _ s λx=>(by{
refine⟨⟨by refine MH.c5.symm▸(au cK.symm ?_);rfl,by refine aa cK<|aa w.e ?_;rfl,λz E=>?_,?_⟩,λb o _=>((g.trans<|Gr.new G).trans<|Gr.new u) b o aJ,λb h=>?_⟩
.rcases cp.mp E with h|h
 .exact(w.r z h).gr<|(g.trans<|Gr.new G).trans<|Gr.new u
 .exact aa (cJ.mp h)<|(P.gr<|Gr.new G).gr<|Gr.new u
.refine aa cK (Hn.mpr<|bp w.nd (fq.mpr ⟨aJ,gW⟩) λy n b o e=>?_);refine aU (bZ.mp n) λz E I=>?_;have:=(w.r z E).h;replace this:=t▸(cJ.mp o)▸e▸I▸this;exact aD this
.rcases h with h|⟨z,E,h⟩
 .exact .inr (by refine aa h ?_;exact(g.trans<|Gr.new G).none u)
 .rcases cp.mp E with C|C
  .exact .inl<|.inr<|aG z C h
  .rw[cJ.mp C] at h;exact .inr (h.elim (λz=>by exact aa z t) λz=>by exact aa z O)})⟩}) trivial)
theorem DP(h:Pv cx l H a v)(C:Ec cx l H b D g):Ec cx l H (.tup<|.cons a<|.cons b .nil) (λQ=>D λw Y=>[v,w].length<=1000000/\Q (.tup [v,w]) Y) g:=λQ X q x=>h H Gr.rfl X _<|C _ X q x
theorem Za{s:bj}(w:LA H o Z R)(g:cZ k m R)(em:s.m=m)(hD:∀e∈R,∃L,e.2.dat=L.v/\hM s.ds L=T)(hs:0<=s.size)(E:b.length<=1000)(hm:s.m=1\/s.m=2)(hd:∀x r,d= .nums x r->r.length<=1000)(hk:gY s b t d=T->jY k m b):Cp (n+3) T H 63 [.ref o,s.v,.bool U,.tup [bv b,d.v,.int t,j],.int G,.bool cr] (λQ=>∀Y h0 (Z':Addr->List Lz),(∀a,LA Y h0 (Z' a) (gG s U R b d t j G a)/\bL (Lp o Z) (Lp h0<|Z' a) H Y)->Q (.tup [iF s U R b d t cr G,.ref h0]) Y) nX:=λQ X q _=>by{
have same:∀{I},Gr H I->(∀a,gG s U R b d t j G a=R)->Q _ I:=λB e=>q _ o (λ_=>Z) λa=>⟨by rw[e];exact w.gr B,B.f5⟩;let PQ:V->(Addr->List ay)->Prop:=λv f=>∀Y h0 (Z':Addr->List Lz),(∀a,LA Y h0 (Z' a) (f a)/\bL (Lp o Z) (Lp h0<|Z' a) H Y)->Q (.tup [v,.ref h0]) Y;let z0:V->(Addr->List ay)->Prop:=λv f=>∀I,Gr H I->(∀a,f a=R)->Q (.tup [v,.ref o]) I;replace q:PQ (iF s U R b d t cr G) (gG s U R b d t j G):=q;replace same:z0 (iF s U R b d t cr G) (gG s U R b d t j G):=λ_ B e=>same B e;delta iF gG at q same;refine aR [S _,S s.v,S _,S _,S _,S _,N,N] J J (aH (dD (ab J) λ_=>Io aQ<|fE J J) (λz=>pR aQ J ?_) λz1=>aK (DC (nZ (aM J) ((λI g Q X q=>by{
have h6:∀{l:ae} {H:MH} {cx:Cx},cx.hn=T->l.at 2=S (bv b)->Pv cx l H _ _:=λO e=>(fO O (ab e) (by rw[aL];exact bh E)).to (by rw[aL]);have z3:∀{l:ae} {H:MH} {cx:Cx},cx.hn=T->l.at 0=S s.v->Pv cx l H _ (.int (bP s.m).length):=λO e=>by exact dP (hm) (λe1=>(fO (L:=[.str 94]) O ((fE e J).to (by rw[e1];rfl)) (by decide)).to (by rw[e1];rfl)) λe1=>(fO (L:=[.str 94,.str 95]) O ((fE (k:=0) e J).to (by rw[e1];rfl)) (by decide:2<=1000000)).to (by rw[e1];rfl)
have ok:gY s b t d=((b.length==(bP s.m).length)&&(ly s.iv (bP s.m) b&&((t==0||s.tm)&&hM s.ds d))):=by delta gY ly;rw[W8]
rw[ok,wW] at q;refine aR [S s.v,S _,N,N,N,N,N,N,N,N] J J (lB J (ab J) J (dk (zQ (aB ar<|aB ar bc) (by decide:2<=1000000)) (λtp z4=>?_) trivial));have q:=q (I.set tp<|.list [.int 15,.int 3])<|Gr.new z4;refine Ep (eW (FK (h6 J J)<|z3 J J) λ_=>(qb (ig<|ab J)<|ig<|fE J J).to (by rw[Av,Fg])) ?_ q λz=>?_
.obtain⟨⟩:=(b.length==(bP s.m).length)<;>obtain⟨⟩:=(pi d==pr s.ds)<;>cases ly s.iv (bP s.m) b<;>obtain⟨⟩:=(t==0||s.tm)<;>rfl
refine let Gz:=_;(?_:Gz)
obtain⟨z1,z2⟩:=ye.mp z;rw[dX z1,dX z2,Bool.not_true,abv,BS,BS] at q;refine Ep (Ud (ab J) (fE J J)<|beq_iff_eq.mp<|dX z2) ?_ q λz7=>Ep (Ng J (ab J) (fE J J) (beq_iff_eq.mp<|dX z2) hd) ?_ q λz6=>?_
.cases c7 s.ds d<;>cases c6 s.ds d<;>cases ly s.iv (bP s.m) b<;>obtain⟨⟩:=(t==0||s.tm)<;>rfl
.cases c7 s.ds d<;>cases c6 s.ds d<;>cases ly s.iv (bP s.m) b<;>obtain⟨⟩:=(t==0||s.tm)<;>rfl
rw[z6,z7,abv,BS,qi] at q;refine mu (h6 J J) E<|Vn MH.c5 (beq_iff_eq.mp<|dX z1) 0 N N N (da _) (λA x y z=>nx<|aZ (eW (gF (ab J) ar) λ_=>Dl aQ<|fE J J) ?_) λA C=>?_
.rw[show ly s.iv (bP s.m) b=T from A] at q;exact q
.refine let P:=_;(?_:dE _ _ _ _ _ _ P)
 rw[show ly s.iv (bP s.m) b=F from A] at q;exact q}:pO ((n+1)+1) T H 61 [s.v,.tup [bv b,d.v,.int t,j]]<|.bool<|gY s b t d))).ec (λY gz=>Ad (λzz=>(λz H1 B=>pR aQ J ?_) zz Y gz) λzz=>(λz2 H1 B=>aK ?_) zz Y gz) trivial))
.rw[z] at same;exact same _ Gr.rfl λ_=>J
.rw[z1,z] at same;exact same _ B λ_=>J
rw[z1,z2] at q same;refine let P:=_;(?_:wpSs _ _ _ _ P _)
refine dk (wq (q:=λe=>e.2.live G) (w.gr B) g.z J λz E=>(bl _ J J<|(cH (aM J)<|uq<|(w.r z E).gr B).gv)) (λal H2 g2 z5 LL=>?_) trivial;have h3:=B.trans g2;have h7:∀{z:Lz},z∈Z.filter (λz=>z.2.2.2.live G)->z∈Z/\z.2.2∈R/\z.2.2∈bG R G:=λ{z} E=>by
 obtain⟨h1,M⟩:=dZ.mp E;have:z.2.2∈R:=by rw[<-w.e];exact bZ.mpr<|aG z h1 J
 exact(bp h1 this<|dZ.mpr ⟨this,M⟩)
have lz:(bG R G).length<=12:=am (lg _ _) g.z;have h8:=AX (λe=>e.2.live G) w h3<|B.none z5;have i1:∀{l:ae} {H:MH} {k:Nat} {v:V},l.at 3=S _->[bv b,d.v,.int t,j][k]?=S v->fh k 1000000=T->Pv (an (n+2) T) l H _ v:=λh hk D=>cG (ab h) (ar) hk<|fY.mp D;have LL:LA H2 al (Z.filter λz=>z.2.2.2.live G) (bG R G):=LL;have h9:=LL.e;refine cc (cj J (bq J (ir LL.h ⟨by rw[aL,LL.len];exact am lz (by decide),De (j:=[S _,S s.v,S _,S _,S _,S _,S _,N]) (q:=λe=>decide<|e.2.box=b) (by decide:7<8) (λY g'=>g'.at LL.h) (λz E=>?_) (λno x H3 i=>nx ?_) N H2 Gr.rfl⟩)))
.refine jy (h7 E) λh4 h2 h5=>?_;have W:=(w.r z h4).gr h3;refine cj (sL (lC W (ab J) J)<|i1 J J J).gv λD H3 i=>?_;have h1:Pv (an _ T) [S<|.ref o,S s.v,S<|.bool U,S _,S<|.int G,S<|.bool cr,S<|.ref al,S<|zf z] H3 (.cmp (.idx (.loc 7)<|.int 1) .ne<|.idx _<|.int 1) _:=bC (lC (W.gr i) (ab J) J) (i1 J J J) λH=>congrArg (uV (!·))<|Yo (hD _ h2)<|DD z2;have:=gI (iw (eW (ab (i:=5) J) λ_=>h1) (λ_=>aQ (n:=182)) λ_=>eU (b:=F)) (ab (i:=0) J) H3 Gr.rfl (fy X · [S<|.ref o,S s.v,S<|.bool U,S<|.tup [bv b,d.v,.int t,j],S<|.int G,S<|.bool cr,S<|.ref al,S<|zf z]) λv H=>Q v H;rw[((by
  refine ai (λh1 M=>?_)<|dZ.mp h5;exact aa ((g.byBox<|ji<|ji z).mpr ⟨h1,of_decide_eq_true D⟩) ((iQ).trans<|if_pos M):be G (bI R b)=S (ji<|ji z)))] at same
 exact this<|same _ (h3.trans i) λ_=>J
have z8:be G (bI R b)=N:=by{
have:((bG R G).all λe=>!decide (e.2.box=b))=T:=im.mpr λe u=>by rw[<-h9] at u;refine aU (bZ.mp u) λz E e2=>?_;rw[<-e2,no z E];rfl
rw[(by{
refine(HO λx hx y hy h1 M=>g.box hx hy<|h1.trans M.symm)▸?_
induction h:R.find? (lL b G) using aV with
|none=>refine im.mpr λe u=>?_;refine ai (λh1 M=>?_)<|dZ.mp u;have:=qu.mp h e h1;unfold lL at this;rw[M,qi] at this;exact congrArg _<|mi.mpr this
|some x=>
 refine ai (λh1 M=>?_)<|bm.mp<|show(decide (x.2.box=b)&&x.2.live G)=T from sg (p:=lL b G) h
 refine PR.mpr ⟨x,dZ.mpr ⟨md h,M⟩,?_⟩;rw[h1];exact(λz=>ak z)}:((bG R G).all λe=>!decide (e.2.box=b))=(be G<|bI R b).isNone)] at this
exact Option.isNone_iff_eq_none.mp this}
rw[z8] at q;have L3:=LL.gr i;let PK:V->(Addr->List ay)->Prop:=λv f=>∀Y,Gr H3 Y->(∀a,f a=bG R G)->Q (.tup [v,.ref al]) Y;have p:PK (cond (gZ s<|bG R G) (cond (jx (bG R G) b) _ _) _) (λa=>cond (gZ s (bG R G)&&!jx (bG R G) b) (bG R G++[(a,kL s b d.v t j G)])<|bG R G):=λY g4 e=>q Y al (λ_=>_) λa=>⟨(e a).symm▸(L3.gr g4),h8.trans (i.trans g4).f5⟩;refine aH (LD ar (fE J J)<|qO J L3 lz J) (λz=>?_) λz=>aK ?_
.rw[AI hs] at z;rw[eP z] at p;exact pR aQ J<|p _ Gr.rfl λ_=>J
rw[AI hs] at z;rw[dX z] at q p;refine cc (cj J (bq J (ir L3.h ⟨by rw[aL,LL.len];exact am lz (by decide),De (q:=λe=>df e.2.box b) (by decide:7<8) (λY g'=>g'.at L3.h) (λz z9=>?_) (λno x H4 g4=>nx ?_) x H3 Gr.rfl⟩)))
.refine jy (h7 z9) λh4 h2 h5=>?_;have W:=(w.r z h4).gr<|h3.trans i;refine cj (nZ (aB (lC W (ab J) J)<|aB (i1 J J J) bc) (D5 ((g.ok _ h2).len.1.trans (hk z2).len.1.symm) (by rw[(g.ok _ h2).len.1,<-(hk z2).len.1];exact E) (g.ok _ h2).full (hk z2).full)) λD H4 g4=>?_;rw[qy.mpr<|aG _ h5 D] at p;exact gI (aQ) (ab J) H4 Gr.rfl (fy X · _) (λv H=>Q v H)<|p _ g4 λ_=>J
.have x0:jx (bG R G) b=F:=mi.mpr λA=>by
  refine aU (qy.mp A) λe u A=>?_;rw[<-h9] at u;refine aU (bZ.mp u) λz E e2=>?_;have:=no z E;rw[show z.2.2=e from e2,A] at this;exact ak this
 refine let P:=_;(?_:wpSs _ _ _ _ P _)
 rw[x0] at q;refine fv (DP eU<|Mc LL lz J (dC (aB (ab J)<|aB (ab J)<|aB (ab J)<|aB (cP bc<|bW _) bc)<|HU (I:=[])) (λQ q a ev H5 h1 M _ A g5=>q a ev H5<|bp ((i.trans g4).trans g5) ((i.trans g4).none h1) ⟨(i.trans g4).none M,A⟩) λ_ _ _ A=>A) (λa ev c H5 H6 _ A=>⟨by exact(by decide:2<=1000000),q H6 c _ λx=>⟨(A x).1,h8.trans (A x).2⟩⟩) trivial}
abbrev gh:=dB×Nat
def iU(p:gh):V:=.tup [.int ((p.2:Nat):Int),.int p.1.1,.int p.1.2]
def lu(t:Tl):List dB->List gh->List gh
 |_,[]=>[]
 |P,x::r=>(if gA t P x.1=T then [x] else [])++lu t (P++[x.1]) r
def dS(t:Tl)(L:List gh):List gh:=lu t [] L
theorem Xo:∀{P:List dB},(lu t P L).map (·.1)=pY t P (L.map (·.1)):=by{
induction L with
|nil=>exact J
|cons x L Z=>intro P;refine(?_:((if gA t P x.1=T then [x] else [])++lu t _ L).map (·.1)=_);refine aa cK (aa Z (congrArg (·++pY t _ (L.map (·.1))) ?_));split<;>rfl}
theorem Nt:(dS t L).map (·.1)=lK t (L.map (·.1)):=Xo
theorem J1:∀{P:List dB},lu t P (s++[e])=lu t P s++(if gA t (P++s.map (·.1)) e.1=T then [e] else []):=by{
induction s with
|nil=>exact λ{P}=>by exact aa PM<|aa (fm ..)<|fm _
|cons x s Z=>intro P;refine(?_:_++lu t _ (s++[e])=(_++lu t _ s)++_);refine aa Z<|aa (ip ..)<|aa (ip ..) ?_;rfl}
theorem zt:dS t (s++[e])=dS t s++(if gA t (s.map (·.1)) e.1=T then [e] else []):=J1
theorem FF:∀{P:List dB},(lu t P L).Sublist L:=by{
induction L with
|nil=>exact λ{_}=>abw []
|cons x L Z=>{
intro P;refine(?_:((if gA t P x.1=T then [x] else [])++lu t _ L).Sublist _);split
.exact Z.cons₂ x
.exact Z.cons x}}
def jW:List Tl->List gh->List gh
 |[],L=>L
 |t::I,L=>jW I<|dS t L
theorem XH:∀{L:List gh},jW I (L++[e])=jW I L++(if fW I (L.map (·.1)) e.1=T then [e] else []):=by{
induction I with
|nil=>exact λ{L}=>J
|cons t I Z=>{
intro L;refine(?_:jW I (dS t _)=jW I (dS t L)++(if(gA t _ _&&fW I (lK t (L.map (·.1))) e.1)=T then [e] else []));refine zt▸?_
induction h:gA t (L.map (·.1)) e.1 using aX with
|true=>refine aa (if_pos J)<|aa Z<|aa Nt ?_;rfl
|false=>exact aa (if_neg λz=>ak z)<|aa (fm ..)<|(fm _).symm}}
theorem Cy:∀{L:List gh},(jW I L).Sublist L:=by{
induction I with
|nil=>exact λ{L}=>abw _
|cons t I Z=>exact λ{L}=>Z.trans FF}
def Ff(f a:List gh):Bool:=decide (0<f.length)&&decide (f.getLast?=a.getLast?)
theorem XC:Ff (jW I (s++[e]).zipIdx) (s++[e]).zipIdx=fW I s e:=by{
have z:(s++[e]).zipIdx=s.zipIdx++[(e,s.length)]:=by refine aa Hj<|aa (da ..) ?_;rfl
refine aa z<|aa XH<|aa (Hl 0 s) ?_;delta Ff;refine aa (Hp) ?_
induction fW I s e using aX with
|true=>exact aa (if_pos J)<|aa (Hp)<|aa (decide_eq_true J)<|(qi ..).trans<|aa bV<|decide_eq_true<|kf _
|false=>refine aa (if_neg λz=>ak z)<|aa (fm ..)<|Bool.and_eq_false_iff.mpr<|.inr<|decide_eq_false λw=>?_;refine jy (List.mem_zipIdx<|Cy.mem<|List.mem_of_getLast? w) λ_ h _=>?_;rw[da] at h;exact jZ _ h}
theorem JS:lP (s.map (·.1))=(dS .lim s).getLast?.map (·.1.1):=by{
suffices z:∀r:List gh,lP (r.reverse.map (·.1))=(dS .lim r.reverse).getLast?.map (·.1.1) by have:=z s.reverse;rw[List.reverse_reverse] at this;exact this
intro r
induction r with
|nil=>rfl
|cons x r Z=>{
refine aa List.reverse_cons (aa cK (aa zt ((yK (e:=x.1)).trans (?_:_=uV _ (dS .lim r.reverse++(if(match lP (r.reverse.map (·.1)) with|none=>T|some k=>decide<|x.1.1-k>=1000)=T then [x] else [])).getLast?))))
induction h:lP (r.reverse.map (·.1)) using aV with
|none=>refine au ((if_pos J).symm)<|au (Hp.symm) ?_;rfl
|some k=>{
by_cases c:x.1.1-k>=1000
.exact aa (if_pos<|decide_eq_true c)<|aa (Hp)<|congrArg S<|if_pos c
.exact aa (if_neg λz=>c<|of_decide_eq_true z)<|aa (fm ..)<|au Z<|aa h<|congrArg S<|if_neg c}}}
def jO:List Tl->List dB->List V
 |[],_=>[]
 |t::I,s=>(xi s t).v::jO I (lK t s)
def ce(L:List gh):List V:=L.map iU
theorem KD(h:Pv cx l H o<|.ref a)(R:H a=S (.list L))(E:L.length<=1000000)(C:Gv cx l H e x)(k:∀Y,Gr H Y->wpSs cx X r Q l (Y.set a<|.list<|L++[x])):wpSs cx X (.cons (.expr<|.callM o 211<|.cons e .nil) r) Q l H:=cc (h H Gr.rfl _ _<|bq R ⟨J,C H Gr.rfl _ _ λY g=>ir (g.at R) ⟨E,k Y g⟩⟩)
theorem Ei{cx:Cx}(O:cx.hn=T)(h:Pv cx l H e<|.ref a)(R:H a=S (.list L))(E:L.length<=1000)(w:L.getLast?=S v):Pv cx l H (.idx e<|.bin .sub (.bi .len<|.cons e .nil)<|.int 1) v:=by replace w:=List.getLast?_eq_getElem?▸w;have o:=(cW.mp w).1;exact iJ h R ((mM (iB O h R<|bh E) ar).to<|congrArg V.int<|(aa8<|cN (bW _) o).symm) w<|cO o<|bh E
theorem NK(h:Pv cx l H e<|.ref a)(R:H a=S (.list L))(E:L.length<=1000):Pv cx l H (.not e) (.bool L.isEmpty):=λI g X Q q=>h I g X (bR λb H=>Q _ H) (bq (show(eS<|I a).bind sI=S (!L.isEmpty) by
 exact aa (g.at R)<|if_pos<|bh E) (by
 refine(?_:Q _ I);exact aa (GN ..) q))
theorem Uu{L:List gh}:tY (L.map λx:gh=>V.int x.1.2)=S (eJ (L.map (·.1))):=by{
induction L with
|nil=>rfl
|cons x L Z=>refine(?_:(tY<|L.map λx:gh=>V.int x.1.2).map (x.1.2+·)=_);exact congrArg _ Z}
theorem XG{H:MH}{l:ae}{cx:Cx}{s:Addr}(O:cx.hn=T)(a:H s=S (.list<|ce L))(E:L.length<=1000)(r:l.at j=S (.ref s))(D:∀v,∃C,cT (.one i) v (fD (.one i) l)=S C/\C.at i=S v):Gv cx l H (.bi .sum<|.cons (.comp (.idx (.loc i)<|.int 2) (.one i) (.ex<|.loc j)<|.bool T) .nil) (.int (eJ (L.map (·.1)))):=λI g X Q q=>
 ⟨O,O,bq r (ir (g.at a) ⟨by rw[ce,aL];exact bh E,xr (λY w=>w.at<|g.at a) Gr.rfl (by exact aa jF<|aa (da ..)<|bh E) (λx _=>by{
refine let p:=_;((af (D<|iU x) λC b=>ai (λG M=>?_)<|b):p)
exact⟨C,G,eU.gv,λ_=>(cG (ab M) (ar) J (by decide)).gv⟩}) λc t d m=>⟨_,congrArg eS MH.c5,eJ (L.map (·.1)),by refine aa (qv ..)<|aa (qm.mpr λ_ _=>J) ?_;exact Uu,q _<|t.trans<|Gr.new m⟩⟩)⟩
theorem LW{U:List dB->Option V}{s A:Addr}(a:s≠A)(E:M.length<=1000)(g:∀(f:List gh) (x:gh) (I:MH) (z8:ae->MH->Prop),I A=S (.list<|ce<|dS t f)->f.length<=1000->(∀d,d A=S (.list<|ce<|dS t<|f++[x])->(∀b,b≠A->d b=I b)->z8 [L,G,B,i,m,R,U ((f++[x]).map (·.1)),S<|iU x] d)->wpSs (an n T) X b (pJ z8 Q) [L,G,B,i,m,R,U (f.map (·.1)),S<|iU x] I):∀(r f:List gh) (p:Option V) (I:MH),M=f++r->I s=S (.list<|ce M)->I A=S (.list<|ce<|dS t f)->(∀d p,d A=S (.list<|ce<|dS t M)->(∀b,b≠A->d b=I b)->Q .next [L,G,B,i,m,R,U (M.map (·.1)),p] d)->cC n X (.one 7) (λH=>H s=S (.list<|ce M)) b Q (ce r) [L,G,B,i,m,R,U (f.map (·.1)),p] I:=by{
intro r
induction r with
|nil=>intro f p I e O w q;rw[fm] at e;subst e;exact fH O<|q I p w λ_ _=>J
|cons x r Z=>{
intro f p I e O w q;refine dh O J<|g f x I _ w ?_ λd j o=>Z _ _ d ?_ ((o s a).trans O) j λv p h z=>q v p h λb D=>(z b D).trans<|o b D
.refine am ?_ E;exact aa e<|aa bV<|eF _ _
.refine aa e<|aa (ip ..) ?_;rfl}}
theorem NX:(ce<|dS t L).length<=L.length:=by rw[ce,aL];exact(FF).length_le
theorem KL{H:MH}(w:H A=S (.list<|ce<|dS t f))(E:f.length<=1000)(h:Pv (an n T) [L,G,B,i,m,S<|.ref A,e,S<|iU x] H c (.bool (gA t (f.map (·.1)) x.1)))(j:∀d,d A=S (.list<|ce<|dS t<|f++[x])->(∀b,b≠A->d b=H b)->z8 [L,G,B,i,m,S<|.ref A,e,S<|iU x] d):wpSs (an n T) X (.cons (.ite c (.cons (.expr<|.callM (.loc 5) 211<|.cons (.loc 7) .nil) .nil) .nil) .nil) (pJ z8 Q) [L,G,B,i,m,S<|.ref A,e,S<|iU x] H:=
 aH h (λz=>lM (ab J) w (am NX<|bh E) (ab J) (aK (ic (j _ (by rw[MH.c5,(by refine aa zt<|aa (if_pos z) ?_;exact cK:ce (dS t<|f++[x])=ce (dS t f)++[iU x])]) λb D=>MH.c9 D)))) λz=>aK (ic (j _ (by rw[w,(by exact aa zt (aa z<|aa (if_neg λa=>ak a)<|congrArg _<|fm ..):ce (dS t<|f++[x])=ce (dS t f))]) λ_ _=>J))
theorem F4{H:MH}{Q:Fl->ae->MH->Prop}{a A:Addr}(c:a≠A)(E:M.length<=1000)(O:H a=S (.list<|ce M))(w:H A=S (.list []))(q:∀d p,d A=S (.list<|ce<|dS (.quo b m u) M)->(∀b,b≠A->d b=H b)->Q .next [L,G,B,i,S (Tl.quo b m u).v,S<|.ref A,S (.int (u+eJ (M.map (·.1)))),p] d):cC n X (.one 7) (λH=>H a=S (.list<|ce M)) FA Q (ce M) [L,G,B,i,S (Tl.quo b m u).v,S<|.ref A,S<|.int u,p] H:=by{
have:=LW (n:=n) (X:=X) (b:=FA) (U:=λs=>S<|.int<|u+eJ s) c E (λf x I z8 w E j=>?_) M [] p H J O w q
.rw[show u+eJ (([]:List gh).map (·.1))=u from uT u] at this;exact this
.have i2:∀{l:ae} {k:Nat} {v:V},l.at 4=S (Tl.quo b m u).v->[.str 230,.bool b,.int m,.int u][k]?=S v->fh k 1000000=T->Pv (an n T) l I _ v:=λh w D=>cG (ab h) (ar) w (fY.mp D);refine aW ((iz (ab J) (cG (ab J) (ar) J (by decide))).to (congrArg V.int (show u+eJ (f.map (·.1))+x.1.2=u+eJ ((f++[x]).map (·.1)) by exact aa cK (aa (show eJ (f.map (·.1)++[x].map (·.1))=_ from xe)<|mf ..))))<|KL w E ((bC (wd (ab J)<|i2 J J J) (i2 J J J) λ_=>J).to<|congrArg (λz=>V.bool<|decide (z>=m)==b) ?_) j;exact aa cK (aa (show eJ (f.map (·.1)++[x].map (·.1))=_ from xe)<|aa (mf ..) J)}
theorem Uv{H:MH}{Q:Fl->ae->MH->Prop}{s A:Addr}(c:s≠A)(E:M.length<=1000)(O:H s=S (.list<|ce M))(w:H A=S (.list []))(q:∀d p,d A=S (.list<|ce<|dS .lim M)->(∀b,b≠A->d b=H b)->Q .next [L,G,B,i,m,S<|.ref A,e,p] d):cC n X (.one 7) (λH=>H s=S (.list<|ce M)) IF Q (ce M) [L,G,B,i,m,S<|.ref A,e,p] H:=
 LW (U:=λ_=>e) c E (λf x I z8 w E j=>KL w E (by{
refine let P:=_;(?_:Pv _ P _ _ _)
have a:(ce<|dS .lim f).length<=1000:=am NX E;have R:gA .lim (f.map (·.1)) x.1=((ce<|dS .lim f).isEmpty||(match lP (f.map (·.1)) with|none=>T|some k=>decide<|x.1.1-k>=1000)):=by show(match lP (f.map (·.1)) with|none=>T|some k=>decide<|x.1.1-k>=1000)=_;refine aa JS ?_;cases dS .lim f<;>rfl
refine aa R<|eW (NK (ab J) w a) λz=>JS▸?_
induction o:(dS .lim f).getLast? using aV with
|none=>rw[PU] at o;replace z:=o▸z;exact ak z
|some y=>exact wd (mM (cG (ab J) (ar (i:=(1:Nat))) J (by decide)) (cG (Ei (v:=iU y) J (ab J) w a (by rw[ce,PV,o];rfl)) (ar (i:=(1:Nat))) J (by decide))) ar}) j) M [] p H J O w q
theorem nP:Ec cx l H (.list .nil) (λQ=>∀f,H f=N->Q (.ref f) (H.set f<|.list [])) nX:=zQ bc<|bW _
theorem P0:dS (.ctr p o) L=L:=by{
suffices z:∀P,lu _ P L=L from z []
induction L with
|nil=>exact λ_=>J
|cons x L Z=>exact λP=>congrArg (x::·)<|Z _}
theorem Qh(G:Pv cx l H a u)(M:Pv cx l H b v)(C:Gv cx l H c w):Gv cx l H (.tup<|.cons a<|.cons b<|.cons c .nil) (.tup [u,v,w]):=λI g X Q q=>G I g X _ (M I g X _ (C I g X _ λd t=>⟨by exact(by decide:3<=1000000),q d t⟩))
theorem wC(h:Pv cx l H a<|.int x)(C:Gv cx l H b<|.int y):Gv cx l H (.bin .add a b) (.int<|x+y):=λI g X Q q=>h I g X _<|C I g X _ q
theorem Gr.set(g:Gr H I)(h:H a=N):Gr H (I.set a o):=λb D n=>(MH.c9 λz=>D (by refine aa z ?_;exact h)).trans<|g b D n
theorem ZG{H:MH}(B:H U=N):∀(I:List Tl) (L:List gh) (h1:List V) (s:Addr) (x4 j d f:Option V) (h0:MH),Gr H h0->h0 s=S (.list<|ce L)->h0 U=S (.list h1)->s≠U->L.length<=1000->h1.length+I.length<=1000->(∀Y P x4 j d f,Gr H Y->Y P=S (.list<|ce<|jW I L)->Y U=S (.list (h1++jO I (L.map (·.1))))->wpSs (an n T) X r (cL Q) [a0,G,S<|.ref P,S<|.ref U,x4,j,d,f] Y)->cC n X (.one 4) (λ_=>True) FM (dE (an n T) X r<|cL Q) (I.map Tl.v) [a0,G,S<|.ref s,S<|.ref U,x4,j,d,f] h0:=by{
intro I
induction I with
|nil=>intro L h1 s x4 j d f h0 g O R _ _ _ k;exact fH trivial (nx (k h0 s x4 j d f g O (by exact aa (show jO [] (L.map (·.1))=[] from rfl)<|aa (fm ..) R)))
|cons t I ih=>{
intro L h1 s x4 j d f h0 g O R ne E u k;refine let za:=_;(?_:cC _ _ _ _ _ _ _ za _)
have e:h1.length<=1000000:=am (am (eF _ _) u) (by decide);have h2:∀{b A:Addr} {L:List V},h0 A=N->h0 b=S (.list L)->b≠A:=λh C z=>by replace C:=h▸z▸C;exact aD C
have a:∀H2 P (x4 d f),Gr H H2->H2 P=S _->P≠U->wpSs (an n T) X (.cons (.asg 2<|.loc 5) .nil) (pJ (cC n X _ (λ_=>True) FM (dE (an n T) X r<|cL Q)<|I.map Tl.v)<|dE (an n T) X r<|cL Q) [a0,G,S<|.ref s,S _,x4,S _,d,f] (H2.set U _):=λH2 P x4 d f g2 h6 h5=>aW (ab J) (ic (ih (dS t L) (h1++[(xi (L.map (·.1)) t).v]) P x4 _ d f _ (g2.set B) ((MH.c9 h5).trans h6) MH.c5 h5 (am (FF).length_le E) (by rw[bV,fZ,fF _ I.length];exact u) λY h7 x4 j d f g' h8 h9=>k Y h7 x4 j d f g' h8 (by refine aa h9<|aa (ip ..)<|aa Nt ?_;rfl)))
have h3:∀{A:Addr},h0 A=N->Gr H (h0.set A<|.list []):=λh=>g.set<|g.none h;have q:∀{l:ae} {H:MH} {k:Nat} {w:V} {Z:List V},l.at 4=S _->Z[k]?=S w->fh k 1000000=T->Pv (an n T) l H _ w:=λh hk hb=>cG (ab h) (ar) hk<|fY.mp hb;refine dh trivial J<|dk nP (λA x=>?_) trivial;have M:=h2 x R;have i:(h0.set A<|.list []) U=S _:=(MH.c9 M).trans R;have D:(h0.set A<|.list []) s=S _:=(MH.c9<|h2 x O).trans O
induction t using Tl.casesOn with
|ctr p o=>
 have lx:(ce L).length=(L.map (·.1)).length:=by rw[ce,aL,aL]
 refine aH (t:=T) (bC (q J J J) aQ λ_=>J) (λ_=>aW (ab J) (KD (ab J) i e (Qh aQ ((iz (q (k:=1) J J J) (iB J (ab J) D (by exact aa lx<|aa (aL ..)<|bh E))).to (by exact aa lx J))<|wC (q J J J)<|XG J D E J λv=>(aG _ J J)) λH2 g2=>aK (a H2 s _ d f ((h3 x).trans g2) (by refine aa P0 ?_;exact g2.at D) ne))) λz=>ak z
|quo b m z0=>refine aH (t:=F) (bC (q J J J) aQ λ_=>J) (λz=>ak z) λ_=>aH (t:=T) (bC (q J J J) aQ λ_=>J) (λ_=>aW (q J J J) (iY J (by rw[ce,aL];exact bh E) (pB (ab J) D) (F4 (h2 x O) E D MH.c5 λH2 f h4 y=>nx (KD (ab J) ((y U M).trans i) e (cP (aB aQ<|aB (q (k:=1) J J J)<|aB (q J J J)<|aM J) (by exact(by decide:4<=1000000))).gv λH3 g3=>aK (aK (a H3 A _ _ f (Gr.trans (λc u nm=>(y c λz=>u (by refine aa z ?_;exact g.none x)).trans<|h3 x c u nm) g3) (g3.at h4) M.symm)))))) λz=>ak z
|lim=>exact aH (t:=F) (bC (q (k:=0) J J J) aQ λ_=>J) (λz=>ak z) λ_=>aH (t:=F) (bC (q (k:=0) J J J) aQ λ_=>J) (λz=>ak z) λ_=>iY J (by rw[ce,aL];exact bh E) (pB (ab J) D) (Uv (h2 x O) E D MH.c5 λH2 f h4 y=>nx (lM (ab J) ((y U M).trans i) e (ab J) (aK (aK (a H2 A _ d f (λc u nm=>(y c λz=>u (by refine aa z ?_;exact g.none x)).trans<|h3 x c u nm) h4 M.symm)))))}}
theorem RI:cA 9 H (iU x) (iU y)=S (decide<|x=y):=by have e:cA 9 H (iU x) (iU y)=S ((x.2==(y.2:Int))&&((x.1.1==y.1.1)&&((x.1.2==y.1.2)&&T))):=J;refine aa e<|congrArg S<|Bl.mpr ?_;refine aa (kc ..)<|aa (kc ..)<|aa (qi ..) ?_;rw[beq_iff_eq,beq_iff_eq,beq_iff_eq,decide_eq_true_iff];exact⟨λz=>uW (uW z.2.1 z.2.2)<|fL.mp z.1,λz=>by exact aa z<|bp J J J⟩
theorem Nw{H:MH}(u:H i=S (.list<|ml s))(b:s.length<=1000)(v:I.length<=1000):Cp (n+1) T H 57 [.tup<|I.map Tl.v,.ref i] (λQ=>∀d Y,H d=N->Y d=S (.list<|jO I s)->Gr H Y->Q (.tup [.ref d,.bool<|Ff (jW I s.zipIdx) s.zipIdx]) Y) nX:=λQ X q _=>by{
have a:s.zipIdx.length<=1000:=by exact aa (sH) b
have u:H i=S (.list<|ce s.zipIdx):=u;refine aR [S _,S _,N,N,N,N,N,N] J J (aW (ab J) (dk nP (λU D=>iY J (by exact aa (aL ..)<|bh v) (wV<|ab J) (ZG D I s.zipIdx [] i N N N N _ (Gr.new D) ((Gr.new D).at u) MH.c5 (λz=>by replace u:=D▸z▸u;exact aD u) a (by exact aa jF<|aa (da ..) v) λc e l j f p t G M=>let P:=_;(?_:wpSs _ _ _ _ P _))) trivial));rw[qv,Hl] at M;have g:(ce<|jW I s.zipIdx).length<=1000:=by rw[ce,aL];exact am Cy.length_le a
have L:(ce<|jW I s.zipIdx).length=(jW I s.zipIdx).length:=aL _;refine aZ (gI (ab J)<|dD ((nV (iB J (ab J) G<|bh g) ar).to<|congrArg V.bool ?_) λw=>?_)<|q U c D M t
.exact aa L<|decide_eq_decide.mpr cM
.have w:=of_decide_eq_true w
 induction o:(jW I s.zipIdx).getLast? using aV with
 |none=>rw[PU] at o;rw[o] at w;exact absurd w<|jZ 0
 |some y=>{
induction E:s.zipIdx.getLast? using aV with
|none=>rw[PU] at E;rw[E] at w;have:=Cy (I:=I) (L:=[]);rw[List.sublist_nil.mp this] at w;exact absurd w<|jZ 0
|some k=>refine bC (Ei J (ab J) G g (by rw[ce,PV,o];rfl)) (Ei J (ab J) (t.at u) (by rw[ce,aL];exact a) (by rw[ce,PV,E];rfl)) λH=>?_;refine RI.trans<|congrArg S<|decide_eq_decide.mpr ⟨λz=>congrArg S z,aA⟩}}
theorem JJ{a b:List V}(h:MO.list a= .list b):a=b:=by injection h
theorem DQ{D:Type}{f:D->V}{L:List D}(h:∀x,f x≠.int t):(L.map f)[2]?≠S (.int t):=λz=>by rw[gy] at z;exact af (jf.mp z) λx a=>ai (λ_ e=>h x e)<|a
theorem FH{H:MH}(h:H a=S (.list<|pK r i))(C:H b=S (.list L))(n:L[2]?≠S (.int r.til)):b≠a:=λz=>by replace C:=h▸z▸C;exact n (by refine au (JJ<|aA C) ?_;rfl)
theorem LA.turn{Y:MH}{z:Lz}{f:Addr}{I:dN}(w:LA H o (l++z::k) R)(g:Y z.1=S (.list<|pK I f))(M:Y f=S (.list<|ml I.evs))(B:∀b,H b≠N->b≠z.1->Y b=H b)(c:f=z.2.1\/H f=N):LA Y o (l++(z.1,f,z.2.2.1,I)::k) (l.map (·.2.2)++(z.2.2.1,I)::k.map (·.2.2))/\bL (Lp o<|l++z::k) (Lp o<|l++(z.1,f,z.2.2.1,I)::k) H Y:=by{
have a:z∈l++z::k:=cp.mpr<|.inr<|bw _;have d:∀{y},y∈l\/y∈k->y∈l++z::k:=λg=>cp.mpr<|g.imp id λg=>cq _ g;have P:=w.nd;rw[cK,oO,Hn] at P;refine ai (λ_ L=>ai (λm u=>?_)<|L)<|P;have X:=λy g i=>by exact dP (g) (λg=>u y.1 (bZ.mpr ⟨y,g,J⟩) z.1 (bw _) i) λg=>(fq.mp m).1<|bZ.mpr<|aG y g i
have p:∀{y},y∈l++(z.1,f,z.2.2.1,I)::k->(y∈l\/y∈k)\/y=(z.1,f,z.2.2.1,I):=λg=>by exact dP (cp.mp g) (λg=>.inl<|.inl g) λg=>(bJ.mp g).elim .inr λg=>.inl<|.inr g
refine⟨⟨(B o (by refine aa w.h ?_;exact(by intro z;cases z)) (FH (w.r z a).h w.h (DQ λx=>(by intro z;exact V.noConfusion z)))).trans (w.h.trans (by refine aa cK<|aa cK ?_;rfl)),by refine aa cK ?_;rfl,λy n=>?_,by have:=w.nd;rw[cK] at this ⊢;exact this⟩,λb D v=>B b D λi=>v<|.inr<|aG z a<|.inl i,λb D=>?_⟩
.refine dP (p n) (λn=>?_) λn=>aa n ⟨g,M⟩;have j:=w.r y<|d n;refine⟨(B _ (by refine aa j.h ?_;exact(by intro z;cases z))<|X y n).trans j.h,(B _ (by refine aa j.e ?_;exact(by intro z;cases z)) (FH (w.r z a).h j.e (DQ λx=>(by intro z;exact V.noConfusion z)))).trans j.e⟩
.rcases D with D|⟨y,n,D⟩
 .exact .inl<|.inl D
 .refine dP (p n) (λn=>.inl<|.inr<|aG y (d n) D) λn=>?_;replace D:=n▸D;exact dP (D) (λD=>.inl<|.inr<|aG z a<|.inl D) λD=>dP (c) (λi=>.inl<|.inr<|aG z a<|.inr<|D.trans i) λi=>.inr (by refine aa D ?_;exact i)}
theorem Yq(h:Pv cx l H c<|.ref f)(G:H f=S (.list L))(E:L.length<=1000)(R:L.isEmpty=F->Ec cx l H a D g)(d:L.isEmpty=T->Ec cx l H b D g):Ec cx l H (.ite c a b) D g:=λQ X q x=>
 h H Gr.rfl X _ (bq (show(eS<|H f).bind sI=S (!L.isEmpty) by exact aa G<|if_pos<|bh E) (by{
induction u:L.isEmpty using aX with
|true=>exact d u Q X q x
|false=>exact R u Q X q x}))
theorem FS{k:Nat}(h:Ec cx l H e D g):Ec cx l H (.idx e<|.int k) (λQ=>D λv Y=>wK Q Y v<|.int k) g:=λQ X q x=>h _ X q x
theorem M6(G:Pv cx l H a u)(M:Pv cx l H b v)(C:Pv cx l H c w)(s:Ec cx l H d D g):Ec cx l H (.tup<|.cons a<|.cons b<|.cons c<|.cons d .nil) (λQ=>D λx Y=>[u,v,w,x].length<=1000000/\Q (.tup [u,v,w,x]) Y) g:=λQ X q x=>G H Gr.rfl X _ (M H Gr.rfl X _<|C H Gr.rfl X _<|s _ X q x)
theorem IX(w:nQ H a i r)(Z:r.evs=[]->r.inn=[])(E:r.evs.length<=1000)(j:r.inn.length<=1000):Cp (n+2) T H 65 [.ref a,.int G] (λQ=>∀d Y,H d=N->Y d=S (.list<|jO r.inn r.evs)->Gr H Y->Q (.tup [rd r G,.int r.til,.int r.tmo,.ref d]) Y) nX:=λQ X q _=>by{
have b:∀{l:ae} {k:Nat} {v:V},l.at 0=S _->(pK r i)[k]?=S v->fh k 1000000=T->Pv (an (n+1) T) l H _ v:=λh o D=>lC w (ab h) o D;have x:(ml r.evs).length=r.evs.length:=by rw[ml,aL,sH]
have p:cond (r.til==0) (V.int 0) (.int<|max 1<|r.til-G)= .int (AP r G):=by{
refine aa (iX V.int)<|aa (Int.max_comm ..) ?_;unfold AP;by_cases c:r.til=0
.refine aa (beq_iff_eq.mpr c)<|aa (if_pos c) ?_;rfl
.refine aa (beq_eq_false_iff_ne.mpr c)<|aa (if_neg c) ?_;rfl}
refine aR [S _,S _,N] J J (aW (v:=rd r G) (cP (aB (b J J J)<|aB (b J J J)<|aB ((iw (gF (b (k:=2) J J J) ar) (λ_=>ar) λ_=>yL J ar<|mM (b (k:=2) J J J)<|ab J).to p)<|aB (b J J J) bc) (by decide:4<=1000000)) (let P:=_;(?_:wpSs _ _ _ _ P _)));refine fv (M6 (D:=λQ=>∀d Y,H d=N->Y d=S _->Gr H Y->Q (.ref d) Y) (g:=nX) (ab J) (b (k:=2) J J J) (b J J J) (Yq (b J J J) w.e (by refine aa x ?_;exact E) (λ_=>?_) λz=>?_)) (λd Y e M g=>⟨by exact(by decide:4<=1000000),q d Y e M g⟩) trivial
.exact λQ X q _=>FS (dC (aB (b J J J)<|aB (b J J J) bc)<|Nw w.e E j) Q X (λd Y e M g=>zC J (by decide)<|q d Y e M g) trivial
.have f:r.evs=[]:=abs (by
  refine au x ?_;exact abi.mpr<|On.mp z)
 exact λQ X q _=>nP Q X (λd m=>q d _ m (by refine au MH.c5.symm<|(Z f).symm▸?_;rfl)<|Gr.new m) trivial}
theorem Zj:ml (s++[e])=ml s++[iU (e,s.length)]:=by unfold ml;refine aa Hj<|aa (da ..)<|cK.trans ?_;rfl
theorem Qr(h:Pv cx l H a<|.ref f)(G:H f=S (.list L))(E:L.length<=1000)(C:Pv cx l H e v):Ec cx l H (.bin .add a<|.list<|.cons e .nil) (λQ=>∀c Y,H c=N->Gr H Y->(∀b,b≠c->H b≠N->Y b=H b)->Y c=S (.list<|L++[v])->Q (.ref c) Y) nX:=λQ X q _=>
 h H Gr.rfl X _ (zQ (aB C bc) (by decide:1<=1000000) _ X (λg R=>⟨L,[v],congrArg eS<|(Gr.new R).at G,congrArg eS MH.c5,by exact aa bV (am (sA E _) (by decide:1000+1<=1000000)),λc u=>by have t:=(Gr.new R).trans<|Gr.new (o:=.list<|L++[v]) u;exact q c _ ((Gr.new R).none u) t (λb _ D=>t b D aJ) MH.c5⟩) trivial)
theorem Tq{Q:QV}{z:Lz}{Z:Int}(w:LA H o (A++z::E) R)(u:z.2.2.2.evs.length<1000)(ht:z.2.2.2.inn.length<=1000)(q:∀Y c,LA Y o (A++(z.1,c,z.2.2.1,{z.2.2.2 with evs:=z.2.2.2.evs++[(G,Z)]})::E) (A.map (·.2.2)++(z.2.2.1,{z.2.2.2 with evs:=z.2.2.2.evs++[(G,Z)]})::E.map (·.2.2))->bL (Lp o<|A++z::E) (Lp o<|A++(z.1,c,z.2.2.1,{z.2.2.2 with evs:=z.2.2.2.evs++[(G,Z)]})::E) H Y->Q (.tup [oz<|fW z.2.2.2.inn z.2.2.2.evs (G,Z),.ref o]) Y):wpSs (an (n+1) T) X (hU 3 Fs) (cL Q) [S<|.ref o,h0,B,i,m,a5,S<|.int G,S<|.int Z,a8,a9,S<|zf z,h1] H:=by{
refine let P:=_;let C:=_;let j:=_;(?_:wpSs P _ _ C j _)
obtain⟨a,ev,U,r⟩:=z;have W:=w.r _<|cp.mpr<|.inr<|bw _;have x:(ml r.evs).length=r.evs.length:=by rw[ml,aL,sH]
have e:∀{l:ae} {O:MH} {k:Nat} {v:V} {I:dN} {f:Addr} {cx:Cx},O a=S _->l.at 10=S _->(pK I f)[k]?=S v->fh k 1000000=T->Pv cx l O _ v:=λh h2 hk D=>iJ (ab h2) h (ar) hk<|fY.mp D;have tv:Pv (an (n+1) T) [S<|.ref o,h0,B,i,m,a5,S _,S<|.int Z,a8,a9,S<|zf (a,ev,U,r),h1] H (.tup<|.cons _<|.cons (.loc 6)<|.cons (.loc 7) .nil) (iU ((G,Z),r.evs.length)):=(cP (aB (iB J (e (k:=6) W.h J J J) W.e (by exact aa x (am (bU u) (by decide))))<|aM J) (by exact(by decide:3<=1000000))).to (by refine aa x ?_;rfl);refine cc ((Qr (e W.h J J J) W.e (by exact aa x<|bU u) tv) _ _ (λc H2 g t o2 M=>?_) trivial);rw[<-Zj] at M;refine El (t.at W.h) (by decide:6<7) (by decide) ?_;obtain⟨L,h3⟩:=w.turn (I:={r with evs:=r.evs++[(G,Z)]}) MH.c5 ((MH.c9 (λz=>by rw[z,W.h] at g;cases g)).trans M) (λb D ne=>(MH.c9 ne).trans<|t b D aJ)<|.inr g;refine dk (FS (dC (aB (e (L.r _<|cp.mpr<|.inr<|bw _).h J J J)<|aB (e (L.r _<|cp.mpr<|.inr<|bw _).h J J J) bc) (Nw (I:=r.inn) (L.r _<|cp.mpr<|.inr<|bw _).e (by exact aa bV u) ht))) (λd p hd h4 y=>zC J (by decide) ?_) trivial;refine aa XC (aZ (gI (iw (ab J) (λ_=>eh) λ_=>cP (aM J) (by decide))<|ab J) ?_);have:=q p _ (L.gr y)<|h3.trans y.f5
induction s:fW r.inn r.evs (G,Z) using aX with
|true=>rw[s] at this;exact this
|false=>rw[s] at this;exact this}
theorem RV{i m:Nat}{P:Nat->Bool}(O:cx.hn=T)(h:Pv cx l H e<|.int m)(E:m<=1000)(D:∀j:Nat,j<m->∃C,cT (.one i) (.int j) (fD (.one i) l)=S C/\C.at i=S (.int j)/\Gv cx C H A (.bool<|P j)):Gv cx l H (.cmp (.int 0) .lt<|.bi .len<|.cons (.comp (.loc i) (.one i) (.range1 e) A) .nil) (.bool<|!(cE m).all λj=>!P j):=λI g X Q q=>
 cj O ⟨O,zj (h.gr g) (bh E) _ ⟨by exact aa nk<|aa ow<|bh E,by{
refine let a:=_;((nk▸yt▸(xr (p:=P) (f:=λj:Nat=>V.int j) (λ_ _=>trivial) Gr.rfl (by exact aa jF<|aa (da ..)<|aa sE<|bh E) (λj h9=>?_) λY t d b=>bq MH.c5 ⟨?_,?_⟩)):kF _ _ _ _ a _ _ _)
.exact let p:=_;((af (D j<|kg.mp h9) λC L=>ai (λG y=>ai (λM c=>(bl C G (Gv.gr c g) λ_=>(ab M).gv))<|y)<|L):p)
.refine aa (qv ..) (aa (aL ..) ?_);exact am (lg _ _) (by exact aa sE<|bh E)
.have e:decide (0<((([]++((cE m).filter P).map λj:Nat=>V.int j).length:Nat):Int))=!(cE m).all λj=>!P j:=by{
refine aa (qv ..)<|aa (aL ..) ?_
induction f:(cE m).all λj=>!P j using aX with
|true=>
 have:(cE m).filter P=[]:=PP.mpr λj h9 z=>by have:=im.mp f j h9;replace this:=z▸this;exact ak this
 refine aa this ?_;rfl
|false=>{
refine aU (PR.mp f) λj h9 z=>?_;refine decide_eq_true<|cM.mpr<|List.length_pos_of_mem<|dZ.mpr ⟨h9,?_⟩
induction k:P j using aX with
|true=>rfl
|false=>replace z:=k▸z;exact absurd J z}}
 have q:=q _<|t.trans<|Gr.new (o:=.list<|[]++((cE m).filter P).map λj:Nat=>V.int j) b;rw[<-e] at q;exact q}⟩⟩
def zU:Nat->Int
 |0=>15
 |_=>3
theorem KH{D:Type}{l:List D}(h:l.length=1):∃a,l=[a]:=by{
induction l using aS with
|nil=>cases h
|cons a r=>induction r using aS with
 |nil=>exact⟨a,J⟩
 |cons _ _=>cases h}
theorem F5(E:m=1\/m=2)(o:u.length=m):((cE u.length).all λj=>!decide (u[j]?.getD 0>zU j))=iG (bP m) u:=by{
have k:∀(a b c:Int),c=b+1->(!decide (a>b))=decide (a<c):=λa b c e=>by refine au decide_not ?_;exact decide_eq_decide.mpr (bT.trans (by exact aa e abt.symm))
rcases E with e|e
.subst e;obtain⟨a,e⟩:=KH o;subst e;refine(?_:((!decide (a>15))&&T)=(decide (a<2^4)&&T));exact aa (k a 15 (2^4) J) J
.subst e;refine mw (zO o) λa b e=>?_;refine aa e ?_;refine(?_:((!decide (a>15))&&((!decide (b>3))&&T))=(decide (a<2^4)&&(decide (b<2^2)&&T)));exact aa (k a 15 (2^4) J)<|aa (k b 3 (2^2) J) J}
def ph(s:bj)(b:Nat)(u:List Int)(t:Int)(I:List Tl)(G Z:Int)(o:Option ay)(R:List ay):V:=cond (b==238) .none (match be G o with
 |some e=>oz<|fW e.2.inn e.2.evs (G,Z)
 |none=>cond (iG (bP s.m) u&&gZ s (bG R G)) (oz<|fW I [] (G,Z)) brk)
def rQ(s:bj)(b:Nat)(u:List Int)(t:Int)(I:List Tl)(G Z:Int)(o:Option ay)(R:List ay)(a:Addr):List ay:=cond (b==238) (cond (be G<|bI R<|fB u).isSome (jo R<|fB u) R) (match be G o with
 |some e=>R.map<|iZ e.1<|og s b t G Z
 |none=>cond (iG (bP s.m) u) (cond (gZ s<|bG R G) (bG R G++[(a,{pD s u t I G with evs:=[(G,Z)]})])<|bG R G) R)
theorem mH.eq(h:mH s b u t I G Z o R L v):v=ph s b u t I G Z o R/\∃a,L=rQ s b u t I G Z o R a:=by{
delta ph rQ
induction h using mH.casesOn with
|gone h x=>exact aa h<|aa x<|⟨J,0,J⟩
|kept h x=>exact aa h<|aa x<|⟨J,0,J⟩
|hit h e x=>exact aa (beq_eq_false_iff_ne.mpr h)<|aa x<|⟨J,0,J⟩
|out h x i=>exact aa (beq_eq_false_iff_ne.mpr h)<|aa x<|aa i<|⟨J,0,J⟩
|full h x i z=>exact aa (beq_eq_false_iff_ne.mpr h)<|aa x<|aa i<|aa z<|⟨J,0,J⟩
|new h x i z a=>exact aa (beq_eq_false_iff_ne.mpr h)<|aa x<|aa i<|aa z<|⟨J,a,J⟩}
theorem QO(g:cZ k m R):(R.filter λe=>!decide (e.2.box=b)||!e.2.live G)=cond (be G<|bI R b).isSome (jo R b) R:=by{
induction h:be G (bI R b) using aV with
|some x=>{
refine let p:=_;(?_:p)
obtain⟨a,M⟩:=mj.mp h;obtain⟨f,D⟩:=(g.byBox x).mp a;refine yc λe u=>?_;by_cases c:e.2.box=b
.refine aa (g.box u f<|c.trans D.symm)<|aa M ?_;exact yf _
.refine aa (decide_eq_false c) ?_;rfl}
|none=>{
refine qm.mpr λe u=>?_;by_cases c:e.2.box=b
.rw[(g.byBox e).mpr ⟨u,c⟩] at h
 induction o:e.2.live G using aX with
 |true=>rw[show be G _=S e from(iQ).trans<|if_pos o] at h;cases h
 |false=>exact PT _
.refine aa (decide_eq_false c) ?_;rfl}}
theorem LZ{l:ae}(w:LA H o Z R)(g:cZ k m R)(r:l.at j=S (.ref o))(D:∀z∈Z,∃C,cT (.one i) (zf z) (fD (.one i) l)=S C/\C.at i=S (zf z)/\Pv (an (n+1) T) C H I (bv b)/\Pv (an (n+1) T) C H f (.int G)):Ec (an (n+1) T) l H (.comp (.loc i) (.one i) (.ex<|.loc j)<|.bop F<|.cons (.cmp (.idx (.loc i)<|.int 0) .ne I)<|.cons (.not<|.callF 58<|.cons (.loc i)<|.cons f .nil) .nil) (λQ=>∀d Y u,Gr H Y->H d=N->LA Y d u (cond (be G<|bI R b).isSome (jo R b) R)->bL (Lp o Z) (Lp d u) H Y->Q (.ref d) Y) nX:=λQ X q _=>
 wq (q:=λe=>!decide (e.2.box=b)||!e.2.live G) w g.z r (λz E=>by{
refine let p:=_;((af (D z E) λC L=>ai (λh y=>ai (λM x=>ai (λt s=>?_)<|x)<|y)<|L):p)
exact(bl C h M ((eW ((bC (lC (w.r z E) (ab M) J) t λ_=>congrArg (uV (!·)) BZ:Pv _ C H (.cmp (ME.idx (ME.loc i)<|ME.int ↑0) .ne I)<|.bool !decide (_=b))) λ_=>ni<|cH (aB (ab M)<|aB s bc)<|uq<|w.r z E).gv))}) Q X (λd Y a c v=>q d Y _ a c (by refine au (QO g) ?_;exact v)<|AX (λe=>!decide (e.2.box=b)||!e.2.live G) w a c) trivial
theorem LA.m5{b:dN}(w:LA H o (Z++[(a,i,x,b)])<|R++[(x,b)]):LA H o (Z++[(a,i,B,b)]) (R++[(B,b)]) where
 h:=w.h.trans (by refine aa cK<|aa cK ?_;rfl)
 e:=by
  have:=w.e;rw[cK] at this ⊢;refine aa ((List.append_inj' this J).1) ?_;rfl
 r:=λz E=>by
  rcases cp.mp E with c|c
  .exact w.r z<|cp.mpr<|.inl c
  .exact aa (cJ.mp c)<|w.r (a,i,x,b)<|cp.mpr<|.inr<|bw _
 nd:=by
  have:=w.nd;rw[cK] at this ⊢;exact this
theorem bL.m5(c:bL j (Lp o<|Z++[(a,i,x,r)]) H Y):bL j (Lp o<|Z++[(a,i,B,r)]) H Y:=⟨c.keep,λb h=>c.new b ((by{
refine let P:=_;(?_:Lp _ P _)
rcases h with h|⟨z,E,h⟩
.exact .inl h
.rcases cp.mp E with C|C
 .exact .inr ⟨z,cp.mpr<|.inl C,h⟩
 .rw[cJ.mp C] at h;exact .inr<|aG _ (cp.mpr<|.inr<|bw _) h}))⟩
theorem TB(g:cZ k m<|A++e::B)(I:∀x∈A++e::B,∀y∈A++e::B,x.1=y.1->x=y):(A++e::B).map (iZ e.1 f)=A++(e.1,f e.2)::B:=by
 have a:e∈A++e::B:=cp.mpr<|.inr<|bw _;have U:∀x,x=e->df x.2.box e.2.box=F->False:=λx h w=>by rw[h,sX (g.ok e a).full] at w;exact ak w
 have i:∀C:List ay,(∀x∈C,x.1≠e.1)->C.map (iZ e.1 f)=C:=λC h=>(uY λx b=>if_neg<|h x b).trans<|yh C;exact cK.trans (aa oO (aa (i A λx b c=>U x (I x (cp.mpr<|.inl b) e a c)<|(BU.mp g.ap).2.2 x b e<|bw _) (aa (i B λx b c=>by have w:=(sC.mp (BU.mp g.ap).2.1).1 x b;rw[I x (cp.mpr<|.inr<|cq _ b) e a c,sX (g.ok e a).full] at w;exact ak w) (congrArg (A++·::B)<|if_pos J))))
theorem JD:fQ s b t G r=cond ((b==276)&&!(r.tmo==0)) {r with til:=G+mP s r t} r:=by{
unfold fQ;by_cases c:b=276
.by_cases d:r.tmo=0
 .refine aa (if_neg λz=>z.2 d)<|aa (beq_iff_eq.mpr c)<|aa (beq_iff_eq.mpr d) ?_;rfl
 .refine aa (if_pos ⟨c,d⟩)<|aa (beq_iff_eq.mpr c)<|aa (beq_eq_false_iff_ne.mpr d) ?_;rfl
.refine aa (if_neg λz=>c z.1)<|aa (beq_eq_false_iff_ne.mpr c) ?_;rfl}
def wY(cx:Cx)(l:ae)(H:MH)(j:MEs)(Z:List V):Prop:=∀I,Gr H I->∀(X:QE) (Q:List V->MH->Prop),(∀d,Gr I d->Q Z d)->wpEs cx X l j Q I
theorem zV:wY cx l H .nil []:=λI _ _ _ q=>q I Gr.rfl
theorem jL(h:Gv cx l H e v)(C:wY cx l H j Z):wY cx l H (.cons e j) (v::Z):=λI g X Q q=>h I g X _ λd t=>C d (g.trans t) X _ λu i=>q u<|t.trans i
theorem FY(h:wY cx l H j Z)(E:Z.length<=1000000):Gv cx l H (.tup j) (.tup Z):=λI g X Q q=>h I g X _ λd t=>⟨E,q d t⟩
theorem R4{D:MH->QV->Prop}(h:wY (an n O) l H j Z)(c:∀Y,Gr H Y->Cp n O Y f Z (D Y) nX):Ec (an n O) l H (.callF f j) (λQ=>∀Y,Gr H Y->D Y Q) nX:=λQ X q _=>h H Gr.rfl X _ λY g=>c Y g Q X (q Y g) trivial
theorem C0{s:bj}(w:LA H ra h0 R)(g:cZ k m R)(z3:∀x∈R,∀y∈R,x.1=y.1->x=y)(ho:Is R (λe=>eY e.2.box u=T) o) (em:s.m=m) (hl:u.length=m) (hs:0<=s.size)(he:∀e∈R,e.2.evs.length<1000) (z4:∀e∈R,e.2.inn.length<=1000) (ht:I.length<=1000):Cp (n+3) T H 64 [.ref ra,s.v,.str op,eV u,.int t,.tup<|I.map Tl.v,.int G,.int Z] (λQ=>∀Y h4 (Z':Addr->List Lz),(∀a,LA Y h4 (Z' a) (rQ s op u t I G Z o R a)/\bL (Lp ra h0) (Lp h4<|Z' a) H Y)->Q (.tup [ph s op u t I G Z o R,.ref h4]) Y) nX:=λQ X q _=>by{
have h3:m=1\/m=2:=by{
have:=g.hm
induction k using Kd.casesOn with
|plain=>exact this
|span=>exact .inl this
|tabs=>exact .inr this}
have D:u.length<=1000:=by refine aa hl ?_;rcases h3 with e|e<;>rw[e]<;>decide
have h1:∀{z},z∈h0->z.2.2∈R:=λh=>by exact w.e▸bZ.mpr (aG _ h J)
delta ph rQ at q;refine aR [S<|.ref ra,S s.v,S<|.str op,S<|eV u,S<|.int t,S<|.tup<|I.map Tl.v,S<|.int G,S<|.int Z,N,N,N,N] J J (dk (wq (i:=12) (j:=0) (q:=λe=>e.2.live G&&eY e.2.box u) w g.z J λz E=>(bl _ J J (DK (cH (aM J)<|uq (n:=n+1)<|w.r z E) λ_=>nZ (aB (lC (w.r z E) (k:=0) (ab J) J)<|aM J) (HQ ((g.ok _<|h1 E).len.1.trans hl.symm) (by refine aa ((g.ok _<|h1 E).len.1)<|hl▸?_;exact D))))) (λfd H1 g1 z7 LF=>?_) trivial);have L1:=w.gr g1;refine aH (bC (ab J) aQ λ_=>J) (λA=>?_) λA=>aK ?_
.replace q:=A▸q;refine dk (Es (u:=u) J (ab J) (λv=>(aG _ J J)) D) (λH2 g2=>fv (DP eh<|LZ (n:=n+1) (i:=12) (j:=0) (b:=fB u) (L1.gr g2) g J λz E=>(yQ _ J J (ab J)<|ab J)) (λd H3 Z3 g3 hd L M=>⟨by exact(by decide:2<=1000000),q H3 d (λ_=>Z3) λa=>⟨L,(g1.trans g2).f5.trans M⟩⟩) trivial) trivial
refine let P:=_;let C:=_;let zc:=_;let U:=_;(?_:wpSs P C _ zc U _)
replace q:=A▸q;have h5:∀(Z1 Z2:List Lz) (z:Lz) (R1:List ay) (H2:MH) (h2:Addr) (a8 a9 z5:Option V),LA H2 h2 (Z1++z::Z2) R1->z.2.2.2.evs.length<1000->z.2.2.2.inn.length<=1000->(∀Y c,LA Y h2 _ (Z1.map (·.2.2)++(z.2.2.1,{z.2.2.2 with evs:=z.2.2.2.evs++[(G,Z)]})::Z2.map (·.2.2))->bL (Lp h2<|Z1++z::Z2) (Lp h2 _) H2 Y->Q _ Y)->wpSs (an (n+2) T) (fy X) (hU 3 Fs) (cL Q) [S<|.ref h2,S s.v,S<|.str op,S<|eV u,S<|.int t,S<|.tup<|I.map Tl.v,S<|.int G,S<|.int Z,a8,a9,S<|zf z,z5] H2:=λZ1 Z2 z R1 H2 h2 a8 a9 z5 w h6 h7 q=>Tq (n:=n+1) w h6 h7 q
refine aH (NK (ab J) LF.h (by exact aa (aL ..) (am (lg _ _) (by refine aa w.len ?_;exact am g.z (by decide))))) (λA=>?_) λA=>?_
.have hx:be G o=N:=by{
induction hx:be G o using aV with
|none=>rfl
|some e=>{
refine ai (λh6 h7=>?_)<|mj.mp<|show o.filter _=S e from hx
refine ai (λh8 z8=>?_)<|(ho e).mp h6;replace h8:=w.e▸h8;refine aU (bZ.mp h8) λz E ez=>?_;have mz:z∈h0.filter λz:Lz=>z.2.2.2.live G&&eY z.2.2.2.box u:=dZ.mpr ⟨E,by refine aa (show z.2.2=e from ez)<|aa h7<|z8.trans ?_;rfl⟩
induction hf:h0.filter λz:Lz=>z.2.2.2.live G&&eY z.2.2.2.box u using aS with
|nil=>replace mz:=hf▸mz;cases mz
|cons _ _=>replace A:=hf▸A;exact ak A}}
 replace q:=hx▸q;refine qz ((RV (i:=12) (P:=λj=>decide<|u[j]?.getD 0>zU j) J ((fO J (ab (v:=eV u) J) (by exact aa (aL ..)<|bh D)).to (by exact aa (aL ..) J)) D λj h9=>(bl _ J J ?_)).to (by exact aa (F5 h3 hl) J)) (λz H2 g2=>pR (gI aQ aQ) J ?_) λz H2 g2=>aK ?_
 .refine let P:=_;(?_:Gv _ P _ _ _)
  exact λz0 _ X Q q=>cG (L:=u.map .int) (v:=.int<|u[j]?.getD 0) (ab J) (ab J) (by refine gy▸(aa (bX h9) ?_);rfl) (cO h9<|bh D) z0 Gr.rfl X _ (pt (k:=j) (v:=.int<|zU j) (aB (v:=.int 15) ar<|aB (v:=.int 3) ar bc) (ab J) (bM (bM (pE (P:=λj=>[V.int 15,V.int 3][j]?=S (.int<|zU j))) J) J j (cO h9 (by refine aa hl ?_;rcases h3 with e|e<;>rw[e]<;>decide))) (by exact(by decide:2<=1000)) z0 Gr.rfl X (kD .gt (λc H=>Q (.bool c) H)<|.int<|u[j]?.getD 0) λH2 g2=>q H2 g2)
 .refine let p:=_;(?_:p)
  replace q:=(eP z)▸em▸q;exact q H2 ra (λ_=>h0) λa=>⟨L1.gr g2,(g1.trans g2).f5⟩
 have z:iG (bP s.m) u=T:=by exact aa em<|dX z
 replace q:=z▸q;have L2:=L1.gr g2;refine dk (wq (i:=12) (j:=0) (q:=λe=>e.2.live G) L2 g.z J λz E=>(bl _ J J<|(cH (aM J)<|uq (n:=n+1)<|L2.r z E).gv)) (λal H3 g3 z9 L=>?_) trivial;have L:LA H3 al (h0.filter λz=>z.2.2.2.live G) (bG R G):=L;have lz:(bG R G).length<=12:=am (lg _ _) g.z;have M:=(g1.trans g2).f5.trans<|AX (λe=>e.2.live G) L2 g3 z9;refine aH (LD ar (fE (k:=4) J J)<|qO J L lz J) (λr=>?_) λr=>aK ?_
 .replace r:=(AI hs)▸r;replace q:=(eP r)▸q;exact pR (gI aQ aQ) J<|q H3 al (λ_=>h0.filter λz=>z.2.2.2.live G) λa=>⟨L,M⟩
 replace r:=(AI hs)▸r;replace q:=(dX r)▸q;refine dk (R4 (jL (ab J).gv (jL (FY (jL (λz0 g X Q q=>Es J ((ab J).gr g) (λv=>(aG _ J J)) D Q X q trivial)<|jL eh.gv<|jL (ab J).gv<|jL aQ.gv zV) (by exact(by decide:4<=1000000)))<|jL (ab J).gv<|jL (ab J).gv zV)) λY _=>HU (n:=n+1) (H:=Y)) (λx2 z1 a i H4 ha x0 _ B g4=>?_) trivial;refine dk (Mc (r:=pD s u t I G) (B:=λa' f H5=>a'=a/\f=i/\H5=H4) (D:=λQ=>Q (.ref a) H4) L lz J (ab J).ec (λQ q=>q a i H4<|bp J J J) λa' f H5 A=>by refine aa A.1<|aa A.2.1<|aa A.2.2 ?_;exact(ot (z1.trans g4) (z1.none ha) (z1.none x0) B)) (λa' f c H5 H6 A hx=>aK ?_) trivial;replace hx:=A.2.1▸A.1▸hx;refine h5 _ [] (a,i,0,pD s u t I G) _ H6 c _ _ _ (hx 0).1 (by exact(by decide:0<1000)) ht λH7 c' L7 x1=>q H7 c _ λx=>⟨L7.m5 (B:=x)|>λA=>by replace A:=L.e▸A;exact A,(M.trans<|(hx 0).2.trans x1).m5⟩
.refine let p:=_;(?_:p)
 induction hf:h0.filter λz:Lz=>z.2.2.2.live G&&eY z.2.2.2.box u using aS with
 |nil=>replace A:=hf▸A;exact ak A
 |cons z zs=>{
have mz:z∈h0.filter λz:Lz=>z.2.2.2.live G&&eY z.2.2.2.box u:=by exact aa hf<|bw _
refine ai (λE hq=>?_)<|dZ.mp mz;refine ai (λq1 O=>?_)<|bm.mp hq;have hx:be G o=S z.2.2:=by exact aa ((ho z.2.2).mpr ⟨h1 E,O⟩)<|(iQ (p:=λe:ay=>e.2.live G)).trans<|if_pos q1
rw[hx] at q;obtain⟨Z1,Z2,eZ⟩:=List.append_of_mem E;clear hx O q1 hq mz z7 D h3 ht hs hl em ho o;subst eZ;have B:=L1.r z E;have eR:R=Z1.map (·.2.2)++z.2.2::Z2.map (·.2.2):=by refine au w.e<|aa cK ?_;rfl
have split:R.map (iZ z.2.2.1<|og s op t G Z)=Z1.map (·.2.2)++(z.2.2.1,og s op t G Z z.2.2.2)::Z2.map (·.2.2):=by rw[eR] at g z3 ⊢;exact TB (e:=z.2.2) g z3
refine let P:=_;let C:=_;let zc:=_;let U:=_;(?_:wpSs P C _ zc U _)
have q:∀Y Z',LA Y ra Z' (Z1.map (·.2.2)++(z.2.2.1,og s op t G Z z.2.2.2)::Z2.map (·.2.2))->bL (Lp ra<|Z1++z::Z2) (Lp ra Z') H Y->Q (.tup [oz<|fW z.2.2.2.inn z.2.2.2.evs (G,Z),.ref ra]) Y:=λY Z' h h'=>q Y ra (λ_=>Z') λa=>⟨by rw[<-split] at h;exact h,h'⟩;have z6:∀{l:ae} {k:Nat} {v:V},l.at 10=S (zf z)->(pK z.2.2.2 z.2.1)[k]?=S v->fh k 1000000=T->Pv (an (n+2) T) l H1 (.idx (.loc 10)<|.int k) v:=λh hk hb=>lC B (ab h) hk hb;refine aW (iJ (k:=0) (ab J) (LF.h.trans (by exact aa hf J<;>rfl)) (ar (i:=((0:Nat):Int))) J (by decide))<|aH (dD (bC (ab J) aQ λ_=>J) λ_=>fC (z6 (k:=3) J J J) ar) (λA=>?_) λA=>aK<|aK ?_
.have z2:fQ s op t G z.2.2.2={z.2.2.2 with til:=G+mP s z.2.2.2 t}:=by
  refine aa JD<|aa (show((op==276)&&!(z.2.2.2.tmo==0))=T from A) ?_;rfl
 refine nS ((iz (ab (v:=.int G) J) ((iw (fC (ab J) ar) (λ_=>ab J) λ_=>(iw (fC (fE (k:=3) (s:=s) J J) ar) (λ_=>fE (k:=3) J J) λ_=>z6 (k:=3) J J J).to<|iX V.int).to ((iX V.int).trans (congrArg V.int (by{
unfold mP;by_cases c:t=0
.refine aa (if_neg λz=>z c) (aa (beq_iff_eq.mpr c) ?_);by_cases d:s.tmo=0
 .refine aa (if_neg λz=>z d)<|aa (beq_iff_eq.mpr d) ?_;rfl
 .refine aa (if_pos d)<|aa (beq_eq_false_iff_ne.mpr d) ?_;rfl
.refine aa (if_pos c)<|aa (beq_eq_false_iff_ne.mpr c) ?_;rfl}:cond (!(t==0)) t (cond (!(s.tmo==0)) s.tmo (ji<|ji<|ji z).tmo)=mP s (ji<|ji<|ji z) t)))))) (ab (v:=zf z) J) (ar (i:=((2:Nat):Int))) (El (k:=2) B.h (by exact(by decide:2<7)) (by decide) ?_)
 obtain⟨L2,c2⟩:=L1.turn (I:={z.2.2.2 with til:=G+mP s z.2.2.2 t}) (f:=z.2.1) MH.c5 ((MH.c9<|FH B.h B.e<|DQ λx=>(λz=>V.noConfusion z)).trans B.e) (λb hb ne=>MH.c9 ne)<|.inl J;refine aK<|aK<|h5 Z1 Z2 (z.1,z.2.1,z.2.2.1,{z.2.2.2 with til:=G+mP s z.2.2.2 t}) _ _ ra _ _ _ L2 (he z.2.2<|h1 E) (z4 z.2.2<|h1 E) λH3 c L M=>?_;delta og at q;rw[z2] at q;exact q H3 _ L<|(g1.f5.trans c2).trans M
.refine let P:=_;let C:=_;(?_:wpSs _ P _ C _ _)
 have z2:fQ s op t G z.2.2.2=z.2.2.2:=by refine aa JD<|aa (show((op==276)&&!(z.2.2.2.tmo==0))=F from A) ?_;rfl
 refine h5 Z1 Z2 z _ _ ra _ _ _ L1 (he _<|h1 E) (z4 _<|h1 E) λH3 c L M=>?_;delta og at q;rw[z2] at q;exact q H3 _ L<|g1.f5.trans M}}
def iE:Nat->V->Bool
 |0,_=>F
 |n+1,v=>match v with
  |.none=>T
  |.bool _=>T
  |.int _=>T
  |.str _=>T
  |.tup l=>l.all<|iE n
  |_=>F
theorem JP{D:Type}{p q:D->V}{L:List D}(h:∀x∈L,f (p x) (q x)=S T):cQ f (L.map p) (L.map q)=S T:=by{
induction L with
|nil=>rfl
|cons x L Z=>refine(?_:(match f (p x) (q x),cQ f (L.map p) (L.map q) with|some a,S b=>S (a&&b)|_,_=>N)=_);refine aa (h x<|bw _)<|aa (Z λy n=>h y<|cq _ n) ?_;rfl}
theorem CB:∀{n:Nat} {v:V},iE n v=T->cA n H v v=S T:=by{
intro n
induction n with
|zero=>exact λh=>ak h
|succ n Z=>{
intro v h
induction v using V.casesOn with
|none=>rfl
|bool b=>exact congrArg S<|beq_self_eq_true b
|int i=>exact congrArg S<|beq_self_eq_true i
|str i=>exact congrArg S<|beq_self_eq_true i
|tup l=>have:=JP (q:=id) λx f=>Z<|im.mp h x f;rw[yh] at this;exact this
|bytes n=>exact ak h
|ref a=>exact ak h
|scr l=>exact ak h}}
theorem K7{H:MH}{D:Type}{p q:D->V}{L:List D}(R:H a=S (.list<|L.map p))(c:H b=S (.list<|L.map q))(h:∀x∈L,cA k H (p x) (q x)=S T):cA (k+1) H (.ref a) (.ref b)=S T:=by show((eS<|H a).bind λl=>(eS<|H b).bind λm=>if l.length=m.length then cQ (cA k H) l m else S F)=_;refine aa R (aa c (?_:(if(L.map p).length=(L.map q).length then cQ (cA k H) (L.map p) (L.map q) else S F)=_));rw[if_pos (by exact(aL ..).trans<|aa (aL ..) J)];exact JP h
structure hG (s:bj) (n:Nat) (r:dN):Prop where
 d:∃d',r.dat=d'.v/\hM s.ds d'=true
 c:∃c,r.cmt= .str c
 e:r.evs=[]->r.inn=[]
 z:r.evs.length<=n
 i:r.inn.length<64
theorem Yp(h:hM a d=T):iE (n+6) d.v=T:=by{
induction d using Dt.casesOn with
|no=>rfl
|vd c=>rfl
|nums x r=>{
induction a using Ds.casesOn with
|no=>exact ak h
|vd=>exact ak h
|b1=>{
induction r using aS with
|nil=>rfl
|cons _ _=>exact ak h}}}
theorem HZ(h:hG s k r):iE (n+7) (rd r G)=T:=by
 refine af (h.d) λd L=>ai (λe m=>af (h.c) λc j=>?_)<|L;have D:iE (n+6) (bv r.box)=T:=by show(r.box.map dp).all (iE _)=T;exact Bm.trans<|im.mpr λ_ _=>J
 refine(?_:(iE _ (bv r.box)&&(iE _ r.dat&&(T&&(iE _ r.cmt&&T))))=T);refine aa D<|aa e<|aa (Yp m)<|aa j ?_;rfl
theorem Jd:∀{s:List dB},∀x∈jO I s,iE 6 x=T:=by{
induction I with
|nil=>exact λ_ h=>(by cases h)
|cons t I Z=>intro s x h;refine dP (bJ.mp h) (λh=>?_) λh=>Z x h;exact aa h (by obtain⟨⟩:=(xi s t)<;>rfl)}
def kH(G:Int)(p:ay×Addr):V:=.tup [rd p.1.2 G,.int p.1.2.til,.int p.1.2.tmo,.ref p.2]
def vY(H:MH)(j:List<|ay×Addr):Prop:=∀p∈j,H p.2=S (.list<|jO p.1.2.inn p.1.2.evs)
theorem wO{l m:List V}(h:f x y=S T)(C:cQ f l m=S T):cQ f (x::l) (y::m)=S T:=by show(match f x y,cQ f l m with|some a,S b=>S (a&&b)|_,_=>N)=_;refine aa h<|aa C ?_;rfl
theorem Ua:∀{j P:List (ay×Addr)} {a b:Addr},vY H j->vY H P->j.map (·.1)=P.map (·.1)->(∀p∈j,hG s k p.1.2)->H a=S (.list<|j.map<|kH G)->H b=S (.list<|P.map<|kH G)->cA 9 H (.ref a) (.ref b)=S T:=λ{j P a b} E n e I c D=>by{
show((eS<|H a).bind λl=>(eS<|H b).bind λm=>if l.length=m.length then cQ (cA 8 H) l m else S F)=_;refine aa c (aa D (?_:(if(j.map<|kH G).length=(P.map<|kH G).length then cQ (cA 8 H) (j.map<|kH G) (P.map<|kH G) else S F)=_));have R:=congrArg qp e;rw[aL,aL] at R;rw[if_pos (by exact aa (aL ..)<|aa (aL ..) R)];clear c D R
induction j generalizing P with
|nil=>induction P using aS with
 |nil=>rfl
 |cons _ _=>cases e
|cons p j Z=>{
induction P using aS with
|nil=>cases e
|cons y P=>injection e with g d;have g:p.1=y.1:=g;have M:=n y<|bw _;rw[<-g] at M;exact wO (show cQ (cA 7 H) _ _=_ from au g (wO (CB<|HZ<|I p<|bw _) (wO (congrArg S<|beq_self_eq_true _) (wO (congrArg S<|beq_self_eq_true _) (wO (K7 (q:=id) (by rw[yh];exact(E p<|bw _)) (by exact aa (yh ..) M) λx f=>CB<|Jd x f) J)))))<|Z (λq o=>E q<|.tail _ o) (λq o=>n q<|.tail _ o) d λq o=>I q<|.tail _ o}}
theorem Vv:∀{b:bB},jR a b=F->jR b a=F->a=b:=by{
induction a with
|nil=>intro b h _;induction b using aS with
 |nil=>rfl
 |cons _ _=>exact ak h
|cons p a Z=>{
intro b G M
induction b using aS with
|nil=>exact ak M
|cons q b=>{
have G:(if p=q then jR a b else ol p q)=F:=G;have M:(if q=p then jR b a else ol q p)=F:=M;by_cases c:p=q
.rw[if_pos c] at G;rw[if_pos c.symm] at M;exact aa c<|congrArg _<|Z G M
.rw[if_neg c] at G;rw[if_neg<|eE c] at M;exact absurd ((by{
unfold ol at G M;by_cases c:p.1=q.1
.rw[if_pos c] at G;rw[if_pos c.symm] at M;exact uW c<|uU (bT.mp<|of_decide_eq_false M)<|bT.mp<|of_decide_eq_false G
.rw[if_neg c] at G;rw[if_neg<|eE c] at M;exact absurd (uU (bT.mp<|of_decide_eq_false M)<|bT.mp<|of_decide_eq_false G) c})) c}}}
def Xc(R Y:List ay):Prop:=Y.Perm R/\Y.Pairwise λx y=>jR y.2.box x.2.box=F
theorem fT.get(h:fT H B w I s):w.length=(jO I s).length/\∀(i:Nat) (c:Addr),w[i]?=S c->∃t u,dU H c u B t/\(jO I s)[i]?=S (xi u t).v:=by{
induction h with
|nil s=>exact⟨J,λi c h=>by replace h:=List.getElem?_nil▸h;cases h⟩
|cons h _ Z=>{
refine⟨congrArg rZ Z.1,λi c a=>?_⟩
induction i using fK with
|zero=>(refine au (aA a) ?_);exact(dm _ _ h J)
|succ i=>exact Z.2 i c a}}
section
variable {cx:Cx} {α:Type} {me mc:ME} {tg:Tg} {chk:MH ->Prop} {KQ:List V ->MH ->Prop}
theorem XA{B:α->Addr->MH->Prop}(U:∀x a H Y,Gr H Y->B x a H->B x a Y)(u:∀Y,Gr H Y->chk Y):∀{P:List (α×Addr)} {I:MH},Gr H I->(∀p∈P,B p.1 p.2 I)->P.length+L.length<=1000000->(∀x∈L,∃C,cT tg (g x) (fD tg l)=S C/\Pv cx C H mc (.bool T)/\∀I,Gr H I->Ec cx C I me (λQ=>∀a Y,Gr I Y->B x a Y->Q (h (x,a)) Y) nX)->(∀(j:List<|α×Addr) Y,j.map (·.1)=P.map (·.1)++L->(∀p∈j,B p.1 p.2 Y)->Gr I Y->KQ (j.map h) Y)->kF (λv=>cT tg v<|fD tg l) chk (λKQ l H=>aP cx fM l mc (bR KQ) H) (λKQ l H=>aP cx fM l me KQ H) KQ (L.map g) (P.map h) I:=by{
induction L with
|nil=>exact λ{P I} s w _ _ k=>⟨u I s,k P I (fm _).symm w Gr.rfl⟩
|cons v r Z=>
 intro P I s w E D k;refine let c:=_;((af (D v<|bw _) λC d=>ai (λG y=>ai (λM i=>⟨u I s,by exact aa (aL ..)<|am (eF _ _) E,bq G<|M I s fM (bR _)<|i I s _ _ (λa o t b=>?_) trivial⟩)<|y)<|d):c)
 have z:=Z (P:=P++[(v,a)]) (s.trans t) (λp O=>(cp.mp O).elim (λO=>U _ _ _ _ t<|w p O) λO=>by rw[cJ.mp O];exact b) (by refine aa bV<|aa sG<|aa (fZ ..) ?_;rw[fF 1];exact E) (λx f=>D x<|cq _ f) λj Y e m n=>k j Y (by refine aa e<|aa cK<|aa (ip ..) ?_;rfl) m<|t.trans n;rw[cK] at z;exact z}
end
theorem Rz{D:Type}{L:List D}{d:D}:((cE L.length).map λj=>L[j]?.getD d)=L:=by{
refine PC λi=>?_;refine aa (gy) ?_;by_cases c:i<L.length
.refine aa (GK c) (aa (bX c)<|congrArg S<|show L[i]?.getD d=_ from ?_);refine aa (bX c) ?_;rfl
.rw[iP<|dw c,iP (by exact aa sE<|dw c)];rfl}
theorem To{l:ae}{e:ay}(f:cx=an (n+1) T)(E:gS H B0 e.1 e.2 c)(hz:e.2.inn.length<64)(h3:l.at 3=S (.ref e.1))(D:∀v,∃C,cT (.one 5) v (fD (.one 5) l)=S C/\C.at 5=S v/\C.at 3=S (.ref e.1)):Ec cx l H (.comp (.callF 31<|.cons (.idx (.attr (.loc 3) 137)<|.loc 5) .nil) (.one 5) (.ex<|.bi .sorted<|.cons (.attr (.loc 3) 137) .nil)<|.bool T) (λQ=>∀d Y,H d=N->Y d=S (.list<|jO e.2.inn e.2.evs)->Gr H Y->Q (.ref d) Y) nX:=λQ X q _=>by{
refine aa f ?_;obtain⟨dx,dd,w,h,m,O,b,nd,dc⟩:=E;have L:w.length<64:=by exact aa (Ix O) hz
obtain⟨R,get⟩:=O.get;refine let P:=_;((Eo J (Ex.ec (E:=λ_ _=>False) (yU (L:=(ib w).map (·.1.f8)) J (aN (ab h3) h J) (by exact congrArg _ m) (by exact aa yR<|aa ow L) λx f y Z=>?_)) Q X (λv H1 h0=>?_) λ_ _ z=>z.elim):aP P _ _ _ _ _)
.rw[yR] at f Z;obtain⟨i,g⟩:=yy f;obtain⟨j,I⟩:=yy Z;exact aa g<|aa I ⟨J,J⟩
.obtain⟨r,p,o,U,g,hl,I⟩:=h0;have:=Iq p o;refine aa g ?_;subst I;refine aa this ?_;have B:Gr H (H.set U<|.list<|dW 0 w.length):=Gr.new hl;have G:(H.set U _) U=S (.list<|dW 0 w.length):=MH.c5;generalize H.set U _=H1 at B G ⊢;refine ir G ⟨by exact aa ow (am (bU L) (by decide)),?_⟩;rw[yt] at G ⊢;refine xr (p:=λ_:Nat=>T) (f:=λj=>(jO e.2.inn e.2.evs)[j]?.getD .none) (λY g'=>g'.at G) Gr.rfl (by exact aa jF (aa (da ..) (aa sE (am (bU L) (by decide))))) (λj h9=>?_) λH2 g2 d k=>?_
 .refine let Gz:=_;(?_:Gz)
  obtain⟨C,G,M,s⟩:=D _;have hc:=bX<|kg.mp h9;refine mZ (get j _ hc) λt u A a=>?_;refine(bl C G eU.gv (λ_=>(cH (aB (rH (aN (ab s) (B.at h) J) (B.at m) (ab M) J Er<|Mb hc) bc)<|(SJ<|A.keep<|B _ A.ne aJ)).gv.to (by refine aa a ?_;rfl)))
 .exact aa (qv ..)<|aa (qm.mpr λ_ _=>J)<|aa (show w.length=(jO e.2.inn e.2.evs).length from R)<|aa Rz<|q d _ (B.none<|g2.none k) MH.c5<|(B.trans g2).trans<|Gr.new k}
theorem M3{H:MH}{n:Nat}{R:List ay}{G:Int}{B0:Int}{M:Addr->Fp}(O:H k=N)(el:∀e∈R,gS H B0 e.1 e.2 (M e.1)/\e.2.inn.length<64):∀(B:List ay) (j:List<|ay×Addr) (r l:Option V) (I:MH),Gr H I->I o=S (.list L)->o≠k->I k=S (.list<|j.map<|kH G)->vY I j->(∀e∈B,e∈R)->j.length+B.length<=1000->(∀(f:List<|ay×Addr) Y r l,f.map (·.1)=j.map (·.1)++B->vY Y f->Y k=S (.list<|f.map<|kH G)->Gr H Y->Q .next [a0,S<|.int G,S<|.ref k,r,l] Y)->cC (n+1) X (.one 3) (λH=>H o=S (.list L)) NS Q (bO B) [a0,S<|.int G,S<|.ref k,r,l] I:=by{
intro B
induction B with
|nil=>exact λj r l I g hf _ ht s _ _ q=>fH hf<|q j I r l (fm _).symm s ht g
|cons e B Z=>{
intro j r l I g hf c ht s sub hz q;refine let za:=_;let C:=_;let zc:=_;let U:=_;((ai (λE a=>?_)<|el e<|sub e<|bw _):cC za _ _ C _ _ zc U _)
have x:=E.keep (cX _) (g _ E.live.1 aJ) λb D=>g b (E.live.2 b D) aJ;refine dh hf J<|dk (To J x a J λv=>(bl _ J J J)) (λd H2 m h2 t=>af ((x.keep (cX _) (t _ x.live.1 aJ) λb D=>t b (x.live.2 b D) aJ).el) λi h0=>af (h0) λdd u=>?_) trivial;have dt:d≠k:=λz=>by replace m:=ht▸z▸m;cases m
refine lM (x:=kH G (e,d)) (ab J) (t.at ht) (by exact aa (aL ..) (am (am (eF _ _) hz) (by decide))) (cP (aB (cH (aM J)<|Jr<|eG i dd u)<|aB (aN (ab J) u J)<|aB (aN (ab J) u J)<|aM J) (by decide:4<=1000000)) (ic (Z (j++[(e,d)]) _ _ _ ((g.trans t).set O) ((λh n=>(MH.c9 n).trans<|t.at h) hf c) c (by refine au MH.c5.symm<|cK.symm▸?_;rfl) (λp hp=>?_) (λe u=>sub e<|cq _ u) (by refine aa bV<|aa (fZ ..) ?_;rw[fF [(e,d)].length];exact hz) λf Y r l A=>q f Y r l (by refine aa A<|aa cK<|aa (ip ..) ?_;rfl)));rcases cp.mp hp with hp|hp
.have w:=s p hp;refine(λh n=>(MH.c9 n).trans<|t.at h) w λz=>?_;replace w:=ht▸z▸w;clear z u dd h0 i t m x a E U zc C za q hz sub s ht c hf g I l r Z B el O M L a0 o Q X
 induction j using aS with
 |nil=>cases hp
 |cons y P=>have:=Jd (I:=p.1.2.inn) (s:=p.1.2.evs) (kH G y) (by refine au ((JJ<|aA w)) ?_;exact bw _);have:(iE 5 (rd y.1.2 G)&&(T&&(T&&(F&&T))))=T:=this;rw[abp] at this;exact ak this
.exact(cJ.mp hp).symm▸(MH.c9 dt).trans h2}}
abbrev JG (H:MH) (R:List ay) (G:Int) (Q:QV):Prop:=∀(f:Addr) (j:List (ay×Addr)) (Y:MH),Xc R (j.map (·.1))->vY Y j->Y f=S (.list (j.map (kH G)))->Gr H Y->Q (.ref f) Y
theorem XF(Y:SA k m H y h0 M R B0)(b:dO H A s U y)(Z:∀e∈R,e.2.inn.length<64):Cp (n+3) T H 67 [.ref A,.int G] (JG H R G) nX:=λQ X q _=>by refine aR [S _,S _,N,N,N] J J<|dk nP (λa c=>?_) trivial;have B:Gr H (H.set a<|.list []):=Gr.new c;have L:(H.set a _) a=S (.list []):=MH.c5;generalize H.set a _=I at B L ⊢;have d:=Y.gr (cX _) B;refine vp (E:=λ_ _=>False) J (Iv d.S<|fX (b.at<|B _ b.live aJ) J J) (λv P w=>let Gz:=_;(?_:Gz)) λ_ _ z=>z.elim;refine lH w λf D g h t zr=>?_;obtain⟨x,p,o⟩:=zr;subst g;have E:=p.length_eq▸Y.S.g.z;refine(kA f _ J x (by exact aa fA (am E (by decide))) (M3 c (λe u=>⟨Y.el e u,Z e u⟩) D [] N N P (B.trans t) x (λz=>by rw[z,L] at h;cases h) (t.at L) (λp O=>absurd O aJ) (λe u=>p.mem_iff.mp u) (by exact aa jF (aa (da ..) (am E (by decide)))) λj H3 r l e sh C i=>nx (aZ (ab J) (q a j H3 (by exact aa e ⟨p,o⟩) sh C i))))
theorem VD(O:cx.hn=T)(h:Ec cx l H e D g):Ec cx l H (.bi .sorted<|.cons e .nil) (λQ=>D λv Y=>Kz Q Y v) g:=λQ X q x=>⟨O,h _ X q x⟩
def zk(p:Lz×Nat):V:=bk p.1.2.2 p.2
theorem Wb(w:LA H ra Z R)(g:cZ k m R)(hr:∀e∈R,hG s 1000 e.2):Cp (n+3) T H 66 [.ref ra,.int G] (JG H R G) nX:=λQ X q _=>by{
have h0:Z.length<=12:=aa w.len g.z;have zz:Z.zipIdx.length=Z.length:=sH;have h3:∀{p:Lz×Nat} {l:ae} {I:MH} {i:Nat},p∈Z.zipIdx->Gr H I->l.at 0=S _->l.at i=S _->Pv (an (n+2) T) l I _ (zf p.1):=λ{p l I i} O B h5 hi=>by have h1:=Hk.mp O;exact iJ (ab h5) (B.at w.h) (ab hi) (by refine aa (gy)<|aa h1 ?_;rfl) (cO (cW.mp h1).1 (am h0 (by decide)))
have h2:∀{p:Lz×Nat},p∈Z.zipIdx->p.1∈Z:=λO=>du<|Hk.mp O;refine aR [S _,S _,N] J J (dk (VD J (D:=λQ=>∀d Y,Y d=S (.list<|Z.zipIdx.map zk)->Gr H Y->Q (.ref d) Y) (g:=nX) λQ X q _=>?_) (λd I h4 B=>(bl _ (congrArg zy h4) ⟨by rw[aL,zz];exact cN h0 (by decide),λx hx y hy=>?_⟩ λr p o c hc=>?_)) trivial)
.refine let P:=_;let C:=_;(?_:aP P _ C _ _ _)
 refine cj J (zj ((iB J (ab J) w.h (by rw[aL];exact am h0 (by decide))).to (by rw[aL])) (am h0 (by decide)) _ ⟨by refine nk▸(aa ow ?_);exact am h0 (by decide),?_⟩);refine nk▸(DS (w:=Z))▸(xr (f:=zk) (H:=H) (λ_ _=>trivial) Gr.rfl (by rw[jF,da,zz];exact am h0 (by decide)) (λp O=>(bl _ J eU.gv (λ_=>(cP (aB (lC (w.r _<|h2 O) (k:=0) (h3 O Gr.rfl J J) J)<|aM J) (by exact(by decide:2<=1000000))).gv))) λH2 t d hd=>?_);rw[qv,qm.mpr λ_ _=>J];exact q d _ MH.c5<|t.trans<|Gr.new hd
·(refine aU (bZ.mp hx) λp _ e=>?_)
 refine af (bZ.mp hy) λp' L=>ai (λ_ A=>?_)<|L;exact au e<|au A ⟨J,congrArg Option.isSome AD⟩
.refine aU (DT p J) λD pT e=>?_;subst e;have E:D.length<=12:=by refine aa pT.length_eq<|aa zz ?_;exact h0
 have u:∀{p},p∈D->p∈Z.zipIdx:=λh=>pT.mem_iff.mp h;have t:Gr H (I.set c<|.list<|D.map zk):=B.trans<|Gr.new hc;have M:(I.set c _) c=S (.list<|D.map zk):=MH.c5;generalize I.set c _=H2 at t M ⊢;refine let P:=_;let C:=_;let zc:=_;let U:=_;(?_:wpSs P C _ zc U _)
 refine cc (cj J (bq J (ir M ⟨by rw[aL];exact am E (by decide),(XA (g:=zk) (B:=λ(x:Lz×Nat) a H=>H a=S (.list<|jO x.1.2.2.2.inn x.1.2.2.2.evs)) (h:=λp=>kH G (p.1.1.2.2,p.2)) (H:=H2) (λ_ _ _ _ g h1=>g.at h1) (λ_ g=>g.at M) (P:=[]) Gr.rfl (λ_ z=>absurd z aJ) (by rw[jF,da];exact am E (by decide)) (λx hx=>(bl _ J eU λv g3 Q X q _=>?_)) λj v e h1 g3 f hf=>?_)⟩)))
 .have b:x.1.2.2∈R:=w.e▸bZ.mpr (aG _ (h2<|u hx) J);exact dC (aB (h3 (u hx) (t.trans g3) J J)<|aM J) (IX (w:=((w.r _<|h2<|u hx).gr<|t.trans g3)) (hr _ b).e (hr _ b).z (am (bU (hr _ b).i) (by decide))) Q X (λd Y h4 M g'=>q d Y g' M) trivial
 .have e:j.map (·.1)=D:=e;have eq:(j.map λp=>(p.1.1.2.2,p.2)).map (·.1)=D.map (·.1.2.2):=by rw[<-e,km,km];rfl
  have pm:(D.map (·.1.2.2)).Perm R:=by{
have:=pT.map (·.1.2.2);refine w.e▸(this.trans ?_);have:Z.zipIdx.map (·.1.2.2)=Z.map (·.2.2):=by
 conv=>rhs;rw[<-(Hl 0 Z),km]
 rfl
rw[this]}
  refine q f (j.map λp=>(p.1.1.2.2,p.2)) _ ⟨by rw[eq];exact pm,?_⟩ (λp O=>?_) (by rw[MH.c5,km];rfl)<|(t.trans g3).trans<|Gr.new hf
  .rw[eq,qt];rw[qt] at o;refine o.imp λ{x y} e=>?_;have e:=aA<|AD.symm.trans e;by_cases k:y.1.2.2.2.box=x.1.2.2.2.box
   .rw[k];exact Np
   .rw[if_neg k] at e;exact e
  .refine aU (bZ.mp O) λp' h6 A=>?_;rw[<-A];exact(Gr.new hf).at<|h1 p' h6}
theorem zx(h:Pv cx l H a<|.str x)(B:dA cx l H j Z)(E:Z.length<=1000000)(D:sS x Z=S b):Gv cx l H (.cmp a .in_<|.list j) (.bool b):=λI g X Q q=>
 h I g X _ (B I g X _ ⟨E,λf G=>bq (by refine(?_:(match I.set f _ f with|some o=>Ab (I.set f _) _ o|none=>N)=_);refine aa MH.c5 ?_;exact D) (q _<|Gr.new G)⟩)
def ll:List Nat:=[275,276,77,238,80,37,79,274,275,276]
def wx(s:bj)(w:Int):Nat:=cond (aO w 10==9&&aO (w/10) 3==2) 273<|cond (!pr s.ds&&(ll[aO w 10]?.getD 79==275||ll[aO w 10]?.getD 79==276)) 77<|ll[aO w 10]?.getD 79
inductive jT (s:bj):Nat->Prop
 |add (h:s.ds= .no):jT s 275
 |update (h:s.ds= .no):jT s 276
 |delete:jT s 238
 |put:jT s 77
 |create:jT s 274
 |drop:jT s 80
 |sweep:jT s 37
 |find:jT s 79
 |flush:jT s 273
theorem MP:sS x [.str a,.str b]=S (x==a||x==b):=by show S (a==x||(b==x||F))=_;exact aa (yf ..)<|aa uZ<|aa (uZ (a:=b)) J
theorem Jl:sS x [.str a,.str b,.str c]=S (x==a||(x==b||x==c)):=by show S (a==x||(b==x||(c==x||F)))=_;exact aa (yf ..)<|aa uZ<|aa (uZ (a:=b))<|aa (uZ (a:=c)) J
section
set_option genCtorIdx false
structure fU where
 op:Nat
 b:bB
 d:Dt
 t:Int
 c:V
 ks:List Int
 tt:Int
 ts:List Tl
 len:Nat
def fU.lit(I:fU):V:=.tup [bv I.b,I.d.v,.int I.t,I.c]
def fU.about(I:fU):V:=.tup [.int I.tt,.tup<|I.ts.map Tl.v,.int I.len]
def oF(R:List ay)(u:List Int):Option ay:=R.find? λe=>decide<|eY e.2.box u=T
def pL(b:Nat):Bool:=b==275||(b==276||b==238)
def mO(s:bj)(U:Bool)(I:fU)(G:Int)(R:List ay):V:=
 cond (pL I.op) (ph s I.op I.ks I.tt I.ts G I.len (oF R I.ks) R) (cond (I.op==77||I.op==274) (iF s U R I.b I.d I.t (I.op==274) G)
  (cond (I.op==80) (cond (be G<|bI R I.b).isSome .none<|.str 181) (cond (I.op==37) (.int<|R.length-(bG R G).length) (cond (I.op==273) .none (match be G (oF R I.ks) with
   |some e=>rd e.2 G
   |none=>.none)))))
def jw(s:bj)(U:Bool)(I:fU)(G:Int)(R:List ay)(a:Addr):List ay:=
 cond (pL I.op) (rQ s I.op I.ks I.tt I.ts G I.len (oF R I.ks) R a) (cond (I.op==77||I.op==274) (gG s U R I.b I.d I.t I.c G a)
  (cond (I.op==80) (cond (be G<|bI R I.b).isSome (jo R I.b) R)<|cond (I.op==37) (bG R G)<|cond (I.op==273) [] R))
structure xa (s:bj) (k:Kd) (m:Nat) (I:fU):Prop where
 bz:I.b≠[]/\I.b.length<=1000
 dz:∀x r,I.d= .nums x r->r.length<=1000
 ok:gY s I.b I.t I.d=true->jY k m I.b
 kl:I.ks.length=m
 k0:∀x∈I.ks,0<=x
 tz:I.ts.length<64
 cs:∃c,I.c= .str c
 op:jT s I.op
 lz:I.len<=1000000
structure DU (s:bj) (k:Kd) (m:Nat):Prop where
 em:s.m=m
 hm:m=1\/m=2
 sz:0<=s.size
theorem Ii(g:cZ k m R)(w:u.length=m):Is R (λe=>eY e.2.box u=T) (oF R u):=DZ λx f y n G M=>g.key w f n G M
theorem Tc(w:LA H o Z R)(g:cZ k m R)(h4:∀x∈R,∀y∈R,x.1=y.1->x=y)(r:DU s k m)(hr:∀e∈R,hG s 12 e.2)(z8:xa s k m I):Cp (n+4) T H 68 [.ref o,s.v,.str I.op,.bool U,I.lit,eV I.ks,I.about,.int G] (λQ=>∀Y A (u:Addr->List Lz),(∀a,LA Y A (u a) (jw s U I G R a)/\bL (Lp o Z) (Lp A<|u a) H Y)->Q (.tup [mO s U I G R,.ref A]) Y) nX:=λQ X q _=>by{
have ho:=Ii g z8.kl;have sm:=r.em▸r.hm;have l:∀{e},e∈R->e.2.evs.length<1000:=λh=>cN (hr _ h).z (by decide);have h2:∀{e},e∈R->e.2.inn.length<=1000:=λh=>am (bU (hr _ h).i) (by decide);have O:∀{z},z∈Z->z.2.2∈R:=λh=>au w.e<|bZ.mpr<|aG _ h J;delta mO jw at q;refine aR [S _,S s.v,S _,S _,S I.lit,S<|eV I.ks,S I.about,S _,N,N,N,N,N] J J (lB J (ab J) J (let P:=_;let C:=_;let j:=_;let zd:=_;((qz (zx (ab J) (aM J) (by decide) Jl) (λz H1 B=>?_) λz H1 B=>aK ?_):wpSs P C _ j zd _)))
.refine let P:=_;let C:=_;let j:=_;let zd:=_;(?_:wpSs P C _ j zd _)
 replace q:=(show pL I.op=T from z)▸q;exact fv (dC (aM J) (C0 (w.gr B) g h4 ho r.em z8.kl r.sz (λe=>l) (λe=>h2) (am (bU z8.tz) (by decide)))) (λH2 A u h=>q H2 A u λa=>⟨(h a).1,B.f5.trans (h a).2⟩) trivial
replace q:=(show pL I.op=F from z)▸q;refine qz (zx (ab J) (aM J) (by decide:2<=1000000) MP) (λz H2 t=>?_) λz H2 t=>aK ?_
.replace q:=z▸q;exact fv (dC (aB (ab J)<|aB (ab J)<|aB (ab J)<|aB (ab J)<|aB (ab J)<|aB (bC (ab J) aQ λ_=>J) bc)<|Za (w.gr<|B.trans t) g r.em (λe he=>(hr e he).d) r.sz z8.bz.2 sm z8.dz z8.ok) (λv A u h=>q v A u λa=>⟨(h a).1,(B.trans t).f5.trans (h a).2⟩) trivial
replace q:=z▸q;have h0:=B.trans t;have c:=w.gr h0;refine aH (bC (ab J) aQ λ_=>J) (λz=>?_) λz=>aK ?_
.replace q:=z▸q;refine let p:=_;(?_:p)
 refine dk (LZ c g J λz E=>(yQ _ J J ((λh=>cG (ab h) (ar (i:=(0:Nat))) J (by decide)) J)<|ab J)) (λd v Z3 i hd L3 c3=>?_) trivial;have lz:(cond (be G<|bI R I.b).isSome (jo R I.b) R).length<=12:=by{
induction(be G<|bI R I.b).isSome using aX with
|true=>exact am (lg _ _) g.z
|false=>exact g.z}
 refine pR ((iw (gQ (qO J L3 lz J)<|qO J (c.gr i) g.z J) (λ_=>aQ) λ_=>eh).to (E:=cond (be G<|bI R I.b).isSome .none _) (((by{
induction h:be G (bI R<|fU.b I) using aV with
|none=>exact beq_self_eq_true _
|some x=>refine beq_eq_false_iff_ne.mpr<|fu<|ai (λL D=>aaX.mpr ⟨x,L,?_⟩)<|(g.byBox x).mp (mj.mp h).1;rw[decide_eq_true D];exact(λz=>ak z)}:((cond (be G<|bI R<|fU.b I).isSome (jo R<|fU.b I) R).length==R.length)=!(be G<|bI R<|fU.b I).isSome))▸?_)) J (q v d (λ_=>Z3) λa=>⟨L3,h0.f5.trans c3⟩)
 cases(be G<|bI R I.b).isSome<;>rfl
replace q:=z▸q;refine aH (bC (ab J) aQ λ_=>J) (λz=>?_) λz=>aK ?_
.replace q:=z▸q;refine let P:=_;let C:=_;(?_:wpSs _ P _ C _ _)
 exact dk (wq c g.z J λz E=>(bl _ J J<|(cH (aM J)<|uq<|c.r z E).gv)) (λd v i hd L3=>pR (mM (qO J (c.gr i) g.z J)<|qO J L3 (am (lg _ _) g.z) J) J<|q v d (λ_=>Z.filter λz=>z.2.2.2.live G) λa=>⟨L3,h0.f5.trans<|AX (λe=>e.2.live G) c i hd⟩) trivial
replace q:=z▸q;refine aH (bC (ab J) aQ λ_=>J) (λz=>?_) λz=>aK ?_
.replace q:=z▸q;refine let p:=_;(?_:p)
 exact fv (DP eh nP) (λf hf=>⟨by exact(by decide:2<=1000000),q _ f (λ_=>[]) λa=>⟨⟨MH.c5,J,λz E=>((by cases E)),gW⟩,h0.f5.trans ⟨λb D _=>Gr.new hf b D aJ,λb h=>.inr (by{
rcases h with h|⟨z,E,_⟩
.exact aa h hf
.cases E})⟩⟩⟩) trivial
replace q:=z▸q;refine cc (cj J (bq J (ir c.h ⟨by rw[aL,w.len];exact am g.z (by decide),De (j:=[S _,S s.v,S _,S _,S I.lit,S<|eV I.ks,S I.about,S _,S _,S _,S _,N,N]) (q:=λe=>e.2.live G&&eY e.2.box I.ks) (by decide:12<13) (λY g'=>g'.at c.h) (λz E=>?_) (λno x v i=>nx ?_) N H2 Gr.rfl⟩)))
.have W:=c.r z E;refine cj (DK (cH (aM J)<|uq W) λ_=>nZ (aB (lC W (ab J) J)<|aM J) (HQ ((g.ok _<|O E).len.1.trans z8.kl.symm) (by refine aa ((g.ok _<|O E).len.1) ?_;rcases r.hm with e|e<;>rw[e]<;>decide))) λD v i=>?_;refine ai (λh1 M=>?_)<|bm.mp D;have L:be G (oF R I.ks)=S z.2.2:=by
  rw[(ho z.2.2).mpr ⟨O E,M⟩];exact(iQ).trans<|if_pos h1
 refine let P:=_;let C:=_;let j:=_;let zd:=_;(?_:aP P C j _ zd _)
 rw[L] at q;exact FS (dC (aM J)<|IX (W.gr i) (hr _<|O E).e (bU<|l<|O E)<|h2<|O E) _ _ (λd H4 _ _ g4=>zC (k:=0) J (by decide) (bq J ⟨by exact(by decide:2<=1000000),q H4 o (λ_=>Z) λa=>⟨c.gr<|i.trans g4,(h0.trans<|i.trans g4).f5⟩⟩)) trivial
.refine let p:=_;(?_:p)
 have L:be G (oF R I.ks)=N:=by{
induction L:be G (oF R I.ks) using aV with
|none=>rfl
|some e=>obtain⟨h1,M⟩:=mj.mp L;obtain⟨h3,h5⟩:=(ho e).mp h1;rw[<-w.e] at h3;refine aU (bZ.mp h3) λz E ez=>?_;have:=no z E;rw[show z.2.2=e from ez,M,h5] at this;exact ak this}
 rw[L] at q;exact pR eh J<|q v o (λ_=>Z) λa=>⟨c.gr i,(h0.trans i).f5⟩}
end
theorem WP(O:SA k m H r j M R f)(D:f<=G)(q:∀Z i a Y,SA k m Y r Z i (gG s U R b d t c G a) G->bL (Gp j M R) (Gp Z i<|gG s U R b d t c G a) H Y->(∀c,iF s U R b d t h G≠.str c)->Q (iF s U R b d t h G) Y)(x:∀Z i a Y w,SA k m Y r Z i (gG s U R b d t c G a) G->bL (Gp j M R) (Gp Z i<|gG s U R b d t c G a) H Y->iF s U R b d t h G= .str w->lQ Y w X):MJ s U r A k m H j M R b d t c h G f Q/\IP s U r A k m H j M R b d t h G f X:=by{
have e:=O.up D;have P:∀y L,(U&&s.cst)=F->gY s b t d=T->be G (bI R b)=S y->y.2.dat=L.v->hM s.ds L=T->iF s U R b d t h G=cond (h||!vn L d) _ _/\gG s U R b d t c G 0=R:=λy L o l n g I=>by
 delta iF gG;refine aa o<|aa l<|aa n ?_;exact⟨congrArg (λw=>cond (h||!w) _ _) ((by unfold zn;refine g▸(aa (yM I<|DD l) ?_);rfl)),J⟩
refine cj (λo l=>⟨λy L n g I w=>?_,λn w C Z i a Y E B=>?_⟩) ⟨λo=>?_,λo=>⟨λl=>?_,λl=>⟨λy L n g I w=>?_,λn Z Y E B=>⟨λw=>?_,λw C=>?_⟩⟩⟩⟩
·(refine ai (λu v=>?_)<|P y L o l n g I)
 refine let p:=_;(?_:p)
 have:=q j M 0 H;replace this:=w▸v▸u▸this;exact this e bL.rfl λ_ z=>V.noConfusion z
.have:=q Z i a Y;unfold iF gG at this;rw[o,l,n,w,C] at this;exact this (E.up D) B λ_ z=>V.noConfusion z
.refine let p:=_;(?_:p)
 have:=x j M 0 H;unfold iF gG at this;replace this:=o▸this;exact this _ e bL.rfl J
.have:=x j M 0 H;unfold iF gG at this;replace this:=l▸o▸this;exact this _ e bL.rfl J
·(refine ai (λu v=>?_)<|P y L o l n g I)
 have:=x j M 0 H;replace this:=w▸v▸u▸this;exact this _ e bL.rfl J
.refine let p:=_;(?_:p)
 have:=x Z M 0 Y;unfold iF gG at this;replace this:=w▸n▸l▸o▸this;exact this _ (E.up D) B J
.refine let p:=_;(?_:p)
 have:=x Z M 0 Y;unfold iF gG at this;rw[o,l,n,w,C] at this;exact let p:=_;((this _ (E.up D) B J):p)}
theorem SF{I:fU}(h2:SA k m H h1 j M R B0)(D:B0<=G)(r:0<=B0)(h8:G<4611686018427387904)(Sc:js H sc h9 ba G I.len)(h7:dO H A s U h1)(nb:¬Gp j M R A)(z0:¬Gp j M R sc)(z1:¬Gp j M R h9)(n3:¬Gp j M R ba)(SI:DU s k m) (hr:∀e∈R,hG s 12 e.2) (b:R.length<12) (z8:xa s k m I):Cp (n+8) T H 69 [.ref A,.ref sc,.str I.op,I.lit,eV I.ks,I.about] (λQ=>∀F' i a Y,SA k m Y h1 F' i (jw s U I G R a) G->bL (Gp j M R) (Gp F' i<|jw s U I G R a) H Y->(∀c,mO s U I G R≠.str c)->Q (mO s U I G R) Y) (λX=>∀F' i a Y c,SA k m Y h1 F' i (jw s U I G R a) G->bL (Gp j M R) (Gp F' i<|jw s U I G R a) H Y->mO s U I G R= .str c->lQ Y c X):=λQ X q x=>by{
have ho:=Ii h2.S.g z8.kl;have g:=SI.em▸SI.hm;have nF:=λz=>nb<|.inl z;let PQ:V->(Addr->List ay)->Prop:=λv f=>∀F' i a Y,SA k m Y h1 F' i (f a) G->bL (Gp j M R) (Gp F' i<|f a) H Y->(∀c,v≠.str c)->Q v Y;let E:V->(Addr->List ay)->Prop:=λv f=>∀F' i a Y c,SA k m Y h1 F' i (f a) G->bL (Gp j M R) (Gp F' i<|f a) H Y->v= .str c->lQ Y c X;replace q:PQ (mO s U I G R) (jw s U I G R):=q;replace x:E (mO s U I G R) (jw s U I G R):=x;delta mO jw at q x;refine aR [S _,S _,S _,S I.lit,S<|eV I.ks,S I.about,N,N,N,N,N] J J<|lB J (ab J) J (let P:=_;((af (Sc.s) λz9 z2=>let p:=_;(?_:p)):wpSs _ _ _ _ P _));refine af (z2) λx0 z3=>ai (λs1 z4=>ai (λs2 s3=>aW (aN (ab J) s1 s2) (qz (zx (ab J) (aM J) (by decide) Jl) (λz H1 B=>?_) λz H1 B=>aK ?_))<|z4)<|z3
all_goals
 have S1:=h2.gr (cX _) B;have t:=h7.at<|B _ h7.live aJ;have o:bL (Gp j M R) (Gp j M R) H H1:=B.f5
.rw[show pL I.op=T from z] at q;refine fv (dC (aM J)<|QS S1 D r h8 (Sc.keep (B _ Sc.live.1 aJ) (B _ Sc.live.2.1 aJ)<|B _ Sc.live.2.2 aJ) t nb z0 z1 n3 SI.em z8.kl z8.k0 z8.tz (λe u=>(hr e u).i) b ho) (λF' i L v Y S' c' d=>?_) trivial;obtain⟨e1,a,e2⟩:=d.eq;refine aa e1 ?_;subst e2;refine q F' i a Y S' (o.trans c') λc=>(?_:ph s I.op I.ks I.tt I.ts G I.len (oF R I.ks) R≠.str c);delta ph oz
 induction I.op==238 using aX with
 |true=>exact(by intro z;exact V.noConfusion z)
 |false=>{
induction be G (oF R I.ks) using aV with
|some e=>refine(?_:(if fW e.2.inn e.2.evs (G,I.len) then V.none else brk)≠.str c);split<;>exact(by intro z;cases z)
|none=>{
cases iG (bP s.m) I.ks&&gZ s (bG R G) with
|false=>exact(by intro z;exact V.noConfusion z)
|true=>refine(?_:(if fW I.ts [] (G,I.len) then V.none else brk)≠.str c);split<;>exact(by intro z;cases z)}}
have zd:pL I.op=F:=z;rw[zd] at q x;have call:∀cr Z es l,(I.op==77||I.op==274)=T->(I.op==274)=cr->dA (an _ T) l H1 es Z->(∀h3,FT 44=S h3->pq h3 Z=S _)->wpSs (an (n+7) T) (fy X) (.cons _ .nil) (cL Q) l H1:=λcr Z es l h4 h5 O w=>by rw[h4,h5] at q x;refine ai (λt1 t2=>?_)<|WP (A:=A) S1 D (λF' i a Y h C=>q F' i a Y h<|o.trans C) λF' i a Y c h C=>x F' i a Y c h<|o.trans C;exact fv (dC O<|M5 S1 t nF g z8.bz z8.dz z8.ok (λe u=>(hr e u).d) b w) t1 t2
refine let P:=_;((aH (bC (ab J) aQ λ_=>J) (λz=>?_) λz5=>aK<|aH (bC (ab J) aQ λ_=>J) (λz=>?_) λz6=>aK ?_):wpSs _ _ _ _ P _)
.refine let p:=_;(?_:p)
 have z:=z;exact call F _ _ _ (by refine aa z ?_;rfl) (by refine aa (beq_iff_eq.mp z) ?_;rfl) (aM J) λh3 h=>by(obtain rfl:=aA h);rfl
.have z:=z;exact call T _ _ _ (by exact aa z<|PT ..) z (aM J) λh3 h=>by(obtain rfl:=aA h);rfl
rw[show(I.op==77||I.op==274)=F by rw[show(I.op==77)=F from z5,show(I.op==274)=F from z6];rfl] at q x;have h6:=S1.up D;refine aH (bC (ab J) aQ λ_=>J) (λz=>?_) λz=>aK ?_
.rw[show(I.op==80)=T from z] at q x;refine fv (dC (aB (ab J) (aB (cG (ab J) (ar) J (by decide))<|aM J))<|SM S1.S t z8.bz) (λF' Y _ h S' c'=>?_) λh=>?_
 .obtain⟨S2,c2⟩:=S1.j4 D (λe u=>(dZ.mp u).1) S' c';rw[h] at q;exact q F' M 0 Y S2 (o.trans c2) λ_ z=>V.noConfusion z
 .have h:(be G<|bI R I.b).isSome=F:=by{
induction h0:(be G<|bI R I.b).isSome using aX with
|false=>rfl
|true=>rw[h ((by{
induction hx:bI R (fU.b I) using aV with
|none=>replace h0:=hx▸h0;exact ak h0
|some y=>obtain⟨h4,h5⟩:=(h2.S.g.byBox y).mp hx;exact au h5<|aa ((h2.S.g.ok y h4).len.1)<|aa SI.em<|aa (Ch SI.hm) J}))] at h0;exact ak h0}
  rw[h] at x;exact(x j M 0 H1 _ h6 o J).ref
rw[show(I.op==80)=F from z] at q;refine aH (bC (ab J) aQ λ_=>J) (λz=>?_) λz=>aK ?_
.rw[show(I.op==37)=T from z] at q;refine let p:=_;(?_:p)
 refine fv (dC (aM J)<|Mo S1.S t nF) (λF' Y S' c'=>?_) trivial;obtain⟨S2,c2⟩:=S1.j4 D (λe u=>(dZ.mp u).1) S' c';exact q F' M 0 Y S2 (o.trans c2) λ_ z=>V.noConfusion z
rw[show(I.op==37)=F from z] at q;refine aH (bC (ab J) aQ λ_=>J) (λz=>?_) λz=>aK ?_
.rw[show(I.op==273)=T from z] at q;refine fv (dC (aM J)<|R5 S1.S t) (λF' Y S' c'=>?_) trivial;obtain⟨S2,c2⟩:=S1.j4 D (λe u=>(absurd u aJ)) S' c';exact q F' M 0 Y S2 (o.trans c2) λ_ z=>V.noConfusion z
rw[show(I.op==273)=F from z] at q;refine let P:=_;(?_:wpSs _ _ _ _ P _)
obtain⟨z7,hB⟩:=t;refine dk (VU (ab J) hB (aM J) ((λQ X q _=>aR [S _,S<|eV<|fU.ks I,S _] J J (fv (Ex.ec (E:=λ_ _=>False)<|JK S1.S ⟨z8.kl,z8.k0⟩ ho (fX ⟨z7,hB⟩ J J)<|aM J) (λv Y h0=>by refine aa h0.1<|aa h0.2 ?_;exact q) λ_ _ z=>z.elim):Cp ((n+4)+3) T H1 35079 [.ref A,eV<|fU.ks I,.int G] (λQ=>Q (iV<|be G<|oF R<|fU.ks I) H1) nX))) ?_ trivial;cases hx:be G (oF R I.ks) with
|none=>rw[hx] at q;exact let P:=_;((aZ (iw (t:=T) (y:=.none) ((ig<|ab J).to J) (λ_=>eh) λz=>ak z)<|q j M 0 H1 h6 o λ_ z=>V.noConfusion z):wpSs _ _ _ _ P _)
|some e=>rw[hx] at q;exact aZ (iw (t:=F) ((ig<|ab J).to J) (λz=>ak z) λ_=>cH (aM J)<|Jr<|S1.S.el e<|((ho e).mp (mj.mp hx).1).1)<|q j M 0 H1 h6 o λ_ z=>V.noConfusion z}
def iD(s:bj):Kd:=cond s.iv (cond (s.m==2) .tabs .span) .plain
def yG(H:MH)(s:bj)(Q:QV):Prop:=∀U j Y,bS (iD s) s.m Y U j []->(∀b,j b->H b=N)->Gr H Y->Q (.ref U) Y
theorem Eb(h:vD k m):cZ k m []:=⟨h,λ_ z=>((by cases z)),yb,bW _⟩
theorem WU{s:bj}(g:s.m=1\/s.m=2):Cp (n+5) T H 33 [s.v,.tup<|iu s.m] (yG H s) nX:=λQ X q _=>by{
have l:=(by{
unfold iD
induction s.iv using aX with
|false=>exact g
|true=>rcases g with e|e<;>rw[e]<;>rfl}:vD (iD s) s.m)
delta yG at q;unfold iD at l q;refine aR [S s.v,S _] J J<|aH (Dy aQ<|fE J J) (λz=>?_) λz=>aK ?_
.rw[eP z] at q l;refine let P:=_;let C:=_;(?_:wpSs _ P _ C _ _)
 refine fv (rW (f:=11075) (D:=yG H s) (g:=nX) bc λa m R Q X q _=>aR [S _] J J (kx (ub bc J (bp J gW (by decide))) (λt k=>mN (ab J) ((Gr.new k).at MH.c5)<|bA ?_) trivial)) (λU j Y o=>?_) trivial
 .have f:t≠a:=λz=>by replace k:=MH.c5▸z▸k;cases k
  replace k:=(MH.c9 f)▸k;unfold yG iD at q;replace q:=(eP z)▸q;exact q a (λb=>b=a\/b=t) _ ⟨Eb l,λ_ z=>(absurd z aJ),.plain t m (λb=>nN) MH.c5<|(MH.c9 f).trans MH.c5⟩ (λb h=>h.elim (λz=>by refine z▸?_;exact R) λz=>by refine z▸?_;exact k) λb D _=>(MH.c9 λz=>D (by refine z▸?_;exact R)).trans ((MH.c9 λz=>D (by refine z▸?_;exact k)).trans (MH.c9 λz=>D (by refine z▸?_;exact R)))
 .unfold iD at o;replace o:=(eP z)▸o;exact q U j Y o
rw[dX z] at q l;refine aH (t:=!(s.m==2)) ((gQ (fO J (ab J) (by rcases g with e|e<;>rw[e]<;>exact kn J)) ar).to (by rcases g with e|e<;>rw[e]<;>rfl)) (λz=>?_) λz=>aK ?_
.have d:=eP z;rw[d] at q l;refine fv (rW (f:=14075) (D:=λQ=>∀U j Y,bS .span s.m Y U j []->(∀b,j b->H b=N)->Gr H Y->Q (.ref U) Y) (g:=nX) bc λa m R Q X q _=>aR [S _] J J<|kx nP (λt k=>mN (ab J) ((Gr.new k).at MH.c5)<|bA (let p:=_;(?_:p))) trivial) q trivial;have f:t≠a:=λz=>by replace k:=MH.c5▸z▸k;cases k
 replace k:=(MH.c9 f)▸k;exact q a (λb=>b=a\/b=t) _ ⟨Eb l,λ_ z=>(absurd z aJ),.span t m [] (λb=>nN) MH.c5 ((MH.c9 f).trans MH.c5) ⟨yb,λ_ z=>(absurd z aJ)⟩<|.refl _⟩ (λb h=>h.elim (λz=>by refine z▸?_;exact R) λz=>by refine z▸?_;exact k) λb D _=>(MH.c9 λz=>D (by refine z▸?_;exact R)).trans ((MH.c9 λz=>D (by refine z▸?_;exact k)).trans (MH.c9 λz=>D (by refine z▸?_;exact R)))
.have d:=dX z;rw[d] at q l;rw[show iu s.m=[.int _,.int 2] by refine aa (beq_iff_eq.mp d) ?_;rfl];refine fv (rW (D:=λQ=>∀U j Y,bS .tabs s.m Y U j []->(∀b,j b->H b=N)->Gr H Y->Q (.ref U) Y) (g:=nX) (aM J) λa m R Q X q _=>Zp (E:=λ_ _=>False) MH.c5 _ _ (λv Y w=>let p:=_;(?_:p)) λ_ _ z=>z.elim) q trivial;obtain⟨e,A,c⟩:=w;subst e;refine af (c.T.x) λr L=>af (L) λM y=>ai (λx t=>q a (λb=>∃i,i<11/\b=A i) _ ⟨Eb l,λ_ z=>(absurd z aJ),.tabs A r M (λb=>nN) c.h0 x t⟩ (λb h=>?_) λb D _=>?_)<|y
 ·(refine aU (h) λi Z e=>?_)
  refine dP (c.new i Z) (λw=>?_) λw=>e▸(Gr.new R).none w;refine e▸w▸?_;exact R
 .have u:b≠a:=λz=>D (by refine aa z ?_;exact R);exact(c.old b (by refine aa (MH.c9 u) ?_;exact D) u).trans<|MH.c9 u}
def qI(x:Nat):Nat:=if x=94 then 4 else 2
def FP(d:Addr)(k:Nat):V:=.tup [.int (k:Nat),.str 302,.str 121,.ref d]
def xj(k o:Addr):List (aY×V):=[(.s 94,FP k 4),(.s 95,FP o 2)]
theorem Sw(h:x=94\/x=95):∃d,cY (xj k o) (.s x)=S (FP d<|qI x):=by rcases h with e|e<;>refine aa e ?_<;>exact⟨_,J⟩
theorem Sm:(((qI x:Nat):Int)==0)=F:=by unfold qI;split<;>rfl
theorem WL{H:MH}(D:H b=N)(v:H a=S (.dict<|xj k o)):∀(M done:List Nat) (x:Option V) (I:MH),Gr H I->I b=S (.list<|done.map λx=>V.int (qI x:Nat))->(∀x∈M,x=94\/x=95)->done.length+M.length<=10->(∀Y x,Gr H Y->Y b=S (.list<|(done++M).map λx=>V.int (qI x:Nat))->Q .next [S<|.ref a,G,S<|.ref b,x] Y)->cC (n+3) X (.one 3) (λ_=>True) IC Q (M.map V.str) [S<|.ref a,G,S<|.ref b,x] I:=by{
intro M
induction M with
|nil=>exact λdone x I g h _ _ q=>fH trivial (q I x g (by exact aa (fm ..) h))
|cons y M Z=>intro done x I g h c E q;refine af (Sw (k:=k) (o:=o)<|c y<|bw _) λd e=>?_;have A:∀{l:ae} {cx:Cx},l.at 0=S _->l.at 3=S (.str y)->Pv cx l I (.idx _<|.int 0) _:=λr C=>cG (rH (ab r) (g.at v) (ab C) J J e) (ar) J (by decide);refine dh trivial J (aH (t:=F) ((eW (yC (ab J) (ab J) (g.at v) J J) λ_=>gF (A J J) ar).to (by refine au e.symm<|au Sm.symm ?_;rfl)) (λz=>ak z) λ_=>aK (lM (ab J) h (by exact aa (aL ..) (am (am (eF _ _) E) (by decide))) (A J J) (ic (Z (done++[y]) _ _ (g.set D) (by refine aa MH.c5<|aa cK ?_;rfl) (λx f=>c x<|cq _ f) (by refine aa bV<|aa (fZ ..) ?_;rw[fF [y].length];exact E) λY x w i=>q Y x w (by refine aa i<|aa (ip ..) ?_;rfl)))))}
theorem Kb{H:MH}(v:H d=S (.dict<|xj k o))(O:M≠[])(E:M.length<=10)(a:∀x∈M,x=94\/x=95):pO (n+4) T H 35 [.ref d,.tup<|M.map V.str] (.tup<|M.map λx=>V.int (qI x:Nat)):=λI g Q X q=>by{
refine aR [S _,S _,N,N] J J (aH (t:=F) ((gQ (fO J (ab J) (by exact aa (aL ..) (am E (by decide)))) ar).to (by{
refine aa (aL ..) ?_
induction M using aS with
|nil=>exact absurd J O
|cons _ _=>rfl})) (λz=>ak z) λ_=>aK<|dk nP (λb D=>?_) trivial)
refine iY J (by exact aa (aL ..) (am E (by decide))) (wV<|ab J) (WL D (g.at v) M [] N _ (Gr.new D) MH.c5 a (by exact aa jF<|aa (da ..) E) λY x t c=>nx (cc (cj J (bq J (bl _ (congrArg eS c) (by exact aa (aL ..) (am E (by decide)))<|q Y t)))))}
def zq(m:Nat):List Nat:=if m=2 then [94,95] else [94]
theorem Kc:pG m= .tup ((zq m).map V.str)/\iu m=(zq m).map (λx=>V.int (qI x:Nat)):=by delta pG zq iu;split<;>exact⟨J,J⟩
theorem ZW{H:MH}{s:bj}(g:s.m=1\/s.m=2)(v:H d=S (.dict<|xj k o))(E:s.tm=F->s.tmo=0):Cp (n+7) T H 36 [.ref d,.str 277,s.v] (λQ=>∀A U j Y,dO Y A s F U->bS (iD s) s.m Y U j []->H A=N->¬j A->(∀b,j b->H b=N)->Gr H Y->Q (.ref A) Y) nX:=λQ X q _=>by{
refine aR [S _,S _,S s.v,N,N,N,N,N,N,N] J J (lB J (ab J) J (iA (nZ (aB (ab J)<|aB ((ab J).to Kc.1) bc) (Kb v (by rcases g with e|e<;>rw[e]<;>exact(by intro z;cases z)) (by rcases g with e|e<;>rw[e]<;>decide) (by{
delta zq;split
.exact λx f=>(bJ.mp f).elim .inl λh=>.inr<|cJ.mp h
.exact λx f=>.inl<|cJ.mp f}))) λI B=>?_))
refine Kc.2▸(let P:=_;(?_:wpSs _ _ _ _ P _));have w:∀m,Gr I m->wpSs (an (n+6) T) (fy X) (hU 3 KC) (cL Q) [S<|.ref d,S _,S s.v,S<|pG s.m,S s.ds.v,S<|.tup<|gX s,S<|.int s.tmo,S<|.int s.size,S _,S _] m:=λm t=>by{
refine let P:=_;(?_:wpSs _ _ _ _ P _)
have t:=B.trans t;refine aH (dD (p:=F) (q:=T) (ab J) λz=>ak z) (λz=>ak z) λ_=>aK<|aH (t:=F) ((dD (fC (ab J) ar) λ_=>Ln aQ<|ab J).to<|congrArg V.bool ?_) (λz=>ak z) λ_=>aK ?_
.induction e:s.tm using aX with
 |true=>exact ny _
 |false=>refine aa (E e) ?_;rfl
refine fv (rW (D:=λQ=>∀A U j Y,dO Y A s F U->bS (iD s) s.m Y U j []->m A=N->¬j A->(∀b,j b->m b=N)->Gr m Y->Q (.ref A) Y) (g:=nX) (aM J) λa i R Q X q _=>?_) (λA U j Y L r G M C O=>q A U j Y L r (t.none G) M (λb D=>t.none<|C b D)<|t.trans O) trivial;refine aR [S _,S _,S s.v,S _] J J<|bY (ab J) (ab J) MH.c5<|bY (ab J) (ab J) MH.c5<|bY (ab J) (ab J) MH.c5<|bY ar (ab J) MH.c5<|bY eU (ab J) MH.c5<|bY eU (ab J) MH.c5 ?_;refine aa MH.d4<|aa MH.d4<|aa MH.d4<|aa MH.d4<|aa MH.d4<|aa MH.d4 ?_;generalize u:m.set a _=H3;have C:=u▸MH.c5;refine kx (dC (aM J)<|WU g) (λU j p r Z y=>mN (ab J) (y.at C) (bA ?_) J J) trivial;have l:¬j a:=λz=>by have:=Z a z;replace this:=C▸this;cases this
exact q a U j _ ⟨i,MH.c5⟩ (r.keep (λb D=>MH.c9 λz=>l (by refine z▸?_;exact D)) λ_ z=>(absurd z aJ)) R l (λb D=>by{
have:=Z b D;rw[<-u] at this;by_cases c:b=a
.exact aa c R
.replace this:=(MH.c9 c)▸this;exact this}) (JF R (by exact aa u y))}
refine aH (dD (fR<|ab J) λz=>Li (ab J)<|MQ z) (λz=>?_) λz=>aK<|w I Gr.rfl;have e:s.ds= .b1:=by{
induction e:s.ds using Ds.casesOn with
|b1=>rfl
|no=>replace z:=e▸z;exact ak z
|vd=>replace z:=e▸z;exact ak z}
refine cc (nZ (aB (ab J) (aB ((ab J).to (by refine e▸?_;rfl)) bc)) (Kb (B.at v) (by intro z;cases z) (by decide) λx f=>.inr<|cJ.mp f) I Gr.rfl _ _ λm t=>aK<|w m t)}
def lD:List Nat:=[253,100,254,256,257,258,259,260,261,212,262,263,176,264,265,267,268,269,270]
def jP(H:MH)(a:Addr)(j:Nat)(G:Int)(B:MH):Prop:=∃i D,H a=S (.inst 52 i D)/\(D.map (·.1)=lD.take j/\(et 2 j=T->cy D 100=S (.int G)))/\∀b,b≠a->B b≠N->H b=B b
theorem HT(h:(D.map (·.1)).contains k=F):cf D k v=D++[(k,v)]:=by{
induction D with
|nil=>rfl
|cons p D Z=>obtain⟨G,M⟩:=ye.mp<|h;refine(?_:(if(p.1==k)=T then _ else p::cf D k v)=_);rw[if_neg (by exact aa uZ<|aa G λz=>ak z),Z M];rfl}
theorem jP.gr(w:jP H a j G B)(g:Gr H I):jP I a j G B:=by
 refine let p:=_;(?_:p)
 exact af (w) λi L=>af (L) λc y=>ai (λh x=>ai (λk o=>(fN i c (g.at h) k (λb D r=>(g b (by refine aa (o b D r) ?_;exact r) aJ).trans<|o b D r)))<|x)<|y
def zM(j k:Nat):Bool:=(lD.take (j+1)==lD.take j++[k])&&(lD.contains k&&(!(lD.take j).contains k&&et j 20))
theorem jP.set{k:Nat}{v:V}(t:jP H a j G B)(q:∀Y,jP Y a (j+1) G B->wpSs (an n T) X r Q l Y)(x:l.at 0=S (.ref a))(A:zM j k=T)(w:(k==100)=T->v= .int G)(h9:et 1 j=T\/(k==100)=F/\j=0:=by exact .inl J) (u:(k==100)=dQ j 1:=by rfl):aP (an n T) (λa H=>X a l H) l (.loc 0) (λt C=>mC (an n T) (λH=>wpSs (an n T) X r Q l H) C t k v) H:=by{
refine let E:=_;(?_:E)
refine iC t λi D h P o=>?_;obtain⟨e,f⟩:=P;obtain⟨L,R⟩:=bm.mp A;obtain⟨R,s⟩:=bm.mp R;obtain⟨s,I⟩:=bm.mp s;have d:D.length<=20:=by rw[<-aL (f:=(·.1)),e,Bo];exact am (aaN _ _)<|kn I
refine mN (d:=⟨733,lD,[(75,53075)],53075,F⟩) (ab x) h (q _<|fN i _ MH.c5 ⟨?_,λg=>?_⟩ λb y x=>(MH.c9 y).trans<|o b y x) J (bm.mpr ⟨R,Hq (am d (by decide))⟩)
.rw[HT (by rw[e];exact eP s),cK,e];exact(beq_iff_eq.mp L).symm
.rw[HT (by rw[e];exact eP s)]
 induction c:k==100 using aX with
 |true=>{
rw[w c,beq_iff_eq.mp c];unfold cy;rw[abx,qu.mpr λp O z=>?_]
.rfl
.have m:(lD.take j).contains k=T:=by
  rw[<-e,Bc,beq_iff_eq.mp c,<-beq_iff_eq.mp z];exact bZ.mpr<|aG p O J
 rw[m] at s;exact ak s}
 |false=>{
rw[(by
 unfold cy;refine aa (abx) ?_;have:[(k,v)].find? (λe:Nat×V=>e.1==100)=N:=by refine aa (fG)<|aa c ?_;rfl
 exact aa this (congrArg _ OR):cy (D++[(k,v)]) 100=cy D 100)]
refine f ?_;have:2<=j+1:=kn g;exact Hq (sD (Bg this) (eE (λz=>by rw[c,z] at u;exact ak u)))}}
theorem mF{k:Nat}{v:V}{e:ME}(b:jP H a j G B)(h:Pv (an n T) l H e v)(q:∀Y,jP Y a (j+1) G B->wpSs (an n T) X r Q l Y)(w:(k==100)=T->v= .int G)(c:l.at 0=S (.ref a):=by rfl) (d:zM j k=T:=by exact tt) (h9:et 1 j=T\/(k==100)=F/\j=0:=by exact .inl J) (u:(k==100)=dQ j 1:=by rfl):wpSs (an n T) X (.cons (.setA (.loc 0) k e) r) Q l H:=kx h.ec (b.set q c d w h9 u) trivial
theorem rU{k:Nat}(b:jP H a j G B)(q:∀Y,jP Y a (j+1) G B->wpSs (an n T) X r Q l Y)(c:l.at 0=S (.ref a):=by rfl) (d:zM j k=T:=by exact tt) (h9:et 1 j=T:=by exact tt) (u:(k==100)=dQ j 1:=by rfl) (w:(k==100)=F:=by exact ff):wpSs (an n T) X (.cons (.setA (.loc 0) k<|.dict .nil) r) Q l H:=kx (ub (j:=[]) bc J (bp J gW (by decide))) (λf e=>(b.gr<|Gr.new e).set q c d (λz=>by replace z:=w▸z;exact ak z) (.inl h9) u) trivial
theorem KT{k:Nat}(b:jP H a j G B)(q:∀Y,jP Y a (j+1) G B->wpSs (an n T) X r Q l Y)(c:l.at 0=S (.ref a):=by rfl) (d:zM j k=T:=by exact tt) (h9:et 1 j=T:=by exact tt) (u:(k==100)=dQ j 1:=by rfl) (w:(k==100)=F:=by exact ff):wpSs (an n T) X (.cons (.setA (.loc 0) k<|.list .nil) r) Q l H:=kx nP (λf e=>(b.gr<|Gr.new e).set q c d (λz=>by replace z:=w▸z;exact ak z) (.inl h9) u) trivial
def Ci(H:MH)(m:Addr)(G:Int):Prop:=∃i D,H m=S (.inst 52 i D)/\D.map (·.1)=lD/\cy D 100=S (.int G)
theorem Zw{l:ae}(s:l.at 4=S (.int G)):Ec (an (n+1) T) l H (.new 52<|.cons .none<|.cons (.dict .nil)<|.cons (.loc 4) .nil) (λQ=>∀m Y,Ci Y m G->H m=N->Gr H Y->Q (.ref m) Y) nX:=λQ X q _=>by
 refine let P:=_;(?_:aP P _ _ _ _ _)
 refine ub (cx:=an (n+1) T) (l:=l) bc J (bp J gW (by decide)) _ X (λf c=>let P:=_;(?_:wpEs _ _ _ _ P _)) trivial;have L:Gr H (H.set f<|.dict []):=Gr.new c;generalize H.set f _=B at L ⊢;refine ab s B Gr.rfl X _ (?_:cB (CT 52) λd=>oo (an _ T) X Q 52 _ B d);refine bq (x:=⟨733,lD,[(75,53075)],53075,F⟩) J λa i R=>?_;have w:jP (B.set a _) a 0 G B:=(fN i ([]) MH.c5 ⟨J,(λz=>ak z)⟩ λb D _=>MH.c9 D);generalize B.set a _=I at w ⊢;refine((aR [S _,S .none,S _,S _,S _] J J (let P:=_;let C:=_;let j:=_;let U:=_;((mF w (ab J) (h9:=.inr ⟨J,J⟩) (w:=(λz=>ak z)) λ_ w=>mF w (ab J) (w:=λ_=>J) λ_ w=>mF w (ab J) (w:=(λz=>ak z)) λ_ w=>mF w eh (w:=(λz=>ak z)) λ_ w=>mF w ar (w:=(λz=>ak z)) λ_ w=>mF w ar (w:=(λz=>ak z)) λ_ w=>mF w eh (w:=(λz=>ak z)) λ_ w=>rU w λ_ w=>rU w λ_ w=>mF w (ab J) (w:=(λz=>ak z)) λ_ w=>rU w λ_ w=>rU w λ_ w=>rU w λ_ w=>rU w λ_ w=>mF w aQ (w:=(λz=>ak z)) λ_ w=>KT w λ_ w=>KT w λ_ w=>mF w eh (w:=(λz=>ak z)) λ_ w=>rU w λg w=>bA ?_):wpSs P C _ j U _))):gk CT FT (n+1) T 53075 [.ref a,.none,.ref f,.int G] (wf Q a) X I);refine iC w λM k h p o=>?_;obtain⟨e,r⟩:=p;exact q a g (fN M k h e<|r J) (L.none R) λb D _=>(o b (λz=>D (by refine aa z ?_;exact L.none R)) (by refine aa (L b D aJ) ?_;exact D)).trans<|L b D aJ
def lA:Nat->MSs->MSs
 |0,_=>.nil
 |_+1,.nil=>.nil
 |n+1,.cons s r=>.cons s<|lA n r
def bE(m:List Int):bj:=qV (gU m 0)<|gU m 1
def qW:List (aY×V):=[(.s 183,.str 192),(.s 184,.str 193),(.s 182,.str 191),(.s 188,.str 177),(.s 181,.str 178)]
structure lE (sc:List Int) (j jt:Nat) (H:MH) (w bd sn ra st:Addr) (now:Int) (bb:Bool) (F:Fp) (M:Addr->Fp) (R:List ay) (Z:List Lz):Prop where
 S:SA (iD (bE sc)) (bE sc).m H st F M R now
 B:dO H bd (bE sc) bb st
 L:LA H ra Z R
 W:H w=some (.dict qW)
 Sn:Ci H sn now
 r:∀e∈R,hG (bE sc) j e.2
 z:R.length<=j
 t:0<=now/\now<=1099511627776+1000*jt
 dj:∀b,Gp F M R b->¬Lp ra Z b
 nb:∀b,b=w\/b=bd\/b=sn->¬Gp F M R b/\¬Lp ra Z b
def tP(m:List Int)(w A s o:Addr)(G:Int)(U:Bool)(L:List<|Option V):ae:=S (.scr m)::S (.ref w)::S (bE m).v::S (.ref A)::S (.int G)::S (.ref s)::S (.ref o)::S (.bool U)::L
inductive oH (sc:List Int) (j:Nat):ae->MH->Prop
 |mk (w bd sn ra st:Addr) (now:Int) (bb:Bool) (F:Fp) (M:Addr->Fp) (R:List ay) (Z:List Lz) (H:MH) (x8 x9 x10 x11 x12 x13 x14 x15 x16 x17 x18 x19 x20:Option V) (C:lE sc j j H w bd sn ra st now bb F M R Z):oH sc j (tP sc w bd sn ra now bb [x8,x9,x10,x11,x12,x13,x14,x15,x16,x17,x18,x19,x20]) H
theorem uc:(bE m).m=1\/(bE m).m=2:=by{
show cond _ 2 1=1\/cond _ 2 1=2
induction(aO (gU m 0) 3==2) using aX with
|true=>exact .inr J
|false=>exact .inl J}
theorem JM:DU (bE m) (iD<|bE m) (bE m).m:=⟨J,uc,by show 0<=dM _ 2 3 0 1;unfold dM;split<;>decide⟩
theorem G5:(bE m).tm=F->(bE m).tmo=0:=λh=>by have h:(!(aO (gU m 1/2) 4==3))=F:=h;show cond (!(aO (gU m 1/2) 4==3)) _ 0=0;refine aa h ?_;rfl
theorem Ru:Ec cx l H (.dict<|.cons (.str 94)<|.cons (.tup<|.cons (.int 4)<|.cons (.str 302)<|.cons (.str 121)<|.cons (.dict .nil) .nil)<|.cons (.str 95)<|.cons (.tup<|.cons (.int 2)<|.cons (.str 302)<|.cons (.str 121)<|.cons (.dict .nil) .nil) .nil) (λQ=>∀d k o Y,Y d=S (.dict<|xj k o)->Gr H Y->Q (.ref d) Y) nX:=λQ X q _=>cj ⟨J,gW,by decide⟩ λk G=>cj (by decide:4<=1000000) (cj ⟨J,gW,by decide⟩ λo M=>cj (by decide:4<=1000000) (cj (bp J (show([aY.s 94,aY.s 95]).Nodup by decide) (by exact(by decide:2<=15))) λd C=>q d k o _ MH.c5<|((Gr.new G).trans<|Gr.new M).trans<|Gr.new C))
theorem VF(E:m.length<=1000)(q:∀l Y,oH m 0 l Y->Q .next l Y):wpSs (an (n+8) T) X (lA 9 zw) Q (S (.scr m)::fj 20 N) H:=by{
refine let P:=_;let C:=_;((dk (ub (j:=qW.take 3) (aM J) J ⟨J,by decide,by exact(by decide:3<=15)⟩) (λw hw=>nS (aQ) (ab J) (aQ) (tx MH.c5 J J (by decide) ?_)) trivial):wpSs P _ _ _ C _)
refine nS (aQ) (ab J) (aQ) (tx MH.c5 J J (by decide)<|au MH.d4.symm<|au MH.d4.symm ?_);have w1:(H.set w _) w=S (.dict qW):=MH.c5;refine(?_:wpSs (an _ T) X (lA 6<|hU 3 zw) Q _<|H.set w<|.dict qW);generalize H.set w _=I at w1 ⊢;refine let P:=_;let C:=_;(?_:wpSs P _ _ _ C _)
refine iA (nZ (aM J)<|J5 E) λH2 t=>let P:=_;(?_:wpSs _ _ _ _ P _)
refine dk (D:=λQ=>∀A U j Y,dO Y A (bE m) F U->bS (iD<|bE m) (bE m).m Y U j []->H2 A=N->¬j A->(∀b,j b->H2 b=N)->Gr H2 Y->Q _ Y) (g:=nX) (λQ X q _=>Ru _ X (λty k o v ht i=>aQ v Gr.rfl X _<|ab J v Gr.rfl X _<|ZW uc ht G5 Q X (λA U j Y B O G M h3 g=>q A U j Y B O (i.none G) M (λb D=>i.none<|h3 b D)<|i.trans g) trivial) trivial) (λA U j H4 B O h2 x Z g4=>aW (oa (k:=1099511627776) (cH (aB (ab J)<|aB (ar) bc) (xd E (by decide))) (λh4 g X Q q=>cj ⟨by decide,by decide,by decide⟩ q))<|dk (Zw J) (λsn f a h1 r=>dk nP (λra h0=>aW eU<|bA<|q _ _ ?_) trivial) trivial) trivial;have g6:Gr f (f.set ra<|.list []):=Gr.new h0;have w4:=(t.trans g4).at w1;have wF:¬j w:=λz=>by have:=Z w z;replace this:=(t.at w1)▸this;cases this
have p:∀{b:Addr},Lp ra [] b->b=ra:=λh=>h.elim id λ⟨z,E,_⟩=>absurd E aJ;have c:∀{b:Addr},Gp j (λ_ _=>False) [] b->j b:=λh=>h.elim id λ⟨e,u,_⟩=>absurd u aJ;have d:∀{b:Addr},f b≠N->b≠ra:=λh z=>h (by refine z▸?_;exact h0);refine .mk w A sn ra U _ F j (λ_ _=>False) [] [] _ N N N N N N N N N N N N N ⟨⟨O.gr<|r.trans g6,λe u=>(absurd u aJ),λe u=>(absurd u aJ),λe u=>(absurd u aJ),λe u=>(absurd u aJ)⟩,(B.at<|(r.trans g6) A B.live aJ),⟨MH.c5,J,λz E=>(absurd E aJ),gW⟩,g6.at<|r.at w4,?_,λe u=>(absurd u aJ),cD _,⟨cR _,?_⟩,λb D h=>?_,λb D=>⟨λh=>?_,λh=>?_⟩⟩
·(refine af (a) λdx L=>?_;refine af (L) λfs y=>?_;refine ai (λh h'=>?_)<|y)
 exact⟨dx,fs,g6.at h,h'⟩
.have:=cM.mpr (ia (x:=gU m 2) (k:=1099511627776) (by decide));exact cV (nA this) (by decide)
.have s:=O.live.1 b (c D);exact d (by refine aa (r b s aJ) ?_;exact s)<|p h
.rcases D with e|e|e
 .replace h:=e▸h;exact wF<|c h
 .replace h:=e▸h;exact x<|c h
 .replace h:=e▸h;exact(λh z=>O.live.1 _ z h) h1<|c h
.have z:=p h;rcases D with e|e|e
 .exact d (by refine(r.at w4)▸?_;exact(by intro z;obtain⟨⟩:=z))<|e.symm.trans z
 .exact d (by refine aa (r A B.live aJ) ?_;exact B.live)<|e.symm.trans z
 ·(refine af (a) λdx L=>?_;refine af (L) λfs y=>?_;refine ai (λR _=>?_)<|y)
  exact d (by refine R▸?_;exact(by intro z;obtain⟨⟩:=z))<|e.symm.trans z}
theorem Ml(h:(D.map (·.1)).contains k=T):(cf D k v).map (·.1)=D.map (·.1):=by{
induction D with
|nil=>exact ak h
|cons p D Z=>{
refine(?_:(if(p.1==k)=T then(p.1,v)::D else p::cf D k v).map (·.1)=_);split
.rfl
.rename_i c
 have:=(uS.mp<|h).resolve_left λz=>c (by exact uZ.trans z);exact congrArg (p.1::·)<|Z this}}
theorem JL:cy (cf D k v) k=S v:=by{
induction D with
|nil=>show([(k,v)].find? λe:Nat×V=>e.1==k).map (·.2)=_;refine aa (fG)<|aa (beq_self_eq_true ..) ?_;rfl
|cons p D Z=>{
refine(?_:((if(p.1==k)=T then(p.1,v)::D else p::cf D k v).find? λe:Nat×V=>e.1==k).map (·.2)=_);split
.rename_i c;refine aa (fG)<|aa c ?_;rfl
.rename_i c;exact aa (fG)<|aa (mi.mpr c) Z}}
theorem Kl(h:(k==m)=F):cy (cf D k v) m=cy D m:=by{
induction D with
|nil=>show([(k,v)].find? λe:Nat×V=>e.1==m).map (·.2)=_;refine aa (fG)<|aa h ?_;rfl
|cons p D Z=>{
refine(?_:((if(p.1==k)=T then(p.1,v)::D else p::cf D k v).find? λe:Nat×V=>e.1==m).map (·.2)=((p::D).find? λe:Nat×V=>e.1==m).map (·.2));split
.rename_i c
 have:=(beq_iff_eq.mp c)▸h;exact aa (fG)<|aa (fG)<|aa this J
.refine aa (fG) (aa (fG) ?_)
 induction p.1==m using aX with
 |true=>rfl
 |false=>exact Z}}
theorem lE.upd{c:Nat}(C:lE m j d H w A s o g G U k M R Z)(D:G<=n)(v:n<=1099511627776+1000*c)(l:dO Y A (bE m) e g)(a:Ci Y s n)(p:Y w=some (.dict qW))(i:∀b,H b≠N->¬(b=w\/b=A\/b=s)->Y b=H b):lE m j c Y w A s o g n e k M R Z:=⟨C.S.keep D λb h=>i b (C.S.live b h) λf=>(C.nb b f).1 h,l,C.L.keep λb h=>i b (C.L.live b h) λf=>(C.nb b f).2 h,p,a,C.r,C.z,⟨cV C.t.1 D,v⟩,C.dj,C.nb⟩
theorem lE.ne(C:lE m j d H w A s o e G U f M R Z):w≠s/\A≠s/\w≠A:=by exact af (C.Sn) λi c=>af (c) λD y=>ai (λh _=>af (C.B) λg a=>(bp (λb=>(by replace h:=C.W▸b▸h;cases h)) (Fw a h J) (λb=>(by replace a:=C.W▸b▸a;cases a))))<|y
theorem FG{w:List Int}{j:Nat}(B:dA cx l H a<|w.map V.int)(Z:Pv cx l H i<|.int j)(h9:j<w.length)(E:w.length<=1000):Gv cx l H (.idx (.list a) i) (.int<|w[j]?.getD 0):=pt B Z (by refine gy▸(aa (bX h9) ?_);rfl) (by exact aa (aL ..) E)
def vR(c x d X:Int)(j:Nat)(L:List<|Option V):List (Option V):=S (.int j)::S (.int c)::S (.int x)::S (.int d)::S (.int X)::L
inductive CU (sc:List Int) (j:Nat):ae->MH->Prop
 |mk (w bd sn ra st:Addr) (now:Int) (bb:Bool) (F:Fp) (M:Addr->Fp) (R:List ay) (Z:List Lz) (H:MH) (x9 x10 x11:Int) (len:Nat) (hl:len<=40) (x13 x14 x15 x16 x17 x18 x19 x20:Option V) (C:lE sc j (j+1) H w bd sn ra st now bb F M R Z):CU sc j (tP sc w bd sn ra now bb (vR x9 x10 x11 len j [x13,x14,x15,x16,x17,x18,x19,x20])) H
theorem A3{l:ae}{cx:Cx}{c k j:Nat}(z:l.at 8=S (.int j))(e:k=c+3*j:=by rfl) (h9:j<=1000):Pv cx l H (.bin .add (.int c)<|.bin .mul (.int 3)<|.loc 8) (.int k):=(iz ar (EI ar (ab z) ⟨by decide,cN (show(j:Int).natAbs<=1000 from h9) (by decide)⟩)).to (congrArg V.int (by refine aa e ?_;rfl))
theorem Rm(h:k<6):0<=[(5:Int),0,10,25,40,1000][k]?.getD 0/\[(5:Int),0,10,25,40,1000][k]?.getD 0<=1000:=(by decide:∀k,k<6->0<=[(5:Int),0,10,25,40,1000][k]?.getD 0/\[(5:Int),0,10,25,40,1000][k]?.getD 0<=1000) k h
theorem TN(h:k<3):∃m:Nat,m<=40/\[(20:Int),28,40][k]?.getD 0=(m:Int):=⟨[20,28,40][k]?.getD 0,(by decide:∀k,k<3->[20,28,40][k]?.getD 0<=40/\[20,28,40][k]?.getD 0=(([20,28,40][k]?.getD 0:Nat):Int)) k h⟩
set_option maxHeartbeats 1000000 in
theorem WF(hz:sc.length<=1000)(h9:j<12)(I:oH sc j l H)(o:cT (.one 8) (.int j) l=S C)(q:∀l Y,CU sc j l Y->Q .next l Y):wpSs (an (n+8) T) X (lA 6 kK) Q C H:=by{
refine let P:=_;(?_:wpSs P _ _ _ _ _)
obtain⟨h4,A,s,ra,h5,G,U,h6,M,R,h7,H,x8,x9,x2,x3,x4,z0,z1,z2,z3,z4,z5,z6,z7,O⟩:=I
(refine au (aA o) ?_)
have h2:∀{l:ae} {H:MH} {w:List Int} {c:Nat} {es:MEs},l.at 0=S _->l.at 8=S _->w.length=12->c<=5->dA (an (n+8) T) l H es (w.map V.int)->Gv (an (n+8) T) l H _ _:=λr h8 u z8 B=>wC (cH (aB (ab r) (aB (A3 h8 J (bU (cO h9 (by decide)))) bc)) (xd hz (am (sv z8<|yg 3<|bU h9) (by decide)))) (FG B (ab h8) (by refine u▸?_;exact h9) (by refine u▸?_;decide))
have h3:∀{l:ae} {H:MH} {a b c d e f g h i j k m:Int},dA (an (n+8) T) l H (.cons _<|.cons (.int b)<|.cons (.int c)<|.cons (.int d)<|.cons (.int e)<|.cons (.int f)<|.cons (.int g)<|.cons (.int h)<|.cons (.int i)<|.cons (.int j)<|.cons (.int k)<|.cons (.int m) .nil) ([a,b,c,d,e,f,g,h,i,j,k,m].map V.int):=aB ar<|aM J;refine let P:=_;(?_:wpSs _ _ _ _ P _)
refine iA (h2 (c:=3) J J J (by decide) h3) λH1 g1=>iA (h2 (c:=4) J J J (by decide) h3) λH2 g2=>iA (h2 (c:=5) J J J (by decide) h3) λH3 g3=>?_;generalize gU sc (3+3*j)+_=a9;generalize gU sc (4+3*j)+_=z9;generalize gU sc (5+3*j)+_=h0;refine let P:=_;(?_:wpSs _ _ _ _ P _)
refine iA (wC (ab J) (FG (w:=[5,0,10,25,40,1000]) (aM J) (oa (k:=6) (ab J) ar) (ia (by decide)) (by decide))) λp g4=>?_;have t8:0<=[(5:Int),0,10,25,40,1000][aO h0 6]?.getD 0/\[(5:Int),0,10,25,40,1000][aO h0 6]?.getD 0<=1000:=Rm (ia (by decide));generalize [5,0,10,25,40,1000][aO h0 6]?.getD 0=dt at t8 ⊢;refine let P:=_;(?_:wpSs _ _ _ _ P _)
have h1:=(g1.trans<|g2.trans g3).trans g4;refine let Gz:=_;(?_:Gz)
refine af (O.Sn) λdx L=>af (L) λD y=>ai (λs1 x=>ai (λE t=>kx (ab J).ec (mN (d:=⟨733,lD,[(75,53075)],53075,F⟩) (ab J) (h1.at s1) (ai (λx0 L=>ai (λx1 n3=>?_)<|L)<|O.ne) J (bm.mpr ⟨J,Hq (by rw[<-aL,E];exact(by decide:19<=1000))⟩)) trivial)<|x)<|y;have C5:lE sc j (j+1) (p.set s<|.inst 52 dx<|cf D 100 _) h4 A s ra h5 _ U h6 M R h7:=O.upd (Hm t8.1) (by have:=O.t.2;refine aa (BJ ..)<|aa (Int.mul_add ..)<|au (mf ..) ?_;exact Int.add_le_add this<|t8.2) (O.B.at<|(MH.c9 x1).trans<|h1 _ O.B.live aJ) (fN dx _ MH.c5 (by exact aa (Ml (by refine aa E ?_;rfl))<|aa E J) JL) ((MH.c9 x0).trans<|h1.at O.W) λb hb v=>(MH.c9 λz=>v<|.inr<|.inr z).trans<|h1 b hb aJ
generalize p.set s _=H5 at C5 ⊢;refine iA (FG (w:=[20,28,40]) (aM J) (gC (k:=3) (ab J) (by decide)) (ia (by decide)) (by decide)) λH6 g6=>bA ?_;have lt:∃k:Nat,k<=40/\[(20:Int),28,40][aO (h0/30) 3]?.getD 0=(k:Int):=TN (ia (by decide));refine af (lt) λZ L=>ai (λo e=>?_)<|L;refine aa e ?_;exact af (C5.Sn) λdx L=>af (L) λD y=>ai (λs1 x=>ai (λE t=>q _ _<|.mk h4 A s ra h5 _ U h6 M R h7 H6 a9 z9 h0 Z o z0 z1 z2 z3 z4 z5 z6 z7<|C5.upd (cX _) C5.t.2 (C5.B.at<|g6 _ C5.B.live aJ) (fN dx D (g6.at s1) E t) (g6.at C5.W) λb hb _=>g6 b hb aJ)<|x)<|y}
theorem KZ:(kC j k v).length<=j.length+1:=by{
unfold kC;split
.exact aa (aL ..)<|si _
.exact aa bV<|cD _}
theorem IR(h:dL j a=T)(w:(k.kind==a.kind)=T):dL (kC j k v) a=T:=by{
have h:=im.mp h;refine im.mpr λe u=>?_;unfold kC at u;split at u
·(refine aU (bZ.mp u) λp O A=>?_)
 refine au A ?_;split<;>exact h p O
.exact dP (cp.mp u) (λu=>h e u) λu=>aa (cJ.mp u) w}
theorem Tk{H:MH}(m:H d=N):∀(M:List Nat) (j:List<|aY×V) (x:Option V) (I:MH),Gr H I->I d=S (.dict j)->dL j (.s 0)=T->j.length+M.length<=100->(∀Y j x,Gr H Y->Y d=S (.dict j)->dL j (.s 0)=T->j.length<=100->Q .next [S<|.ref d,x] Y)->cC n X (.one 1) (λ_=>True) Lq Q (M.map V.str) [S<|.ref d,x] I:=by{
intro M
induction M with
|nil=>exact λj x I g h o z q=>fH trivial<|q I j x g h o z
|cons y M Z=>intro j x I g h o z q;refine dh trivial J (nS ar (ab J) (ab J) (tx h J o (am (am (eF _ _) z) (by decide))<|Z _ _ _ (g.set m) MH.c5 (IR o J) ?_ q));rw[iN,fF M.length,<-fZ] at z;exact am (sA KZ _) z}
theorem J9:Cp (n+1) T H 50 [] (λQ=>∀d Y,H d=N->Gr H Y->Q (.ref d) Y) nX:=λQ X q _=>by exact aR [N,N] J J (dk (ub bc J (bp J gW (by decide))) (λd m=>iY J (by exact(by decide:7<=1000000)) (wV (L:=[240,241,242,243,244,245,246].map V.str) (cP (aM J) (by decide:7<=1000000))) (Tk m _ [] N _ (Gr.new m) MH.c5 J (by decide) λa j x t M o z=>nx (nS ar (ab J) (aQ) (tx M J o (am z (by decide)) (nS ar (ab J) (aQ) (tx MH.c5 J (IR o J) (am KZ (am (nG z) (by decide)))<|aZ (ab J)<|q d _ m<|(t.set m).set m)))))) trivial)
theorem HA{l:ae}(O:cx.hn=T)(r:l.at i=S (.bytes k))(E:k<=1000000):Ec cx l H (.bi .bytearray<|.cons (.loc i) .nil) (λQ=>∀f,H f=N->Q (.ref f) (H.set f<|.bytearr k)) nX:=λQ X q _=>cj O<|bq r<|cj E q
theorem D9{H:MH}(R:H a=S (.inst 51 i []))(E:Z<=1000000)(q:∀Y u g,Y a=S (.inst 51 i g)->cy g 159=S (.ref u)->Y u=S (.bytearr Z)->H u=N->(∀b,b≠a->H b≠N->Y b=H b)->Q .none Y):wpSs (an (n+1) T) (fy X) ui (cL Q) [S<|.ref a,S<|.bytes Z,S<|.int 2048,S<|.bytes 0] H:=by{
refine let P:=_;let C:=_;let j:=_;let U:=_;(?_:wpSs P C _ j U _)
refine kx (HA J J E) (λu D=>mN (ab J) ((Gr.new D).at R) ?_) trivial;have l:u≠a:=λz=>by replace D:=R▸z▸D;cases D
have G:((H.set u<|.bytearr Z).set a<|.inst 51 i<|cf [] 159<|.ref u) a=S _:=MH.c5;have c:((H.set u _).set a<|.inst 51 i<|cf [] 159<|.ref u) u=S (.bytearr Z):=(MH.c9 l).trans MH.c5;have v:∀b,b≠a->H b≠N->((H.set u<|.bytearr Z).set a<|.inst 51 i<|cf [] 159<|.ref u) b=H b:=λb e r=>(MH.c9 e).trans (MH.c9 λz=>r (by refine aa z ?_;exact D));generalize (H.set u<|.bytearr Z).set a _=I at G c v ⊢;refine kx (HA J J<|bW _) (λL o=>mN (ab J) ((Gr.new o).at G) ?_) trivial;refine bY (ab J) (ab J) MH.c5<|bY ar (ab J) MH.c5<|bY ar (ab J) MH.c5<|bY ar (ab J) MH.c5 ?_;refine aa MH.d4<|aa MH.d4<|aa MH.d4<|aa MH.d4 ?_;have M:((I.set L<|.bytearr 0).set a _) a=S (.inst 51 i [(159,.ref u),(249,.ref L),(135,.int 2048),(250,.int<|-1),(251,.int<|-1),(96,.int 0)]):=MH.c5;have x:((I.set L<|.bytearr 0).set a<|.inst 51 i [(159,.ref u),(249,.ref L),(135,.int 2048),(250,.int<|-1),(251,.int<|-1),(96,.int 0)]) u=S (.bytearr Z):=(MH.c9 l).trans ((MH.c9 (λz=>by replace o:=c▸z▸o;cases o)).trans c);have y:∀b,b≠a->H b≠N->((I.set L<|.bytearr 0).set a<|.inst 51 i [(159,.ref u),(249,.ref L),(135,.int 2048),(250,.int<|-1),(251,.int<|-1),(96,.int 0)]) b=H b:=λb e r=>(MH.c9 e).trans ((MH.c9 λz=>by rw[<-z,v b e r] at o;exact r o).trans<|v b e r);refine(?_:wpSs (an (n+1) T) (fy X) _ (cL Q) _<|(I.set L<|.bytearr 0).set a<|.inst 51 i [(159,.ref u),(249,.ref L),(135,.int 2048),(250,.int<|-1),(251,.int<|-1),(96,.int 0)]);generalize (I.set L<|.bytearr 0).set a _=h at M x y ⊢;refine kx (dC bc<|J9 (n:=n)) (λd k m f=>mN (ab J) (f.at M)<|bA ?_) trivial;exact q _ u _ MH.c5 J ((MH.c9 l).trans<|f.at x) D λb e r=>(MH.c9 e).trans ((f b (by exact aa (y b e r) r) aJ).trans<|y b e r)}
def K5(n:Nat)(Z:List V)(Q:QV)(X:QE)(H:MH):Prop:=cB (pq ⟨704,4,[179,159,135,249],[],ui⟩ Z) λl=>wpSs (an n T) (λa _ H=>X a H) ui (tB Q) l H
def EK(n:Nat):Cx:=⟨CT,λb f Z Q X H=>if f=52075 then K5 n Z Q X H else gk CT FT n b f Z Q X H,T⟩
inductive Co (sc:List Int) (j:Nat):ae->MH->Prop
 |mk (w bd sn ra st pk ba:Addr) (now:Int) (bb:Bool) (F:Fp) (M:Addr->Fp) (R:List ay) (Z:List Lz) (H:MH) (x9 x10 x11:Int) (len:Nat) (x13 x14 x15 x16 x17 x18 x19 x20:Option V) (C:lE sc j (j+1) H w bd sn ra st now bb F M R Z) (P:js H sn pk ba now len) (np:¬Gp F M R pk/\¬Gp F M R ba) (hl:len<=1000000):Co sc j (tP sc w bd sn ra now bb (vR x9 x10 x11 len j [x13,x14,x15,x16,x17,x18,x19,x20])) H
theorem J0(I:CU m j l H)(q:∀l Y,Co m j l Y->Q .next l Y):pn (EK<|n+1) X (.setA (.loc 5) 253<|.new 51<|.cons (.bi .bytes<|.cons (.loc 12) .nil)<|.cons (.int 2048)<|.cons .bytes0 .nil) Q l H:=by{
refine let P:=_;(?_:pn P _ _ _ _ _)
obtain⟨w,A,s,ra,h0,G,U,h1,M,R,h2,H,x9,x,h3,Z,hl,h4,h5,h6,h7,h8,h9,k,e,C⟩:=I;have L:Z<=1000000:=am hl (by decide);refine let P:=_;(?_:pn _ _ _ _ P _)
refine cj J (cj ⟨cR _,dG.mpr L⟩ λa i O=>let P:=_;((D9 (n:=n) MH.c5 L λH1 u fs z0 z1 z2 D o=>af (C.Sn) λp z3=>af (z3) λz7 y=>ai (λs1 z4=>ai (λE t=>?_)<|z4)<|y):Cx.call _ _ _ _ P _ _));have d:H u=N:=by{
by_cases c:u=a
.exact aa c O
.replace D:=(MH.c9 c)▸D;exact D}
have B:∀b,H b≠N->H1 b=H b:=λb r=>by have ne:b≠a:=λz=>r (by refine z▸?_;exact O);exact(o b ne (by refine aa (MH.c9 ne) ?_;exact r)).trans<|MH.c9 ne
have f:H s≠N:=by refine s1▸?_;exact(by intro z;cases z)
have z5:a≠s:=λz=>f (by refine z▸?_;exact O);have z6:u≠s:=λz=>f (by refine z▸?_;exact d);exact mN (d:=⟨733,lD,[(75,53075)],53075,F⟩) (λz8 g X Q q=>bq J q) ((B s f).trans s1) (q _ _ (.mk w A s ra h0 a u G U h1 M R h2 _ x9 x h3 Z h4 h5 h6 h7 h8 h9 k e (C.upd (cX _) C.t.2 (C.B.at<|(MH.c9 C.ne.2.1).trans<|B _ C.B.live) (fN p _ MH.c5 (by exact aa (Ml (by refine aa E ?_;rfl))<|aa E J)<|(Kl J).trans t) ((MH.c9 C.ne.1).trans ((B w (by refine C.W▸?_;exact(by intro z;cases z))).trans C.W)) λb D v=>(MH.c9 λz=>v<|.inr<|.inr z).trans<|B b D) ⟨(fN p _ MH.c5 ((Kl J).trans t) JL),(dm i fs ((MH.c9 z5).trans z0) z1),(MH.c9 z6).trans z2,L⟩ ⟨(λh z=>C.S.live _ z h) O,(λh z=>C.S.live _ z h) d⟩ L)) J (bm.mpr ⟨J,Hq (by rw[<-aL,E];exact(by decide:19<=1000))⟩)}
theorem hG.up(h:hG s j r):hG s (j+1) r:=⟨h.d,h.c,h.e,kU h.z,h.i⟩
theorem Ul(h:jT s b)(G:pL b=T)(M:(b==238)=F):s.ds= .no:=by{
induction h using jT.casesOn with
|add h=>exact h
|update h=>exact h
|delete=>exact absurd M (by decide)
|_=>exact absurd G (by decide)}
theorem Wo(h:hG s j r):hG s (j+1) (og s b t G Z r):=by
 have e:(fQ s b t G r).dat=r.dat/\(fQ s b t G r).cmt=r.cmt:=by unfold fQ;split<;>exact⟨J,J⟩
 exact⟨aa e.1 h.d,aa e.2 h.c,λz=>(absurd (congrArg qp z) (by show(r.evs++[(G,Z)]).length≠0;refine aa bV ?_;exact(by intro z;cases z))),(bV▸nG h.z),aa ((oZ (r:=r)).2.1) h.i⟩
def jA(s:bj)(j z:Nat)(R:List ay):Prop:=(∀e∈R,hG s j e.2)/\R.length<=z
theorem jA.sub(h:jA s j z R)(p:ay->Bool):jA s (j+1) (z+1) (R.filter p):=⟨λe u=>(h.1 e (dZ.mp u).1).up,am (lg _ _)<|kU h.2⟩
theorem jA.up(h:jA s j z R):jA s (j+1) (z+1) R:=⟨λe u=>(h.1 e u).up,kU h.2⟩
theorem jA.one(h:jA s j z R)(p:ay->Bool)(I:hG s (j+1) r):jA s (j+1) (z+1) (R.filter p++[(a,r)]):=⟨λe u=>by
  rcases cp.mp u with u|u
  .exact(h.sub p).1 e u
  .exact aa (cJ.mp u) I,by
 refine aa bV ?_;exact nG<|am (lg _ _) h.2⟩
theorem QW(h:jA s j z R)(z8:xa s k m I):jA s (j+1) (z+1) (jw s U I G R a):=by{
delta jw
induction b:pL I.op using aX with
|true=>{
refine(?_:jA _ _ _<|rQ _ _ _ _ _ _ _ _ _ _);delta rQ
induction f:I.op==238 using aX with
|true=>{
induction(be G<|bI R<|fB I.ks).isSome with
|true=>exact h.sub _
|false=>exact h.up}
|false=>{
induction be G (oF R I.ks) using aV with
|some e=>{
refine⟨λx f=>?_,by show(R.map _).length<=_;exact aa (aL ..) h.up.2⟩;obtain⟨y,n,A⟩:=bZ.mp f;refine au A ?_;delta iZ;split
.exact Wo<|h.1 y n
.exact(h.1 y n).up}
|none=>{
induction iG (bP s.m) I.ks using aX with
|false=>exact h.up
|true=>{
induction gZ s (bG R G) using aX with
|false=>exact h.sub _
|true=>exact h.one (λe=>e.2.live G) ⟨⟨.no,J,by refine aa (Ul z8.op b f) ?_;rfl⟩,⟨_,J⟩,nofun,nG<|bW _,z8.tz⟩}}}}
|false=>{
induction I.op==77||I.op==274 using aX with
|true=>{
refine(?_:jA _ _ _<|gG _ _ _ _ _ _ _ _ _);delta gG
induction U&&s.cst using aX with
|true=>exact h.up
|false=>{
induction Y:gY s I.b I.t I.d using aX with
|false=>exact h.up
|true=>{
induction be G (bI R I.b) using aV with
|some _=>exact h.up
|none=>{
induction gZ s (bG R G)&&!jx (bG R G) I.b using aX with
|false=>exact h.sub _
|true=>exact h.one (λe=>e.2.live G) ⟨⟨I.d,J,DD Y⟩,z8.cs,λ_=>J,bW _,by exact(by decide:0<64)⟩}}}}
|false=>{
induction I.op==80 using aX with
|true=>{
induction(be G<|bI R I.b).isSome using aX with
|true=>exact h.sub _
|false=>exact h.up}
|false=>{
induction I.op==37 using aX with
|true=>exact h.sub _
|false=>{
refine(?_:jA _ _ _<|cond (I.op==273) _ _)
induction I.op==273 with
|true=>exact⟨λe u=>(nomatch u),bW _⟩
|false=>exact h.up}}}}}
def eX(v:V):Prop:=iE 9 v=T/\∀c,v= .str c->cY qW (.s c)=S (.str<|rf c)
theorem eX.cond{t:Bool}{u v:V}(h:eX u)(C:eX v):eX (cond t u v):=by{
cases t with
|true=>exact h
|false=>exact C}
theorem tT(h:cY qW (.s c)=S (.str<|rf c)):eX (.str c):=⟨J,λB e=>by(injection e with z;subst z);exact h⟩
theorem rr(h:iE 9 v=T)(n:∀c,v≠.str c):eX v:=⟨h,λc e=>absurd e<|n c⟩
theorem HJ:eX (oz b):=by{
unfold oz;split
.exact rr J nofun
.exact rr J nofun}
def CR(b:bB):Prop:=(1<=b.length/\b.length<=3)/\∀p∈b,0<=p.1
theorem EG(h:CR b)(f:0<=x.1):CR (hdc t x b):=by{
refine⟨FU h.1,?_⟩
induction t using aX with
|false=>exact h.2
|true=>{
intro p O;rcases bJ.mp O with e|O
.exact aa e f
.exact h.2 p<|List.mem_of_mem_drop O}}
theorem Df:CR (wc s d a):=by{
have j:(0:Int)<=(aO a 4):=cR _;have b:(1<=(lG s a).length/\(lG s a).length<=2)/\∀p∈lG s a,0<=p.1:=by{
unfold lG
induction s.m==2 using aX with
|true=>exact⟨⟨by exact(by decide:1<=2),cD 2⟩,λp O=>by{
rcases bJ.mp O with e|O
.exact aa e j
.exact aa (cJ.mp O)<|cR _}⟩
|false=>exact⟨⟨cD 1,by exact(by decide:1<=2)⟩,λp O=>by exact aa (cJ.mp O) j⟩}
refine EG (EG (EG ?_ j) (PW j (by decide))) j
induction d==7 using aX with
|false=>exact⟨⟨b.1.1,kU b.1.2⟩,b.2⟩
|true=>{
refine⟨⟨?_,?_⟩,λp O=>?_⟩
.show 1<=(lG s a++[(0,0)]).length;exact aa bV<|oM _ _
.show(lG s a++[(0,0)]).length<=3;exact aa bV<|sA b.1.2 1
.rcases cp.mp O with O|O
 .exact b.2 p O
 .exact aa (cJ.mp O)<|cX _}}
theorem VI:∀x r,vw a d k= .nums x r->r.length<=1000:=by{
have c:∀{t:Bool} {u v:Dt},(∀x r,u= .nums x r->r.length<=1000)->(∀x r,v= .nums x r->r.length<=1000)->∀x r,cond t u v= .nums x r->r.length<=1000:=λ{t u v} h C=>by{
induction t using aX with
|true=>exact h
|false=>exact C}
have n1:∀{y:Int} {q:List Int},q.length<=1000->∀x r,Dt.nums y q= .nums x r->r.length<=1000:=λh x r e=>by cases e;exact h
have n2:∀x r,AT a k= .nums x r->r.length<=1000:=by{
induction a using Ds.casesOn with
|no=>exact(by intro _ _ z;cases z)
|b1=>exact n1 (by decide)
|vd=>exact(by intro _ _ z;cases z)}
exact c (c (n1 (by decide)) (by intro _ _ z;cases z)) (c (c (by intro _ _ z;cases z) (n1 (by decide))) n2)}
theorem IK(h:0<=p.1)(C:p.1<=p.2):p=((p.1.toNat:Int),(p.2.toNat:Int)):=uW (uD h).symm (uD<|cV h C).symm
theorem Ue(g:s.m=1\/s.m=2)(r:∀p∈b,0<=p.1)(h:gY s b t d=T):jY (iD s) s.m b:=by{
have h:=bm.mp h;have C:=bm.mp h.2;have o:=(beq_iff_eq.mp h.1).trans<|Ch g;delta iD
induction hi:s.iv using aX with
|false=>exact(bp ((uS.mp (bm.mp C.2).1).resolve_left λz=>ak<|hi▸z) o g)
|true=>{
replace h:=C.1;refine g.elim (λe=>?_) λe=>?_
.rw[e] at o h ⊢;refine af (KH o) λp D=>?_;rw[D] at h ⊢;exact⟨⟨J,(qi _).trans (bm.mp (bm.mp h).1).1⟩,J⟩
.rw[e] at o h ⊢;refine af (zO o) λp D=>af D λq D=>?_;rw[D] at h ⊢;exact have a:=bm.mp (bm.mp h).1
  have c:=bm.mp (bm.mp (bm.mp h).2).1
  ⟨⟨p.1.toNat,p.2.toNat,q.1.toNat,q.2.toNat,IK (r _<|D▸.head _) (of_decide_eq_true a.1)▸IK (r _<|D▸.tail _ (.head _)) (of_decide_eq_true c.1)▸J,⟨aby<|of_decide_eq_true a.1,(Pa<|cV (r _<|D▸.head _)<|of_decide_eq_true a.1).mpr<|of_decide_eq_true a.2⟩,aby<|of_decide_eq_true c.1,(Pa<|cV (r _<|D▸.tail _ (.head _))<|of_decide_eq_true c.1).mpr<|of_decide_eq_true c.2⟩,J⟩}}
def yX(m:Nat)(c:Int)(f:Nat):List Int:=[((aO c 4:Nat):Int)+dM f 0 16 0 0,((aO (c/4) 2:Nat):Int)+dM f 0 0 4 0].take m
def CZ(s:bj)(j:Nat)(c x d:Int)(Z:Nat):fU:=⟨wx s c,wc s (aO (c/10) 12) x,vw s.ds (aO (c/10) 12)<|aO (x/192) 2,EM s (aO (c/10) 12) x,.str<|306+j,yX s.m x<|aO (d/90) 4,cond s.tm (dM (aO (x/64) 3) 0 20 45 45) 0,vZ ((aO (d/6) 5:Nat):Int),Z⟩
theorem LN{a b c d:Int}(h:0<=a/\0<=b/\0<=c/\0<=d):0<=dM k a b c d:=by{
unfold dM;split
.exact h.1
.exact h.2.1
.exact h.2.2.1
.exact h.2.2.2}
theorem It(o:Z<=1000000):xa (bE m) (iD<|bE m) (bE m).m (CZ (bE m) j c a d Z) where
 bz:=⟨λz=>(by have:=(Df (s:=bE m) (d:=aO (c/10) 12) (a:=a)).1.1;replace this:=(show wc (bE m) (aO (c/10) 12) a=[] from z)▸this;cases this),am Df.1.2 (by decide)⟩
 dz:=VI
 ok:=Ue uc Df.2
 kl:=by
  refine(?_:(yX (bE m).m _ _).length=_);rcases uc with e|e<;>rw[e]<;>rfl
 k0:=λx f=>by
  have f:=List.mem_of_mem_take f;rcases bJ.mp f with e|f
  .exact aa e (PW (cR _) (LN (by decide)))
  .exact aa (cJ.mp f) (PW (cR _) (LN (by decide)))
 tz:=(by
  unfold vZ
  repeat' split
  all_goals decide:(vZ _).length<64)
 cs:=⟨_,J⟩
 op:=(by
  delta wx
  induction aO c 10==9&&aO (c/10) 3==2 using aX with
  |true=>exact .flush
  |false=>
   have h:aO c 10<10:=ia (by decide);revert h;generalize aO c 10=k;revert k
   induction e:pr (bE m).ds using aX with
   |true=>
    have U:(bE m).ds= .no:=by cases h:(bE m).ds<;>first|rfl|exact ak<|h▸e
    exact bM (bM (bM (bM (bM (bM (bM (bM (bM (bM pE<|.add U)<|.update U) .put) .delete) .drop) .sweep) .find) .create)<|.add U)<|.update U
   |false=>exact bM (bM (bM (bM (bM (bM (bM (bM (bM (bM pE .put) .put) .put) .delete) .drop) .sweep) .find) .create) .put) .put:jT (bE m)<|wx (bE m) c)
 lz:=o
theorem RH{k:Nat}(h:Gv cx l H e<|.tup L)(Z:Pv cx l H i<|.int k)(w:k<=L.length)(E:L.length<=1000):Gv cx l H (.sliceTo e i) (.tup<|L.take k):=λI g X Q q=>h I g X _ λd t=>Z d (g.trans t) X _ ⟨(bp (cR _) (dG.mpr w)<|bh E),q d t⟩
theorem Rd{l:ae}{s:bj}(O:cx.hn=T)(g:s.m=1\/s.m=2)(r:l.at i=S s.v):Pv cx l H (.bi .len<|.cons (.idx (.loc i)<|.int 0) .nil) (.int s.m):=by refine(fO O (fE r J) (by split<;>exact kn J)).to ?_;rcases g with e|e<;>rw[e]<;>rfl
inductive DB (sc:List Int) (j:Nat):ae->MH->Prop
 |mk (w bd sn ra st pk ba:Addr) (now:Int) (bb:Bool) (F:Fp) (M:Addr->Fp) (R:List ay) (Z:List Lz) (H:MH) (x9 x10 x11:Int) (I:fU) (J:xa (bE sc) (iD (bE sc)) (bE sc).m I) (x15 x18 x19 x20:Option V) (C:lE sc j (j+1) H w bd sn ra st now bb F M R Z) (P:js H sn pk ba now I.len) (np:¬Gp F M R pk/\¬Gp F M R ba):DB sc j (tP sc w bd sn ra now bb (vR x9 x10 x11 I.len j [some (.str I.op),some I.lit,x15,some (eV I.ks),some I.about,x18,x19,x20])) H
theorem js.gr(a:js H m c u G Z)(g:Gr H Y):js Y m c u G Z:=a.keep (g _ a.live.1 aJ) (g _ a.live.2.1 aJ)<|g _ a.live.2.2 aJ
set_option maxHeartbeats 1000000 in
theorem E6(hz:m.length<=1000)(h9:j<12)(I:Co m j l H)(q:∀l Y,DB m j l Y->Q .next l Y):wpSs (an (n+8) T) X (lA 6<|hU 7 kK) Q l H:=by{
refine let za:=_;(?_:wpSs za _ _ _ _ _)
obtain⟨w,A,sn,o,h2,h6,u,G,U,h3,M,R,h4,H,c,x,d,Z,z9,x0,x1,x2,x3,h7,h8,z0,C,P,np,hl⟩:=I;refine let za:=_;(?_:wpSs _ _ _ _ za _)
refine iA (nZ (aM J) ((λh0 g Q X q=>by
 unfold wx at q;have ix:∀{l:ae} {H:MH} {f:Addr},H f=S (.list<|ll.map V.str)->l.at 2=S (.ref f)->l.at 1=S (.int c)->Pv (an (n+7) T) l H (.idx (.loc 2)<|.bin .mod (.loc 1)<|.int 10) (.str<|ll[aO c 10]?.getD 79):=λh z5 h1=>iJ (ab z5) h (oa (k:=10) (ab h1) ar) ((by have:(aO c 10)<ll.length:=(ia (by decide));refine gy▸(aa (bX this) ?_);rfl)) (cO (ia (by decide)) (by decide))
 refine aR [S (bE m).v,S<|.int c,N] J J (dk (zQ (Z:=ll.map V.str) (aM J) (by exact(by decide:10<=1000000))) (λf hf=>?_) trivial);have B:Gr h0 (h0.set f<|.list<|ll.map V.str):=Gr.new hf;have h1:(h0.set f<|.list<|ll.map V.str) f=S (.list<|ll.map V.str):=MH.c5;generalize h0.set f (.list<|ll.map V.str)=H2 at B h1 ⊢;refine aH (dD (gQ (y:=9) (oa (k:=10) (ab J) ar) ar) λ_=>gQ (y:=2) (gC (k:=3) (ab J) (by decide)) ar) (λz=>aZ aQ ?_) λz=>aK ?_
 .rw[z] at q;exact q H2 B
 rw[z] at q;refine qz (DK ((fR<|fE (k:=1) J J).to (by exact aa Fg J)) λ_=>zx (ix h1 J J) (aM J) (by exact(by decide:2<=1000000)) MP) (λz v i=>aZ aQ ?_) λz v i=>aK<|aZ (ix (i.at h1) J J) ?_
 .rw[z] at q;exact q v<|B.trans i
 .rw[z] at q;exact q v (B.trans i):pO ((n+7)+1) T H 70 [(bE m).v,.int c]<|.str<|wx (bE m) c))) λH1 B=>iA (nZ (aM J) ((λh0 g Q X q=>by{
refine aR [S (bE m).v,S<|.int j,S<|.int c,S<|.int x,N,N,N,N,N,N,N] J J (iA (AQ (KA aQ<|fE (k:=2) J J) (λ_=>Ao ar ar ar ar (gC (k:=4) (ab J) (by decide)) (ia (by decide))) λ_=>ar.gv) λH2 t=>?_);refine(pS (f:=V.int))▸(iX V.int)▸?_;refine aW (oa (k:=4) (ab J) ar)<|aW (lr<|gI (ab J)<|iz (ab J)<|ab J) ?_;refine let za:=_;(?_:wpSs _ _ _ _ za _)
have z1:∀(r:bB) (x7:Option V) (v:MH),Gr h0 v->lG (bE m) x=r->wpSs (an (n+7) T) (fy X) (hU 4 MT) (cL Q) [S (bE m).v,S<|.int j,S<|.int c,S<|.int x,S<|.int<|cond (bE m).iv (dM (aO (x/8) 4) 0 0 1 2) 0,S<|.int (aO x 4:Nat),S<|bv r,x7,N,N,N] v:=λr x7 v i e=>by{
refine let za:=_;(?_:wpSs _ _ _ _ za _)
refine iA (AQ (Dl aQ<|fE (k:=2) J J) (λ_=>pt (k:=aO (x/64) 3) (aM J) (gC (k:=3) (ab J) (by decide)) (Mp (d:=V.int 45) (ia (by decide))) (by exact(by decide:3<=1000))) λ_=>ar.gv) λH4 y=>?_;refine(pS (f:=V.int))▸(iX V.int)▸?_;refine L6 J h9 (b:=r) (by refine au e ?_;unfold lG;cases(bE m).m==2<;>exact⟨kn J,kn J⟩) λH5 g5=>?_
have:=q H5<|i.trans<|y.trans g5;unfold wc EM at this;replace this:=e▸this;exact this}
refine let za:=_;let zb:=_;let zc:=_;let zd:=_;(?_:wpSs za zb _ zc zd _)
refine aH (QM J J) (λz=>?_) λz=>aK (z1 [((aO x 4:Nat),(aO x 4:Nat)+cond (bE m).iv (dM (aO (x/8) 4) 0 0 1 2) 0)] N H2 t (by unfold lG;refine aa z ?_;rfl));refine aW (iw (KA aQ<|fE (k:=2) J J) (λ_=>gC (k:=2) (ab J) (by decide)) λ_=>ar) ?_;refine aa (iX V.int) ?_;refine aW (tW (ab J) (lr (gI ((λh=>gC (k:=2) (ab h) (by decide)) J) (iz ((λh=>gC (k:=2) (ab h) (by decide)) J)<|ab J))) (by exact kn J)) (aK (z1 [((aO x 4:Nat),(aO x 4:Nat)+cond (bE m).iv (dM (aO (x/8) 4) 0 0 1 2) 0),((aO (x/4) 2:Nat),(aO (x/4) 2:Nat)+cond (bE m).iv ((aO (x/32) 2:Nat):Int) 0)] _ H2 t (by unfold lG;refine aa z ?_;rfl)))}:pO ((n+7)+1) T H1 55 [(bE m).v,.int j,.int c,.int x]<|.tup [bv<|wc (bE m) (aO (c/10) 12) x,(vw (bE m).ds (aO (c/10) 12)<|aO (x/192) 2).v,.int<|EM (bE m) (aO (c/10) 12) x,.str<|306+j]))) λH2 t=>aW (gC (ab J) (by decide)) (iA ((RH (FY (jL (wC (oa (ab J) ar) ((pt (aM J) (ab J) (Fz (ia (by decide))) (by decide:4<=1000)).to<|pS)) (jL (wC (gC (ab J) (by decide)) ((pt (aM J) (ab J) (Fz (ia (by decide))) (by decide:4<=1000)).to<|pS)) zV)) (by decide:2<=1000000)) (Rd J uc J) (by rcases uc with e|e<;>rw[e]<;>exact kn J) (by decide:2<=1000)).to (congrArg V.tup (by unfold yX;refine aa List.map_take ?_;rfl:[V.int<|((aO x 4:Nat):Int)+dM _ 0 16 0 0,V.int<|((aO (x/4) 2:Nat):Int)+dM _ 0 0 4 0].take (bj.m<|bE m)=(yX (bj.m<|bE m) x _).map V.int))) λv i=>?_)
refine let za:=_;(?_:wpSs _ _ _ _ za _)
refine iA (FY (jL ((AQ (Dl aQ<|fE J J) (λ_=>pt (aM J) (gC (ab J) (by decide)) (Mp (d:=V.int 45) (ia (by decide))) (by decide)) λ_=>ar.gv).to (by exact aa pS<|iX V.int)) (jL (cH (aB (gC (ab J) (by decide)) bc) ((λh0 g Q X q=>by{
have t2:2<=1000000:=by decide
have t3:3<=1000000:=by decide
have t4:4<=1000000:=by decide
have t6:6<=1000000:=by decide
have c0:∀{a b:Int} {l:ae},Pv (an (n+7) T) l h0 (.tup<|.cons (.str 229)<|.cons (.int a)<|.cons (.int b) .nil) (Tl.v<|.ctr a b):=cP (aM J) t3;unfold vZ at q;refine aR [S _] J J<|aH (gF (ab J) ar) (λz=>?_) λz=>aK<|aH (gF (ab J) ar) (λk=>?_) λk=>aK<|aH (gF (ab J) ar) (λz3=>?_) λz3=>aK<|aH (gF (ab J) ar) (λz4=>?_) λz4=>aK<|aZ (cP bc<|bW _) ?_
.refine let za:=_;let zb:=_;(?_:wpSs _ za _ zb _ _)
 replace q:=(if_pos<|beq_iff_eq.mp z)▸q;exact aZ (cP (aB c0 bc) (by decide)) q
all_goals rw[if_neg<|beq_eq_false_iff_ne.mp z] at q
.refine let p:=_;(?_:p)
 rw[if_pos<|beq_iff_eq.mp k] at q;exact aZ (cP (aB (cP (aM J) t4)<|aB c0 bc) t2) q
all_goals rw[if_neg<|beq_eq_false_iff_ne.mp k] at q
.refine let za:=_;(?_:wpSs _ _ _ _ za _)
 replace q:=(if_pos<|beq_iff_eq.mp z3)▸q;exact aZ (cP (aB c0<|aB (cP (aM J) t4) bc) t2) q
all_goals rw[if_neg<|beq_eq_false_iff_ne.mp z3] at q
.rw[if_pos<|beq_iff_eq.mp z4] at q;exact aZ (cP (aB (cP (aM J) t6)<|aB c0 bc) t2) q
.rw[if_neg<|beq_eq_false_iff_ne.mp z4] at q;exact q}:ew ((n+7)+1) T v 56 [.int _]<|.tup<|(vZ _).map Tl.v))).gv (jL (ab J).gv zV))) (by decide:3<=1000000)) λH4 y=>let za:=_;(?_:wpSs _ _ _ _ za _)
have g:=B.trans<|t.trans<|i.trans y;have z6:∀{Y:MH},Gr H Y->lE m j _ Y w A sn o h2 G U h3 M R h4:=λg=>by
 refine let p:=_;(?_:p)
 refine af (C.Sn) λdx L=>af (L) λD h5=>ai (λs1 z7=>ai (λE s3=>?_)<|z7)<|h5;exact C.upd (cX _) C.t.2 (C.B.at<|g _ C.B.live aJ) (fN dx D (g.at s1) E s3) (g.at C.W) λb hb _=>g b hb aJ
have s:=z6 g;refine aH (gQ (ab J) (gC (cH (aB (ab J)<|aB (ar) bc) (xd hz (by decide))) (by decide))) (λz=>af (s.B) λdx hB=>aW eU<|bY eU (ab J) hB<|aK<|bA<|q _ _<|.mk w A sn o h2 h6 u G T h3 M R h4 _ c x d (CZ (bE m) j c x d Z) (It hl) _ h7 h8 z0 ?_ ?_ np) λz=>aK<|bA<|q _ _<|.mk w A sn o h2 h6 u G U h3 M R h4 H4 c x d (CZ (bE m) j c x d Z) (It hl) _ h7 h8 z0 s (P.gr g) np
all_goals
 refine let p:=_;((ai (λx4 L=>ai (λz2 n3=>?_)<|L)<|s.ne):p)
·(refine iC (s.Sn) λz8 D s1 E s3=>?_)
 exact s.upd (cX _) s.t.2 ⟨dx,MH.c5⟩ (fN z8 D ((MH.c9 z2.symm).trans s1) E s3) ((MH.c9 n3).trans s.W) λb hb nb=>MH.c9 λz=>nb<|.inr<|.inl z
.have P4:=P.gr g;exact af (P4.p) λ_ L=>af (L) λ_ h5=>ai (λO _=>P4.keep (MH.c9 z2.symm) (MH.c9 λz=>by replace O:=hB▸z▸O;cases O) (MH.c9 λz=>by have:=P4.b;replace this:=hB▸z▸this;cases this))<|h5}
theorem hG.le(h:hG s j r)(w:j<=k):hG s k r:=⟨h.d,h.c,h.e,am h.z w,h.i⟩
def LY:V->Bool
 |.str _=>T
 |_=>F
def Fo:V->Bool
 |.bool _=>T
 |_=>F
theorem ES(h:iE 9 v=T)(s:Bool->Prop):(s (LY v)->vB s T v)/\(s (Fo v)->vB s F v):=by{
induction v using V.casesOn with
|none=>exact⟨id,id⟩
|bool b=>exact⟨id,id⟩
|int i=>exact⟨id,id⟩
|str i=>exact⟨id,id⟩
|tup l=>exact⟨id,id⟩
|bytes n=>exact ak h
|ref a=>exact ak h
|scr l=>exact ak h}
def qL(v:V):V:=match v with
 |.str c=>.tup [.str c,.str<|rf c]
 |v=>v
theorem DF(h:iE 9 v=T):iE 9 (qL v)=T:=by obtain⟨⟩:=v<;>first|exact h|rfl
theorem Mj(h:∀c,v≠.str c):qL v=v:=by{
induction v using V.casesOn with
|str c=>exact absurd J<|h c
|_=>rfl}
theorem Mx(h:Pv cx l H e<|.ref a)(R:H a=S (.exc c i b D))(G:cy D n=S v):Pv cx l H (.attr e n) v:=λI g X Q q=>h I g X _<|bq (g.at R)<|bq G q
theorem YQ(h:Gv cx l H a<|.bool F)(C:∀Y,Gr H Y->Pv cx l Y b (.bool p)):Gv cx l H (.bop F<|.cons a<|.cons b .nil) (.bool p):=λI g X Q q=>h I g X (λv H=>bR (λc H=>if c=F then wpB cx X l F _ Q H else Q v H) v H) λd t=>C d (g.trans t) d Gr.rfl X Q<|q d t
theorem YW{l:ae}(Y:SA k m H z h3 M R G)(d:dO H A s U z)(w:LA H E Z R)(I:∀e∈R,hG s j e.2)(h9:j<=1000)(C:l.at 3=S (.ref A))(r:l.at 4=S (.int G))(L:l.at 6=S (.ref E)):Gv (an (n+3) T) l H (.cmp (.callF 67<|.cons (.loc 3)<|.cons (.loc 4) .nil) .ne<|.callF 66<|.cons (.loc 6)<|.cons (.loc 4) .nil) (.bool F):=λh4 g X Q q=>
 dC (aB (ab C)<|aB (ab r) bc) (XF (Y.gr (cX _) g) (d.at<|g _ d.live aJ) λe u=>(I e u).i) _ _ (λf zs H2 o sh hf t=>dC (aB (ab L)<|aB (ab r) bc) (Wb (w.gr<|g.trans t) Y.S.g λe u=>(I e u).le h9) (kD .ne (λc H=>Q _ H) _) _ (λf' P v B h h0 i=>bq (by refine(?_:(cA 9 v _ _).map (!·)=_);exact congrArg _<|(Ua (λp O=>i.at<|sh p O) h (abm (le:=λx y=>jR y.2.box x.2.box=F) (λa b ha D h1 h2=>Y.S.g.box (o.1.mem_iff.mp ha) (B.1.mem_iff.mp D)<|Vv h2 h1) o.2 B.2<|o.1.trans B.1.symm) (λp O=>I p.1<|o.1.mem_iff.mp<|bZ.mpr ⟨p,O,J⟩) (i.at hf) h0)) (q v<|t.trans i)) trivial) trivial
set_option maxHeartbeats 1000000 in
theorem Vi(h9:j<12)(I:DB m j l H)(q:∀l Y,oH m (j+1) l Y->Q .next l Y):wpSs (an (n+8) T) X (hU 13 kK) Q l H:=by{
obtain⟨h0,A,s,ra,h6,z2,u,G,U,z7,M,R,x2,H,x9,z3,d,I,z8,z4,x3,z9,z5,C,P,np⟩:=I;have h4:=λe he=>(C.r e he).le<|bU h9;refine let za:=_;(?_:wpSs _ _ _ _ za _)
refine cc ⟨J,(dC (aM J)<|Tc (n:=n+4) (U:=U) C.L C.S.S.g (λx f y hy e=>C.S.one f hy e) JM h4 z8) _ _ (λH1 h7 Z' E=>?_) trivial⟩;have VO:=(by{
have no:eX V.none:=rr J nofun;have bo:∀b,eX (V.bool b):=λb=>rr J nofun;refine eX.cond ?_<|eX.cond ?_<|eX.cond (eX.cond no<|tT J)<|eX.cond (rr J nofun)<|eX.cond no ?_
.unfold ph;refine eX.cond no ?_
 induction be G (oF R I.ks) using aV with
 |some e=>exact HJ
 |none=>exact eX.cond HJ<|rr J nofun
.unfold iF;refine eX.cond (tT J)<|eX.cond ?_<|tT J
 induction be G (bI R I.b) using aV with
 |some x=>exact eX.cond (tT J)<|bo _
 |none=>exact eX.cond (eX.cond (tT J)<|bo _)<|tT J
.induction f:be G (oF R I.ks) using aV with
 |some e=>
  refine let za:=_;(?_:eX za)
  exact rr (HZ (n:=2)<|h4 e<|md (mj.mp<|show(oF R I.ks).filter _=S e from f).1) nofun
 |none=>exact no}:eX<|mO (bE m) U I G R)
have h5:=λa=>QW (s:=bE m) (U:=U) (G:=G) (a:=a) (j:=j) (z:=j) (R:=R) ⟨C.r,C.z⟩ z8;generalize w:mO (bE m) U I G R=v at VO ⊢;have c1:=(E 0).2;have h1:∀b,b=h0\/b=A\/b=s->H b≠N:=λb h=>by{
rcases h with e|e|e
.exact e▸nn C.W
.exact aa e C.B.live
·(refine af (C.Sn) λB h2=>?_;refine af (h2) λD h3=>?_;refine ai (λh _=>?_)<|h3)
 exact aa e<|nn h}
have k0:=λb h=>c1.keep b (h1 b h) (C.nb b h).2;have nL:∀{b:Addr} {o:MO},H b=S o->(∀L,o≠.list L)->H1 b=H b:=λ{b o} h n=>c1.keep b (by refine h▸?_;exact(by intro z;cases z)) λz=>by{
refine af ((by{
refine let Gz:=_;(?_:Gz)
rcases z with z|⟨zz,E,z|z⟩
.exact⟨_,by refine aa z ?_;exact C.L.h⟩
.exact⟨_,by refine aa z ?_;exact(C.L.r zz E).h⟩
.exact⟨_,by refine aa z ?_;exact(C.L.r zz E).e⟩}:∃L,H b=S (.list L))) λL e=>?_
replace e:=h▸e;exact n L<|aA e}
have P1:js H1 s z2 u G I.len:=by
 refine let Gz:=_;(?_:Gz)
 refine af (P.p) λB h2=>?_;refine af (h2) λD h3=>?_;refine ai (λh _=>?_)<|h3;exact P.keep (k0 s<|.inr<|.inr J) (nL h (by intro _ z;obtain⟨⟩:=z)) (nL P.b (by intro _ z;obtain⟨⟩:=z))
have h8:=λa b h hg=>((E a).2.new b h).elim (C.dj b hg)<|C.S.live b hg;have z0:∀(a:Addr) (Z:Fp) (i:Addr->Fp) (p:MH) (z6:Option V),SA (iD<|bE m) (bE m).m p h6 Z i (jw (bE m) U I G R a) G->bL (Gp z7 M R) (Gp Z i<|jw (bE m) U I G R a) H1 p->wpSs (an (n+8) T) X (hU 16 kK) Q (tP m h0 A s h7 G U<|vR x9 z3 d I.len j [S<|.str I.op,S I.lit,z4,S<|eV I.ks,S I.about,S<|qL v,S<|qL v,z6]) p:=λa Z i p z6 S4 c4=>by{
refine let za:=_;(?_:wpSs _ _ _ _ za _)
have k4:=λb h=>(c4.keep b (by refine aa (k0 b h) ?_;exact h1 b h) (C.nb b h).1).trans<|k0 b h;refine aH (t:=F) (eW (p:=F) (q:=F) (bC (ab J) (ab J) λH=>congrArg (uV (!·))<|CB<|DF VO.1) λ_=>(qb (x:=Fo<|qL v) (y:=Fo<|qL v) (pc (ab J) λKQ=>(ES (DF VO.1) KQ).2)<|pc (ab J) λKQ=>(ES (DF VO.1) KQ).2).to (by refine aa (beq_self_eq_true ..) ?_;rfl)) (λz=>ak z) λ_=>aK ?_;have L4:=(E a).1.keep λb h=>c4.keep b ((E a).1.live b h)<|h8 a b h;have O:dO p A (bE m) U h6:=C.B.at<|k4 A<|.inr<|.inl J;refine qz (YQ (YW (n:=n+5) S4 O L4 (h5 a).1 (am h9 (by decide)) J J J) λY g=>(FK (Og (n:=n+7) (S4.gr (cX _) g).S<|fX (O.at<|g _ O.live aJ) J J)<|qO J (L4.gr g) S4.S.g.z J).to<|congrArg (λt=>V.bool !t)<|beq_self_eq_true (α:=Nat) _) (λz=>ak z) λ_ H5 g5=>aK<|bA<|q _ _<|.mk h0 A s h7 h6 G U Z i (jw (bE m) U I G R a) (Z' a) H5 _ _ _ _ _ _ _ _ _ _ _ _ _ ⟨S4.gr (cX _) g5,O.at<|g5 _ O.live aJ,L4.gr g5,g5.at<|(k4 h0<|.inl J).trans C.W,?_,(h5 a).1,(h5 a).2,C.t,λb h=>?_,λb h=>⟨λz=>?_,λz=>?_⟩⟩
·(refine af (C.Sn) λB h2=>?_;refine af (h2) λD h3=>?_;refine ai (λh h'=>?_)<|h3)
 exact⟨B,D,g5.at<|(k4 s<|.inr<|.inr J).trans h,h'⟩
.exact λz=>(c4.new b h).elim (h8 a b z)<|(E a).1.live b z
.refine dP (c4.new b z) (λz=>?_) λz=>?_
 .exact(C.nb b h).1 z
 .replace z:=(k0 b h)▸z;exact h1 b h z
.exact dP ((E a).2.new b z) (λz=>(C.nb b h).2 z) λz=>h1 b h z}
have run:wpSs (an (n+8) T) X (hU 15 kK) Q (tP m h0 A s h7 G U<|vR x9 z3 d I.len j [S<|.str I.op,S I.lit,z4,S<|eV I.ks,S I.about,S<|qL v,z9,z5]) H1:=by{
refine let Gz:=_;(?_:Gz)
have x0:G<4611686018427387904:=by have x1:((j+1:Nat):Int)<=12:=dG.mpr h9;exact lW (cV (C.t.2) (Int.add_le_add_left (Int.mul_le_mul_of_nonneg_left x1 (by decide)) _)) (by decide)
refine cc<|cj J<|dk (dC (aM J)<|SF (n:=n) (C.S.keep (cX _) λb h=>c1.keep b (C.S.live b h)<|C.dj b h) (cX _) C.t.1 x0 P1 (C.B.at<|k0 A<|.inr<|.inl J) (C.nb A<|.inr<|.inl J).1 (C.nb s<|.inr<|.inr J).1 np.1 np.2 JM h4 (cN C.z h9) z8) (λZ i a H2 S2 c2 nc=>?_) λZ i a H2 c S2 c2 ec b H3 g3 hb r=>?_
.rw[w] at nc ⊢;have:=z0 a Z i H2 z5 S2 c2;rw[Mj nc] at this ⊢;exact bA<|nx this
.obtain⟨k,B,hk,f⟩:=r;have ev:v= .str c:=w.symm.trans ec;refine aa f ?_;refine⟨hk,λtb=>⟨by exact(by decide:20<21),?_⟩⟩;have z1:(H3.set b _) b=S (.exc k (S B) tb<|vF c):=MH.c5;have g4:Gr H2 (H3.set b<|.exc k (S B) tb<|vF c):=g3.set hb;generalize H3.set b (.exc k (S B) tb<|vF c)=p at z1 g4 ⊢;refine aW (gI (Mx (ab J) z1 J)<|Mx (ab J) z1 J) (bA ⟨by exact(by decide:20<21),nx ?_⟩);have:=z0 a Z i p N (S2.gr (cX _) g4)<|c2.trans g4.f5;rw[ev] at this ⊢;exact this}
refine aH (t:=LY v) (pc (ab J) λKQ=>(ES VO.1 KQ).1) (λz=>?_) λz=>aK ?_
.clear z0 h8 P1 nL h1 c1 w h5 E Z' h4 P np z8 u z2 q h9
 induction v using V.casesOn with
 |str c=>exact aW (gI (ab J)<|rH (k:=.s c) (ab J) ((k0 h0<|.inl J).trans C.W) (ab J) J J<|VO.2 c J)<|aK run
 |_=>exact ak z
.have:=run;rw[Mj (λc e=>by rw[e] at z;exact ak z)] at this;exact this}
section
def Tt:List Str:=["WallFault","Misused","BadRule","Refused","words_of","refused","boxes_meet","single_key","Element","is_live","PlainStore","place_in","place_of_box","SpanStore","meeting","prefixes_of","BitField","add_rule","rules_let","goals_of","add_item","BitTables","Counter","Quota","Limit","unit_seconds","cost_of","let_by_limit","let_packet","make_limit","make_cell","cell_statement","cells_of","new_store","SetBody","bits_of_types","new_set","sweep","has_room","flush_set","element_literal","check_literal","new_element","add_merged","add_element","cut_out","delete_element","is_in_bits","time_anew","dyn_run","new_meta","Packet","Scene","_law_digit","_law_spec","_law_literal","_law_inner","_law_meters","_law_live","_law_within","_law_meet","_law_fits","_law_row","_law_add","_law_packet","_law_shown","_law_stands","_law_told","_law_due","_law_run","_law_op","law","__name__","siftwall.faults","Exception","__init__","siftwall.stores","put","at","find","drop","elements","many","clear","siftwall.addresses","siftwall.bittables","build","siftwall.meters","siftwall.sets","siftwall.packets","siftwall.walk","law_pq1052_01","code","words","a","b","place","box","key","element","now","items","n","low","high","store","found","bits","length","field","base","goal","bit","shift","told","row","buckets","value","rules","left","spread","number","tables","unit","seconds","limit","is_octets","tokens","last","cost","is_over","cell","rate","burst","statement","kind","statements","cells","spec","types","names","name","tongue_types","body","gone","literal","flags","comment","timeout","near","old","is_create","scene","op","inner","out","script","head","other","data","step","what","width","twist","which","events","passing","stands","lows","tops","rows","is_used","alive","is_let","places","about","ops","Too many open files in system","No such file or directory","self","why","ENOENT","EEXIST","EBUSY","EINVAL","ELOOP","EMLINK","EOPNOTSUPP","ENFILE","ENOTEMPTY","ERESTART","File exists","Device or resource busy","Invalid argument","Too many levels of symbolic links","Too many links","Operation not supported","Directory not empty","Interrupted system call should be restarted","range","until","","table","len","middle","begin","group","groups","goals","free","first","append","fields","item","kept","pairs","pair","packets","octets","used","span","most","second","minute","hour","day","week","min","isinstance","counter","quota","interval","handle","is_anonymous","is_bound","tuple","size","is_merge","delete","sorted","mark","priority","iif","oif","iifname","oifname","pkttype","iiftype","oiftype","link","l4","off","meta","packet","hook","input","talk","state","is_reply","talks","sets","objects","readers","doers","tools","order","little","log","replies","steps","homes","dynamic","wide","flush","create","add","update","s","third","far","fault","get","pop","insert","list","limit rate must be positive","limit burst must be positive","verdict","max","constant","rest","bytearray","k","due","str","no such code: ","behind","no unit of a limit: ","dynset","break","accept","event","big","bytes","bool","sum","k0","k1","k2","k3","k4","k5","k6","k7","k8","k9","k10","k11"].map br
def SD(n:Nat):Str:=Tt.getD n<|br ""
def lO:Nat:=318
set_option genCtorIdx false
structure Ck where
 vis:List (Nat×Str)
 kd:List (Str×oQ)
 sto:List (Nat×Str)
def Ac(s:Str):Bool:=!(s==br "__classdict__")&&!(s==br "__debug__")
def Ck.is(c:Ck)(b:Str)(k:oQ):Bool:=decide<|c.kd.lookup b=S k
abbrev Ck.gl (c:Ck) (b:Str):Bool:=c.is b .globalImplicit
def jb(l:List<|Nat×Str)(i:Nat):Str:=(l.lookup i).getD<|br ""
def mR(l:List<|Nat×Str)(i:Nat):Bool:=(l.lookup i).isSome
def mY(n:Nat):Bool:=et (n+1) lO
def ut:Bi->Str
 |.len=>br "len"|.max=>br "max"|.min=>br "min"|.tuple=>br "tuple"|.list=>br "list"|.sorted=>br "sorted"|.sum=>br "sum"|.bytes=>br "bytes"|.bytearray=>br "bytearray"
def IT:Bi->Bool
 |.bytearray=>T
 |_=>F
def DJ(e:Expr):Bool:= @Expr.casesOn (λ_=>Bool) e (λ_ _ _=>T) (λ_ _ _=>T) (λ_ _ _ _=>T) (λ_ _ _=>T) (λ_ _ _ _=>T) (λ_ _ _ _=>T) (λ_ _ _=>T) (λ_ _ _=>T) (λ_ _ _ _=>T) (λ_ _ _ _=>T) (λ_ _ _ _ _=>T) (λ_ _ _ _=>T) (λ_ _=>T) (λ_ _=>T) (λ_ _=>T) (λ_ _ _ _=>T) (λ_ _ _ _=>T) (λ_ _ _ _=>T) (λ_ _=>T) (λ_ _ _=>T) (λ_ _ _=>T) (λ_ _ _=>T) (λ_ _=>T) (λ_ _=>T) (λ_ _=>T) (λ_ _ _=>T) λ_ _ _ _=>F
def Mm:List (Option Expr)->List Expr->List Expr
 |k::u,v::Z=>k.toList++v::Mm u Z
 |_,_=>[]
def pk:List Expr->List (Option Expr)
 |[]=>[]
 |k::r=>(match r with|[]=>[]|_::r=>S k::pk r)
def pv:List Expr->List Expr
 |[]=>[]
 |_::r=>(match r with|[]=>[]|v::r=>v::pv r)
def yY:List Expr->Bool
 |[]=>T
 |_::r=>(match r with|[]=>F|_::r=>yY r)
def wu(e:Expr):(List Expr×Nat×Str)×List PY×jG:= @PySem.Expr.casesOn (λ_=>(List Expr×Nat×Str)×List PY×jG) e (λ_ l _=>((l,0,br ""),[],default)) (λ_ _ _=>(([],0,br ""),[],default)) (λa _ b _=>(([a,b],0,br ""),[],default)) (λ_ a _=>(([a],0,br ""),[],default)) (λ_ _ _ _=>(([],0,br ""),[],default)) (λa b c _=>(([a,b,c],0,br ""),[],default)) (λk v _=>((Mm k v,0,br ""),[],default)) (λ_ _ _=>(([],0,br ""),[],default)) (λa g s _=>(([a],0,br ""),g,s)) (λ_ _ _ _=>(([],0,br ""),[],default)) (λ_ _ _ _ _=>(([],0,br ""),[],default)) (λ_ _ _ _=>(([],0,br ""),[],default)) (λ_ _=>(([],0,br ""),[],default)) (λ_ _=>(([],0,br ""),[],default)) (λ_ _=>(([],0,br ""),[],default)) (λa _ l _=>((a::l,0,br ""),[],default)) (λf l _ _=>((f::l,0,br ""),[],default)) (λ_ _ _ _=>(([],0,br ""),[],default)) (λ_ _=>(([],0,br ""),[],default)) (λ_ k _=>(([],k,br ""),[],default)) (λa _ _=>(([a],0,br ""),[],default)) (λa b _=>(([a,b],0,br ""),[],default)) (λ_ _=>(([],0,br ""),[],default)) (λn _=>(([],0,n),[],default)) (λl _=>((l,0,br ""),[],default)) (λl k _=>((l,k,br ""),[],default)) λa b _ _=>((a.toList++b.toList,0,br ""),[],default)
def iM(e:Expr):List Expr:=(wu e).1.1
def ch(e:Expr)(i:Nat):Expr:=(iM e)[i]?.getD default
def tl(e:Expr):List Expr:=(iM e).drop 1
def ek(e:Expr):Nat:=(wu e).1.2.1
def en(e:Expr):Str:=(wu e).1.2.2
def gen(e:Expr):PY:=(wu e).2.1[0]?.getD default
def jz(e:Expr):jG:=(wu e).2.2
abbrev EB:Type:=Expr×Bool
abbrev LB:Type:=List Expr×Bool
def nE(n:Str)(e:Expr):Expr:=.Name n e.pos
def EA(t:Tg)(e:Expr):List (Nat×Str):=match t with
 |.one i=>[(i,en e)]
 |.two i j=>[(i,en<|ch e 0),(j,en<|ch e 1)]
def JE(s:jG)(b:Str):Bool:=decide<|s.names.lookup b=S .free
def Ck.inner(c:Ck)(s:jG)(t:Tg)(b:Expr):Ck:=⟨(c.vis.filter λp=>JE s p.2)++EA t b,s.names.map λp=>(p.1,if p.2= .free then .cell else p.2),EA t b⟩
def rT(c:Ck)(t:Tg)(e:Expr):EB:=match t with
 |.one i=>(nE (jb c.sto i) e,mR c.sto i)
 |.two i j=>(.Tuple [nE (jb c.sto i)<|ch e 0,nE (jb c.sto j)<|ch e 1] (ek e) e.pos,mR c.sto i&&mR c.sto j)
abbrev FN (c:Ck) (s:jG) (t:Tg) (b:Expr):Prop:=
 s.kind= .function/\(∀x∈s.names,x.2≠.cell)/\(s.names.map (·.1)).Nodup/\(∀x∈s.names,x.2= .free->c.kd.lookup x.1=S .cell/\∃q∈c.vis,q.2=x.1)
  /\(∀p∈c.vis,JE s p.2=T->p.1<t.fst)/\(∀p∈EA t b,s.names.lookup p.2=S .local/\t.fst<=p.1)/\((c.inner s t b).vis.map (·.1)).Nodup/\((c.inner s t b).vis.map (·.2)).Nodup
  /\t.fst<=(match t with|.one i=>i|.two _ j=>j)
def ZO(c:Ck)(s:jG)(t:Tg)(b:Expr):Bool:=decide<|FN c s t b
def Ae(m:ME):Nat:= @ME.casesOn (λ_=>Nat) m 0 (λb=>b.toNat) (λ_=>0) (λ_=>0) 0 (λ_=>0) (λ_ _=>0) (λ_ _=>0) (λ_ _=>0) (λ_ _=>0) (λ_=>0) (λ_=>0) (λ_=>0) (λ_ _ _=>0) (λ_=>0) (λ_ _ _=>0) (λ_ _ _ _ _=>0) (λ_=>0) (λ_=>0) (λ_ _=>0) (λ_ _ _=>0) (λ_ _=>0) (λ_ _=>0) (λ_ _ _=>0) (λ_ _ _=>0) (λ_=>0) (λ_ _=>0) (λ_ _=>0) (λ_ _=>0) (λ_=>0) λ_ _ _ _=>2
def rD(f:Expr->EB)(m:ME)(l:List Expr):LB:=match l with
 |[]=>([],dQ (Ae m) 1)
 |e::_=>([(f e).1],(f e).2)
def sM(f:Expr)(x:LB)(p:Pos)(b:Bool):EB:=(.Call f x.1 [] p,(b&&et (x.1.length+1) 30)&&x.2)
mutual
noncomputable def rE:ME->Ck->Expr->EB
 |.none=>λ_ e=>(.Constant .none (ek e) e.pos,true)
 |.bool b=>λ_ e=>(.Constant (.bool b) (ek e) e.pos,true)
 |.int i=>λ_ e=>match i with
  |.ofNat k=>(.Constant (.int<|.ofNat k) (ek e) e.pos,true)
  |.negSucc k=>(.UnaryOp .USub (.Constant (.int<|.ofNat<|k+1) (ek<|ch e 0) (ch e 0).pos) e.pos,true)
 |.str m=>λ_ e=>(.Constant (.str<|SD m) (ek e) e.pos,mY m)
 |.bytes0=>λ_ e=>(.Constant (.bytes []) (ek e) e.pos,true)
 |.loc i=>λc e=>(nE (jb c.vis i) e,mR c.vis i&&Ac (jb c.vis i))
 |.attr a k=>λc e=>(.Attribute (rE a c<|ch e 0).1 (SD k) e.pos,tf (rE a c<|ch e 0).1&&(rE a c<|ch e 0).2)
 |.idx a i=>λc e=>(.Subscript (rE a c<|ch e 0).1 (rE i c<|ch e 1).1 e.pos,(rE a c<|ch e 0).2&&(DJ (rE i c<|ch e 1).1&&(rE i c<|ch e 1).2))
 |.sliceTo a i=>λc e=>(.Subscript (rE a c<|ch e 0).1 (.Slice none (some (rE i c<|ch (ch e 1) 0).1) none (ch e 1).pos) e.pos,(rE a c<|ch e 0).2&&(rE i c<|ch (ch e 1) 0).2)
 |.sliceFrom a i=>λc e=>(.Subscript (rE a c<|ch e 0).1 (.Slice (some (rE i c<|ch (ch e 1) 0).1) none none (ch e 1).pos) e.pos,(rE a c<|ch e 0).2&&(rE i c<|ch (ch e 1) 0).2)
 |.tup es=>λc e=>(.Tuple (rEs es c<|iM e).1 (ek e) e.pos,(rEs es c<|iM e).2)
 |.list es=>λc e=>(.List (rEs es c<|iM e).1 e.pos,(rEs es c<|iM e).2)
 |.dict es=>λc e=>(.Dict (pk (rEs es c<|iM e).1) (pv (rEs es c<|iM e).1) e.pos,(yY (rEs es c<|iM e).1&&et (pv (rEs es c<|iM e).1).length 15)&&(rEs es c<|iM e).2)
 |.bin o a b=>λc e=>(.BinOp (rE a c<|ch e 0).1 (qU o) (rE b c<|ch e 1).1 e.pos,(rE a c<|ch e 0).2&&(rE b c<|ch e 1).2)
 |.not a=>λc e=>(.UnaryOp .Not (rE a c<|ch e 0).1 e.pos,(rE a c<|ch e 0).2)
 |.cmp a o b=>λc e=>(.Compare (rE a c<|ch e 0).1 [iH o] [(rE b c<|ch e 1).1] e.pos,((rE a c<|ch e 0).2&&(rE b c<|ch e 1).2)&&!xO (iH o) (rE b c<|ch e 1).1)
 |.cmp2 a o b o' d=>λc e=>(.Compare (rE a c<|ch e 0).1 [iH o,iH o'] [(rE b c<|ch e 1).1,(rE d c<|ch e 2).1] e.pos,((rE a c<|ch e 0).2&&(rE b c<|ch e 1).2)&&((rE d c<|ch e 2).2&&!xO (iH o') (rE d c<|ch e 2).1))
 |.isNone a=>λc e=>(.Compare (rE a c<|ch e 0).1 [.Is] [.Constant .none (ek<|ch e 1) (ch e 1).pos] e.pos,(rE a c<|ch e 0).2)
 |.notNone a=>λc e=>(.Compare (rE a c<|ch e 0).1 [.IsNot] [.Constant .none (ek<|ch e 1) (ch e 1).pos] e.pos,(rE a c<|ch e 0).2)
 |.bop b es=>λc e=>(.BoolOp (CN b) (rEs es c<|iM e).1 e.pos,!(rEs es c<|iM e).1.isEmpty&&(rEs es c<|iM e).2)
 |.ite a x y=>λc e=>(.IfExp (rE a c<|ch e 0).1 (rE x c<|ch e 1).1 (rE y c<|ch e 2).1 e.pos,((rE a c<|ch e 0).2&&(rE x c<|ch e 1).2)&&(rE y c<|ch e 2).2)
 |.callF f es=>λc e=>sM (nE (SD f)<|ch e 0) (rEs es c<|tl e) e.pos<|(et (f+1) 1000&&(FT f).isSome)&&(mY f&&c.gl (SD f))
 |.new k es=>λc e=>sM (nE (SD k)<|ch e 0) (rEs es c<|tl e) e.pos<|((et (k+1) 1000&&(CT k).isSome)&&!dQ k 51)&&(mY k&&c.gl (SD k))
 |.callM a m es=>λc e=>sM (.Attribute (rE a c<|ch (ch e 0) 0).1 (SD m) (ch e 0).pos) (rEs es c<|tl e) e.pos<|(tf (rE a c<|ch (ch e 0) 0).1&&((ch e 0).pos.endLine==e.pos.line))&&(rE a c<|ch (ch e 0) 0).2
 |.callC k m es=>λc e=>sM (.Attribute (nE (SD 0)<|ch (ch e 0) 0) (SD 75) (ch e 0).pos) (rEs es c<|tl e) e.pos<|(dQ k 0&&dQ m 75)&&(((ch e 0).pos.endLine==e.pos.line)&&c.gl (SD 0))
 |.excInit es=>λc e=>sM (.Attribute (nE (br "Exception")<|ch (ch e 0) 0) (br "__init__") (ch e 0).pos) (rEs es c<|tl e) e.pos<|((ch e 0).pos.endLine==e.pos.line)&&c.gl (br "Exception")
 |.bi b es=>λc e=>sM (nE (ut b)<|ch e 0) (rEs es c<|tl e) e.pos<|!IT b&&c.gl (ut b)
 |.isinst a k=>λc e=>(.Call (nE (br "isinstance")<|ch e 0) [(rE a c<|ch e 1).1,nE (SD k)<|ch e 2] [] e.pos,((et (k+1) 1000&&((CT k).any λd=>!d.isExc))&&(c.gl (br "isinstance")&&(mY k&&c.gl (SD k))))&&(dJ (rE a c<|ch e 1).1&&(rE a c<|ch e 1).2))
 |.isinstT a s=>λc e=>(.Call (nE (br "isinstance")<|ch e 0) [(rE a c<|ch e 1).1,nE (br (if s then "str" else "bool"))<|ch e 2] [] e.pos,(c.gl (br "isinstance")&&c.gl (br (if s then "str" else "bool")))&&(dJ (rE a c<|ch e 1).1&&(rE a c<|ch e 1).2))
 |.kstr a=>λc e=>(.BinOp (.Constant (.str<|br "k") (ek<|ch e 0) (ch e 0).pos) .Add (.Call (nE (br "str")<|ch (ch e 1) 0) [(rE a c<|ch (ch e 1) 1).1] [] (ch e 1).pos) e.pos,c.gl (br "str")&&(dJ (rE a c<|ch (ch e 1) 1).1&&(rE a c<|ch (ch e 1) 1).2))
 |.comp a t it d=>λc e=>
  (.ListComp (rE a (c.inner (jz e) t (gen e).target)<|ch e 0).1 [⟨(rT (c.inner (jz e) t (gen e).target) t (gen e).target).1,(rI it c (gen e).iter).1,(rD (rE d<|c.inner (jz e) t (gen e).target) d (gen e).ifs).1,0⟩] (jz e) e.pos,
   (ZO c (jz e) t (gen e).target&&qX (rI it c (gen e).iter).1)&&((rT (c.inner (jz e) t (gen e).target) t (gen e).target).2&&((rI it c (gen e).iter).2&&((rE a (c.inner (jz e) t (gen e).target)<|ch e 0).2&&(rD (rE d<|c.inner (jz e) t (gen e).target) d (gen e).ifs).2))))
noncomputable def rEs:MEs->Ck->List Expr->LB
 |.nil=>λ_ _=>([],true)
 |.cons m ms=>λc l=>((rE m c<|l[0]?.getD default).1::(rEs ms c<|l.drop 1).1,(dJ (rE m c<|l[0]?.getD default).1&&(rE m c<|l[0]?.getD default).2)&&(rEs ms c<|l.drop 1).2)
noncomputable def rI:MIt->Ck->Expr->EB
 |.ex m=>λc e=>rE m c e
 |.range1 m=>λc e=>(.Call (nE (br "range")<|ch e 0) [(rE m c<|ch e 1).1] [] e.pos,c.gl (br "range")&&(dJ (rE m c<|ch e 1).1&&(rE m c<|ch e 1).2))
 |.range3 m n=>λc e=>(.Call (nE (br "range")<|ch e 0) [(rE m c<|ch e 1).1,(rE n c<|ch e 2).1,.UnaryOp .USub (.Constant (.int 1) (ek<|ch (ch e 3) 0) (ch (ch e 3) 0).pos) (ch e 3).pos] [] e.pos,c.gl (br "range")&&((dJ (rE m c<|ch e 1).1&&dJ (rE n c<|ch e 2).1)&&((rE m c<|ch e 1).2&&(rE n c<|ch e 2).2)))
end
end
structure eu (c:Ck) (fr:aF):Prop where
 vis:fr.vis=c.vis
 kd:∀x k,c.kd.lookup x=some k->fr.env.kindOf x=some k
 own:∀i nm,c.sto.lookup i=some nm->jM fr i nm
 fk:fr.env.scope.kind= .function
structure BN (st:St) (nm:Str) (v:Value):Prop where
 g:st.mg nm=none
 b:st.mb nm=some v
 d:(nm==("__debug__":Str))=false
structure eQ (st:St):Prop where
 O:oW st FT
 sd:∀n,st.sd n=SD n
 N:st.N=lO
 ct:st.ct=CT
 gf:∀f d,f<1000->FT f=some d->st.mg (SD f)=some (.ref d.addr)
 gc:∀k d,k<1000->CT k=some d->st.mg (SD k)=some (.ref d.addr)
 nm:∀n,n<lO->Ac (SD n)=true
 gb:∀b,BN st (ut b) (vq b)
 isi:BN st (br "isinstance") (.builtin "isinstance")
 tys:∀b:Bool,BN st (br (if b then "str" else "bool")) (.type (if b then "str" else "bool"))
 rng:BN st (br "range") (.type "range")
 exc:BN st (br "Exception") (.type "Exception")
 bi:∀b,IT b=false->CV st b
 new:∀k d,k<1000->CT k=some d->dQ k 51=false->yn st FT d
 mo:∃d f fe,CT 0=some d/\d.meths.lookup 75=some f/\FT f=some fe/\Lk st d.addr 75 fe.addr
 io:NP st
 xb:∀c d,st.ct c=some d->d.isExc=true->jg st.K d.addr (.type "Exception")=some true
 xf:BH st.K (.type "Exception") (.type "type") "__init__"=some (.val (.builtin "Exception.__init__"))
 k0:306+12<=st.N
 ks:∀i:Nat,i<12->st.sd (306+i)=(("k":Str)++(xQ (i:Int):Str))
def FZ(a:St)(cx:Cx)(U:aF)(n:Nat)(m:ME)(e:Expr):Prop:=Ev a cx U n m e/\Tr a cx U n m e
structure Fb (st:St) (cx:Cx) (fr:aF) (n:Nat) (ms:MEs) (l:List Expr):Prop where
 ev:lh st cx fr n ms l
 sr:l.all dJ=true
 bo:l.isEmpty=false->∀b,Md st cx fr n b ms l/\vg st cx fr n b ms l
 di:yY l=true->MM st cx fr n ms (pk l) (pv l)/\At (pk l) (pv l)=true/\∀p,(xk fr.env p (pk l) (pv l)).length=(pv l).length
 dj:∀k e,Ev st cx fr n k e->yY (e::l)=true->MM st cx fr n (.cons k ms) (pk (e::l)) (pv (e::l))/\At (pk (e::l)) (pv (e::l))=true/\∀p,(xk fr.env p (pk (e::l)) (pv (e::l))).length=(pv (e::l)).length
def PE(a:St)(cx:Cx)(n:Nat)(m:ME):Prop:=∀c U e,eu c U->(rE m c e).2=T->FZ a cx U n m (rE m c e).1
def sK(b:St)(cx:Cx)(n:Nat)(a:MEs):Prop:=∀c U l,eu c U->(rEs a c l).2=T->Fb b cx U n a (rEs a c l).1
def PI(a:St)(cx:Cx)(n:Nat)(p:MIt):Prop:=∀c U e,eu c U->(rI p c e).2=T->qE a cx U n p (rI p c e).1
theorem mI[Decidable p](h:decide p=T):p:=of_decide_eq_true h
theorem ja{D w:Type}[BEq D][LawfulBEq D]{l:List (D×w)}{a:D}{b:w}(h:l.lookup a=S b):(a,b)∈l:=by{
induction l with
|nil=>exact aD h
|cons x r Z=>{
rw[nH] at h
induction q:a==x.1 using aX with
|true=>rw[q] at h;exact aa (eq_of_beq q)<|au (aA h)<|bw _
|false=>rw[q] at h;exact cq _<|Z h}}
theorem aC(h:(a&&b)=T):a=T:=(bm.mp h).1
theorem aw(h:(a&&b)=T):b=T:=(bm.mp h).2
theorem AW(h:a=T)(C:b=T):(a&&b)=T:=bm.mpr ⟨h,C⟩
theorem nt(h:(!a)=T):a=F:=rY (GN a).symm<|congrArg not h
theorem mU(h:et (a+1) b=T):a<b:=kn h
theorem No(h:mR l i=T):l.lookup i=S (jb l i):=(Option.some_get h).symm.trans<|congrArg S<|Option.get_eq_getD _
theorem zu(B:eQ U)(h:mY k=T):(SD k==("__debug__":Str))=F:=nt<|aw<|B.nm k<|mU h
theorem mr(j:eu c U)(h:c.is b k=T):U.env.kindOf b=S k:=j.kd _ _<|mI h
theorem BN.is(a:BN f e v)(j:eu c U)(h:c.gl e=T):uv f U e v:=⟨mr j h,a.g,a.b,a.d⟩
theorem Ed(B:eQ a)(j:eu c U)(h:(mY k&&c.gl (SD k))=T)(w:k<1000)(m:CT k=S d):om a U (SD k) (.ref d.addr):=⟨mr j<|aw h,B.gc k d w m,zu B<|aC h⟩
theorem ZD(h:DJ e=T)(o i:Value):Br e F o i=Bs [o,i] (uB o i):= @Expr.casesOn (λe=>DJ e=T->∀o i,Br e F o i=Bs [o,i] (uB o i)) e (λ_ _ _ _ _ _=>J) (λ_ _ _ _ _ _=>J) (λ_ _ _ _ _ _ _=>J) (λ_ _ _ _ _ _=>J) (λ_ _ _ _ _ _ _=>J) (λ_ _ _ _ _ _ _=>J) (λ_ _ _ _ _ _=>J) (λ_ _ _ _ _ _=>J) (λ_ _ _ _ _ _ _=>J) (λ_ _ _ _ _ _ _=>J) (λ_ _ _ _ _ _ _ _=>J) (λ_ _ _ _ _ _ _=>J) (λ_ _ _ _ _=>J) (λ_ _ _ _ _=>J) (λ_ _ _ _ _=>J) (λ_ _ _ _ _ _ _=>J) (λ_ _ _ _ _ _ _=>J) (λ_ _ _ _ _ _ _=>J) (λ_ _ _ _ _=>J) (λ_ _ _ _ _ _=>J) (λ_ _ _ _ _ _=>J) (λ_ _ _ _ _ _=>J) (λ_ _ _ _ _=>J) (λ_ _ _ _ _=>J) (λ_ _ _ _ _=>J) (λ_ _ _ _ _ _=>J) (λ_ _ _ _ h _ _=>ak h) h o i
theorem er(h:Ev a cx U n m e)(u:∀w,isTrue e U.env w=(do let v<-w;BD e.pos;ux [v] (truthy v))):FZ a cx U n m e:=⟨h,λA l H s Q b X y Y o E=>wpAny_isTrue_value (bF Go.refl (h A l H s _ X y Y E) λv i x I r f g G k=>fV G<|Jm f r<|o _ _ k)<|u _⟩
theorem WX(s:dJ e=T)(h:FZ B cx U n m e)(R:Fb B cx U n M l)(b:∀b,Md B cx U n b (.cons m M) (e::l)/\vg B cx U n b (.cons m M) (e::l)):Fb B cx U n (.cons m M) (e::l):=
 ⟨λA l H D Q X h9 t Y E=>wpAny_items_cons (bF Go.refl (h.1 A l H D _ X t Y E) λv i x h0 r f g G k=>bF G (R.ev A l h0 i _ X h9 t f k) λZ h1 L d I z g' G' k'=>⟨x::L,d,⟨v,Z,J,r.keep<|f.d6 g',I⟩,z,G',k'⟩)<|mJ s,AW s R.sr,λ_=>b,R.dj m e h.1,λ_ _ hk w=>⟨(λA l H s Q X h9 t Y E=>by{
refine let P:=_;let C:=_;let j:=_;let zd:=_;(?_:aj P _ C j zd _)
exact ag<|bF Go.refl (hk A l H s _ X t Y E) λa i x h0 h2 f g G q=>ag<|eT<|ag<|bF G (h.1 A l h0 i _ X t f q) λb h1 y d o z g' G' q'=>ag<|gO<|av<|ag<|eT<|bF G' (((R.di w).1) A l d h1 _ X h9 t z q') λps h6 zs u h3 h4 O c h5=>av ⟨x::y::zs,u,(wm ((h2.keep<|f.d6 g').keep<|z.d6 O)<|wm (o.keep<|z.d6 O) h3),h4,c,h5⟩}),(R.di w).2.1,λp=>congrArg rZ<|(R.di w).2.2 p⟩⟩
theorem DO:sK U cx n .nil:=λ_ _ _ _ _=>⟨λA l H s Q X h9 y Y h=>wpAny_items_nil ⟨[],H,J,Y,Go.refl,h⟩,J,λh=>ak h,λ_=>(bp (λA l H s Q X h9 y Y h=>av ⟨[],H,J,Y,Go.refl,h⟩) J λ_=>J),λ_ _ _ h=>ak h⟩
theorem wJ(e:PE o cx n m)(B:sK o cx n a):sK o cx n (.cons m a):=λc U l j h=>
 have E:=e c U _ j<|aw<|aC h
 WX (aC<|aC h) E (B c U (l.drop 1) j<|aw h) λb=>by{
induction a using MEs.casesOn with
|nil=>exact⟨λh9 A l H s Q X y Y e=>BoolOp_one<|E.1 A l H s Q X y Y e,Uz E.2⟩
|cons d r=>exact⟨(λh9 A D H s Q X y Y e=>by{
have C:=((B c U (l.drop 1) j<|aw h).bo J b).1;refine let P:=_;let p:=_;let u:=_;let z:=_;(?_:aj P _ p u z _)
induction b using aX with
|true=>{
refine BoolOp_and<|bF Go.refl (E.1 A D H s _ X y Y<|DI e) λv i x I w f g G k=>?_;obtain⟨O,q,R⟩:=vL k;refine DW f w q λt=>?_;cases O with
|true=>exact fV (G.trans Go.toks)<|C h9 A D I _ Q X y (f.toks t) R
|false=>exact⟨x,I,w,f.toks t,G.trans Go.toks,R⟩}
|false=>{
refine BoolOp_or<|bF Go.refl (E.1 A D H s _ X y Y<|DI e) λv i x I w f g G k=>?_;obtain⟨O,q,R⟩:=vL k;refine DW f w q λt=>?_;cases O with
|true=>exact⟨x,I,w,f.toks t,G.trans Go.toks,R⟩
|false=>exact fV (G.trans Go.toks)<|C h9 A D I _ Q X y (f.toks t) R}}),N9 E.2 ((B c U (l.drop 1) j<|aw h).bo J b).2⟩}
theorem LU:∀{i:Int},PE a cx n<|.int i
 |.ofNat _=>λc U e j h=>er WN λ_=>J
 |.negSucc k=>λc U e j h=>er (λA l H s Q X y Y h=>Po<|OU<|P.neg_int<|dR Y _ ku h) λ_=>J
theorem Aq:PE a cx n (.loc i):=λc U e j h=>er ((λA D H s Q X y Y E=>by obtain⟨x,e,E⟩:=cU E;exact xP (Ig Y y.ek.kind (au j.vis.symm<|ja<|No<|aC h) e (nt<|aC<|aw h) E)<|nt<|aw<|aw h)) λ_=>J
theorem LS(B:eQ d)(a:sK d cx n m):PE d cx n (.bi b m):=λc U e j h=>er (λA l H s Q X y Y E=>sy J<|xP (En B.O.T.B Y.base y.ek (mr j<|aw<|aC<|aC h) ((B.gb b).g) ((B.gb b).b)<|RD (eA<|(a c U _ j<|aw h).sr)<|jj (eA<|(a c U _ j<|aw h).sr)<|bF Go.refl (((a c U _ j<|aw h).ev) A l H s _ X (yj e) y Y E.2) λZ i L I r f g G k=>fV G<|(B.bi b<|nt<|aC<|aC<|aC h) A U l I i Q X L Z (y.hd E.1) y.i6 f r k)<|(B.gb b).d) λ_=>J
theorem Tb:∀{j:MEs},sK w cx n j->PE w cx n (.dict j)
 |.nil,_=>λc U e M h=>er TY λ_=>J
 |.cons m .nil,_=>λc U e M h=>ak h
 |.cons m (.cons _ _),hs=>λc U e M h=>
  have R:=hs c U _ M<|aw h;have D:=R.di<|aC<|aC h
  er ((λA l H s Q X y Y E=>by{
have k:∀b o,s.heap.get? b=S o->(s.heap.push {cls:=.type "dict",data:=.dict #[]}).get? b=S o:=λb o ez=>cu _ ez;have t:s.heap.get? s.heap.objs.size=N:=gq<|cD _;have Z:(s.heap.push {cls:=.type "dict",data:=.dict #[]}).get? s.heap.objs.size=S {cls:=.type "dict",data:=.dict #[]}:=eD _ J;refine wpAny_Dict_pairs (knd:=strKind w.prog w.w) (Wj D.2.1) (λz=>Nat.noConfusion<|(congrArg qp z).symm.trans<|D.2.2 e.pos) (am (dr<|D.2.2 e.pos)<|kn<|aw<|aC h) (let P:=_;let C:=_;((bF ((Y.ext k).2) (D.1 A l H _ _ X (yj e) y ((Y.ext k).1) E) λps i L h1 r f g G q=>?_):aj _ _ _ P C _));obtain⟨j,hd,⟨u,O,x⟩,d⟩:=cU q;obtain⟨h0,i1,i2⟩:=O9 r hd u;have B:=g.keep _ _ (Ag Y t).1 (by simp) (Ag Y t).2 Z;refine⟨h0,i2,zL _ ⟨_,0,B,⟨J,J,J⟩,J⟩,λh' I h2=>?_⟩;replace I:=(merged_nil_of_nodup _<|i1.j8 O)▸I;have v:=λa=>(g.mono _ a).elim (Ag Y t).1 λa=>by replace a:=Z▸a;cases a
obtain⟨S',p⟩:=Y.n8 (o:=.dict j) f G t v J B (by decide) h2 (Et I) λtk=>.s h0 (i1.keep tk) I;exact⟨.ref s.heap.objs.size,_,J,S',p,d _ ((by{
induction q:h1 (Array.size<|Heap.objs<|abz s) using aV with
|none=>rfl
|some o=>exact absurd (iT q) v}))⟩})) λ_=>J
theorem yW{D:Type}{f:D->Bool}:∀{o:Option D},o.any f=T->∃x,o=S x/\f x=T
 |some x,h=>⟨x,J,h⟩
 |none,h=>ak h
theorem EP{D:Type}{o:Option D}(h:o.isSome=T):∃x,o=S x:=xv.mp h
theorem oC(j:eu c U)(h:mR c.sto i=T):jM U i (jb c.sto i):=j.own _ _<|No h
theorem ER(a:eu c U)(h:(rT c t e).2=T):iW U t (rT c t e).1:=by{
induction t using Tg.casesOn with
|one i=>exact .one<|oC a h
|two i j=>exact .two (oC a<|aC h)<|oC a<|aw h}
theorem HF{P:Nat->ME->Prop}(r:∀m,P 0 m)(G:P 1<|.bool T)(M:∀a t i d,P 2<|.comp a t i d)(m:ME):P (Ae m) m:= @ME.casesOn (λm=>P (Ae m) m) m (r _) (λb=> @aX (λb=>P b.toNat _) b (r _) G) (λa=>r _) (λa=>r _) (r _) (λa=>r _) (λa b=>r _) (λa b=>r _) (λa b=>r _) (λa b=>r _) (λa=>r _) (λa=>r _) (λa=>r _) (λa b c=>r _) (λa=>r _) (λa b c=>r _) (λa b c d e=>r _) (λa=>r _) (λa=>r _) (λa b=>r _) (λa b c=>r _) (λa b=>r _) (λa b=>r _) (λa b c=>r _) (λa b c=>r _) (λa=>r _) (λa b=>r _) (λa b=>r _) (λa b=>r _) (λa=>r _) M
theorem Va(E:PE a cx n m)(j:eu c U):∀{l:List Expr},(rD (rE m c) m l).2=T->Cd a cx U n m (rD (rE m c) m l).1
 |[],h=>HF (P:=λk m=>dQ k 1=T->Cd a cx U n m []) (λ_ h=>ak h) (λ_=>λA l H s u y Y h=>wpAny_tests_nil ⟨T,H,J,Y,Go.refl,h⟩) (λ_ _ _ _ h=>ak h) m h
 |e::r,h=>λA l H s u y Y b=>wpAny_tests_one<|bK (((E c U e j h).2) A l H s _ _ _ y Y (λ_ _ q=>q) b) (λ_ _ q=>q) λ_ _ z=>Mi z
theorem CQ{D w:Type}{f:D->w}{l:List D}(h:(l.map f).Nodup){p q:D}(O:p∈l)(o:q∈l)(e:f p=f q):p=q:=by{
induction l with
|nil=>cases O
|cons x r Z=>exact(bJ.mp O).elim (λO=>(bJ.mp o).elim (λo=>O.trans o.symm) λo=>absurd (ya o)<|e▸O▸(fq.mp h).1) λO=>(bJ.mp o).elim (λo=>absurd (ya O)<|e.symm▸o▸(fq.mp h).1) λo=>Z (fq.mp h).2 O o}
theorem Ry(u:FN c s t b)(j:eu c U):zh U s (c.inner s t b).vis t.fst where
 kind:=u.1
 nocell:=u.2.1
 nd:=u.2.2.1
 free:=λx f G=>⟨j.kd _ _ (u.2.2.2.1 x f G).1,(u.2.2.2.1 x f G).2.elim λq z=>⟨q.1,j.vis▸z.2▸z.1⟩⟩
 vi:=λp O=>(cp.mp O).imp (λO=>have z:=dZ.mp O;(bp (j.vis▸z.1) (u.2.2.2.2.1 p z.1 z.2)<|ja<|mI z.2)) λO=>have z:=u.2.2.2.2.2.1 p O;⟨z.2,ja z.1⟩
 v1:=λp O q o e=>congrArg ji<|CQ u.2.2.2.2.2.2.1 O o e
 v2:=λp O q o e=>congrArg uK<|CQ u.2.2.2.2.2.2.2.1 O o e
theorem FW(u:FN c s t b)(j:eu c U):eu (c.inner s t b) (lI U s (c.inner s t b).vis L C) where
 vis:=J
 fk:=u.1
 kd:=λx k h=>(bZ.mp<|ja h).elim λp z=>by
  have g:p.1=x:=congrArg uK z.2;have I:(if p.2= .free then Bz else p.2)=k:=congrArg ji z.2;refine au g<|au I<|(zR u.2.2.1 z.1).trans<|congrArg S ?_;by_cases q:p.2= .free
  .refine aa (if_pos q) ?_;rw[rF,q,j.fk,j.kd _ _ (u.2.2.2.1 p z.1 q).1];rfl
  .refine aa (if_neg q) ?_;rw[rF,beq_eq_false_iff_ne.mpr q];rfl
 own:=λi d h=>by
  refine let P:=_;(?_:jM P _ _)
  have z:(lI U s (c.inner s t b).vis L C).env.kindOf d=S .local:=zR u.2.2.1<|ja (u.2.2.2.2.2.1 _<|ja h).1;exact⟨xx _<|ja h,.inl z,λa R=>au (aA<|(wl z).symm.trans R)<|bw _⟩
theorem NC(R:PE f cx n a)(Z:PI f cx n p)(m:PE f cx n d)(b:eu c U)(h:(rE (.comp a t p d) c e).2=T):DN f cx U n a t p d (rE a (c.inner (jz e) t (gen e).target)<|ch e 0).1 (rT (c.inner (jz e) t (gen e).target) t (gen e).target).1 (rI p c (gen e).iter).1 (rD (rE d<|c.inner (jz e) t (gen e).target) d (gen e).ifs).1 (jz e) (c.inner (jz e) t (gen e).target).vis:=
 have u:=mI<|aC<|aC h
 {ok:=Ry u b
  tj:=λi j e=>by subst e;exact u.2.2.2.2.2.2.2.2
  T:=λL C=>ER (FW u b)<|aC<|aw h
  hi:=Z c U _ b<|aC<|aw<|aw h
  hs:=aw<|aC h
  he:=λL C=>(R _ _ _ (FW u b)<|aC<|aw<|aw<|aw h).1
  hc:=λL C=>Va m (FW u b)<|aw<|aw<|aw<|aw h
  hx:=by{
cases t with
|one i=>exact(aG (i,en (gen e).target) (xx _<|bw _)<|ja (u.2.2.2.2.2.1 _<|bw _).1)
|two i j=>exact(aG (i,en<|ch (gen e).target 0) (xx _<|bw _)<|ja (u.2.2.2.2.2.1 _<|bw _).1)}}
theorem Ky(B:eQ b)(R:PE b cx n a):PI b cx n (.range1 a):=λc U e j h=>Yn B.O.T.B (R c U _ j<|aw<|aw h).1 (aC<|aw h)<|B.rng.is j<|aC h
theorem Ko(B:eQ d)(R:PE d cx n a)(D:PE d cx n b):PI d cx n (.range3 a b):=λc U e j h=>WV B.O.T.B (R c U _ j<|aC<|aw<|aw h).1 (D c U _ j<|aw<|aw<|aw h).1 (aC<|aC<|aw h) (aw<|aC<|aw h) (B.rng.is j<|aC h)
theorem fw{cx:Cx}(B:eQ h6)(C:nh h6 FT n cx.call)(z3:cx.ct=h6.ct):∀m,PE h6 cx n m:=
 @ME.rec (PE h6 cx n) (sK h6 cx n) (PI h6 cx n)
  (λc U e j h=>er Wk λ_=>J)
  (λ_ c U e j h=>er XD λ_=>J)
  (λ_=>LU)
  (λm c U e j h=>er ((λA l H s Q X hA h0 E=>by refine aa ((B.sd m).symm) ?_;exact aaf (dR h0 _ (Tf<|aa B.N<|mU h) E):Ev h6 cx U n (.str m)<|.Constant (.str<|SD m) (ek e)<|yj e)) λ_=>J)
  (λc U e j h=>er II λ_=>J)
  (λi=>Aq)
  (λ_ k ha c U e j h=>er (QZ B.O.T B.O.x (ha c U _ j<|aw h).1 (B.sd k).symm<|aC h) λ_=>J)
  (λ_ _ ha h9 c U e j h=>er (λA l H s Q X hA h0 E=>OV<|bF Go.refl (((ha c U _ j<|aC h).1) A l H s _ X hA h0 E) λv h3 x h4 r h1 g G k=>bF G (((h9 c U _ j<|aw<|aw h).1) A l h4 h3 _ X hA h1 k) λz7 z5 y z4 I z1 g' p k'=>fV p<|Yz z1 (r.keep<|h1.d6 g') I hA.i6 k'<|ZD<|aC<|aw h) λ_=>J)
  (λ_ _ ha h9 c U e j h=>er (YT (ha c U _ j<|aC h).1 (h9 c U _ j<|aw h).1) λ_=>J)
  (λ_ _ ha h9 c U e j h=>er (Xv (ha c U _ j<|aC h).1 (h9 c U _ j<|aw h).1) λ_=>J)
  (λ_ hs c U e j h=>er (Wr (hs c U _ j h).ev) λ_=>J)
  (λ_ hs c U e j h=>er (Xh (hs c U _ j h).ev) λ_=>J)
  (λ_ hs=>Tb hs)
  (λ_ _ _ ha D c U e j h=>er (λA l H s Q X hA h0 E=>wpAny_BinOp<|bF Go.refl (((ha c U _ j<|aC h).1) A l H s _ X hA h0 E) λv h3 x h4 r h1 g G k=>bF G (((D c U _ j<|aw h).1) A l h4 h3 _ X hA h1 k) λz7 z5 y z4 I z1 g' p k'=>fV p<|ZP z1 (r.keep<|h1.d6 g') I k') λ_=>J)
  (λ_ ha c U e j h=>⟨(λA l H s Q X hA h0 E=>by
   refine Po<|bF Go.refl (((ha c U _ j h).1) A l H s (bR λb H=>Q _ H) X hA h0 E) λv h3 x h4 r h1 g G k=>not_value<|bF G (Jm h1 r k) λb z5 cz z4 e z1 g' p k'=>?_;subst e;exact⟨.bool !b,z4,J,z1,p,k'⟩),(λA l H s Q z0 X hA h0 hq E=>by{
refine wpAny_isTrue_Not<|bF Go.refl (((ha c U _ j h).2) A l H s _ (λb H=>z0 (!b) H) X hA h0 (λx H q=>?_) E) λb h3 cz h4 e h1 g G k=>?_
.obtain⟨b,h2,z8⟩:=vL q;unfold bR;exact aa h2<|hq _ _ z8
.refine aa e ?_;exact⟨_,h4,J,h1,G,k⟩})⟩)
  (λ_ _ _ ha D c U e j h=>have A:=(ha c U _ j<|aC<|aC h).1;have h7:=(D c U _ j<|aw<|aC h).1;⟨SQ B.O.T.B A h7<|nt<|aw h,UL B.O.T.B A h7<|nt<|aw h⟩)
  (λ_ _ _ _ _ ha D hd c U e j h=>have A:=(ha c U _ j<|aC<|aC h).1;have h7:=(D c U _ j<|aw<|aC h).1;have h8:=(hd c U _ j<|aC<|aw h).1;⟨Yb B.O.T.B A h7 h8<|nt<|aw<|aw h,Wm B.O.T.B A h7 h8<|nt<|aw<|aw h⟩)
  (λ_ ha c U e j h=>⟨TZ (ha c U _ j h).1,ZQ (ha c U _ j h).1⟩)
  (λ_ ha c U e j h=>⟨Vo (ha c U _ j h).1,Xu (ha c U _ j h).1⟩)
  (λb _ hs c U e j h=>have R:=(hs c U _ j<|aw h).bo (nt<|aC h) b;⟨λA l H s Q X hA h0 hm=>R.1 (yj e) A l H s Q X hA h0 hm,λA l H s Q z0 X hA h0 hq hm=>R.2 (yj e) _ A l H s Q z0 X hA h0 hq hm⟩)
  (λ_ _ _ ha hx hy c U e j h=>have A:=(ha c U _ j<|aC<|aC h).2;have h7:=hx c U _ j<|aw<|aC h;have h8:=hy c U _ j<|aw h;⟨(λO l H s Q X hA h0 h=>by
   refine wpAny_IfExp<|bF Go.refl (A O l H s _ _ X hA h0 (λ_ _ q=>q) h) λt h3 c' h4 e h1 g G k=>?_;subst e
   induction t using aX with
   |true=>exact fV G<|h7.1 O l h4 h3 Q X hA h1 k
   |false=>exact fV G<|h8.1 O l h4 h3 Q X hA h1 k),(λO l H s Q z0 X hA h0 hq h=>by{
refine aa (arm_isTrue_IfExp ..)<|ag<|bF Go.refl (A O l H s _ _ X hA h0 (λ_ _ q=>q) h) λt h3 c' h4 e h1 g G k=>?_;subst e
induction t using aX with
|true=>exact fV G<|h7.2 O l h4 h3 Q z0 X hA h1 hq k
|false=>exact fV G<|h8.2 O l h4 h3 Q z0 X hA h1 hq k})⟩)
  (λf _ hs c U e j h=>have R:=hs c U _ j<|aw h;have h2:=aC<|aC h;(EP<|aw<|aC h2).elim λd hd=>er ((λA l H s Q X hA h0 h=>by refine sy J<|xP (Kv B.O.T.B h0.base hA.ek (mr j<|aw<|aw h2) (B.gf f d (mU<|aC<|aC h2) hd) (let Gz:=_;((af (B.O.T.fn _ _ hd) λoc z2=>af (z2) λod z9=>af (z9) λx4 x0=>af (x0) λfd ho=>Pc<|jj (eA R.sr)<|bF Go.refl (R.ev A l H s _ X (yj e) hA h0 h) λZ h3 L h4 r h1 g G k=>⟨⟨B.O.T.B.X.keeps h1.base _ _ ho,J⟩,(let Gz:=_;(?_:Gz))⟩):Gz)))<|zu B<|aC<|aw h2;refine aU (C A U _ l h4 h3 f L Z Q X hA.k8 h1 r k) λd' ez c=>?_;rw[hd] at ez;(obtain rfl:=aA ez);exact wI G c)) λ_=>J)
  (λk _ hs c U e j h=>have R:=hs c U _ j<|aw h;have h2:=aC<|aC h;have w:=mU<|aC<|aC<|aC h2;(EP<|aw<|aC<|aC h2).elim λd hd=>er (Rx B.O.T C z3 R.ev R.sr (B.ct▸hd) w (B.new _ d w hd<|nt<|aw<|aC h2)<|Ed B j (aw h2) w hd) λ_=>J)
  (λ_ m _ ha hs c U e j h=>have R:=hs c U _ j<|aw h;have h2:=aC<|aC h;er (WY B.O.T C z3 (ha c U _ j<|aw h2).1 R.ev (aC<|aC h2) R.sr (mU<|aw<|aC h) (aw<|aC h2) (B.sd m).symm) λ_=>J)
  (λ_ _ _ hs=>(λc U e j h=>by{
refine let Gz:=_;(?_:Gz)
have R:=hs c U _ j<|aw h;have w:=aw<|aC h;have h:=aC<|aC h;cases PB (aC<|aC h);cases PB (aw<|aC h);exact af B.mo λd z=>af z λf z=>af z λfe z=>er (QK B.O.T C z3 R.ev ⟨mr j<|aw<|aw h,B.gc _ d (by decide) z.1,zu B (by decide)⟩ (B.ct▸z.1) z.2.1 z.2.2.1 z.2.2.2 R.sr (mU w) (aC<|aw h) (B.sd _).symm) λ_=>J}))
  (λ_ hs c U e j h=>have R:=hs c U _ j<|aw h;have h2:=aC<|aC h;er (SC B.O.T B.xb R.ev (B.exc.is j<|aw h2) B.xf R.sr (mU<|aw<|aC h)<|aC h2) λ_=>J)
  (λb _ hs=>LS B hs)
  (λ_ k ha c U e j h=>have h2:=aC h;have w:=mU<|aC<|aC h2;(yW<|aw<|aC h2).elim λd hd=>er ((λA l H s Q X hA h0 E=>by refine sy J<|qP B.O.T.B h0.base hA.ek (B.isi.is j<|aC<|aw h2)<|BB (eA<|yE<|aC<|aw h)<|jj (eA<|yE<|aC<|aw h) (let P:=_;let zb:=_;(?_:aj _ _ _ P zb _));exact aa (mJ<|aC<|aw h)<|oR<|bF Go.refl (((ha c U _ j<|aw<|aw h).1) A l H _ _ X hA h0 E) λv h3 x h4 r h1 g G q=>oR<|vV B.O.T.B h1.base hA.ek (Ed B j (aw<|aw h2) w hd.1)<|xR<|fV G<|J2 B.O.T B.io (B.ct▸hd.1) w (nt hd.2) h1 r q)) λ_=>J)
  (λ_ s ha c U e j h=>er ((λA l H x5 Q X hA h0 E=>by{
refine sy J<|qP B.O.T.B h0.base hA.ek (B.isi.is j<|aC<|aC h)<|BB (eA<|yE<|aC<|aw h)<|jj (eA<|yE<|aC<|aw h) (let P:=_;let zb:=_;(?_:aj _ _ _ P zb _));exact aa (mJ<|aC<|aw h) (oR (bF Go.refl (((ha c U _ j<|aw<|aw h).1) A l H _ _ X hA h0 E) λv h3 x h4 r h1 g G q=>oR (qP B.O.T.B h1.base hA.ek ((B.tys s).is j<|aw<|aC h) (xR (fV G ((by{
refine let P:=_;let zb:=_;(?_:aj _ _ _ P zb _)
refine let P:=_;(?_:aj _ _ _ P _ _)
have h5:∀c t,Q _ h4->bH h6 U l (aE h6) h4 h3 Q (.bool c) _:=λc t q=>dR h1 t rg q
induction x using V.casesOn with
|str k=>{
refine ai (λ_ z2=>af (z2) λt x1=>?_)<|r;subst x1;obtain⟨⟩:=s
.exact IsiPair.str_bool<|h5 _ _ q
.exact IsiPair.str_str<|h5 _ h3.toks q}
|bool k=>{
refine aa r ?_;obtain⟨⟩:=s
.exact IsiPair.bool_bool<|h5 _ h3.toks q
.exact IsiPair.bool_str<|h5 _ _ q}
|none=>{
refine aa r ?_;obtain⟨⟩:=s
.exact IsiPair.NoneType_bool<|h5 _ _ q
.exact IsiPair.NoneType_str<|h5 _ _ q}
|int k=>{
obtain⟨t,rfl⟩:=r;obtain⟨⟩:=s
.exact IsiPair.int_bool<|h5 _ _ q
.exact IsiPair.int_str<|h5 _ _ q}
|tup k=>{
obtain⟨a,Z,ep,rfl,g1,_⟩:=r;obtain⟨⟩:=s
.exact IsiPair.tuple_bool g1 J<|h5 _ _ q
.exact IsiPair.tuple_str g1 J<|h5 _ _ q}
|_=>exact q.elim})))))))})) λ_=>J)
  (λ_ ha c U e j h=>er (Xy B.O.T.B B.k0 B.ks ((B.tys T).is j<|aC h) (ha c U _ j<|aw<|aw h).1<|aC<|aw h) λ_=>J)
  (λ_ _ _ _ ha h9 hd c U e j h=>er ((λA l H s Q X hA h0 E=>by{
refine aa (eval_ListComp ..)<|IG (NC ha h9 hd j h) (hA.hd E.1) hA h0 E.2 (λ_ _ z=>z) λh8 C Y u m L S' p OD OC ne nf a M q=>(aG m M λh' z6=>?_);refine let Gz:=_;(?_:Gz)
refine ai (λh1 z2=>ai (λx2 e=>?_)<|z2)<|Nu h0 S' p OD a;refine eg M λo es ep g x3 _=>?_;exact⟨.ref h8,_,J,h1.i5 g (λ_ Z n z=>by replace z:=x3▸z;cases z) (λz=>(tX z).elim nf λz=>z.elim (eE ne) λz=>(by cases z)) (bp OC.own OC.fs OC.base) λb ob D eb=>(z6.2 b D).trans eb,x2.i5 OC.new λb ob D eb=>(z6.2 b D).trans eb,q h8 e⟩})) λ_=>J)
  DO (λ_ _ hm hs=>wJ hm hs) (λ_ ha c U e j h=>Iw (ha c U e j h).1) (λ_=>Ky B) (λ_ _=>Ko B)
theorem EX{cx:Cx}(B:eQ d)(C:nh d FT n cx.call)(R:cx.ct=d.ct):∀p,PI d cx n p
 |.ex a=>λc U e j h=>Iw (fw B C R a c U e j h).1
 |.range1 a=>Ky B<|fw B C R a
 |.range3 a b=>Ko B (fw B C R a)<|fw B C R b
def yr(s:Stmt):(List Expr×List (List Stmt))×Option Str×Pos:= @PySem.Stmt.casesOn (λ_=>(List Expr×List (List Stmt))×Option Str×Pos) s (λ_ _ _ _ _ _ _ _ _ _=>(([],[]),N,default)) (λ_ _ _ _ _ _ _ _ _ _=>(([],[]),N,default)) (λ_ _ _ _ _ _ _ _ _ _ _=>(([],[]),N,default)) (λo _=>((o.toList,[]),N,default)) (λ_ _=>(([],[]),N,default)) (λt v _=>((v::t,[]),N,default)) (λ_ _ _ _ _ _ _=>(([],[]),N,default)) (λt _ v _=>(([v,t],[]),N,default)) (λ_ _ _ _ _=>(([],[]),N,default)) (λt e a _ _=>(([e,t],[a]),N,default)) (λ_ _ _ _ _=>(([],[]),N,default)) (λe a _ _=>(([e],[a]),N,default)) (λe a b _=>(([e],[a,b]),N,default)) (λ_ _ _=>(([],[]),N,default)) (λ_ _ _=>(([],[]),N,default)) (λ_ _ _=>(([],[]),N,default)) (λo _ _=>((o.toList,[]),N,default)) (λa B _ _ _=> @aS _ (λ_=>(List Expr×List (List Stmt))×Option Str×Pos) B (([],[]),N,default) λx r=> @aS _ (λ_=>(List Expr×List (List Stmt))×Option Str×Pos) r (@abY (λ_=>(List Expr×List (List Stmt))×Option Str×Pos) x λo n b p=>((o.toList,[a,b]),n,p)) λ_ _=>(([],[]),N,default)) (λ_ _ _ _ _=>(([],[]),N,default)) (λ_ _ _=>(([],[]),N,default)) (λ_ _=>(([],[]),N,default)) (λ_ _ _ _=>(([],[]),N,default)) (λ_ _=>(([],[]),N,default)) (λ_ _=>(([],[]),N,default)) (λe _=>(([e],[]),N,default)) (λ_=>(([],[]),N,default)) (λ_=>(([],[]),N,default)) λ_=>(([],[]),N,default)
def sx(s:Stmt)(i:Nat):Expr:=(yr s).1.1[i]?.getD default
def sb(s:Stmt)(i:Nat):List Stmt:=(yr s).1.2[i]?.getD []
abbrev SB:Type:=Stmt×Bool
abbrev jr:Type:=List Stmt×Bool
def YK(c:Ck)(b:Str)(D p:Pos)(s:jG):Bool:=c.is b .local&&((D.line==p.line)&&!(s.names.any λp=>p.1==b&&(p.2== .local||p.2== .cell)))
def sW(c:Ck)(w:List Nat)(l:List Expr):LB:=match w with
 |[]=>([],T)
 |i::w=>(nE (jb c.sto i) (l[0]?.getD default)::(sW c w<|l.drop 1).1,mR c.sto i&&(sW c w<|l.drop 1).2)
def CE(k:Nat):Bool:=et (k+1) 1000&&(CT k).any λd=>d.isExc
def xh(t:EB)(v:EB)(p:Pos)(b:Bool):SB:=(.Assign [t.1] v.1 p,b&&(t.2&&v.2))
mutual
noncomputable def rS:MS->Ck->Stmt->SB
 |.expr m=>λc s=>(.Expr (rE m c<|sx s 0).1 s.pos,tD (rE m c<|sx s 0).1&&(rE m c<|sx s 0).2)
 |.ret m=>λc s=>(.Return (some (rE m c<|sx s 0).1) s.pos,(rE m c<|sx s 0).2)
 |.ret0=>λc s=>(.Return none s.pos,true)
 |.asg i m=>λc s=>xh (nE (jb c.sto i)<|sx s 1,mR c.sto i) (rE m c<|sx s 0) s.pos<|tD (rE m c<|sx s 0).1||(dQ (Ae m) 2&&(c.is (jb c.sto i) .cell||YK c (jb c.sto i) (sx s 1).pos (sx s 0).pos (jz<|sx s 0)))
 |.asgT is m=>λc s=>xh (.Tuple (sW c is<|iM<|sx s 1).1 (ek<|sx s 1) (sx s 1).pos,(sW c is<|iM<|sx s 1).2) (rE m c<|sx s 0) s.pos<|tD (rE m c<|sx s 0).1&&Ap (rE m c<|sx s 0).1
 |.setA o k m=>λc s=>xh (.Attribute (rE o c<|ch (sx s 1) 0).1 (SD k) (sx s 1).pos,(rE o c<|ch (sx s 1) 0).2) (rE m c<|sx s 0) s.pos true
 |.setI o i m=>λc s=>xh (.Subscript (rE o c<|ch (sx s 1) 0).1 (rE i c<|ch (sx s 1) 1).1 (sx s 1).pos,(rE o c<|ch (sx s 1) 0).2&&(rE i c<|ch (sx s 1) 1).2) (rE m c<|sx s 0) s.pos<|tD (rE m c<|sx s 0).1
 |.aug i o m=>λc s=>(.AugAssign (nE (jb c.sto i)<|sx s 1) (qU o) (rE m c<|sx s 0).1 s.pos,(vQ o&&Ac (jb c.sto i))&&(mR c.sto i&&(rE m c<|sx s 0).2))
 |.augA ob k o m=>λc s=>(.AugAssign (.Attribute (rE ob c<|ch (sx s 1) 0).1 (SD k) (sx s 1).pos) (qU o) (rE m c<|sx s 0).1 s.pos,vQ o&&((rE ob c<|ch (sx s 1) 0).2&&(rE m c<|sx s 0).2))
 |.ite m a b=>λc s=>(.If (rE m c<|sx s 0).1 (rSs a c<|sb s 0).1 (rSs b c<|sb s 1).1 s.pos,(rE m c<|sx s 0).2&&((rSs a c<|sb s 0).2&&(rSs b c<|sb s 1).2))
 |.while_ m b=>λc s=>(.While (rE m c<|sx s 0).1 (rSs b c<|sb s 0).1 [] s.pos,(rE m c<|sx s 0).2&&(rSs b c<|sb s 0).2)
 |.for_ t it b=>λc s=>(.For (rT c t<|sx s 1).1 (rI it c<|sx s 0).1 (rSs b c<|sb s 0).1 [] s.pos,((rT c t<|sx s 1).2&&qX (rI it c<|sx s 0).1)&&((rI it c<|sx s 0).2&&(rSs b c<|sb s 0).2))
 |.raise m=>λc s=>(.Raise (some (rE m c<|sx s 0).1) none s.pos,(rE m c<|sx s 0).2)
 |.try_ b k i h=>λc s=>(.Try (rSs b c<|sb s 0).1 [.ExceptHandler (some<|nE (SD k)<|sx s 0) (some<|jb c.sto i) (rSs h c<|sb s 1).1 (yr s).2.2] [] [] s.pos,
   ((CE k&&(mY k&&c.gl (SD k)))&&((mR c.sto i&&c.is (jb c.sto i) .local)&&!(rSs h c<|sb s 1).1.isEmpty))&&((rSs b c<|sb s 0).2&&(rSs h c<|sb s 1).2))
 |.tryR b k m=>λc s=>(.Try (rSs b c<|sb s 0).1 [.ExceptHandler (some<|nE (SD k)<|sx s 0) none [.Raise (some (rE m c<|sx ((sb s 1)[0]?.getD default) 0).1) none ((sb s 1)[0]?.getD default).pos] (yr s).2.2] [] [] s.pos,
   (CE k&&(mY k&&c.gl (SD k)))&&((rSs b c<|sb s 0).2&&(rE m c<|sx ((sb s 1)[0]?.getD default) 0).2))
noncomputable def rSs:MSs->Ck->List Stmt->jr
 |.nil=>λ_ _=>([],true)
 |.cons m ms=>λc l=>((rS m c<|l[0]?.getD default).1::(rSs ms c<|l.drop 1).1,(rS m c<|l[0]?.getD default).2&&(rSs ms c<|l.drop 1).2)
end
def PS(a:St)(n:Nat)(m:MS):Prop:=∀cx c U s,nh a FT n cx.call->cx.ct=a.ct->eu c U->(rS m c s).2=T->Sx a cx U n m (rS m c s).1
def Nm(a:St)(n:Nat)(m:MSs):Prop:=∀cx c U l,nh a FT n cx.call->cx.ct=a.ct->eu c U->(rSs m c l).2=T->kJ a cx U n m (rSs m c l).1
theorem YD{k:Option oQ}(D:b=T)(h:k=S .local)(f:x=T)(n:y=T):(b&&k==S .local&&x&&y)=T:=by refine aa h ?_;exact AW (AW (AW D J) f) n
theorem Iu(B:eQ a)(j:eu c U)(h:(CE k&&(mY k&&c.gl (SD k)))=T):∃d,om a U (SD k) (.ref d.addr)/\a.ct k=S d/\d.isExc=T:=(yW<|aw<|aC h).elim λd z=>(bl d (Ed B j (aw h) (mU<|aC<|aC h) z.1) (aa B.ct z.1) z.2)
theorem JV(j:eu c U):∀{w:List Nat} {l:List Expr},(sW c w l).2=T->nO U w (sW c w l).1
 |[],_,_=>.nil
 |i::w,l,h=>.cons (oC j<|aC h)<|JV j<|aw h
theorem zA(B:eQ h1):∀m,Nm h1 n m:=
 @MSs.rec (PS h1 n) (Nm h1 n)
  (λm cx c U s C R M h=>(λA l H s Q X Z Y E=>by exact wpAny_Expr_any (hO Go.refl (((fw B C R m c U _ M<|aw h).1) A l H s _ _ Z Y E) λv h2 x h0 r f g G q=>mX G f q) ((by unfold interactive;refine aa Z.ek.kind ?_;rfl))<|yT<|aC h))
  (λm cx c U s C R M h=>λA l H s Q X Z Y E=>wpAny_Return_some<|hO Go.refl (((fw B C R m c U _ M h).1) A l H s _ _ Z Y E) λv h2 x h0 r f g G q=>⟨.ret x,l,h0,(aG v J r),f,G,q⟩)
  (λcx c U s C R M h=>λA l H s Q X Z Y h=>wpAny_Return_none ⟨.ret .none,l,H,(aG .none J J),Y,Go.refl,h⟩)
  (λi m=>λcx c U s C R M h=>(uS.mp<|aC h).elim (λz=>HK (fw B C R m c U _ M<|aw<|aw h).1 (yT z)<|oC M<|aC<|aw h) λz=>
    HF (P:=λk m=>dQ k 2=T->(rE m c<|sx s 0).2=T->Sx h1 cx U n (.asg i m) (.Assign _ (rE m c<|sx s 0).1 s.pos)) (λ_ z=>ak z) (λz=>ak z)
     (λa t p d _ w=>(uS.mp<|aw z).elim (λq=>HK (fw B C R _ c U _ M w).1 (congrArg pure (aa (mr M q) (by obtain⟨⟩:=(abA (aF.env U)==ScopeKind.function)<;>rfl)))<|oC M<|aC<|aw h)
      λq=>SW (NC (fw B C R a) (EX B C R p) (fw B C R d) M w) (oC M<|aC<|aw h) (congrArg pure (YD (by unfold abA;refine aa M.fk ?_;rfl) (mr M<|aC q) (aC<|aw q)<|aw<|aw q))) m (aC z) (aw<|aw h))
  (λis m cx c U s C R M h=>WE (fw B C R m c U _ M<|aw<|aw h).1 (aC<|aC h) (aw<|aC h)<|JV M<|aC<|aw h)
  (λo k m cx c U s C R M h=>Uf B.O.T B.O.x R (fw B C R o c U _ M<|aC h).1 (fw B C R m c U _ M<|aw h).1 (B.sd k).symm)
  (λo i m cx c U s C R M h=>(λA l H s Q X Z Y E=>by exact wpAny_Assign_Subscript (hO Go.refl (((fw B C R m c U _ M<|aw<|aw h).1) A l H s _ _ Z Y E) λu h2 x h0 r f g G q=>hO G (((fw B C R o c U _ M<|aC<|aC<|aw h).1) A l h0 h2 _ _ Z f q) λv h4 y h5 I L g' G' q'=>hO G' (((fw B C R i c U _ M<|aw<|aC<|aw h).1) A l h5 h4 _ _ Z L q') λh3 z3 z z4 e h6 O h7 h8=>zX h7 (RS (by have:=Z.uni;exact cN (sv (eF _ _) (by decide)) this) h6 (I.keep<|L.d6 O) e ((r.keep<|f.d6 g').keep<|L.d6 O) h8) λz5 z6 h9 z0 z1=>mX z0 h9 z1)<|yT<|aC h))
  (λi o m cx c U s C R M h=>Zk (aC<|aC h) (fw B C R m c U _ M<|aw<|aw h).1 (oC M<|aC<|aw h)<|nt<|aC<|aw<|aC h)
  (λob k o m cx c U s C R M h=>Vw B.O.T B.O.x R (aC h) (fw B C R ob c U _ M<|aC<|aw h).1 (fw B C R m c U _ M<|aw<|aw h).1 (B.sd k).symm)
  (λm a b ha D cx c U s C R M h=>WD (fw B C R m c U _ M<|aC h).2 (ha cx c U _ C R M<|aC<|aw h)<|D cx c U _ C R M<|aw<|aw h)
  (λm b D cx c U s C R M h=>λA l H s Q X Z Y E=>E.2.elim λk E=>L9 ((fw B C R m c U _ M<|aC h).2) (D cx c U _ C R M<|aw h) Z (λ_z _z E=>E) (λj l H E=>E) Y E)
  (λt p b D cx c U s C R M h=>Yx (EX B C R p c U _ M<|aC<|aw h) (aw<|aC h) (ER M<|aC<|aC h)<|D cx c U _ C R M<|aw<|aw h)
  (λm cx c U s C R M h=>(λA l H s Q X Z Y E=>by{
refine let P:=_;let zb:=_;(?_:aj _ _ _ P zb _)
refine aa (arm_exec_Raise ..) ?_;refine ag<|gO<|HY<|ag<|hO Go.refl (((fw B C R m c U _ M h).1) A l H s _ _ Z Y E.2) λv h2 x h0 r f g G q=>ag<|gO<|av (let Gz:=_;(?_:Gz));obtain⟨a,rfl,q⟩:=lJ q;obtain⟨o,e1,q⟩:=cU q;subst r;obtain⟨cz,dx,fs,rfl,q⟩:=(by{
induction o using MO.casesOn with
|exc c dx tb fs=>(refine ai (λz2 k=>?_)<|Fq q;refine aa z2 ?_);exact⟨c,dx,fs,J,k⟩
|_=>exact q.elim}:Rj (X a l h0) o)
exact Hr B.O f e1 (wpAny_raiseNew_none (Z.hd E.1) ⟨_,l,h0,J,f,G,kQ.of e1 q⟩)}:Sx h1 cx U n _<|.Raise _ N<|Stmt.pos s))
  (λb k i h' D hh=>λcx c U s C R M h3=>have z:=aC h3
   (Iu B M<|aC z).elim λd y=>by{
cases h' with
|nil=>exact ak<|aw<|aw z
|cons m r=>exact WT B.O (D cx c U _ C R M<|aC<|aw h3) (hh _ c U _ C R M<|aw<|aw h3) y.1 y.2.1 y.2.2 (oC M<|aC<|aC<|aw z)<|mr M<|aw<|aC<|aw z})
  (λb k m D cx c U s C R M h=>(Iu B M<|aC h).elim λd z=>Uh B.O (D cx c U _ C R M<|aC<|aw h) (fw (cx:={cx with hn:=F}) B C R m c U _ M<|aw<|aw h).1 z.1 z.2.1 z.2.2)
  (λcx c U l C R M h=>λA l H s Q X Z Y h=>xX<|mX Go.refl Y h)
  (λm ms hm hs cx c U l C R M h=>R2 (hm cx c U _ C R M<|aC h)<|hs cx c U _ C R M<|aw h)
def dF(x:Data):Option ss:= @aai (λ_=>Option ss) x N (λ_=>N) (λ_ _=>N) (λ_ _=>N) (λ_ _ _=>N) (λ_ _=>N) (λ_=>N) (λf=>S f) (λ_=>N) (λ_=>N) N
theorem E4:dF x=S X->x= .func X:= @aai (λx=>dF x=S X->x= .func X) x (λh=>aD h) (λ_ h=>aD h) (λ_ _ h=>aD h) (λ_ _ h=>aD h) (λ_ _ _ h=>aD h) (λ_ _ h=>aD h) (λ_ h=>aD h) (λf h=>congrArg Data.func<|aA h) (λ_ h=>aD h) (λ_ h=>aD h) λh=>aD h
def rA(u:Frag)(a:Addr):Option ss:=(u.lookup a).bind λo=>dF o.data
def EN(X:ss):List Stmt:=match X.body with|.stmts l=>l|_=>[]
def JB(d:FD):List (Nat×Str):=(cE d.names.length).zip<|d.names.map SD
def xm(d:FD)(X:ss):Ck:=⟨JB d,X.scope.names,JB d⟩
def sU(u:Frag)(v:Value):List Value:=match v with
 |.ref a=>(match u.lookup a with|some ⟨_,_,.seq Z _,_⟩=>Z.toList|_=>[])
 |_=>[]
def vt(v:Value):Tok:=match v with
 |.int _ t=>t
 |.str _ t=>t
 |_=>default
def rV:V->Value->Value×Bool
 |.int i,v=>(.int i<|vt v,T)
 |.bool b,_=>(.bool b,T)
 |.str n,v=>(.str (SD n)<|vt v,mY n)
 |_,v=>(v,F)
def uw:List V->List Value->List Value×Bool
 |[],_=>([],T)
 |x::r,l=>((rV x<|l[0]?.getD .none).1::(uw r<|l.drop 1).1,(rV x<|l[0]?.getD .none).2&&(uw r<|l.drop 1).2)
abbrev ZI (u:Frag) (d:FD) (X:ss):Prop:=
 ((X.globals=lU/\X.builtins=xu)/\X.closure=[])/\((X.scope.isCoroutine=F/\X.scope.isGenerator=F)/\X.scope.kind= .function)
  /\(codeIn u X.code X.qualname=T/\∀n∈d.names,n<lO/\(X.scope.names.lookup (SD n)=S .local\/X.scope.names.lookup (SD n)=S .cell))/\d.names.Nodup/\d.n<=d.names.length
def YM(u:Frag)(d:FD)(X:ss):Bool:=decide<|ZI u d X
def MF(u:Frag)(d:FD)(i:Ck->List Stmt->jr):Bool:=(rA u d.addr).any λX=>YM u d X&&((uw d.dfl<|sU u X.defaults).2&&(i (xm d X)<|EN X).2)
def CH(u:Frag)(d:FD):Option (FuncBody×List Value):=(rA u d.addr).map λX=>(X.body,sU u X.defaults)
def Eh(u:Frag)(d:FD)(i:Ck->List Stmt->jr):Option (FuncBody×List Value):=(rA u d.addr).map λX=>(.stmts (i (xm d X)<|EN X).1,(uw d.dfl<|sU u X.defaults).1)
def EZ(u:Frag)(d:FD)(m:List Value)(Y:Setting):Option (List<|Str×Value):=(rA u d.addr).bind λX=>peek u Y<|bindArgs X ⟨m,[]⟩
def Cz(u:Frag)(d:FD)(m:List Value):Option (List<|Str×Value):=(rA u d.addr).map λX=>(d.names.map SD).zip<|m++(sU u X.defaults).drop ((sU u X.defaults).length-(d.n-m.length))
def KE(u:Frag)(d:FD)(v:Nat->Value)(Y:Setting):List (Option<|List<|Str×Value):=(cE<|d.dfl.length+1).map λj=>EZ u d ((cE<|d.n-j).map v) Y
def Jh(u:Frag)(d:FD)(v:Nat->Value):List (Option<|List<|Str×Value):=(cE<|d.dfl.length+1).map λj=>Cz u d<|(cE<|d.n-j).map v
structure rM (K:Frag) (d:FD) (chk:Ck->List Stmt->jr):Prop where
 ok:MF K d chk=true
 eq:CH K d=Eh K d chk
 bd:∀v S,KE K d v S=Jh K d v
theorem rM.bind{u:Frag}{m:List Value}(h:rM u d c)(G:m.length<=d.n)(M:d.n<=m.length+d.dfl.length)(Y:Setting):EZ u d m Y=Cz u d m:=by
 have e:=PZ.mp (h.bd (λi=>m.getD i .none) Y) (d.n-m.length)<|kg.mpr<|oU<|Nat.sub_le_of_le_add<|fF ..▸M;rw[show(cE<|d.n-(d.n-m.length)).map (λi=>m.getD i .none)=m from by rw[aaO G];exact List.ext_getElem (by simp) λi a b=>by simp[List.getD,bX b]] at e
 exact e
structure wA (K:Frag) (L:List (FD×(Ck->List Stmt->jr))):Prop where
 ok:L.all (λp=>MF K p.1 p.2)=true
 eq:L.map (λp=>CH K p.1)=L.map λp=>Eh K p.1 p.2
 bd:(λv S=>L.map λp=>KE K p.1 v S)=λv _=>L.map λp=>Jh K p.1 v
theorem wA.at{u:Frag}(h:wA u w)(O:p∈w):rM u p.1 p.2:=⟨im.mp h.ok p O,PZ.mp h.eq p O,λv Y=>PZ.mp (congrFun (congrFun h.bd v) Y) p O⟩
theorem Lu{u:Frag}(h:rA u a=S X):∃y B q,u.lookup a=S ⟨y,B,.func X,q⟩:=(gV.mp h).elim λo z=>(xg o.cls o.dict o.slots<|au (E4 z.2) z.1)
theorem WC(B:eQ U):(rV x v).2=T->aE U h x (rV x v).1:=by{
induction x using V.casesOn with
|int i=>exact λ_=>⟨_,J⟩
|bool b=>exact λ_=>J
|str n=>exact λe=>⟨aa B.N<|mU e,_,by refine aa (B.sd ..) ?_;rfl⟩
|_=>exact λh=>ak h}
theorem MD(B:eQ U):∀{L:List V} {Z:List Value},(uw L Z).2=T->RepL U h L (uw L Z).1
 |[],_,_=>rfl
 |x::r,l,e=>⟨_,_,J,WC B<|aC e,MD B<|aw e⟩
theorem EC(B:eQ U)(l:List Nat):l.map U.sd=l.map SD:=uY λn _=>B.sd n
theorem EJ(B:eQ U)(h:rM U.K d i){P:Prop}(k:∀X l x,x=i (xm d X) l->vP U d X x.1->x.2=T->P):P:=
 (yW h.ok).elim λX z=>by
  have e:=h.eq;have b:=λm G M=>h.bind (m:=m) G M;unfold CH Eh at e;unfold EZ Cz at b;rw[z.1] at e b;have u:=mI<|aC z.2;exact k X (EN X) _ J ⟨Lu z.1,u.1.1.1,u.1.1.2,u.1.2,congrArg uK<|aA e,u.2.1.1.1,u.2.1.1.2,u.2.1.2,u.2.2.1.1,λn O=>by rw[B.N,B.sd];exact u.2.2.1.2 n O,u.2.2.2.1,u.2.2.2.2,sU U.K X.defaults,λh _=>(congrArg (RepL U h d.dfl)<|congrArg ji<|aA e).mpr<|MD B<|aC<|aw z.2,λm G M Y=>by rw[EC B];exact b m G M Y⟩ (aw<|aw z.2)
theorem ET(B:eQ c)(j:vP c d X o)(u:env.scope=X.scope):eu (xm d X) (kO c d U env) where
 vis:=congrArg ((cE d.names.length).zip ·)<|EC B d.names
 fk:=by show env.scope.kind=_;exact aa u j.kind
 kd:=λx k h=>by
  exact((aa u h):env.scope.names.lookup x=S k)
 own:=λi b h=>by
  refine let P:=_;(?_:jM P _ _)
  have E:(i,b)∈(kO c d U env).vis:=by
   show _∈(cE d.names.length).zip (d.names.map c.sd);rw[EC B];exact ja h
  obtain⟨_,n,O,e⟩:=uh E;have g:=du O;have e:b=c.sd n:=e;have f:env.kindOf b=S .local\/env.kindOf b=S .cell:=by
   refine aa e ?_;show env.scope.names.lookup (c.sd n)=_\/env.scope.names.lookup (c.sd n)=_;exact aa u<|(j.names n g).2
  refine⟨E,f,λa R=>(dP (f) (λf=>?_) λf=>?_)⟩
  .rw[wl (env:=(kO c d U env).env) f] at R
   (refine au (aA R) ?_)
   exact bw _
  .rw[Cf (env:=(kO c d U env).env) f] at R;exact xN _<|xA.mpr<|aG n g<|au e R
theorem tM.j5(h:tM A U (n+1) b):(A.depth+1+2*n+4<su/\A.units+3+40*n+100<dY)/\A.depth<su:=
 ⟨⟨cN (dr (congrArg (·+4)<|oL A.depth 1<|2*n)) h.dep,cN (kU (dr (congrArg (·+100)<|oL A.units 3<|40*n))) h.uni⟩,cN (am (eF _ _)<|eF _ _) h.dep⟩
abbrev Fd (u:Frag) (d:CD) (n:Str) (x:Option Value):Prop:=ij u (.ref d.addr) n=S x
abbrev Hs (u:Frag) (d:CD):Prop:=∀n∈d.fields,n<lO/\Fd u d (SD n) N
abbrev ym (u:Frag) (d:CD) (n:Str) (f:Nat):Prop:=((FT f).any λe=>decide (Fd u d n (S (.ref e.addr))/\sj u (.ref e.addr)=S (.type "function")))=T
abbrev Vb (u:Frag) (d:CD):Prop:=Fd u d "__getattribute__" (S (.builtin "object.__getattribute__"))/\Fd u d "__getattr__" N/\GC u d.addr=T/\Fd u d "__setattr__" (S (.builtin "object.__setattr__"))/\plainOver u d.addr=T/\Hs u d
abbrev ZU (u:Frag) (d:CD):Prop:=Fd u d "__getattribute__" (S (.builtin "BaseException.__getattribute__"))/\Fd u d "__getattr__" N/\GC u d.addr=T/\Fd u d "__setattr__" (S (.builtin "object.__setattr__"))/\((uN u d.addr).any λG=>xp G.mro)=T/\jg u d.addr (.type "object")=S T/\jg u d.addr (.type "BaseException")=S T/\Hs u d
abbrev TQ (u:Frag) (d:CD):Prop:=sj u (.ref d.addr)=S (.type "type")/\jg u d.addr (.ref d.addr)=S T/\instIn u (.ref d.addr) (.type "tuple")=S F
abbrev Zf (u:Frag) (d:CD):Prop:=keepIn u (.ref d.addr)=T/\(d.isExc=F->makesIn u d.addr=T)/\(d.isExc=T->AF u d.addr=T)/\ym u d "__init__" d.init
abbrev Gl (u:Frag) (n:Str) (v:Option Value):Prop:=nsIn u lU n=S v
abbrev SN (u:Frag) (p:Nat×CD):Prop:=(Gl u (SD p.1) (S (.ref p.2.addr))/\(dQ p.1 51=F->Zf u p.2))/\(p.2.isExc=T->ZU u p.2/\TQ u p.2/\jg u p.2.addr (.type "Exception")=S T)
 /\(p.2.isExc=F->Vb u p.2/\(∀q∈p.2.meths,q.1<lO/\ym u p.2 (SD q.1) q.2)/\plainGet u p.2.addr "__class__"=T/\Fd u p.2 "__class__" (S (.builtin "object.__class__"))/\jg u p.2.addr (.type "object")=S T)
abbrev O8 (u:Frag) (p:Nat×FD):Prop:=(rA u p.2.addr).isSome=T/\(p.1<1000->Gl u (SD p.1) (S (.ref p.2.addr)))
abbrev TA (u:Frag):Prop:=∀p∈rR,p.2.isExc=F->∀q∈rR,q.2.isExc=F->p.1≠q.1->kin_not u p.2.addr q.2.addr=T
def IU:List Str:=[br "isinstance",br "str",br "bool",br "range",br "Exception"]++[Bi.len,.max,.min,.tuple,.list,.sorted,.sum,.bytes,.bytearray].map ut
abbrev yD (u:Frag):Prop:=(∀p∈vM,O8 u p)/\(∀p∈rR,SN u p)/\TA u/\(∀n∈IU,Gl u n N)/\BE u (.builtin "object.__class__") "__get__"=S (S (.builtin "getset_descriptor.__get__"))/\takesIn u (.builtin "object.__class__")=S T/\readsIn u 31 (.type "type")=T/\BE u (.ref 31) "__getattribute__"=S (S (.builtin "type.__getattribute__"))
set_option synthInstance.maxSize 4000 in
set_option synthInstance.maxHeartbeats 400000 in
def Ht(u:Frag):Decidable (yD u):=inferInstance
def Uk(u:Frag):Bool:= @decide _<|Ht u
structure KW (K:Frag):Prop where
 b:Uk K=true
 mo:BH K (.ref 31) (.type "type") (SD 75)=some (.val (.ref 28))
 xf:BH K (.type "Exception") (.type "type") "__init__"=some (.val (.builtin "Exception.__init__"))
theorem Hy:∀a b,a<lO->b<lO->SD a=SD b->a=b:=λa b R D e=>CQ (mI (by kernel_rfl)) (kg.mpr R) (kg.mpr D) e
def ve(z:St):St:={z with sd:=SD,N:=lO,inj:=Hy,ct:=CT}
theorem mB(h:CT c=S d):(c %1000,d)∈rR:=ja h
theorem ym.to{u:Frag}(h:ym u d n f):∃e,FT f=S e/\Fd u d n (S<|.ref e.addr)/\sj u (.ref e.addr)=S (.type "function"):=(yW h).elim λe y=>(aG e y.1<|mI y.2)
theorem vz{z:St}(j:yD z.K)(B:eB z):hZ (ve z) FT where
 B:=⟨B.X,B.g,B.b,B.sys,B.lim⟩
 cls:=λc d h g=>have k:=(((j.2.1 _<|mB h).2.2 g).1);⟨k.1,k.2.1,k.2.2.1,k.2.2.2.1,k.2.2.2.2.1,k.2.2.2.2.2⟩
 meths:=λc d h g m f E=>have k:=((j.2.1 _<|mB h).2.2 g).2.1 _<|ja E;⟨k.1,k.2.to⟩
 fn:=λf e h=>(EP (j.1 _<|ja h).1).elim λX y=>(Lu y).elim λa y=>y.elim λb y=>y.elim λc y=>(xg a b c ⟨X,y⟩)
 append:=by show SD 211=_;kernel_rfl
 pop:=by show SD 282=_;kernel_rfl
 insert:=by show SD 283=_;kernel_rfl
 get:=by show SD 281=_;kernel_rfl
theorem VP{z:St}(j:yD z.K)(B:eB z):oW (ve z) FT where
 T:=vz j B
 x:=λc d h f=>have k:=((j.2.1 _<|mB h).2.1 f).1;⟨k.1,k.2.1,k.2.2.1,k.2.2.2.1,k.2.2.2.2.1,k.2.2.2.2.2.1,k.2.2.2.2.2.2.1,k.2.2.2.2.2.2.2⟩
 c:=λc d h f=>have k:=((j.2.1 _<|mB h).2.1 f).2.1;⟨k.1,k.2.1,k.2.2⟩
 k:=λc _=>congrArg (rR.lookup ·)<|aba c 1000
 m:=λc=>congrArg (rR.lookup ·) (Nat.mod_mod c 1000).symm
abbrev Lg (z:St):Prop:=∀x:Str,x≠"__name__"->z.mb x=bootBuiltins x
theorem vo{z:St}(j:yD z.K)(B:eB z)(t:Lg z)(h:bootBuiltins b=S v)(m:decide (b∈IU/\b≠("__name__":Str)/\(b==("__debug__":Str))=F)=T):BN (ve z) b v:=⟨mg_none_of B.X B.g<|j.2.2.2.1 _ (mI m).1,(t _ (mI m).2.1).trans h,(mI m).2.2⟩
theorem cm(h:c<1000):c %1000=c:=Pt h
theorem M7{z:St}(B:KW z.K)(h0:eB z)(bu:Lg z):eQ (ve z):=
 have j:= @of_decide_eq_true _ (Ht<|St.K z) B.b
 {O:=VP j h0
  sd:=λ_=>J
  N:=J
  ct:=J
  gf:=λf d hf h=>mg_of h0.X h0.g<|(j.1 _<|ja h).2 hf
  gc:=λk d hk h=>mg_of h0.X h0.g<|cm hk▸(j.2.1 _<|mB h).1.1
  nm:=λn O=>im.mp (show(cE lO).all (λn=>Ac<|SD n)=T by kernel_rfl) n<|kg.mpr O
  gb:=λb=>vo j h0 bu (by obtain⟨⟩:=b<;>kernel_rfl) (by obtain⟨⟩:=b<;>kernel_rfl)
  isi:=vo j h0 bu (by kernel_rfl) (by kernel_rfl)
  tys:=λb=>vo j h0 bu (by obtain⟨⟩:=b<;>kernel_rfl) (by obtain⟨⟩:=b<;>kernel_rfl)
  rng:=vo j h0 bu (by kernel_rfl) (by kernel_rfl)
  exc:=vo j h0 bu (by kernel_rfl) (by kernel_rfl)
  bi:=λb D=>by{
induction b using Bi.casesOn with
|len=>exact(λA U l H s Q X Z m R I Y r h=>by{
obtain⟨x,rfl,G⟩:=pW h;refine aU (oY r) λv h5 u=>?_;refine aa h5 ?_;refine let P:=_;let zb:=_;let zc:=_;(?_:aj P _ zb zc _ _)
refine Rn G (λL e z q=>?_) (λL e z q=>?_) (λa L e k z q=>?_) (λa es e k z q=>?_) λa n e k z q=>?_
.subst e;obtain⟨a,Z,ep,rfl,g,r1⟩:=u;exact PyProof.Rows.len_tuple (bl _ g J ⟨_,J⟩) (qG r1.len z)<|re Y r1.len q
.subst e;obtain⟨a,Z,rfl,g,E,w⟩:=u;exact abC (g.at<|Y.base _) (qG E z)<|re Y E q
.subst e;cases u;obtain⟨Z,⟨n,g⟩,r1⟩:=Y.rep _ _ k;exact abC (bl _ g J ⟨_,J⟩) (qG r1.len z)<|re Y r1.len q
.subst e;cases u
 induction Y.rep _ _ k using gi.casesOn with
 |s h4 r1 hd=>exact call_len_dict (Y.j0 k ((vz j h0).B).sys) hd (qG r1.len z)<|re Y r1.len q
 |i h4 r1 hd=>exact call_len_dict (Y.j0 k ((vz j h0).B).sys) hd (qG r1.len z)<|re Y r1.len q
 |t h4 r1 hd=>exact WO (Y.j0 k ((vz j h0).B).sys) hd (qG r1.len z)<|re Y r1.len q
.subst e;cases u;obtain⟨b,k,g,D⟩:=Y.rep _ _ k;exact call_len_meets (aG _ g J) FB.slot_len FB.entry_len (FB.args_len _) (K0 a b k) (bT.mpr<|cR _) (xB.mpr<|qG D z) (λQ' q=>⟨g,q⟩)<|re Y D q})
|max=>exact(λA U l H s Q X Z m R I Y r h=>by
 refine let P:=_;let zb:=_;let zc:=_;let zd:=_;(?_:aj P _ zb zc zd _)
 obtain⟨x,y,rfl,G⟩:=Ay h;refine iC (yN r) λv h6 h1 u h3=>?_;subst h1;clear r h I;obtain⟨a,b,t,M,rfl,rfl,h2⟩:=lF u h3 G;exact max_two_ints R λC tk k=>qH Y k (NV (λh=>(Int.max_eq_right<|nA h).symm) λh=>(Int.max_eq_left<|bT.mp h).symm) h2)
|min=>exact(λA U l H s Q X Z m R I Y r h=>by
 refine let P:=_;let zb:=_;let zc:=_;let zd:=_;(?_:aj P _ zb zc zd _)
 obtain⟨x,y,rfl,G⟩:=Ay h;refine iC (yN r) λv h6 h1 u h3=>?_;subst h1;clear r h I;obtain⟨a,b,t,M,rfl,rfl,h2⟩:=lF u h3 G;exact min_two_ints R λC tk k=>qH Y k (NV (λh=>(abj<|nA h).symm) λh=>(xD<|bT.mp h).symm) h2)
|tuple=>exact(λA U l H s Q X Z m R I Y r h=>by
 obtain⟨a,L,rfl,e,G⟩:=EQ r h;refine let p:=_;(?_:p)
 obtain⟨Z,⟨n,g⟩,r1⟩:=Y.rep _ _ e;have le:Z.size=L.length:=r1.len;refine call_tuple_list (bl _ g J ⟨_,J⟩) (λC k=>?_) (by refine aa le ?_;exact sz G.1);have k':∀b o,s.heap.get? b=S o->(C.push {cls:=.type "tuple",data:=.seq Z}).get? b=S o:=λb o e=>cu _<|k b o e;refine qH Y k' ?_ G.2;exact⟨_,Z,0,J,eD _ ff,r1.keep<|fP k'⟩)
|list=>exact(λA U l H s Q X Z m R I Y r h=>by
 obtain⟨a,L,rfl,e,G⟩:=EQ r h;refine let p:=_;(?_:p)
 obtain⟨Z,⟨n,g⟩,r1⟩:=Y.rep _ _ e;have le:Z.size=L.length:=r1.len;refine call_list_seq a (.inl J) g J J (λC c' k hg=>?_) (by refine aa le ?_;exact sz G.1);exact pU (o:=.list L) Y k (gq<|cD _) (λ_ h=>absurd h aJ) ⟨Z,⟨_,hg⟩,r1.keep<|fP k⟩ G.2)
|sorted=>exact ZM (vz j h0).B
|sum=>exact(λA U l H s Q X Z m R I Y r h=>by obtain⟨a,L,rfl,e,i,G,h2⟩:=EQ r h;exact P9 Y R e G h2)
|bytes=>exact WQ
|bytearray=>exact ak D}
  new:=λk d hk h hp=>have k:=(j.2.1 _<|mB h).1.2 ((congrArg (dQ · 51)<|cm hk).trans hp);⟨k.1,k.2.1,k.2.2.1,k.2.2.2.to⟩
  mo:=⟨⟨31,[180,78],[(75,1075)],1075,T⟩,1075,⟨28,2,[179,180],[],Im⟩,J,J,J,⟨j.2.2.2.2.2.2.1,B.mo,j.2.2.2.2.2.2.2⟩⟩
  io:={
   pg:=λc d h hx=>((j.2.1 _<|mB h).2.2 hx).2.2
   hn:=j.2.2.2.2.1
   tk:=j.2.2.2.2.2.1
   ne:=λc d c' d' h C hx h7 hl h8 O=>j.2.2.1 _ (mB h) hx _ (mB C) h7 λe=>O ((cm hl).symm.trans<|e.trans<|cm h8)}
  xb:=λc d h hx=>((j.2.1 _<|mB h).2.1 hx).2.2
  xf:=B.xf
  k0:=kn J
  ks:=λi h9=>mI (im.mp (show(cE 12).all (λi=>decide<|SD (306+i)=(("k")++(xQ _)))=T by kernel_rfl) i<|kg.mpr h9)}
def nq(c:Ck)(i k:Nat)(f:Expr->EB)(s:Stmt):SB:=xh (.Attribute (rE (.loc i) c<|ch (sx s 1) 0).1 (SD k) (sx s 1).pos,(rE (.loc i) c<|ch (sx s 1) 0).2) (f<|sx s 0) s.pos T
def As(c:Ck)(j:Nat)(v:Expr):EB:=(.Call (nE (ut .bytearray)<|ch v 0) [(rE (.loc j) c<|ch v 1).1] [] v.pos,c.gl (ut .bytearray)&&(rE (.loc j) c<|ch v 1).2)
def CC:MEs:=.cons (.bi .bytes<|.cons (.loc 12) .nil)<|.cons (.int 2048)<|.cons .bytes0 .nil
def AG(c:Ck)(v:Expr):EB:=(.Call (nE (SD 51)<|ch v 0) (rEs CC c<|tl v).1 [] v.pos,c.gl (SD 51)&&(rEs CC c<|tl v).2)
def uu(l:List Stmt)(i:Nat):Stmt:=l[i]?.getD default
def oi(a:SB)(b:jr):jr:=(a.1::b.1,a.2&&b.2)
def mA(a b:jr):jr:=(a.1++b.1,a.2&&b.2)
def MN(c:Ck)(b:List Stmt):jr:=oi (nq c 0 159 (As c 1)<|uu b 0)<|oi (nq c 0 249 (As c 3)<|uu b 1)<|rSs (hU 2 ui) c<|b.drop 2
def Jq(c:Ck)(b:List Stmt):jr:=mA (rSs (lA 6 kK) c<|b.take 6)<|oi (nq c 5 253 (AG c)<|uu b 6)<|mA (rSs (lA 6<|hU 7 kK) c<|(b.drop 7).take 6)<|rSs (hU 13 kK) c<|b.drop 13
def Dk(c:Ck)(s:Stmt):SB:=(.For (rT c (.one 8)<|sx s 1).1 (rI (.range1<|.int 12) c<|sx s 0).1 (Jq c<|sb s 0).1 [] s.pos,((rT c (.one 8)<|sx s 1).2&&qX (rI (.range1<|.int 12) c<|sx s 0).1)&&((rI (.range1<|.int 12) c<|sx s 0).2&&(Jq c<|sb s 0).2))
def zo(c:Ck)(b:List Stmt):jr:=mA (rSs (lA 9 zw) c<|b.take 9)<|oi (Dk c<|uu b 9)<|rSs (.cons (.ret<|.bool T) .nil) c<|b.drop 10
def wM(I:ae->MH->Prop)(a:Fl)(l:ae)(H:MH):Prop:=match a with|.next=>I l H|.ret _=>False
def qR:Addr->ae->MH->Prop:=λ_ _ _=>False
def GS(a:St)(A:aI)(U:aF)(j:List Stmt)(Q:Fl->ae->MH->Prop)(H:MH)(s:ah):Prop:=bf (ao a.prog a.w) A (gP j U.env) (eM a U H s Q) (λ_ _=>False) s
def G1(a:St)(A:aI)(U:aF)(e:Stmt)(Q:Fl->ae->MH->Prop)(H:MH)(s:ah):Prop:=bf (ao a.prog a.w) A (exec e U.env) (eM a U H s Q) (λ_ _=>False) s
def AS(a:St)(A:aI)(U:aF)(j:List Stmt)(Q:Fl->ae->MH->Prop)(H:MH)(s:ah):Prop:=aj (ao a.prog a.w) A (gP j U.env) (eM a U H s Q) (gH a U H s qR) s
def Nx(a:St)(A:aI)(U:aF)(j:List Stmt)(I:ae->MH->Prop)(Q:Fl->ae->MH->Prop):Prop:=∀C Y u,aq a U C Y u->I C Y->GS a A U j Q Y u
theorem Nk(k:Nx b A U j I Q)(f:Flow)(u:ah)(h:eM b U H s (wM I) f u):(match (motive:=Flow->Prop) f with|.next=>bf (ao b.prog b.w) A (gP j U.env) (eM b U H s Q) (λ_ _=>False) u|f=>eM b U H s Q f u):=by{
refine let p:=_;(?_:p)
obtain⟨a,C,Y,r,E,G,q⟩:=h;cases a with
|next=>subst r;exact hH (k C Y u E q) (λ_ _ z=>eM.trans G z) λ_ _ z=>z
|ret v=>exact q.elim}
theorem AY(h:G1 a A U e.1 (wM I) H s)(k:Nx a A U x.1 I Q):GS a A U (oi e x).1 Q H s:=QY<|hH h (Nk k) λ_ _ z=>z
theorem Ob(h:AS a A U j Q H s):GS a A U j Q H s:=bD<|bK h (λ_ _ z=>z) λ_ _ z=>zg z
theorem MR{Q:Fl->ae->MH->Prop}(R:cx.ct=CT)(O:cx.hn=T)(B:eQ b)(j:eu c U)(h:(nq c i k f a).2=T)(y:bN A U n T)(q:bf (ao b.prog b.w) A (eval (f<|sx a 0).1 U.env) (bH b U l (aE b) H s λx H=>aP cx (λ_ _=>False) l (.loc i) (λv H=>mC cx (λH=>Q .next l H) H v k x) H) (λ_ _=>False) s):G1 b A U (nq c i k f a).1 Q H s:=SG B.O.T B.O.x (R.trans B.ct.symm) (Aq c U _ j<|aC h).1 (B.sd k).symm (aa O y) q
theorem KX(B:eQ d)(b:eu c U)(h:(nq c i k (As c j) a).2=T)(y:bN A U n T)(Y:aq d U l H s)(q:pn (an m T) qR (.setA (.loc i) k<|.bi .bytearray<|.cons (.loc j) .nil) Q l H):G1 d A U (nq c i k (As c j) a).1 Q H s:=MR J J B b h y (G6 B.O.T (Aq c U _ b<|aw<|aw h).1 J (mr b<|aC<|aw h) (B.gb .bytearray).g (B.gb .bytearray).b (B.gb .bytearray).d y Y q.2)
def sP:FD:=⟨708,4,[179,159,135,249],[],wE⟩
def TP:CD:=⟨711,[159,249,135,250,251,96,252],[],52075,F⟩
def U0(f:Nat):Option FD:=if f=52075 then S sP else N
structure va (st:St):Prop where
 f:rM st.K sP MN
 n:yn st U0 TP
 g:st.mg (SD 51)=some (.ref 711)
theorem E7(B:eQ t)(L:nh t FT n<|gk CT FT n)(P:va t)(j:eu c U)(h:(nq c 5 253 (AG c) a).2=T)(y:bN A U (n+1) T)(Y:aq t U l H s)(q:pn (EK n) qR (.setA (.loc 5) 253<|.new 51 CC) Q l H):G1 t A U (nq c 5 253 (AG c) a).1 Q H s:=
 have R:=(wJ (LS B<|wJ Aq DO)<|wJ LU<|wJ (λc U e j h=>er II λ_=>J) DO) c U _ j<|aw<|aw h
 MR J J B j h y (Xa B.O.T B.ct.symm R.ev R.sr (aa B.ct J) (by decide) J P.n ⟨mr j<|aC<|aw h,P.g,zu B J⟩
  (λA l H s Z m Q y Y r h=>⟨sP,J,(by{
refine let p:=_;(?_:p)
obtain⟨C,D,h⟩:=cU h;refine EJ B P.f λX b x M j w=>NE B.O.T.B Y j r D y.j5.2 y.stk λenv i u fo z f=>?_;have v:=ET (U:=U) B j u;have k:=(⟨y.hd,⟨Qa y.stk,env,U.frames,_,J,z,z⟩,y.j5.1.1,y.j5.1.2,fo⟩:bN (A.deeper env) (kO t sP U env) n<|Cx.hn<|EK n);subst M;exact AY (I:=λl H=>wpSs (an n T) qR (hU 1 ui) (tB Q) l H) (KX B v (aC w) k f h) λG I a d q1=>
 AY (I:=λl H=>wpSs (an n T) qR (hU 2 ui) (tB Q) l H) (KX B v (aC<|aw w) k d q1) λg H2 E o O=>Ob (zA B _ (an n T) _ _ _ L B.ct.symm v (aw<|aw w) _ g H2 E _ _ k o O)})⟩) y Y q)
def qM(U:St):Prop:=∀n,nh U FT n<|gk CT FT n
theorem sV(h:(mA a b).2=T):b.2=T:=aw h
theorem MB(h:(oi a b).2=T):a.2=T:=aC h
theorem Cu(h:(oi a b).2=T):b.2=T:=aw h
theorem Fe(e:y=rSs m c G)(B:eQ b)(C:qM b)(j:eu c U)(h:(mA y x).2=T)(d:bN A U n T)(Y:aq b U l H s)(q:wpSs (an n T) qR m (wM I) l H)(k:Nx b A U x.1 I Q):GS b A U (mA y x).1 Q H s:=by subst e;exact Wq<|bK (zA B m (an n T) c U _ (C n) B.ct.symm j (aC h) A _ H s _ _ d Y q) (Nk k) λa a z=>zg z
theorem KG(e:y=rSs m c G)(B:eQ a)(C:qM a)(j:eu c U)(h:y.2=T)(b:bN A U n T)(Y:aq a U l H s)(q:wpSs (an n T) qR m Q l H):GS a A U y.1 Q H s:=by subst e;exact Ob<|zA B m (an n T) c U _ (C n) B.ct.symm j h A _ H s _ _ b Y q
theorem Xn(R:x=rSs (lA 6 kK) c (b.take 6))(i:v=nq c 5 253 (AG c) (uu b 6))(G:y=rSs (lA 6<|hU 7 kK) c ((b.drop 7).take 6))(a:z=rSs (hU 13 kK) c (b.drop 13))(B:eQ O) (Q:qM O) (P:va O) (j:eu c U) (u:(mA x<|oi v<|mA y z).2=T) (E:m.length<=1000) (X:bN A U 8 T) (w:k<12) (I:oH m k l H) (o:cT (.one 8) (.int k) l=S C) (Y:aq O U C H s):GS O A U (mA x<|oi v<|mA y z).1 (wM<|oH m<|k+1) H s:=
 Fe R B Q j u X Y (WF E w I o λl H z=>z) λL Z r d e=>
  AY (by subst i;exact E7 B (Q 7) P j (MB<|sV u) X d<|J0 e λl H z=>z) λt p s6 q g=>
   Fe G B Q j (Cu<|sV u) X q (E6 E w g λl H z=>z) λD f M h n=>KG a B Q j (sV<|Cu<|sV u) X h (Vi w n λl H z=>z)
theorem Yd(i:v=Dk c e)(B:eQ b)(g:qM b)(P:va b)(j:eu c U)(h:v.2=T)(E:m.length<=1000)(y:bN A U 8 T)(n:oH m 0 l H)(d:aq b U l H s):G1 b A U v.1 (wM<|oH m 12) H s:=by{
subst i;exact UH (oH m) (EX (cx:=an 8 T) B (g 8) B.ct.symm _ c U _ j<|aC<|aw h) (aw<|aC h) (ER j<|aC<|aC h) (y.hd J) (λa z=>cj (by decide) z)
 (λk l C H s x I f o Y=>by rw[yH] at f;obtain⟨w,f⟩:=AV f;exact Xn J J J J B g P j (aw<|aw h) E y w I (f.symm▸o) Y)
 (λk l H x I f=>by cases I;exact⟨_,J⟩) (λl H z=>z) y d n}
def Jp(a:Fl)(_:ae)(_:MH):Prop:=a= .ret (.bool T)
def GX(a:St)(A:aI)(U:aF)(x:jr)(H:MH)(s:ah):Prop:=x.2=T->GS a A U x.1 Jp H s
theorem ZA(a:z=zo c b)(p:z.2=T)(B:eQ f)(C:qM f)(P:va f)(j:eu c U)(E:m.length<=1000)(k:bN A U 8 T)(Y:aq f U (S (.scr m)::fj 20 N) H s):GS f A U z.1 Jp H s:=by{
have h:GX f A U z H s:=by
 refine aa a ?_;delta zo;generalize R:rSs (lA 9 zw) c (b.take 9)=x;generalize G:rSs _ c (b.drop 10)=y;generalize i:Dk c (uu b 9)=v;exact λu=>Fe R.symm B C j u k Y (VF E λl H z=>z) λq I r d n=>AY (Yd i.symm B C P j (MB<|sV u) E k n d) λg w t o e=>KG G.symm B C j (Cu<|sV u) k o J
exact h p}
def Lf:FD:=⟨854,1,[156,93,138,143,100,152,170,171,160,161,121,278,108,153,145,279,98,175,293,114,280],[],wE⟩
def Ma:List (FD×(Ck->List Stmt->jr)):=(Lf,zo)::(sP,MN)::(vM.take 88).map λp=>(p.2,rSs p.2.body)
theorem wA.fn{u:Frag}(h:wA u Ma)(O:p∈vM):p.2.body=wE\/rM u p.2 (rSs p.2.body):=
 (cp.mp<|(Hf 88 vM).symm▸O).elim (λq=>.inr<|h.at<|xN _<|xN _<|bZ.mpr ⟨p,q,J⟩) λq=> .inl ((bJ.mp<|show p∈[_,_] from q).elim (λe=>e▸J) λq=>cJ.mp q▸J)
structure K2 (K:Frag):Prop where
 W:KW K
 fn:wA K Ma
 p1:keepIn K (.ref 711)=true
 p2:makesIn K 711=true
 p3:ij K (.ref 711) "__init__"=some (some (.ref 708))
 p4:sj K (.ref 708)=some (.type "function")
 gl:nsIn K lU (br "law")=some (some (.ref 854))
inductive RM (args:List WData):Prop
 |mk (xs:List WData) (e:args=[.list xs]) (h:WShape.hasItems [] xs .int=true) (z:xs.length<=63)
theorem B6{U:St}{env:Env}{s:ah}(D:U.base=s.heap)(R:s.gens= #[])(Y:s.os=U.os)(m:s.drawn=U.drawn):aq U ⟨env,[],[],[],[]⟩ [] (λ_=>N) s where
 base:=au D λ_ _ e=>e
 rep:=λa o e=>aD e
 apart:=⟨(λb o e=>aD e),(λb o C B e=>aD e)⟩
 fresh:=λa h=>by
  refine let c:=_;(?_:c)
  rcases h with h|⟨b,o,e,_⟩
  .exact absurd J h
  .exact aD e
 loc:=λp h=>absurd h aJ
 own:=λp h=>absurd h aJ
 ownAt:=λa h=>(by cases h)
 wrOwn:=λa h=>(by cases h)
 frm:=trivial
 frmAt:=λa h=>(by cases h)
 lim:=(bp R Y m)
structure NI (prog:gK) (w:fg) (K:Frag) (s:ah) (st:St):Prop where
 m:ao prog w=ao st.prog st.w
 K:K=st.K
 b:st.base=s.heap
 o:st.os=s.os
 d:s.drawn=st.drawn
 W:eQ st
theorem Xi{H:gK}{c:fg}{d:Frag}{s:ah}{U:St}{v:Value}{M:List Int}(B:eQ U)(w:rM U.K Lf zo)(P:va U)(i:qM U)(E:(M.map Qb).length<=63)(I:NI H c d s U)(h:zm s.heap v M)(R:s.gens= #[]):eC (ao U.prog U.w) uy (.call (.ref 854) ⟨[v],[]⟩) (mL U ⟨default,[],[],[],[]⟩ [] (λ_=>N) s (λv _=>v= .bool T) λ_ _=>False) s:=
 EJ B w λX b x k j l=>NE (C:=S _::fj 20 N) (Z:=[.scr M]) B.O.T.B (B6 I.b R I.o.symm I.d) j ⟨_,_,J,(I.b▸h:zm U.base v M),J⟩ J (by decide+kernel) J λenv g n e m L=>
  hH (ZA k l B i P (ET B j n) (am (aL (f:=Qb)▸E) (by decide)) ⟨λ_=>J,⟨J,env,[],_,J,m,m⟩,by show 1+claimMargin+1+2*8+4<su;decide+kernel,by show 4+3+40*8+100<dY;decide+kernel,e⟩ L) (λf u z=>(by obtain⟨a,C,Y,r,o,p,q⟩:=z;exact⟨_,C,Y,r,o,p,q▸J⟩)) λ_ _ z=>z
theorem abH{q:gK}{x0:List Str}{XP:(Str->Option Value)->Heap->Prop}{h6:Params->Frag}{as:List Addr}{e:∀P,as=(h6 P).map (·.1)}{d:DefRec}{z3:List (Str×Expr)}(x1:importsNone q=T)(O:d.name=br "law")(hK:∀P,K2<|h6 P):abG q x0 XP (Hook.says<|kHook h6 as e) Qd.row.toRowW d z3 λf Z=>V0 f Z:=by{
intro h5 v4 h3 mg mb G z4 fa o pm cd x2 B kV ho hd x3 hD z0 hg args m x4 h7 x5 z5 x6 x7;have D:=G.T;have h2:=hK h5.params;clear x7 x6 x5 hD x3 hd ho kV B x2 cd pm G hK z3 XP;obtain⟨L,rfl,hx,E⟩:=(by have x8:=(Om h7).1;have x9:=(Om h7).2;clear h7;refine iC (hasAllW_cons x8) λd r e1 hd hr=>?_;cases hasAllW_nil hr;refine aU (hasW_list hd) λL e2 hx=>?_;subst e2;subst e1;exact⟨L,J,hx,dG.mp (bT.mp (of_decide_eq_false (eP (condW_of (holds_andW (b:=.lit<|.bool T) x9).1 (by kernel_rfl:WTm.value _ (.not<|.lt (.lit<|.int<|xZ 63)<|.len<|.arg 0) {args:=[.list L]}=S (.bool<|!decide ((63:Int)<(L.length:Int))))))))⟩:RM args)
clear h7;obtain⟨ns,rfl⟩:=items_int hx;replace z0:=O▸z0;refine let za:=_;let zb:=_;(?_:bf _ _ _ za zb _)
have e0:(h3.heap.get? nv).isSome=T:=by obtain⟨mm,⟨o,_,_,g,_⟩,_⟩:=(D.seer x1).mods;refine aa g ?_;rfl
refine((⟨ve ⟨Qd.row.toRowW.prog,h5,(h6<|abD h5),h3.heap,mg,mb,h3.os,h3.drawn,SD,lO,Hy,CT⟩,J,J,J,J,J,M7 h2.W ⟨(kIn_of z4),D.g,D.b,e0,D.nolimit⟩ D.builtins⟩:∃h8,NI Qd.row.toRowW.prog h5 (h6<|abD h5) h3 h8)).elim λh8 I=>(((z5.at 0 _ J).elim λv y=>y.elim λx4 y=>(readsW_list_inv y.2.1).elim λa z=>z.elim λZ z=>z.elim λbs z=>⟨v,((List.length_eq_one_iff.mp z5.length).elim λv5 e=>aa e<|congrArg (λx=>[x])<|aA<|(congrArg (λl=>l[0]?) e).symm.trans y.1),⟨a,Z,z.1,z.2.1,(z.2.2.1.length.trans<|aL _),λi x e=>(z.2.2.1.at i _<|rY gy<|congrArg (uV Qb) e).elim λh5 q=>q.elim λw q=>(readsW_int_inv q.2.1).elim λt p=>⟨t,(lY).symm.trans<|q.1.trans<|congrArg S p.1⟩⟩⟩:∃v,m=[v]/\zm (abz h3) v ns)).elim λv z6=>?_
have W:=I.W;have e3:qM h8:=(λn=>by{
induction n with
|zero=>exact λ_ _ _ _ _ _ _ _ _ _ _ _ _ _ E=>E.elim
|succ n ih=>{
intro A U b l H s fz Z m Q X hA h4 r E;obtain⟨dz,hd,E⟩:=cU E;obtain⟨C,hb,E⟩:=cU E;refine(aG dz hd<|((λf d h=>I.K▸h2.fn.fn (ja h)) fz dz hd).elim (λe=>((e▸E).2).elim) λh0=>EJ W h0 λfd j x ex h0 ck=>?_);subst ex;refine let za:=_;let zb:=_;let zc:=_;((af (h0.at_) λoc z1=>let Gz:=_;(?_:Gz)):gN za _ zb zc _)
refine af (z1) λod e4=>af (e4) λv6 ho=>af (h0.dfl) λdv z1=>ai (λe5 e6=>ai (λz7 e7=>codeAny_call_function hA.j5.2 ((W.O.T.B.X.keeps h4.base) _ _ ho) J h0.co h0.gen h0.body (codeRec_of (W.O.T.B.X.keeps h4.base) h0.code) (kp_binds (W.O.T.B.X.keeps h4.base) (e6 m (by rw[r.len];exact z7.1) (by exact aa r.len z7.2)) _ _ _ _<|h0.clo▸(aa1 h0.kind (λx hx=>?_) λh1 e8 e9 x=>?_)))<|Kx hb)<|z1
·(refine aU (bZ.mp (aa2 hx).1) λnz O e=>?_)
 exact(h0.names nz O).2.imp (λh9=>e▸h9) λh9=>e▸⟨h9,AZ<|.inr<|yA h9⟩
obtain⟨z2,v0,v1,M,v2⟩:h1.scope=fd.scope/\h1.globals=fd.globals/\h1.builtins=fd.builtins/\h1.frame=some h1.locals/\h1.cells=OT (s.heap.objs.size+1) fd.scope.names []:=by refine aa e8 ?_;exact(Ca J J J J J)
have z8:=λnz c hm=>am x.toInCall.fresh<|bU<|x.above nz c hm;have E':=h4.enter h0 (r.n7<|e5 _ h4.base) z2 M x z8 (λnz O hk=>by exact aa v2<|AZ<|.inr<|yA hk) (by(refine mw (x.toInCall.same) λh' tk e=>?_);refine aa e ?_;exact(bp J J J));replace E':=e7▸E';have k:=x.toInCall.keep;have hb:=λC Y u=>h4.back (d:=kO h8 dz U h1) (C:=C) (Y:=Y) (u:=u) k (λaz R=>(EH x z8 az R).z) λaz R=>by
 change az∈(h1::U.frames).filterMap (·.frame) at R
 rw[OS,M,bJ] at R;exact R.elim (λe=>aa e<|.inr<|gq x.toInCall.fresh) .inl
exact⟨(W.O.T.B.lim.keeps h4.base).keeps k,codeAny_func (bK ((λenv h3 he fo z9 v3=>zA W dz.body ⟨CT,gk CT FT n,b⟩ (xm dz fd) _ j ih W.ct.symm (ET W h0 he) ck (A.deeper env) C H h3 (tB Q) (λa _ H=>X a H) ⟨hA.hd,⟨Qa hA.stk,env,U.frames,_,J,z9,z9⟩,hA.j5.1.1,hA.j5.1.2,fo⟩ v3 E) h1 e9 z2 (KV h0 ⟨by refine aa z2 ?_;exact h0.kind,v0.trans h0.glob,v1.trans h0.bi⟩ x) M E') (λfz u=>JH hb) λe u=>I9 hb ⟨Qa hA.stk,h1,U.frames,_,J,M,M⟩)⟩}})
refine z6.1▸aa ((aA<|z0.symm.trans<|mg_of (kIn_of z4) D.g h2.gl)) (aa I.m ?_);exact vA (wt (Xi W (I.K▸h2.fn.at (bw _)) (⟨I.K▸h2.fn.at (xN _<|bw _),⟨I.K▸h2.p1,λ_=>I.K▸h2.p2,(λz=>ak z),sP,J,I.K▸h2.p3,I.K▸h2.p4⟩,W.gc 51 _ (by decide) J⟩) e3 E I z6.2 hg) λr u h=>(by{
induction r using uI with
|error e=>exact(sQ h).elim
|ok fl=>{
induction fl using xI with
|ret v=>{
obtain⟨x,Y,rv,S',G',rfl⟩:=h;refine aa rv ⟨.inl ⟨.bool T,.bool T,[],J,λ_=>J,.bool _,by wrow_post,λ_=>⟨gW,λa h=>absurd h aJ⟩⟩,.of_keep λb o e=>G'.keep b o (λz=>?_) (λz=>absurd z aJ) (λz=>(by obtain⟨⟩:=z)) e,S'.lim.2.1.trans I.o,.of_eq S'.lim.1⟩;rcases z with z|⟨b,o,e,_⟩
.exact absurd J z
.exact aD e}
|_=>exact h.elim}}))}
end Mine.Tactic
namespace Mine
theorem PySem.W.holds_open{r q loose Xt XP α Yf Ya YP d kwd N}:type_of% (@Tactic.Tactic.PySem.W.q0 r q loose Xt XP α Yf Ya YP d kwd N):=Tactic.Tactic.PySem.W.q0
set_option Elab.async true
set_option maxRecDepth 1000000 in
set_option maxHeartbeats 8000000 in
theorem fin:PySem.Challenge.rw_pq1052_01.Holds:=by
 (w_on;o_law;k_head;(case hw=>w_witness2))
 exact Tactic.abH (by kernel_rfl) rfl fun P=>⟨⟨by kernel_rfl,by kernel_rfl,by kernel_rfl⟩,⟨by kernel_rfl,by kernel_rfl,by kernel_rfl⟩,by kernel_rfl,by kernel_rfl,by kernel_rfl,by kernel_rfl,by kernel_rfl⟩
end Mine
end
theorem PySem.Challenge.cw_pq1052_01_holds : PySem.Challenge.rw_pq1052_01.Holds :=
 Mine.fin
