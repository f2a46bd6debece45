import PyProof.Rows.All
import PyProof.Conv_int
import Wide.All
import OpenK.AllK
import Wide.FinOn
import PySem.Challenge.RW_pq0151_01
set_option Elab.async false
set_option linter.all false
set_option maxRecDepth 100000
set_option maxHeartbeats 0
set_option genSizeOf false
set_option genInjectivity false
set_option bootstrap.genMatcherCode false
namespace Internal
open Nat renaming le_trans->ax,lt_of_le_of_lt->bD,lt_of_lt_of_le->cw,le_of_eq->bo,le_add_right->cy,le_refl->br,lt_succ_self->eR,add_sub_cancel_left->jb,zero_le->dC,add_comm->dZ,succ_le_succ->gf,le_succ->dI,zero_add->eu,le_of_lt->fJ,le_of_not_lt->jc,ne_of_lt->gh,add_le_add_left->k_,add_assoc->hU,add_le_add_right->mT,add_right_comm->lT,lt_succ_of_le->oq,sub_pos_of_lt->pw,le_succ_of_le->pz,le_antisymm->ot,sub_add_cancel->qF,min_le_right->pA,sub_sub->kA,le_of_lt_succ->qG,mul_le_mul_left->r_,lt_irrefl->mU,add_le_add->ou,lt_of_lt_of_eq->sd,sub_le_of_le_add->uk,lt_succ_of_lt->se,le_add_left->qH,le_of_sub_eq_zero->vY,min_eq_left->sf,lt_or_ge->pB,sub_self->pC,not_lt->mV,le_of_succ_le->vZ,succ_pos->sg,add_left_cancel->yN,sub_le->qI,le_of_not_le->yO,one_pos->um,sub_le_sub_left->Cf,sub_lt_sub_left->Cg,lt_trans->v3,ne_of_gt->v5,le_mul_of_pos_right->GL,lt_of_succ_lt_succ->GN,sub_lt->v7,le_of_ble_eq_true->GO,beq->qJ,le_zero->yP,lt_or_eq_of_le->GP,succ_lt_succ->GQ,succ_ne_self->GR,not_lt_of_le->GS,min_eq_right->GU,beq_refl->GV,sub_zero->GW,sub_eq_zero_of_le->M0,add_lt_add_right->M1,add_lt_add_left->M3,add_sub_cancel->M4,add_sub_of_le->M5,not_le_of_lt->M6,succ_ne_zero->M7,min_le_left->M8,not_lt_zero->M9,succ_add->M_,mul_succ->M',min_self->Na,rec->GX,mul_add->Nb,casesOn->Nc
open Option.some renaming inj->aJ
open PySem renaming wpAny_bind->aw,Value->aa,wpAny_pure->aP,wpAny->av,Shared->aF,Addr->aj,Params->aL,sizeLine->bk,Expr->aq,wpAny_mono->b_,strKind->dQ,wpAny_holding->fT,mainGlobals->fK,wpAny_ite_split->lb,builtinsNs->hV,wpAny_standAt->kC,wpAny_loadPart_at->ow,Heap->a_,wpAny_truthy_bool->pD,Arguments->iz,typeLookup->jz,model->cv,Stmt->bj,Around->dR,Scope->cz,starEach->iA,wpAny_newObj_type->si,wpAny_call_entry->sj,builtinLookup_eq_fast->v8,wpAny_of_eq->oy,cLine->dJ,World->d5,DictEntry->lU,wpAny_field->pE,intKind->jd,rawInt->gG,codeAny->je,codeAny_builtin->uo,nsFind->hX,wpAny_askSetting->v9,keeperOf->lV,plainId_quiet->uq,letOwnedTupleGo->v_,typeLookup_type->wa,Program->kD,clipAt->iS,sizeLine_eq->sk,codeAmong->pF,wpAny_setState_of->yQ,isSubtype_type->wb,unbindBehindTheSuite->Ci,wpAny_load->sm,assignEach->sq,backTo->jT,pyNext->jU,wpAny_specialOf->yR,wpAny_execs_nil->yS,wpAny_updateSeq->yT,wpAny_isSubtype_exc->Cj,FuncData->pG,valueAt->mW,wpAny_setField_rec->Ck,recursionLimit->yU,wpAny_loadPart->yV,sysModules->ur,NameKind->qK,swappedStores->yW,wpAny_attempt->yX,wpAny_isInstance->Cm,pushCells->uu,FuncBody->sv,callWith->sx,bindName->sy,wpAny_typeOf->yY,bootBuiltins->yZ,wpAny_ite_false->Cn,importedModules->Co,reduceHash->wc,intKind_is->wd,wpAny_call->we,wpAny_rule->wg,wpAny_loadName_local->GY,codeAny_call_builtin->GZ,newFunctionEnv->Cp,wpAny_setEntries_of->G0,cellsFrom->wh,lastMarks->wi,Comprehension->Cq,methodCallPos->Cr,strLen_append->Cs,OsState->sE,ks_wpAt_execs_cons->G1,wpAny_pyIter_list->G2,instanceDict->Ct,wpAt->Cu,codeAny_mono->Cv,compEnvC->wj,beq_builtin_none->G3,checkBuiltinCall->G4,opaqueClassAbove->G5,newList->G6,storeName->y0,updateSeq->y4,scanBound->y5,wpAny_throw->Cw,keywordEach->Cy,KeysOf->G7,codeAny_of_tree->G8,PyData->sG,Result->sH,argsOk->sI,checkBoundCall->G9,closureFor->Cz,wpAny_Name->CA,Keyword->wk,getAttr->wm,getItem->wo,loadName->y6,atKey->pH,bindArgs->y7,Operator->y8,compPost->y9,attributeBase->G_,assignInOrder->G',wpAt_of_wpAny->Ha,wpAny_list_append_plain->Nd,wpAny_callSpecial?_slot->Nf,seqIndex?->CB,compareOp->CC,noteFrame->CE,classData->CF,getMethod->CG,assignAll->CJ,makeFunction->Hb,wpAny_storeName_local->Ng,codeAny_call_function->Nh,hashInt->y_,wpAny_typeLookup_exc->Ni,wpAny_letTemporaryGo->Nj,wpAny_newFunctionEnv->Nk,codeAny_extend_loopS->Nl,pyIter->wq,wpAny_mkInt->Hc,wpAny_nsGet->He,excClassObj->Hf,IsRangeIter->Hg,CmpOp->sJ,Flow->lW,wpAny_loadName_cell->Nn,wpAny_loadName_free->Np,list_getitem_lookup->Nq,wpAny_handleBy_cons->Nr,backToKw->CK,entryFor->CL,slot_dict_contains->Nt,passOn->Nu,arm_eval_Attribute->Nv,wpAny_Constant_str->Nw,assign->Ny,isInstance->Hh,loadGlobal->Hi,setsByText->Hj,execs_cons->Hk,cameBackBy->Hl,wpAny_pyIter_enum->Nz,foldedSetIterable->NA,wpAny_pyIter_dict->NC,wpAny_storeSet_of->ND,wpAny_pyIter_slot->NF,isTrue->za,typeOf->zb,setAdd->zc,wpAny_lookBehind->NG,pastItsLine_dict->NH,stored_length_le->NI,entryFor_of_tree->NJ,setAttr->CM,storedH->CN,BindsTo->CO,UnaryOp->CP,setFlight->Hm,onTheHeap->Hn,isSubtype->Ho,raiseStmt->Hp,treeTable->Hq,wpAny_tests_nil->NK,getAttrByItsOwn->NL,exec_Assign_arm->NM,wpAny_seqItems->NN,constantsAlone->NO,wpAny_setField->NP,methodCallForm->NQ,wpAny_runValue->NR,wpAny_ite_true->NS,entryFor_alias->NT,wpAny_fieldsOf->NU,firstArgMember->NV
open List renaming length_append->aX,getElem?_eq_some_iff->cn,getElem?_eq_getElem->cp,mem_singleton->bM,length_map->bw,getElem?_append_left->ew,getElem?_append_right->eS,getElem?_map->cQ,append_assoc->cS,mem_cons->bX,append_nil->cG,map_append->cH,mem_append->cV,mem_of_getElem?->ez,mem_append_left->eG,take_succ_eq_append_getElem->jf,mem_append_right->gi,length_range->fe,not_mem_nil->eH,length_cons->eU,take_length->eV,getD_eq_getElem?_getD->jA,range->cA,lookup_cons->fL,map_cons->ef,mem_map->dS,nodup_append->gH,take_append_drop->jB,getElem?_concat_length->lX,length_take->iT,take_of_length_le->lY,map_congr_left->kE,mem_iff_getElem?->lZ,getElem?_eq_none->l0,nodup_cons->jg,all_eq_true->jV,getElem?_range->mX,map_nil->iU,map_map->jh,isEmpty_iff->mY,getElem_mem->oz,length_singleton->sL,foldl_append->qL,mem_map_of_mem->sN,mem_range->oA,length_drop->qM,getElem?_nil->sQ,getElem?_eq_none_iff->zd,flatMap_cons->uv,flatMap_append->wt,cons_ne_nil->uw,length_zipIdx->wu,idxOf_lt_length_of_mem->CQ,mem_cons_of_mem->ze,drop_eq_getElem_cons->CR,perm_middle->wx,casesOn->sR,filterMap_cons->zf,mem_cons_self->zg,getElem_range->zh,range_succ_eq_map->CT,pairwise_map->zi,nodup_nil->wy,replicate->wz,any_eq_true->zj,forIn_cons->zk,length_nil->zl,foldl_cons->zm,size_toArray->CU,rec->qN,lookup->wA,length->wB,map_take->zo,pairwise_singleton->Hr,mem_flatten->CV,drop_of_length_le->Hs,all_append->CW,getElem?_mapIdx->Ht,take_nil->CX,drop_nil->CY,all_cons->C0,contains_cons->Hu,reverse_cons->Hv,any_eq_false->Hw,take_add_one->Hx,ext_getElem?->Hy,idxOf_append->Hz,all_map->C2,map_reverse->HA,cons_append->HB,drop_length->HD,nodup_range->HF,flatMap_nil->HG,range_succ->HI,drop_zero->HJ,getElem_append_right->NW,map->zp,getElem?_cons_zero->NX,find?_cons_of_pos->NY,find?_cons_of_neg->NZ,length_filter_le->N0,set_append_right->N1,length_replicate->N2,mem_of_mem_take->N3,length_take_le->N4,getElem_of_mem->N5,flatten_append->N6,mem_filterMap->N7,lookup_append->N8,zipIdx_append->N9,length_mapIdx->N_,getElem_idxOf->Oa,flatten_cons->Ob,map_fst_zip->Oc,filter_cons->Oe,map_flatten->Of,Perm->HM,prefix_rfl->Og,idxOf_cons->Oh,length_zip->Oi,forIn_nil->Oj,any_cons->Ol,findIdx?->Om,map_drop->Oo,map_id'->Oq,flatten->Ot,drop->Ou,cons->Ov
open PySem.Challenge renaming pw_pq0151_01->cB,rw_pq0151_01->Ow
open False renaming elim->aW
open PySem.Heap renaming get?_push_of_some->d6,get?_push_size->gj,lt_size->eW,get?_update_self->pI,get?_update_other->sS,SameBut->mZ,get?_none_of_le->zq,size_push->C3,ExtBut->C4,get?_update_ne->Ox,get?_push_at->Oy
open Int renaming natCast_nonneg->dK,toNat_natCast->fU,ofNat_lt->eX,ofNat_le->gI,lt_of_lt_of_le->sT,le_add_one->qO,le_of_lt->qP,natCast_pos->ux,natCast_add->uy,toNat_of_nonneg->zr,le_trans->uz,add_sub_cancel->C5,lt_of_le_of_lt->C6,not_lt->uA,max_eq_right->C7,lt_trans->C8,toNat_lt->C9,fdiv->wC,toNat->zt,le_refl->C_,toNat_sub->HN,ofNat_sub->HO,fmod_nonneg_of_pos->Oz,lt_add_one_of_le->OA,fmod->Dc,min_eq_right->OB,min_eq_left->OC,ofNat_inj->OD,sub_zero->OE
open Bool renaming and_eq_true_iff->eA,and_eq_true->iV,false_ne_true->l5,false_eq_true->sU,eq_iff_iff->wD,and_false->zu,not_eq_true'->Dd,eq_false_iff->De,not_true->zv,or_eq_true->Df,or_false->Dg,noConfusion->OF,rec->HP,false_or->OG,true_and->OH
open Array renaming length_toList->eY,getElem?_toList->jC,getElem?_eq_getElem->wF,range->l6,getElem?_eq_none->zw,toList_push->wG,getElem?_eq_some_iff->Dh,mem_toList_iff->Di,size_setIfInBounds->HQ,not_mem_empty->HR,toList_append->HS,getElem?_setIfInBounds_ne->OI,eq_empty_of_size_eq_zero->OJ,any_toList->HU,mk->zx,forIn_toList->OK,getElem_map->OL,toList->OM
open PySem.Builtin.Range renaming rangeSize->sV,small->YX
open Int.ofNat renaming inj->lg
open Option renaming map_eq_some_iff->sW,isNone_iff_eq_none->uB,map_map->uC,isSome_iff_exists->HV,map_some->Dj,map->wH,none_or->HW,casesOn->HY
open Eq renaming mpr->du
open PySem.Builtin.List renaming listExtendWith->wK,listTooLong->zy,listLengthHint->Dk,listSameRef->Dl,listItems->ON,listUpdate->YY
open Prod.mk renaming inj->jW,injEq->wL
open PySem.F renaming called_set->sX,excBase_Exception->HZ,store_Exception->H0,ks_slot_super_ga->H2,plain_extend_loop->OO,slot_dict_values->OP,plain_list_iadd->OQ,plainAttrs_dict->OR,plain_set_new->OS,plain_extend_loop->OT
open PySem.Obj renaming mapSeq->jX,mapFields->zz,data_mapFields->H3,putName->Dm,putSet->Dn,isFreed_of_fields->OU
open PySem.Value renaming ref->jD,none->l7,type->pJ,builtin->wM,int->wN
open PySem.W.Fast renaming tw821141287760084731->Dp,tw3399658132070893891->OV,te3399658132070893891->OW,tw3247288618530077131->OX,te821141287760084731->OY,tw10110043849684766642->YZ,tw14364793385576792824->Y0,te10110043849684766642->Y1,te14364793385576792824->Y2,tw5160383126252970620->Y3,tw5991557255702980513->Y4,te5160383126252970620->Y5,te5991557255702980513->Y6,tw10880121769531294198->Y7,tw7409074990110511671->Y8,tw13664370479719496447->Y9,te10880121769531294198->Y_,te7409074990110511671->Y',te13664370479719496447->Za,tw14722251495701143533->Zb,tw5923862056798008813->Zc,te14722251495701143533->Zd,te5923862056798008813->Ze,tw10994771534591457954->Zf,te10994771534591457954->Zg,tw479339242167458305->Zh,te479339242167458305->Zi,tw16090120013241838585->Zj,te16090120013241838585->Zk,te3247288618530077131->Zl,tw2386780881361962483->Zm,te2386780881361962483->Zn,tw11698064438423848299->Zo,te11698064438423848299->Zp,tw7317090234206586261->Zq,te7317090234206586261->Zr,tw7369524293546568484->Zs,te7369524293546568484->Zt,tw9446332074065402090->Zu,te9446332074065402090->Zv
open List.cons renaming inj->qQ
open Ne renaming symm->hY
open PySem.Expr.Call renaming elim->sY
open PySem.NameKind renaming free->sZ,cell->uD,casesOn->H4
open PyProof.Rows.F renaming plain_set_update_loop->H5,entry_set_update_loop->OZ
open PySem.PyData renaming shownAll->uE,showableAll->H6,hasDictAll->H7,depthAll->H8,keyHash->O0,shown->O1
open PySem.Builtin.Tuple renaming tupleHashOf->Dq,tupleItemsOf->Zw
open PySem.Expr.Attribute renaming elim->zA
open PySem.Expr.Subscript renaming elim->zB
open PySem.Str renaming ofString->qR,length->O2
open PySem.Keeper renaming boundFrame->wO,machine->wQ,frame->wR
open PySem.Around renaming under_plainId->zD,in1_units->O3
open PySem.Stmt.FunctionDef renaming elim->Dr
open ForInStep renaming yield->wU
open PySem.W renaming piece_app->m_,segRun_of->nc,looks_pair->pK,boot_heap->oB,piecesOf->nf,findIn->jY,Frag->d0,emptyDict->s6,topRun->lh,restOf->l8,Looks->jZ,hasDictIn->zE,boot_drawn->Ds,plainOver->Dt,boot_toks->Du,instObj->zF,tabObj->wV,lookIn->wW,CodeHd->zG,takerIn->Dv
open PySem.Value.ref renaming elim->wX,inj->H9
open PySem.pickOrder renaming go->uF
open PySem.Expr.Lambda renaming elim->zH
open PyProof.Rows renaming IsTup->fz,step_dedup->s7,IntsAre->zJ,markedEach_of_false->O4,assignInOrder_cons->O5,Subscript_->H_,assignInOrder_nil->O6,list_addW->Zx,sub_bool->Zy,floordiv_int->Zz,mod_int'->ZA,lshift_int_small->ZC
open PySem.Data.fields renaming inj->zK,elim->H'
open PySem.W.WShape renaming hasItems->zM,has->Dw,hasAll->O7
open PySem.Expr.Name renaming elim->zN
open PySem.Builtin.ObjectAttr renaming refuseIfOverridden->O8,storeInOwnDict->O9,storeInDict->O_,newKeyGuard->ZD
open Classical renaming choose->Dx,choose_spec->Pa,not_not->Pb
open Nat.succ renaming inj->zO
open PySem.Heap.SameBut renaming update->Ia,refl->ZE
open PySem.Expr.Constant renaming elim->Ib
open PySem.Expr.ListComp renaming elim->Ic
open PySem.Value.int renaming elim->Dy,inj->Pc
open PySem.Value.str renaming elim->Dz
open List.Perm renaming swap->DA,append_left->Pd
open PySem.SeqAt.EqAt renaming int_int->zP,bool_bool->Ie,str_str->Ig,tuple_int->Pe,of_refs->Pf,same->Pg
open PySem.Expr.Compare renaming elim->Ih
open PySem.Stmt.For renaming elim->DB
open PySem.Stmt.Assign renaming elim->Ii
open PySem.Stmt.If renaming elim->DC
open PySem.Expr.Tuple renaming elim->Ij
open PySem.Expr.Slice renaming elim->Ik
open PySem.Value.type renaming elim->Il,inj->Ph
open PySem.Expr renaming casesOn->DD
open PySem.W.OpenLaw renaming pre->DE
open PySem.Data.dict renaming elim->Im
open PySem.Data.func renaming elim->Io
open PySem.SetTable renaming below->Ip,insertAt->Pj,grown->Pl
open PySem.Data.seq renaming elim->Iq
open PySem.EntryCells renaming newEntry->Pm
open PySem.Stmt.Return renaming elim->Pn
open PySem.Expr.BoolOp renaming elim->Po
open PySem.BindsTo renaming of_defaults->Pq
open PySem.Stmt.While renaming elim->Pr
open And renaming right->DF
open PySem.FuncBody renaming casesOn->Pt
open PySem.Code renaming quiet_builtin->Pu,builtin->Pw
open PySem.SeqAt renaming EqAt->kG
open PySem.W.WData renaming int->Ir
open PySem.Builtin.Frozenset renaming newClass->ZF,updateFrom->ZG,slot0->ZH,addrOf->ZI,sizeOf->ZJ
open PySem.Data renaming dict->It
open PySem.Flow renaming next->Iu,casesOn->Px
open PySem.Shared renaming TypeIs->Py,mk->Pz
open PySem.Const renaming casesOn->PA
open PySem.ItemsOf renaming nil->PB
open PySem.Moved renaming eq_with->PC
open PySem.IsRange renaming new->PD
open Nat.le renaming dest->PF
open PySem.Heap.IsSliceOf renaming new->ZK
open PySem.Stmt renaming casesOn->PG
open PySem.Stmt.ClassDef renaming elim->ZL
open List.IsPrefix renaming trans->ZM
open PySem.SeqAt.RcAt renaming tuples->PH
open PySem.Walks renaming list->PJ
open PySem.Heap.NoLimit renaming keeps->ZN
open PySem.Builtin.Dict renaming pendingKey?->ZO
open PySem.Heap.IsList renaming typeIs->ZP
open PySem.Made renaming post->PK
theorem ai{p:Prop}[Decidable p](h:decide p=true:=by exact Eq.refl true):p:=of_decide_eq_true h
theorem ak{α:Sort aG}{a b:α}(h:a=b:=by kernel_rfl):a=b:=h
noncomputable section
theorem aE{α:Type}{x:α}{p:Prop}(h:none=some x):p:=nomatch h
theorem bZ{p:Prop}(h:false=true):p:=nomatch h
theorem zQ{α:Type}{x:α}{p:Prop}(h:some x=none):p:=aE h.symm
theorem qS{v w:PySem.Value}(h:qJ v.ctorIdx w.ctorIdx=false):v≠w:=λe=>bZ (h.symm.trans (e▸GV v.ctorIdx))
theorem lr{v w:PySem.Data}(h:qJ v.ctorIdx w.ctorIdx=false):v≠w:=λe=>bZ (h.symm.trans (e▸GV v.ctorIdx))
theorem ZQ(h0:((0:Int)<=(x0+x1))):((-x1)<=x0):=by have :=Int.sub_le_sub_right h0 x1;rwa[Int.zero_sub,C5]at this
theorem ZR:(((x0-((x1:Nat):Int))-(1:Int))=(x0-(((x1+1):Nat):Int))):=by rw[Int.natCast_succ,Int.sub_sub]
theorem ZS(h0:(x0<x1)):(((x1+1)-(x0+1))<((x1+1)-x0)):=by rw[Nat.add_sub_add_right,Nat.succ_sub (fJ h0)];exact eR _
theorem ZT(h0:(x0<=(2^24))):(((x0:Nat):Int)<((2:Int)^63)):=C6 (gI.mpr h0) ai
theorem ZU(h0:((x0-x1)=(x2+1))):((x0-(x1+1))=x2):=by rw[<-kA,h0];rfl
theorem ZV(h0:(x0<4096)):(((x0:Nat):Int)<((2:Int)^63)):=sT (eX.mpr h0) ai
theorem ZW(h0:(x0<=32))(h1:(x1=x0)):(((x1:Nat):Int)<((2:Int)^63)):=h1▸C6 (gI.mpr h0) ai
theorem ZX(h0:(x0≠x1)):((¬(x0=(x0+1)))/\(¬(x0=x1))):=⟨λe=>gh (eR _) e,h0⟩
theorem ZY(h0:(x0<=x1))(h1:(((x2:Nat):Int)=(((x1:Nat):Int)+x3))):(((x0:Nat):Int)<=(((x2:Nat):Int)-x3)):=by rw[h1,C5];exact gI.mpr h0
theorem ZZ(h0:(((x0:Nat):Int)=(((x1:Nat):Int)+x2))):((((x0:Nat):Int)-x2)=((x1:Nat):Int)):=by rw[h0,C5]
theorem Iv(h0:(x0<=900))(h1:(((x1:Nat):Int)=(((x0:Nat):Int)+(2:Int)))):(x1<=1000):=(lg h1:x1=x0+2)▸ax (mT h0 2) ai
theorem Z0(h0:(x0<=900))(h1:(((x1:Nat):Int)=(((x0:Nat):Int)+(1:Int)))):(x1<=1000):=(lg h1:x1=x0+1)▸ax (mT h0 1) ai
theorem Z1(h0:(x0<=900))(h1:(x1<=2))(h2:(x2=(x0+x1))):(x2<=1000):=h2▸ax (ou h0 h1) ai
theorem Z2(h0:((0:Int)<((x0:Nat):Int))):((zt (((x0:Nat):Int)-(1:Int)))<x0):=bD (bo (HN x0 1)) (v7 (ux.mp h0) um)
theorem Z3(h0:(1<=x0))(h1:(x0<=x1)):((zt (((x0:Nat):Int)-(1:Int)))<x1):=bD (bo (HN x0 1)) (cw (v7 h0 um) h1)
theorem Z4(h0:(x0<=900))(h1:(x1<=(0+(min x2 x0)))):(x1<=2000):=ax h1 (ax (bo (eu _)) (ax (pA _ _) (ax h0 ai)))
theorem Z5(h0:((x0+1)<=900)):(((0+1)+x0)<=1000):=ax (bo (dZ _ _)) (ax h0 ai)
theorem Z6(h0:(x0=x1))(h1:(x0=x2))(h2:(x1<=900)):(((x2-1)+1)<=901):=gf (ax (qI _ _) (h1▸h0▸h2))
theorem Z7(h0:(x0<=900))(h1:((x1<=x0)/\((x2=x0)/\(x0<=x0)))):(x2<=900):=h1.2.1▸h0
theorem Z8(h0:(x0<=900))(h1:((x1<=x0)/\((x2=x0)/\(x0<=x0)))):(x1<=900):=ax h1.1 h0
theorem Z9:((13+(4+(((x0+1)+1)+1)))=(20+x0)):=by rw[<-hU];exact(dZ 17 (x0+3)).trans (dZ x0 20)
theorem Z_:((9+((x0+1)+1))=(11+x0)):=(dZ 9 (x0+2)).trans (dZ x0 11)
theorem Z'(h0:(x0<=50))(h1:(x1<=(10*(min x2 x0)))):(x1<=500):=ax h1 (ax (r_ 10 (ax (pA _ _) h0)) ai)
theorem aaa:(¬((((((((((x0+1)+1)+1)+1)+1)+1)+1)+1)+1)<=8)):=M6 (qH 9 x0)
theorem aab(h0:(x0<x1)):((2+x0)<(x1+10)):=dZ 2 x0▸Nat.add_lt_add h0 ai
theorem aac(h0:((x0+x1)<=900))(h1:(x2<x1)):((x0+(min x2 x1))<=899):=by rw[sf (fJ h1)];exact qG (cw (M3 h1 x0) h0)
theorem aad(h0:(x0≠0)):(((x1:Nat):Int)≠(((x1+x0):Nat):Int)):=λe=>h0 (Nat.left_eq_add.mp (lg e))
theorem aae(h0:((2<=x0)/\(x0<=8))):((0+(min x1 x0))<=900):=ax (bo (eu _)) (ax (pA _ _) (ax h0.2 ai))
theorem aaf:((((((((x0+1)+1)+1)+1)+1)+1)+1)=(7+x0)):=dZ x0 7
theorem aag(h0:(((-(1000000:Int))<((x0:Nat):Int))/\(((x0:Nat):Int)<(1000000:Int))))(h1:(x1<x0)):(x1<1000000):=v3 h1 (eX.mp h0.2)
theorem aah(h0:(x0=(9+x1))):(9<=x0):=h0▸cy 9 x1
theorem aai:(((9+x0)+1)=(x0+10)):=dZ 10 x0▸lT 9 x0 1
theorem aaj(h0:((1<=x0)/\(x0<=7)))(h1:(x1=(x0+1))):((2<=x1)/\(x1<=8)):=h1▸⟨gf h0.1,gf h0.2⟩
theorem aak:((x0+12)=((x0+11)+((x0+3)-(x0+2)))):=by rw[Nat.add_sub_add_left]
theorem aal:((x0+11)=(9+(x0+2))):=(dZ 9 (x0+2)).symm
theorem aam:((min (x0-(x0-2)) x1)<=2):=ax (M8 _ _) (uk (dZ _ _▸Nat.le_add_of_sub_le (br _)))
theorem aan:(((x0:Nat):Int)=((((x0-2):Nat):Int)+(((x0-(x0-2)):Nat):Int))):=by rw[<-uy];exact congrArg _ (M5 (qI _ _)).symm
theorem PM:(¬((((x0+1)+1)+1)<=2)):=M6 (qH 3 x0)
theorem aao(h0:(((-(1000000:Int))<x0)/\(x0<(1000000:Int)))):((zt x0)<=(2^24)):=Int.toNat_le.mpr (uz (qP h0.2) ai)
theorem aap:(((0:Int)+(((x0:Nat):Int)*(1:Int)))=((x0:Nat):Int)):=by rw[Int.zero_add,Int.mul_one]
theorem aaq(h0:(x0<x1)):((1+x0)<(x1+2)):=dZ 1 x0▸GQ (se h0)
theorem aar(h0:((x0-x1)<=(x2+1)))(h1:(((x1:Nat):Int)<((x3:Nat):Int))):((x0-x3)<=x2):=ax (Cf (eX.mp h1) x0) (kA x0 x1 1▸uk h0)
theorem aas(h0:((x0+1)=x1)):((x1-1)<=x0):=by rw[<-h0];exact br _
theorem aat(h0:((x0+1)=x1)):((x0-(x1-1))=0):=M0 (by rw[<-h0];exact br _)
theorem aau{x0 x1 x2 x3:Nat}(h0:(x0<x1))(h1:((x2<x3)/\(x1<=x0))):False:=mU _ (cw h0 h1.2)
theorem aav{x0 x1 x2:Nat}:(¬((x0<x0)/\(x1<=x2))):=λh=>mU _ h.1
theorem aaw(h0:(x0=(x1+(x2+1)))):(((x1+1)+x2)<=x0):=h0▸bo (M_ x1 x2)
theorem aax(h0:((x0+1)=x1))(h1:(x2=(x3+x1))):((zt (((x2:Nat):Int)-(1:Int)))=(x3+x0)):=by rw[h1,<-h0];exact HN (x3+(x0+1)) 1
theorem aay(h0:(x0<x1))(h1:(x1<x2)):((1<=x1)/\(x1<=x2)):=⟨bD (dC _) h0,fJ h1⟩
theorem aaz(h0:((x0=(1:Int))\/(x0=(-(1:Int))))):(¬(x0=(0:Int))):=λe=>h0.elim (λh=>by rw[h]at e;exact absurd e ai) λh=>by rw[h]at e;exact absurd e ai
theorem Iw:((((x0+1)+x1)+1)<=(x0+(x1+2))):=bo (congrArg Nat.succ (M_ x0 x1))
theorem aaA(h0:(x0<x1))(h1:(x1<=(x2+1)))(h2:(x3<=20)):(((20*((x2+1)-x1))+x3)<=(20*((x2+1)-x0))):=by rw[<-qF (show 1<=x2+1-x0 from pw (cw h0 h1)),kA,Nb];exact ou (r_ 20 (Cf h0 _)) h2
theorem aaB(h0:(x0<x1))(h1:(x1<=(x2+1)))(h2:(x3<=(2*((x2+1)-x1)))):((x3+2)<=(2*((x2+1)-x0))):=by rw[<-qF (show 1<=x2+1-x0 from pw (cw h0 h1)),kA,Nb];exact ou (ax h2 (r_ 2 (Cf h0 _))) (br 2)
theorem aaC(h0:(x0<x1))(h1:(((x2+1)-x0)<=(x3+1))):(((x2+1)-x1)<=x3):=ax (Cf h0 _) (kA (x2+1) x0 1▸uk h1)
theorem aaD(h0:(x0<(x1+1)))(h1:(x2<=2)):(x2<=(2*((x1+1)-x0))):=ax h1 (GL 2 (pw h0))
theorem aaE(h0:(x0<(x1+1)))(h1:(x2<=20)):(x2<=(20*((x1+1)-x0))):=ax h1 (GL 20 (pw h0))
theorem aaF(h0:(x0<=7))(h1:(x1<=(2*((x0+1)-0)))):(x1<=90):=ax h1 (ax (r_ 2 (gf h0)) ai)
theorem PN(h0:(x0<=7))(h1:(x1<=(20*((x0+1)-0)))):(x1<=5000):=ax h1 (ax (r_ 20 (gf h0)) ai)
theorem aaG(h0:(x0<=7))(h1:(x1<=(2*((x0+1)-0)))):(x1<=9000):=ax h1 (ax (r_ 2 (gf h0)) ai)
theorem aaH{x0 x1:Nat}(h0:(x0:Int)=(x1:Int)+2)(h1:x0<=1000):x1<=1000:=ax (cy x1 2) ((lg h0:x0=x1+2)▸h1)
theorem aaI{x0 x1:Nat}(h0:(x0:Int)=(x1:Int)+1)(h1:x0<=1000):x1<=1000:=ax (cy x1 1) ((lg h0:x0=x1+1)▸h1)
theorem aaJ{x0:Nat}(h0:1<=x0):(0:Int)<=(x0:Int)-1:=Int.sub_nonneg_of_le (gI.mpr h0)
theorem PO{x0 x1:Nat}(h0:x0=x1)(h1:x1<=900):-(1000000:Int)<(x0:Int)/\(x0:Int)<(1000000:Int):=⟨sT ai (dK _),eX.mpr (bD (h0.symm▸h1) ai)⟩
end
noncomputable section
open PyProof.Rows PySem PySem.Calls PySem.SeqAt PySem.W
set_option genInjectivity true in inductive KV where|i(n:Int)|s(x:Str)|p(a b:Int)deriving DecidableEq,Inhabited
section
variable{A:dR}{s:aF}
def uG(prog:kD)(w:d5)(A:dR)(s:aF)(v:aa)(k:Int)(n:Nat):Prop:=∀(E:aa->aF->Prop)(Q:Int->aF->Prop)(tk:Nat),Q k {s with toks:=tk+n}->av (cv prog w) A (pyHash v) Q E {s with toks:=tk}
inductive zR(prog:kD)(w:d5)(A:dR)(s:aF):List aa->List Int->Nat->Prop|nil:zR prog w A s [] [] 0|cons{v:aa}{k:Int}{n:Nat}{vs:List aa}{ks:List Int}{m:Nat}:uG prog w A s v k n->zR prog w A s vs ks m->zR prog w A s (v::vs) (k::ks) (n+m)
theorem aaK(H:zR prog w A s vs ks n):∀(tk:Nat)(b:Array Int)(Q:Array Int->aF->Prop),(∀b',b'.toList=b.toList++ks->Q b' {s with toks:=tk+n})->av (cv prog w) A (forIn vs b λx r=>do let h<-pyHash x;pure PUnit.unit;pure (wU (r.push h))) Q E {s with toks:=tk}:=by induction H with|nil=>exactλtk b Q h=>aP (h b (cG _).symm)|@cons v k n vs ks m a t ih=>intro tk b Q h;rw[zk];refine aw (aw (a _ _ tk ?_));refine aw (aP (aP ?_));exact ih (tk+n) _ Q λb' hb=>hU tk n m▸h b' (hb.trans (by rw[wG,cS];rfl))
theorem Iy k t:uG prog w A s (.int k t) (y_ k) 1:=λE Q tk h=>wpAny_pyHash_int h
theorem aaL x t:uG prog w A s (.str x t) (hashStr w x) 1:=λE Q tk h=>wpAny_pyHash_str h
theorem PR(hu:A.units<dJ) b:uG prog w A s (.bool b) (wc (if b then 1 else 0)) 1:=λE Q tk h=>by
 refine pyHash_slot (T:="bool") rfl F.slot_bool_hash entry_int_hash (args_int_hash _) (G3 _) (.inr hu) ?_;cases b;.exact(show av _ _ (do ret (<-mkInt 0)) _ _ _ from aw (Hc (aP ⟨_,_,rfl,h⟩)))
 .exact(show av _ _ (do ret (<-mkInt 1)) _ _ _ from aw (Hc (aP ⟨_,_,rfl,h⟩)))
theorem PT(hu:A.units<dJ)(t:fz s.heap a items)(H:zR prog w A.in1 s items.toList ks n):uG prog w A s (.ref a) (wc (Dq ks)) (n+1):=λE Q tk h=>by obtain⟨o,ho,hc,m,hd⟩:=t;refine pyHash_slot (T:="tuple") ⟨_,ho,hc⟩ F.slot_tuple_hash F.entry_tuple_hash (F.args_tuple_hash_1 _) (G3 _) (.inr hu) ?_;show av _ _ (Zw (.ref a)>>=_) _ _ _;refine aw (wpAny_tupleItemsOf (s:={s with toks:=tk}) ho hd ?_);refine aw ?_;rw[<-OK];refine aaK H tk #[] _ λb hb=>?_;show av _ _ (retInt (Dq b.toList)) _ _ _;rw[hb];exact aw (Hc (aP ⟨_,_,rfl,h⟩))
def Quiet(prog:kD)(w:d5)(A:dR)(s:aF)(n:Nat)(v:aa):Prop:=∀(E:aa->aF->Prop)(Q:Bool->aF->Prop),Q true s->av (cv prog w) A (eqIsQuiet n v) Q E s
theorem wY(h:carriedByValue v=true):Quiet prog w A s n v:=λE Q q=>by rw[eqIsQuiet_byValue n h];exact aP q
theorem PU(t:fz s.heap a items)(H:∀v∈items.toList,Quiet prog w A s n v):Quiet prog w A s (n+1) (.ref a):=λE Q h=>by
 have hT:=t.typeIs;obtain⟨o,ho,hc,m,hd⟩:=t;unfold eqIsQuiet;refine aw (yR hT F.slot_tuple_eq.lookup ?_);show av _ _ (Hh (.ref a) (.type "tuple")>>=_) _ _ s;refine aw (Cm hT isSubtype_tuple_tuple ?_);simp only[zv,sU,if_false];refine aw (NN ho hd ?_);refine aw ?_;show av _ _ (forIn items _ _) _ _ s;rw[<-OK];refine wpAny_forIn_list _ (λrest r s'=>r.1=none/\s'=s/\∀v∈rest,v∈items.toList) _ ?_ ?_ _ _ ⟨rfl,rfl,λv hv=>hv⟩;.rintro v rest r s'⟨hr,rfl,uH⟩;refine aw (H v (uH v zg) _ _ ?_);simp only[zv,sU,if_false];exact aP ⟨rfl,rfl,λaG Iz=>uH aG (ze _ Iz)⟩
 .rintro⟨r1,r2⟩s'⟨hr,rfl,_⟩;simp only at hr;subst hr;exact aP h
noncomputable def KV.b1:KV->Bool|.i _=>false|.s _=>true|.p _ _=>false
noncomputable def KV.b2:KV->Bool|.i _=>false|.s _=>false|.p _ _=>true
inductive j0(h:a_):KV->aa->Prop|i(n:Int)(t:Tok):j0 h (.i n) (.int n t)|s(x:Str)(t:Tok):j0 h (.s x) (.str x t)|p{b:aj}(m n:Int)(t aG:Tok)(x:fz h b #[.int m t,.int n aG]):j0 h (.p m n) (.ref b)
inductive gm(h:a_)(k:KV)(a:aj):Prop|mk(v:aa)(t:fz h a #[.bool k.b1,.bool k.b2,v])(p:j0 h k v):gm h k a
theorem gm.map(x:gm h k a)(f:∀b y,fz h b y->fz h' b y):gm h' k a:=by obtain⟨v,t,p⟩:=x;exact⟨v,f _ _ t,by cases p with|i n aG=>exact .i n aG|s x aG=>exact .s x aG|p m n aG w x=>exact .p m n aG w (f _ _ x)⟩
theorem DG(p:fz h a x)(q:fz h a y):x=y:=by obtain⟨o,e,-,n,d⟩:=p;obtain⟨o',e',-,n',d'⟩:=q;exact(Data.seq.inj (d.symm.trans ((aJ (e.symm.trans e'))▸d'))).1
theorem aaM{a b c a' b' c':aa}(h:#[a,b,c]=#[a',b',c']):c=c':=(qQ (qQ (qQ (congrArg OM h)).2).2).1
theorem IA(h:#[wN m t,.int n aG]=#[.int m' t',.int n' u']):m=m'/\n=n':=have e:=qQ (congrArg OM h);⟨(Pc e.1).1,(Pc (qQ e.2).1).1⟩
theorem j0.inj(p:j0 h x v)(q:j0 h y v):x=y:=by cases p with|i n t=>cases q;rfl|s n t=>cases q;rfl|p m n t aG p=>cases q with|p m' n' t' u' q=>exact(IA (DG p q)).1▸(IA (DG p q)).2▸rfl
theorem gm.inj(p:gm h x a)(q:gm h y a):x=y:=by obtain⟨v,t,p⟩:=p;obtain⟨w,aG,q⟩:=q;exact p.inj (aaM (DG t aG)▸q)
theorem PV(hu:A.units+(n+1)<dJ):A.in1.units+n<cLine:=by rw[O3,hU,dZ 1];exact hu
theorem wZ(hu:A.units+n<dJ):A.units<cLine:=bD (cy ..) hu
noncomputable def PW(w:d5):KV->Int|.i n=>y_ n|.s x=>hashStr w x|.p m n=>wc (Dq [y_ m,y_ n])
def PX(w:d5)(k:KV):Int:=wc (Dq [wc (if k.b1 then 1 else 0),wc (if k.b2 then 1 else 0),PW w k])
noncomputable def PY:KV->Nat|.i _=>1|.s _=>1|.p _ _=>3
def PZ(k:KV):Nat:=1+(1+(PY k+0))+1
theorem j0.hash(hu:A.units<dJ)(p:j0 s.heap k v):uG prog w A s v (PW w k) (PY k):=by cases p with|i n t=>exact Iy n t|s n t=>exact aaL n t|p m n t aG p=>exact PT hu p (.cons (Iy m t) (.cons (Iy n aG) .nil))
theorem gm.hash(hu:A.units+4<dJ)(x:gm s.heap k a):uG prog w A s (.ref a) (PX w k) (PZ k):=by obtain⟨v,t,p⟩:=x;exact have h1:=wZ (PV hu);PT (wZ hu) t (.cons (PR h1 _) (.cons (PR h1 _) (.cons (p.hash h1) .nil)))
theorem w0(p:fz h a x):h.IsTuple a x:=p
theorem aaN a b c:((a&&(b&&(c&&true)))&&true)=(a&&b&&c):=by cases a<;>cases b<;>cases c<;>rfl
theorem aaO a b:((a&&(b&&true))&&true)=(a&&b):=by cases a<;>cases b<;>rfl
theorem aaP(hu:A.units<dJ)(p:fz s.heap a #[x1,x2,x3])(q:fz s.heap b #[y1,y2,y3])(h1:kG A.in1 s x1 y1 e1)(h2:kG A.in1 s x2 y2 e2)(h3:kG A.in1 s x3 y3 e3):RcAt A s (.ref a) (.ref b) (e1&&e2&&e3):=aaN e1 e2 e3▸PH (e:=λj=>[e1,e2,e3].getD j true) (w0 p) (w0 q) hu λj j1 j2=>by cases j with|zero=>exact h1|succ j=>cases j with|zero=>exact h2|succ j=>cases j with|zero=>exact h3|succ j=>exact absurd j1 (mV.mpr (qH 3 j))
theorem aaQ(hu:A.units<dJ)(p:fz s.heap a #[x1,x2])(q:fz s.heap b #[y1,y2])(h1:kG A.in1 s x1 y1 e1)(h2:kG A.in1 s x2 y2 e2):RcAt A s (.ref a) (.ref b) (e1&&e2):=aaO e1 e2▸PH (e:=λj=>[e1,e2].getD j true) (w0 p) (w0 q) hu λj j1 j2=>by cases j with|zero=>exact h1|succ j=>cases j with|zero=>exact h2|succ j=>exact absurd j1 (mV.mpr (qH 2 j))
theorem aaR(hu:A.units<dJ)(p:fz s.heap a #[.int m t,.int n aG])(q:fz s.heap b #[.int m' t',.int n' u']):kG A s (.ref a) (.ref b) (m==m'&&n==n'):=by
 by_cases h:a=b;.have e:=IA (DG p (h▸q));exact e.1▸e.2▸h▸(by rw[beq_self_eq_true,beq_self_eq_true];exact Pg _)
 .exact Pf h (aaQ hu p q (zP _ _ _ _) (zP _ _ _ _))
inductive P0(A:dR)(s:aF)(x y:KV)(v w:aa):Prop|mk(e:Bool)(h:kG A s v w e)(d:((x.b1==y.b1)&&(x.b2==y.b2)&&e)=decide (x=y)):P0 A s x y v w
theorem P1{α β:Type}[DecidableEq α][DecidableEq β](f:α->β)(hf:∀x y,f x=f y->x=y) x y:(x==y)=decide (f x=f y):=wD.mpr (beq_iff_eq.trans ((Iff.intro (congrArg f) (hf x y)).trans decide_eq_true_iff.symm))
theorem w5{v w:KV}(h:qJ v.ctorIdx w.ctorIdx=false):v≠w:=λe=>bZ (h.symm.trans (e▸GV v.ctorIdx))
theorem aaS m n m' n':(m==m'&&n==n')=decide (KV.p m n=KV.p m' n'):=wD.mpr (by rw[iV,beq_iff_eq,beq_iff_eq,decide_eq_true_iff];exact⟨λh=>h.1▸h.2▸rfl,λh=>⟨(KV.p.inj h).1,(KV.p.inj h).2⟩⟩)
theorem j0.eq{v w:aa}(hu:A.units<dJ)(p:j0 s.heap x v)(q:j0 s.heap y w):P0 A s x y v w:=by cases p with
 |i n t=>cases q with|i m aG=>exact⟨_,zP _ _ _ _,P1 KV.i (λ_ _=>KV.i.inj) n m⟩|s m aG=>exact⟨_,EqAt.int_str _ _ _ _,(decide_eq_false (w5 rfl)).symm⟩|p m n t aG q=>exact⟨_,EqAt.int_tuple _ _ q hu,(decide_eq_false (w5 rfl)).symm⟩
 |s n t=>cases q with|i m aG=>exact⟨_,EqAt.str_int _ _ _ _,(decide_eq_false (w5 rfl)).symm⟩|s m aG=>exact⟨_,Ig _ _ _ _,P1 KV.s (λ_ _=>KV.s.inj) n m⟩|p m n t aG q=>exact⟨_,EqAt.str_tuple _ _ q hu,(decide_eq_false (w5 rfl)).symm⟩
 |p m n t aG p=>cases q with|i m aG=>exact⟨_,Pe _ _ p hu,(decide_eq_false (w5 rfl)).symm⟩|s m aG=>exact⟨_,EqAt.tuple_str _ _ p hu,(decide_eq_false (w5 rfl)).symm⟩|p m' n' t' u' q=>exact⟨_,aaR hu p q,aaS m n m' n'⟩
theorem gm.eq(hu:A.units+4<dJ)(p:gm s.heap x a)(q:gm s.heap y b):kG A s (.ref a) (.ref b) (decide (x=y)):=by
 by_cases h:a=b;.rw[p.inj (h▸q),decide_eq_true rfl,h];exact Pg _
 .obtain⟨v,t,p⟩:=p;obtain⟨w,aG,q⟩:=q;obtain⟨e,k,d⟩:=p.eq (wZ (PV hu)) q;exact Pf h (d▸aaP (wZ hu) t aG (Ie _ _) (Ie _ _) k)
theorem gm.keeps(x:gm h k a)(ho:h.get? d=some o)(hd:o.data=.dict es ep)(hs:mZ d h h'):gm h' k a:=x.map λb items t=>by obtain⟨o',e,c,n,d'⟩:=t;exact⟨o',(hs.2 b λq=>have e1:o=o':=aJ (ho.symm.trans (q▸e));absurd (hd.symm.trans ((congrArg Obj.data e1).trans d'):It es ep=Data.seq items n) (lr rfl)).trans e,c,n,d'⟩
theorem j0.quiet(p:j0 s.heap k v):Quiet prog w A s 7 v:=by cases p with|i n t=>exact wY rfl|s n t=>exact wY rfl|p m n t aG p=>exact PU p λv hv=>(bX.mp hv).elim (λe=>e▸wY rfl) λhv=>bM.mp hv▸wY rfl
theorem gm.quiet(x:gm s.heap k a):Quiet prog w A s 8 (.ref a):=by obtain⟨v,t,p⟩:=x;exact PU t λv hv=>(bX.mp hv).elim (λe=>e▸wY rfl) λhv=>(bX.mp hv).elim (λe=>e▸wY rfl) λhv=>bM.mp hv▸p.quiet
end
def w6 prog w:HeapKind prog w KV where is:=gm;hash:=PX w;draws:=PZ;room:=λA=>A.units+4<dJ;inj:=λp q=>p.inj q;keeps:=λx ho hd hs=>x.keeps ho hd hs;pyHash:=λ{A E s k a Q}hu x h=>x.hash (prog:=prog) hu E Q s.toks h;eqBool:=λ{A E s x y a b Q}hu p q h=>p.eq hu q prog w E Q h;quiet:=λ{A E s k a Q}x h=>x.quiet E Q h
end
noncomputable section
open PyProof.Rows PySem PySem.Calls PySem.W
inductive V where|none|bool(b:Bool)|int(i:Int)|str(s:Str)|tup(l:List V)|ref(i:Nat)|st(v:aa)deriving Inhabited
inductive MO where|list(l:List V)|bg(kv:List (Int×V))|aV(kv:List (Str×V))|ji(kv:List (KV×V))|inst(c:aj)(d:Nat)|cell(v:Option V)|jE(pr:iz)(body:sv)(sc:cz)(cs:List (Str×Nat))|exc(d:Nat)|tab(cs:List ((Nat×Nat)×Str))deriving Inhabited
abbrev bI:=List (Str×V)
abbrev Fs:=List (aj×bI)
mutual inductive VR(h:a_)(al:List aj):V->aa->Prop|none:VR h al .none .none|bool(b:Bool):VR h al (.bool b) (.bool b)|int(i:Int)(t:Tok):VR h al (.int i) (.int i t)|str(x:Str)(t:Tok):VR h al (.str x) (.str x t)|tup{l:List V}{a:aj}{items:Array aa}:fz h a items->aQ h al l items.toList->VR h al (.tup l) (.ref a)|ref{i:Nat}{a:aj}:al[i]?=some a->VR h al (.ref i) (.ref a)|st(v:aa):VR h al (.st v) v inductive aQ(h:a_)(al:List aj):List V->List aa->Prop|nil:aQ h al [] []|cons{v:V}{p:aa}{l:List V}{r:List aa}:VR h al v p->aQ h al l r->aQ h al (v::l) (p::r)end
@[elab_as_elim]theorem aQ.fA{P:List aa->Prop}(x:aQ h al (v::l) r)(k:∀p r',VR h al v p->aQ h al l r'->P (p::r')):P r:=by cases x with|cons a t=>exact k _ _ a t
theorem aQ.nil_inv(x:aQ h al [] r):r=[]:=by cases x;rfl
@[elab_as_elim]theorem aQ.jj{P:List aa->Prop}(x:aQ h al [] r)(k:P []):P r:=x.nil_inv▸k
theorem aQ.length(x:aQ h al l r):l.length=r.length:=aQ.rec (motive_1:=λ_ _ _=>True) (motive_2:=λl r _=>l.length=r.length) trivial (λ_=>trivial) (λ_ _=>trivial) (λ_ _=>trivial) (λ_ _ _=>trivial) (λ_=>trivial) (λ_=>trivial) rfl (λ_ _ _ e=>congrArg (·+1) e) x
inductive IB(h:a_)(al:List aj)(v:V)(r:List aa)(i:Nat):Prop|mk(p:aa)(e:r[i]?=some p)(x:VR h al v p):IB h al v r i
theorem aQ.get(x:aQ h al l r):∀{i:Nat}{v:V},l[i]?=some v->IB h al v r i:=aQ.rec (motive_1:=λ_ _ _=>True) (motive_2:=λl r _=>∀{i:Nat}{v:V},l[i]?=some v->IB h al v r i) trivial (λ_=>trivial) (λ_ _=>trivial) (λ_ _=>trivial) (λ_ _ _=>trivial) (λ_=>trivial) (λ_=>trivial) (λe=>aE (sQ.symm.trans e)) (λa _ _ ih=>by intro i w e;cases i with|zero=>exact⟨_,rfl,aJ e▸a⟩|succ i=>obtain⟨p,q,x⟩:=ih (i:=i) e;exact⟨p,q,x⟩) x
theorem aQ.append(x:aQ h al l r)(y:aQ h al l' r'):aQ h al (l++l') (r++r'):=aQ.rec (motive_1:=λ_ _ _=>True) (motive_2:=λl r _=>aQ h al (l++l') (r++r')) trivial (λ_=>trivial) (λ_ _=>trivial) (λ_ _=>trivial) (λ_ _ _=>trivial) (λ_=>trivial) (λ_=>trivial) y (λa _ _ t=>.cons a t) x
theorem aQ.take(x:aQ h al l r):∀n,aQ h al (l.take n) (r.take n):=aQ.rec (motive_1:=λ_ _ _=>True) (motive_2:=λl r _=>∀n,aQ h al (l.take n) (r.take n)) trivial (λ_=>trivial) (λ_ _=>trivial) (λ_ _=>trivial) (λ_ _ _=>trivial) (λ_=>trivial) (λ_=>trivial) (λn=>by rw[CX,CX];exact .nil) (λa _ _ ih n=>by cases n with|zero=>exact .nil|succ n=>exact .cons a (ih n)) x
theorem aQ.drop(x:aQ h al l r):∀n,aQ h al (l.drop n) (r.drop n):=aQ.rec (motive_1:=λ_ _ _=>True) (motive_2:=λl r _=>∀n,aQ h al (l.drop n) (r.drop n)) trivial (λ_=>trivial) (λ_ _=>trivial) (λ_ _=>trivial) (λ_ _ _=>trivial) (λ_=>trivial) (λ_=>trivial) (λn=>by rw[CY,CY];exact .nil) (λa t _ ih n=>by cases n with|zero=>exact .cons a t|succ n=>exact ih n) x
theorem aQ.reverse(x:aQ h al l r):aQ h al l.reverse r.reverse:=aQ.rec (motive_1:=λ_ _ _=>True) (motive_2:=λl r _=>aQ h al l.reverse r.reverse) trivial (λ_=>trivial) (λ_ _=>trivial) (λ_ _=>trivial) (λ_ _ _=>trivial) (λ_=>trivial) (λ_=>trivial) .nil (λa _ _ t=>by rw[Hv,Hv];exact t.append (.cons a .nil)) x
abbrev jF(al aT:List aj):Prop:=∀(i:Nat)(a:aj),al[i]?=some a->aT[i]?=some a
def w7(o:Obj):Prop:=(o.cls=.type "tuple"/\∃items n,o.data=.seq items n)\/(∃vs q t,o.data=.fields vs/\vs[1]?=some (.str q t))
def dT(h h':a_):Prop:=∀a o,h.get? a=some o->w7 o->h'.get? a=some o
theorem dT.tup(k:dT h h'){a:aj}{items:Array aa}(t:fz h a items):fz h' a items:=by obtain⟨o,e,c,n,d⟩:=t;exact⟨o,k a o e (.inl ⟨c,items,n,d⟩),c,n,d⟩
theorem dT.code(k:dT h h'){cd:aa}{q:Str}(x:h.CodeRec cd q):h'.CodeRec cd q:=by obtain⟨c,o,vs,t,a,b,d,e⟩:=x;exact⟨c,o,vs,t,a,k c o b (.inr ⟨vs,q,t,d,e⟩),d,e⟩
def Tb(o:Obj):Prop:=∃ts L,o.data=.fields ts/\ts[1]?=some (.ref L)/\5<=ts.size
theorem Tb.kH(t:Tb o)(f:w7 o):False:=by
 obtain⟨ts,L,d,e,-⟩:=t;rcases f with⟨-,xs,n,f⟩|⟨vs,q,aG,f,g⟩;.exact absurd (d.symm.trans f) (lr rfl)
 .exact absurd (aJ (e.symm.trans ((congrArg (·[1]?) (zK (d.symm.trans f))).trans g))) (qS rfl)
structure Kp(h:a_)(al:List aj)(h':a_)(aT:List aj):Prop where
 fix:dT h h'
 tb:∀b o,h.get? b=some o->Tb o->b∉al->∃o',h'.get? b=some o'/\Tb o'
 pos:jF al aT
 new:∀a∈aT,a∈al\/∀o,h.get? a=some o->¬Tb o
theorem Kp.of(k:∀b o,h.get? b=some o->h'.get? b=some o) al:Kp h al h' al:=⟨λa o e _=>k a o e,λb o e t _=>⟨o,k b o e,t⟩,λ_ _ e=>e,λa m=>.inl m⟩
theorem VR.mono(hk:dT h h')(ha:jF al aT){v:V}{p:aa}(x:VR h al v p):VR h' aT v p:=VR.rec (motive_1:=λv p _=>VR h' aT v p) (motive_2:=λl r _=>aQ h' aT l r) .none .bool .int .str (λt _ s=>.tup (hk.tup t) s) (λe=>.ref (ha _ _ e)) .st .nil (λ_ _ a t=>.cons a t) x
theorem aQ.mono(hk:dT h h')(ha:jF al aT){l:List V}{r:List aa}(x:aQ h al l r):aQ h' aT l r:=aQ.rec (motive_1:=λv p _=>VR h' aT v p) (motive_2:=λl r _=>aQ h' aT l r) .none .bool .int .str (λt _ s=>.tup (hk.tup t) s) (λe=>.ref (ha _ _ e)) .st .nil (λ_ _ a t=>.cons a t) x
structure aR where
 prog:kD
 w:d5
 B:a_
 cx:aj
 tab:aj
noncomputable abbrev aR.M(c:aR):Model:=cv c.prog c.w
inductive c_{K:Type}(h:a_)(al:List aj):List (K×V)->List (K×aa)->Prop|nil:c_ h al [] []|cons{p:K×V}{q:aa}{l:List (K×V)}{r:List (K×aa)}:VR h al p.2 q->c_ h al l r->c_ h al (p::l) ((p.1,q)::r)
theorem c_.mono{K:Type}(hk:dT h h')(ha:jF al aT){l:List (K×V)}{r:List (K×aa)}(x:c_ h al l r):c_ h' aT l r:=by induction x with|nil=>exact .nil|cons a t ih=>exact .cons (a.mono hk ha) ih
inductive eh(h:a_)(al:List aj):List (KV×V)->List (KV×aj×aa)->Prop|nil:eh h al [] []|cons{p:KV×V}{b:aj}{q:aa}{l:List (KV×V)}{r:List (KV×aj×aa)}:VR h al p.2 q->eh h al l r->eh h al (p::l) ((p.1,b,q)::r)
theorem eh.mono(hk:dT h h')(ha:jF al aT){l:List (KV×V)}{r:List (KV×aj×aa)}(x:eh h al l r):eh h' aT l r:=by induction x with|nil=>exact .nil|cons a t ih=>exact .cons (a.mono hk ha) ih
theorem dT.key(hk:dT h h'){k:KV}{a:aj}(x:gm h k a):gm h' k a:=x.map λ_ _=>hk.tup
inductive dv(al:List aj):List (Str×Nat)->List (Str×aj)->Prop|nil:dv al [] []|cons{p:Str×Nat}{a:aj}{l:List (Str×Nat)}{r:List (Str×aj)}:al[p.2]?=some a->dv al l r->dv al (p::l) ((p.1,a)::r)
theorem dv.mono(ha:jF al aT){l:List (Str×Nat)}{r:List (Str×aj)}(x:dv al l r):dv aT l r:=by induction x with|nil=>exact .nil|cons a t ih=>exact .cons (ha _ _ a) ih
theorem gN{K β:Type}[DecidableEq K]{k:K}{p:K×β}{l:List (K×β)}:(p::l).lookup k=if p.1=k then some p.2 else l.lookup k:=by
 show wA k ((p.1,p.2)::l)=_;by_cases q:p.1=k;.rw[fL,if_pos q,q,beq_self_eq_true]
 .rw[fL,if_neg q,beq_false_of_ne λz=>q z.symm]
theorem dv.lookup(y:dv al l r):∀{i:Nat},l.lookup x=some i->∃a,r.lookup x=some a/\al[i]?=some a:=by induction y with|nil=>exactλe=>aE e|@cons p b l r a t ih=>
 intro i e;rw[gN]at e⊢;by_cases q:p.1=x;.rw[if_pos q]at e;rw[if_pos q];exact⟨b,rfl,aJ e▸a⟩
 .rw[if_neg q]at e;rw[if_neg q];exact ih e
inductive pL(h:a_)(al:List aj)(a:aj)(l:List V):Prop|mk(items:Array aa)(n:Nat)(x:IsL h a items n)(vs:aQ h al l items.toList):pL h al a l
inductive hZ{K:Type}[DecidableEq K]{prog:kD}{w:d5}(knd:KeyKind prog w K)(h:a_)(al:List aj)(a:aj)(kv:List (K×V)):Prop|mk(kvs:List (K×aa))(d:h.DictOf knd a kvs)(p:c_ h al kv kvs):hZ knd h al a kv
inductive P2(c:aR)(h:a_)(al:List aj)(a:aj)(kv:List (KV×V)):Prop|mk(xs:List (KV×aj×aa))(d:h.DictOfH (w6 c.prog c.w) a xs)(p:eh h al kv xs):P2 c h al a kv
inductive DH(h:a_)(al:List aj)(a C:aj)(d:Nat):Prop|mk(dx:aj)(ed:al[d]?=some dx)(e:h.get? a=some (zF C dx)):DH h al a C d
inductive DI(h:a_)(al:List aj)(a:aj)(v:V):Prop|mk(p:aa)(d:h.IsCell a (some p))(x:VR h al v p):DI h al a v
def oD(h:a_)(al:List aj)(a:aj):Option V->Prop|some v=>DI h al a v|none=>h.IsCell a none
inductive P4(h:a_)(al:List aj)(a:aj)(pr:iz)(body:sv)(sc:cz)(cs:List (Str×Nat)):Prop|mk(o:Obj)(fd:pG)(e:h.get? a=some o)(cl:o.cls=.type "function")(d:o.data=.func fd)(p1:fd.params=pr)(p2:fd.body=body)(p3:fd.scope=sc)(p4:dv al cs fd.closure)(p5:fd.globals=fK)(p6:fd.builtins=hV)(p7:fd.defaults=.none)(p8:fd.kwdefaults=.none)(cr:h.CodeRec fd.code fd.qualname):P4 h al a pr body sc cs
inductive oE(c:aR)(h:a_)(al:List aj)(x:Option aa):Prop|no(q:x=some .none):oE c h al x|has(T:aj)(oT:Obj)(q:x=some (.ref T))(e:h.get? T=some oT)(t:Tb oT)(n:T∉al)(b:c.B.get? T=none):oE c h al x
inductive DJ(c:aR)(h:a_)(al:List aj)(a:aj)(d:Nat):Prop|mk(o:Obj)(dx:aj)(vs:Array aa)(ed:al[d]?=some dx)(e:h.get? a=some o)(cl:o.cls=.ref c.cx)(od:o.dict=some dx)(da:o.data=.fields vs)(sz:5<vs.size)(t:oE c h al vs[1]?):DJ c h al a d
def TabAt(h:a_)(ps:Array aa)(pos:Pos):Option Str->Prop|some q=>∃c',pF pos ps.toList=some (.ref c')/\h.CodeRec (.ref c') q|none=>pF pos ps.toList=none
inductive kI:List aa->Prop|nil:kI []|cons(a:Int)(t:Tok)(b:Int)(aG:Tok)(x:aa)(r:List aa)(y:kI r):kI (.int a t::.int b aG::x::r)
theorem kI.ok(x:kI l):TriplesOk l:=by induction x with|nil=>exact trivial|cons a t b aG x r y ih=>exact ih
theorem kI.one(x:kI l){v:aa}(e:l[1]?=some v):∃n t,v=.int n t:=by cases x with|nil=>exact aE (sQ.symm.trans e)|cons a t b aG=>exact⟨b,aG,(aJ e).symm⟩
theorem kI.app(x:kI l)(y:kI m):kI (l++m):=by induction x with|nil=>exact y|cons a t b aG x r _ ih=>exact .cons a t b aG x _ ih
theorem kI.among(x:kI l) pos:pF pos (l++m)=(pF pos l).or (pF pos m):=by induction x with|nil=>exact HW.symm|cons a t b aG x r _ ih=>
 show(if(a==pos.line&&b==pos.col)=true then some x else pF pos (r++m))=(if(a==pos.line&&b==pos.col)=true then some x else pF pos r).or _;by_cases q:(a==pos.line&&b==pos.col)=true;.rw[if_pos q,if_pos q];rfl
 .rw[if_neg q,if_neg q];exact ih
inductive P5(h:a_)(a:aj)(cs:List ((Nat×Nat)×Str)):Prop|mk(ps:Array aa)(e:h.get? a=some (wV ps))(tr:kI ps.toList)(k:∀pos:Pos,TabAt h ps pos (cs.lookup (pos.line,pos.col))):P5 h a cs
def eB(c:aR)(h:a_)(al:List aj)(a:aj):MO->Prop|.list l=>pL h al a l|.bg kv=>hZ (jd c.prog c.w) h al a kv|.aV kv=>hZ (strKind c.prog c.w) h al a kv|.ji kv=>P2 c h al a kv|.inst C d=>DH h al a C d|.cell v=>oD h al a v|.jE pr body sc cs=>P4 h al a pr body sc cs|.exc d=>DJ c h al a d|.tab cs=>P5 h a cs
def h_(h:a_)(al:List aj)(p:aj×bI):Prop:=∃m,h.Ns p.1 m/\∀x v,p.2.lookup x=some v->∃q,m x=some q/\VR h al v q
structure SR(c:aR)(h:a_)(al:List aj)(u:List MO)(fs:Fs):Prop where
 base:∀b o,c.B.get? b=some o->h.get? b=some o
 off:∀a∈al++fs.map (·.1),c.B.get? a=none
 len:al.length=u.length
 nd:(al++fs.map (·.1)).Nodup
 obj:∀(i:Nat)(mo:MO)(a:aj),u[i]?=some mo->al[i]?=some a->eB c h al a mo
 fr:∀p∈fs,h_ h al p
structure a8(h:a_)(al:List aj)(fa:List aj)(h':a_)(aT:List aj):Prop where
 live:∀b o,h.get? b=some o->∃o',h'.get? b=some o'
 keep:∀b o,h.get? b=some o->b∉al->b∉fa->∃o',h'.get? b=some o'/\(o'=o\/(Tb o/\Tb o'))ext:∃new,aT=al++new/\∀a∈new,h.get? a=none
def cW(s s':aF):Prop:=s'.gens=s.gens/\s'.drawn=s.drawn/\s'.os=s.os
theorem cW.refl s:cW s s:=⟨rfl,rfl,rfl⟩
theorem cW.trans(x:cW s s')(y:cW s' IE):cW s IE:=⟨y.1.trans x.1,y.2.1.trans x.2.1,y.2.2.trans x.2.2⟩
theorem a8.refl h al fa:a8 h al fa h al:=⟨λ_ o e=>⟨o,e⟩,λ_ o e _ _=>⟨o,e,.inl rfl⟩,[],by simp,λ_ m=>absurd m eH⟩
theorem a8.trans(x:a8 h al fa az dM)(y:a8 az dM fa bl d1):a8 h al fa bl d1:=by
 obtain⟨x1,x2,n,xe,hn⟩:=x;obtain⟨y1,y2,n',ye,fB⟩:=y;refine⟨λb o e=>let⟨o',e'⟩:=x1 b o e;y1 b o' e',λb o e h1 h2=>?_,n++n',by rw[ye,xe,cS],λa ha=>(cV.mp ha).elim (hn a) λq=>?_⟩;.obtain⟨w8,jk,ck⟩:=x2 b o e h1 h2;obtain⟨zS,uI,ia⟩:=y2 b w8 jk (λq=>(cV.mp (xe▸q)).elim h1 λq=>zQ (e.symm.trans (hn b q))) h2;exact⟨zS,uI,ck.elim (λk=>k▸ia) λt=>.inr ⟨t.1,ia.elim (λk=>k▸t.2) DF⟩⟩
 .cases z:h.get? a with|none=>rfl|some o=>obtain⟨o',e'⟩:=x1 a o z;exact zQ (e'.symm.trans (fB a q))
theorem kJ:jF al (al++n):=λi a e=>(ew (cn.mp e).1).trans e
theorem a8.at(x:a8 h al fa h' aT):jF al aT:=by obtain⟨n,e,-⟩:=x.ext;exact e▸kJ
structure iW(b:Bool)(o:Obj):Prop where seq:∀xs n,o.data=.seq xs n->o.cls≠.type "tuple"fld:∀vs,o.data=.fields vs->∀v,vs[1]?=some v->(∀q t,v≠.str q t)/\(b=true->∀L,v≠.ref L)
inductive gn(h:a_)(a:aj)(b:Bool):Prop|mk(o:Obj)(e:h.get? a=some o)(k:iW b o):gn h a b
theorem iW.of(e:o.data=d)(h1:∀xs n,d≠.seq xs n)(h2:∀vs,d≠.fields vs):iW b o:=⟨λxs n q=>absurd (e.symm.trans q) (h1 xs n),λvs q=>absurd (e.symm.trans q) (h2 vs)⟩
theorem aaT{p:Prop}(h:It a b=.seq c d):p:=absurd h (lr rfl)
theorem P6{p:Prop}(h:It a b=.fields c):p:=absurd h (lr rfl)
theorem iW.dict(e:o.data=.dict es ep):iW b o:=.of e (λ_ _=>aaT) λ_=>P6
theorem iW.cell(e:o.data=.cell v):iW b o:=.of e (λ_ _=>lr rfl) λ_=>lr rfl
theorem iW.func(e:o.data=.func v):iW b o:=.of e (λ_ _=>lr rfl) λ_=>lr rfl
theorem hZ.look{K:Type}[DecidableEq K]{prog:kD}{w:d5}{knd:KeyKind prog w K}{h:a_}{al:List aj}{a:aj}{kv:List (K×V)}{b:Bool}(x:hZ knd h al a kv):gn h a b:=by obtain⟨kvs,⟨o,es,ep,e,-,d,-⟩,-⟩:=x;exact⟨o,e,.dict d⟩
theorem oD.look(x:oD h al a v):gn h a b:=by cases v with|none=>obtain⟨o,e,d⟩:=x;exact⟨o,e,.cell d⟩|some v=>obtain⟨p,⟨o,e,d⟩,-⟩:=x;exact⟨o,e,.cell d⟩
theorem aaU:l7≠.str q aG:=qS rfl
theorem aaV:jD T≠.str q aG:=qS rfl
theorem oE.fld(t:oE c h al x){v:aa}(e:x=some v):∀q aG,v≠.str q aG:=by cases t with|no q=>exact aJ (q.symm.trans e)▸λ_ _=>aaU|has T oT q=>exact aJ (q.symm.trans e)▸λ_ _=>aaV
noncomputable def fM:MO->Bool|.exc _=>false|_=>true
theorem eB.look(x:eB c h al a mo):gn h a (fM mo):=by cases mo with|list l=>obtain⟨items,n,e,-⟩:=x;exact⟨_,e,λ_ _ _ q=>absurd (Ph q) ai,λ_ q=>absurd q (lr rfl)⟩|bg kv=>exact hZ.look x|aV kv=>exact hZ.look x|ji kv=>obtain⟨xs,⟨o,es,ep,e,-,d,-⟩,-⟩:=x;exact⟨o,e,.dict d⟩|inst C dd=>obtain⟨dx,-,e⟩:=x;exact⟨_,e,λ_ _ q=>absurd q (lr rfl),λ_ q=>absurd q (lr rfl)⟩|cell v=>exact oD.look x|jE=>obtain⟨o,fd,e,-,d,-⟩:=x;exact⟨o,e,.func d⟩|exc dd=>obtain⟨o,dx,vs,-,e,-,-,d,-,t⟩:=x;exact⟨o,e,λ_ _ q=>absurd (d.symm.trans q) (lr rfl),λws q v y=>⟨t.fld (zK (d.symm.trans q)▸y),bZ⟩⟩|tab cs=>obtain⟨ps,e,tr,-⟩:=x;exact⟨_,e,λ_ _ q=>absurd q (lr rfl),λws q v y=>by obtain⟨n,t,z⟩:=tr.one (jC.trans ((congrArg (·[1]?) (zK q)).trans y));exact z▸⟨λ_ _=>qS rfl,λ_ _=>qS rfl⟩⟩
theorem iW.fix(k:iW b o)(t:w7 o):False:=by
 rcases t with⟨c,_,_,d⟩|⟨_,_,_,d,e⟩;.exact k.1 _ _ d c
 .exact(k.2 _ d _ e).1 _ _ rfl
theorem iW.tb(k:iW true o)(t:Tb o):False:=by obtain⟨_,_,d,e,-⟩:=t;exact(k.2 _ d _ e).2 rfl _ rfl
theorem eB.aaW(x:eB c h al a mo)(hx:fM mo=true){o:Obj}(e:h.get? a=some o)(t:Tb o):False:=by obtain⟨o',e',k⟩:=x.look;exact iW.tb (hx▸k) (aJ (e.symm.trans e')▸t)
theorem eB.there(x:eB c h al a mo):∃o,h.get? a=some o:=by obtain⟨o',e',-⟩:=x.look;exact⟨o',e'⟩
theorem DK{l:List aj}(nd:l.Nodup){i j:Nat}{a:aj}(hi:l[i]?=some a)(hj:l[j]?=some a):i=j:=by obtain⟨l1,g1⟩:=cn.mp hi;exact(List.getElem?_inj l1 nd).mp (hi.trans hj.symm)
theorem h_.look(x:h_ h al p):gn h p.1 true:=by obtain⟨m,⟨o,es,ep,e,d,-⟩,-⟩:=x;exact⟨o,e,.dict d⟩
theorem gn.fix(x:gn h a b){o:Obj}(e:h.get? a=some o)(t:w7 o):False:=by obtain⟨o',e',k⟩:=x;exact k.fix (aJ (e.symm.trans e')▸t)
theorem gn.tb(x:gn h a true){o:Obj}(e:h.get? a=some o)(t:Tb o):False:=by obtain⟨o',e',k⟩:=x;exact k.tb (aJ (e.symm.trans e')▸t)
theorem gn.there(x:gn h a b):∃o,h.get? a=some o:=by obtain⟨o',e',-⟩:=x;exact⟨o',e'⟩
inductive P7(c:aR)(h:a_)(al:List aj)(u:List MO)(a:aj):Prop|mk(i:Nat)(mo:MO)(e:u[i]?=some mo)(ea:al[i]?=some a)(x:eB c h al a mo):P7 c h al u a
theorem SR.at(R:SR c h al u fs){a:aj}(m:a∈al):P7 c h al u a:=by obtain⟨i,ei⟩:=lZ.mp m;have hl:i<u.length:=R.len▸(cn.mp ei).1;exact⟨i,u[i],cp hl,ei,R.obj i u[i] a (cp hl) ei⟩
theorem SR.lk(R:SR c h al u fs){a:aj}(m:a∈al++fs.map (·.1)):gn h a false:=by
 refine(cV.mp m).elim (λq=>?_) λq=>?_;.obtain⟨i,mo,-,-,x⟩:=R.at q;obtain⟨o,e,k⟩:=x.look;exact⟨o,e,k.seq,λvs d v y=>⟨(k.fld vs d v y).1,bZ⟩⟩
 .obtain⟨p,hp,e⟩:=dS.mp q;obtain⟨o,e',k⟩:=(R.fr p hp).look;exact⟨o,e▸e',k.seq,λvs d v y=>⟨(k.fld vs d v y).1,bZ⟩⟩
theorem SR.kH(R:SR c h al u fs){a:aj}{o:Obj}(e:h.get? a=some o)(t:w7 o):a∉al/\a∉fs.map (·.1):=⟨λq=>(R.lk (eG _ q)).fix e t,λq=>(R.lk (gi _ q)).fix e t⟩
theorem SR.fix(R:SR c h al u fs)(S:a8 h al (fs.map (·.1)) h' aT):dT h h':=λa o e t=>by obtain⟨o',e',k⟩:=S.keep a o e (R.kH e t).1 (R.kH e t).2;exact k.elim (λk=>k▸e') λk=>(k.1.kH t).elim
theorem SR.vr(R:SR c h al u fs)(S:a8 h al (fs.map (·.1)) h' aT){v:V}{p:aa}(x:VR h al v p):VR h' aT v p:=x.mono (R.fix S) S.at
theorem SR.w9(R:SR c h al u fs)(S:a8 h al (fs.map (·.1)) h' aT){v:List V}{p:List aa}(x:aQ h al v p):aQ h' aT v p:=x.mono (R.fix S) S.at
theorem hZ.keep{K:Type}[DecidableEq K]{prog:kD}{w:d5}{knd:KeyKind prog w K}{a:aj}{kv:List (K×V)}(x:hZ knd h al a kv)(e:∀o,h.get? a=some o->h'.get? a=some o)(hk:dT h h')(ha:jF al aT):hZ knd h' aT a kv:=by obtain⟨kvs,⟨o,es,ep,e',r⟩,y⟩:=x;exact⟨kvs,⟨o,es,ep,e o e',r⟩,y.mono hk ha⟩
theorem oD.keep(x:oD h al a v)(e:∀o,h.get? a=some o->h'.get? a=some o)(hk:dT h h')(ha:jF al aT):oD h' aT a v:=by cases v with|none=>obtain⟨o',e',r⟩:=x;exact⟨o',e o' e',r⟩|some v=>obtain⟨p,⟨o',e',r⟩,y⟩:=x;exact⟨p,⟨o',e o' e',r⟩,y.mono hk ha⟩
theorem oE.keep(x:oE c h al v)(K:Kp h al h' aT):oE c h' aT v:=by cases x with|no q=>exact .no q|has T oT q e t n b=>obtain⟨aaX,u1,u2⟩:=K.tb T oT e t n;exact .has T aaX q u1 u2 (λm=>(K.new T m).elim n λm=>m oT e t) b
theorem TabAt.keep(x:TabAt h ps pos q)(hk:dT h h'):TabAt h' ps pos q:=by cases q with|none=>exact x|some q=>obtain⟨c',p,q⟩:=x;exact⟨c',p,hk.code q⟩
theorem eB.keep(x:eB c h al a mo)(e:∀o,h.get? a=some o->h'.get? a=some o)(K:Kp h al h' aT):eB c h' aT a mo:=by cases mo with|list l=>obtain⟨items,n,q,y⟩:=x;exact⟨items,n,e _ q,y.mono K.fix K.pos⟩|bg kv=>exact hZ.keep x e K.fix K.pos|aV kv=>exact hZ.keep x e K.fix K.pos|ji kv=>obtain⟨xs,⟨o',es,ep,e',r,d,f,g,i⟩,y⟩:=x;exact⟨xs,⟨o',es,ep,e o' e',r,d,f,λx hx=>K.fix.key (g x hx),i⟩,y.mono K.fix K.pos⟩|inst C dd=>obtain⟨dx,r,e'⟩:=x;exact⟨dx,K.pos _ _ r,e _ e'⟩|cell v=>exact oD.keep x e K.fix K.pos|jE=>obtain⟨o',fd,e',c',d',p1,p2,p3,p4,p5,p6,p7,p8,cr⟩:=x;exact⟨o',fd,e o' e',c',d',p1,p2,p3,p4.mono K.pos,p5,p6,p7,p8,K.fix.code cr⟩|exc dd=>obtain⟨o',dx,vs,r,e',c',q,d,z,t⟩:=x;exact⟨o',dx,vs,K.pos _ _ r,e o' e',c',q,d,z,t.keep K⟩|tab cs=>obtain⟨ps,e',tr,k⟩:=x;exact⟨ps,e _ e',tr,λpos=>(k pos).keep K.fix⟩
theorem h_.keep(x:h_ h al p)(e:∀o,h.get? p.1=some o->h'.get? p.1=some o)(hk:dT h h')(ha:jF al aT):h_ h' aT p:=by obtain⟨m,⟨o,es,ep,eo,r⟩,k⟩:=x;exact⟨m,⟨o,es,ep,e o eo,r⟩,λx v q=>let⟨y,z,t⟩:=k x v q;⟨y,z,t.mono hk ha⟩⟩
theorem SR.lt(R:SR c h al u fs){a:aj}(m:a∈al++fs.map (·.1)):a<h.objs.size:=by obtain⟨o,e⟩:=(R.lk m).there;exact eW e
theorem SR.keep(R:SR c h al u fs)(k:∀b o,h.get? b=some o->h'.get? b=some o):SR c h' al u fs:=⟨λb o e=>k b o (R.base b o e),R.off,R.len,R.nd,λi mo a e ea=>(R.obj i mo a e ea).keep (λo=>k a o) (.of k al),λp hp=>(R.fr p hp).keep (λo=>k _ o) (λa o e _=>k a o e) (λ_ _ e=>e)⟩
theorem a8.of_keep(k:∀b o,h.get? b=some o->h'.get? b=some o) al fa:a8 h al fa h' al:=⟨λb o e=>⟨o,k b o e⟩,λb o e _ _=>⟨o,k b o e,.inl rfl⟩,[],by simp,λ_ m=>absurd m eH⟩
theorem SR.DL(R:SR c h al u fs){b:aj}{o:Obj}(e:c.B.get? b=some o):b∉al++fs.map (·.1):=λq=>zQ (e.symm.trans (R.off b q))
theorem DM{α:Type}{l:List α}{x y:α}(h:¬i<l.length)(e:(l++[x])[i]?=some y):i=l.length/\x=y:=by rw[eS (jc h)]at e;cases q:i-l.length with|zero=>rw[q]at e;exact⟨ot (Nat.sub_eq_zero_iff_le.mp q) (jc h),aJ e⟩|succ n=>rw[q]at e;exact aE e
theorem SR.push(R:SR c h al u fs){o:Obj}{mo:MO}(hf:o.isFreed=false)(x:eB c (h.push o) (al++[h.objs.size]) h.objs.size mo):SR c (h.push o) (al++[h.objs.size]) (u++[mo]) fs/\a8 h al (fs.map (·.1)) (h.push o) (al++[h.objs.size]):=by
 have k:∀b o',h.get? b=some o'->(h.push o).get? b=some o':=λb o' e=>d6 _ e;have hn:h.objs.size∉al++fs.map (·.1):=λm=>mU _ (R.lt m);have new:∀a∈[h.objs.size],h.get? a=none:=λa m=>bM.mp m▸zq (br _);refine⟨⟨λb o' e=>k b o' (R.base b o' e),λa m=>?_,by rw[aX,aX,R.len];rfl,?_,λi mo' a e ea=>?_,λp hp=>(R.fr p hp).keep (λo'=>k _ o') (λa o' e _=>k a o' e) kJ⟩,⟨λb o' e=>⟨o',k b o' e⟩,λb o' e _ _=>⟨o',k b o' e,.inl rfl⟩,[h.objs.size],rfl,new⟩⟩;.rw[cS]at m;refine(cV.mp m).elim (λm=>R.off a (eG _ m)) λm=>(bX.mp m).elim (λq=>?_) λm=>R.off a (gi _ m);cases z:c.B.get? a with|none=>rfl|some o=>exact absurd (eW (R.base _ o z)) (q▸mU _)
 .rw[cS];exact(wx.nodup_iff).mpr (jg.mpr ⟨hn,R.nd⟩)
 .by_cases hi:i<al.length;.rw[ew (R.len▸hi)]at e;rw[ew hi]at ea;exact(R.obj i mo' a e ea).keep (λo'=>k a o') ⟨λa o' e _=>k a o' e,λb o' e t _=>⟨o',k b o' e,t⟩,kJ,λa m=>(cV.mp m).imp id λm o e=>zQ (e.symm.trans (new a m))⟩
  .exact(DM hi ea).2▸(DM (R.len▸hi) e).2▸x
theorem aaY{l:List MO}(e:(l.set i x)[j]?=some y):(i=j/\x=y)\/(i≠j/\l[j]?=some y):=by
 rw[List.getElem?_set]at e;by_cases q:i=j
 .rw[if_pos q]at e;by_cases z:i<l.length;.rw[if_pos z]at e;exact .inl ⟨q,aJ e⟩
  .rw[if_neg z]at e;exact aE e
 .rw[if_neg q]at e;exact .inr ⟨q,e⟩
theorem SR.set(R:SR c h al u fs){i:Nat}{mo mo':MO}{a:aj}(e:u[i]?=some mo)(ea:al[i]?=some a)(k:∀b o,h.get? b=some o->b≠a->h'.get? b=some o)(x:eB c h' al a mo'):SR c h' al (u.set i mo') fs/\a8 h al (fs.map (·.1)) h' al:=by
 have ma:a∈al:=ez ea;have kf:dT h h':=λb o eb t=>k b o eb λq=>(R.kH eb t).1 (q▸ma);refine⟨⟨λb o eb=>k b o (R.base b o eb) λq=>R.DL eb (q▸eG _ ma),R.off,by rw[List.length_set];exact R.len,R.nd,λj aaZ b e2 eb=>(aaY e2).elim (λq=>?_) λq=>?_,λp hp=>(R.fr p hp).keep (λo eo=>k _ o eo λq=>(gH.mp R.nd).2.2 a ma p.1 (sN hp) q.symm) kf λ_ _ e=>e⟩,⟨λb o eb=>?_,λb o eb h1 _=>⟨o,k b o eb λq=>h1 (q▸ma),.inl rfl⟩,[],(cG _).symm,λ_ m=>absurd m eH⟩⟩;.exact q.2▸aJ ((q.1▸ea).symm.trans eb)▸x
 .exact(R.obj j aaZ b q.2 eb).keep (λo eo=>k b o eo λz=>q.1 (DK (gH.mp R.nd).1 ea (z▸eb))) ⟨kf,λb o e t m=>⟨o,k b o e λq=>m (q▸ma),t⟩,λ_ _ e=>e,λa m=>.inl m⟩
 .by_cases q:b=a;.exact q▸x.there
  .exact⟨o,k b o eb q⟩
inductive P8(B h':a_)(b:aj)(o:Obj):Prop|mk(o':Obj)(e:h'.get? b=some o')(k:o'=o\/(Tb o/\Tb o'/\B.get? b=none)):P8 B h' b o
theorem SR.shift(R:SR c h al u fs)(kp:∀b o,h.get? b=some o->b∉al->b∉fs.map (·.1)->∃o',h'.get? b=some o'/\(o'=o\/(Tb o/\Tb o'/\c.B.get? b=none)))(ka:∀(i:Nat)(a:aj)(mo:MO),al[i]?=some a->u[i]?=some mo->(∀o,h.get? a=some o->h'.get? a=some o)\/eB c h' al a mo)(kf:∀p∈fs,∀o,h.get? p.1=some o->∃sl,h'.get? p.1=some {o with slots:=sl}):SR c h' al u fs/\a8 h al (fs.map (·.1)) h' al:=by
 have kp:∀b o,h.get? b=some o->b∉al->b∉fs.map (·.1)->P8 c.B h' b o:=λb o e h1 h2=>let⟨o',e',k⟩:=kp b o e h1 h2;⟨o',e',k⟩;have fx:dT h h':=λa o e t=>by obtain⟨o',e',k⟩:=kp a o e (R.kH e t).1 (R.kH e t).2;exact k.elim (λk=>k▸e') λk=>(k.1.kH t).elim
 have kk:Kp h al h' al:=⟨fx,λb o e t m=>by obtain⟨o',e',k⟩:=kp b o e m λq=>let⟨p,hp,z⟩:=dS.mp q;(R.fr p hp).look.tb (z.symm▸e) t;exact⟨o',e',k.elim (λk=>k▸t) λk=>k.2.1⟩,λ_ _ e=>e,λa m=>.inl m⟩;refine⟨⟨λb o e=>?_,R.off,R.len,R.nd,λi mo a e ea=>(ka i a mo ea e).elim (λk=>(R.obj i mo a e ea).keep k kk) id,λp hp=>?_⟩,⟨λb o e=>?_,λb o e h1 h2=>?_,[],(cG _).symm,λ_ m=>absurd m eH⟩⟩;.obtain⟨o',e',k⟩:=kp b o (R.base b o e) (λq=>R.DL e (eG _ q)) λq=>R.DL e (gi _ q);exact k.elim (λk=>k▸e') λk=>zQ (e.symm.trans k.2.2)
 .obtain⟨m,⟨o,es,ep,e,d,r⟩,k⟩:=R.fr p hp;obtain⟨sl,e'⟩:=kf p hp o e;exact⟨m,⟨_,es,ep,e',d,r⟩,λx v q=>let⟨y,w,t⟩:=k x v q;⟨y,w,t.mono fx λ_ _ e=>e⟩⟩
 .by_cases ma:b∈al;.obtain⟨i,mo,ei,ea,-⟩:=R.at ma;exact(ka i b mo ea ei).elim (λk=>⟨o,k o e⟩) eB.there
  .by_cases mf:b∈fs.map (·.1);.obtain⟨p,hp,z⟩:=dS.mp mf;obtain⟨sl,e'⟩:=kf p hp o (z.symm▸e);exact⟨_,z▸e'⟩
   .obtain⟨o',e',-⟩:=kp b o e ma mf;exact⟨o',e'⟩
 .obtain⟨o',e',k⟩:=kp b o e h1 h2;exact⟨o',e',k.imp id λk=>⟨k.1,k.2.1⟩⟩
section
universe aG
variable{α:Sort aG}
noncomputable def V.iB(v:V)(f:Int->α)(d:α):α:=V.casesOn (motive_1:=λ_=>α) v d (λ_=>d) f (λ_=>d) (λ_=>d) (λ_=>d) λ_=>d
noncomputable def V.j3(v:V)(f:Str->α)(d:α):α:=V.casesOn (motive_1:=λ_=>α) v d (λ_=>d) (λ_=>d) f (λ_=>d) (λ_=>d) λ_=>d
noncomputable def V.qT(v:V)(f:Bool->α)(d:α):α:=V.casesOn (motive_1:=λ_=>α) v d f (λ_=>d) (λ_=>d) (λ_=>d) (λ_=>d) λ_=>d
noncomputable def V.DN(v:V)(f:List V->α)(d:α):α:=V.casesOn (motive_1:=λ_=>α) v d (λ_=>d) (λ_=>d) (λ_=>d) f (λ_=>d) λ_=>d
noncomputable def V.qU(v:V)(f:Nat->α)(d:α):α:=V.casesOn (motive_1:=λ_=>α) v d (λ_=>d) (λ_=>d) (λ_=>d) (λ_=>d) f λ_=>d
noncomputable def V.zT(v:V)(f:aa->α)(d:α):α:=V.casesOn (motive_1:=λ_=>α) v d (λ_=>d) (λ_=>d) (λ_=>d) (λ_=>d) (λ_=>d) f
noncomputable def MO.lu(m:MO)(f:List V->α)(d:α):α:=MO.casesOn (motive:=λ_=>α) m f (λ_=>d) (λ_=>d) (λ_=>d) (λ_ _=>d) (λ_=>d) (λ_ _ _ _=>d) (λ_=>d) λ_=>d
noncomputable def MO.DO(m:MO)(f:List (Int×V)->α)(d:α):α:=MO.casesOn (motive:=λ_=>α) m (λ_=>d) f (λ_=>d) (λ_=>d) (λ_ _=>d) (λ_=>d) (λ_ _ _ _=>d) (λ_=>d) λ_=>d
noncomputable def MO.j3(m:MO)(f:List (Str×V)->α)(d:α):α:=MO.casesOn (motive:=λ_=>α) m (λ_=>d) (λ_=>d) f (λ_=>d) (λ_ _=>d) (λ_=>d) (λ_ _ _ _=>d) (λ_=>d) λ_=>d
noncomputable def MO.IF(m:MO)(f:Option V->α)(d:α):α:=MO.casesOn (motive:=λ_=>α) m (λ_=>d) (λ_=>d) (λ_=>d) (λ_=>d) (λ_ _=>d) f (λ_ _ _ _=>d) (λ_=>d) λ_=>d
noncomputable def aU{β:Type}(x:Option β)(f:β->α)(d:α):α:=HY (motive:=λ_=>α) x d f
noncomputable def oG(e:aq)(f:Str->Pos->α)(d:α):α:=if h:e.ctorIdx=23 then zN (motive_1:=λ_=>α) e h f else d
noncomputable def pM(e:aq)(f:aq->Str->Pos->α)(d:α):α:=if h:e.ctorIdx=20 then zA (motive_1:=λ_=>α) e h f else d
noncomputable def w_(e:aq)(f:aq->aq->Pos->α)(d:α):α:=if h:e.ctorIdx=21 then zB (motive_1:=λ_=>α) e h f else d
noncomputable def xb(e:aq)(f:aq->List aq->List wk->Pos->α)(d:α):α:=if h:e.ctorIdx=16 then sY (motive_1:=λ_=>α) e h f else d
noncomputable def xd(e:aq)(f:List aq->Nat->Pos->α)(d:α):α:=if h:e.ctorIdx=25 then Ij (motive_1:=λ_=>α) e h f else d
noncomputable def IG(e:aq)(f:Const->Nat->Pos->α)(d:α):α:=if h:e.ctorIdx=19 then Ib (motive_1:=λ_=>α) e h f else d
noncomputable def IH(e:aq)(f:Option aq->Option aq->Option aq->Pos->α)(d:α):α:=if h:e.ctorIdx=26 then Ik (motive_1:=λ_=>α) e h f else d
noncomputable def II(e:aq)(f:aq->List Cq->cz->Pos->α)(d:α):α:=if h:e.ctorIdx=8 then Ic (motive_1:=λ_=>α) e h f else d
theorem DP{β:Type}{f:Str->Pos->Option β}{r:β}(h:oG e f none=some r):∃x p,e=.Name x p/\f x p=some r:=by
 unfold oG at h;by_cases q:e.ctorIdx=23;.rw[dif_pos q]at h;exact zN (motive_1:=λe=>∀q,zN (motive_1:=λ_=>Option β) e q f=some r->∃x p,e=.Name x p/\f x p=some r) e q (λ_ _ _ h=>⟨_,_,rfl,h⟩) q h
 .rw[dif_neg q]at h;exact aE h
theorem P9{β:Type}{f:aq->Str->Pos->Option β}{r:β}(h:pM e f none=some r):∃o x p,e=.Attribute o x p/\f o x p=some r:=by
 unfold pM at h;by_cases q:e.ctorIdx=20;.rw[dif_pos q]at h;exact zA (motive_1:=λe=>∀q,zA (motive_1:=λ_=>Option β) e q f=some r->∃o x p,e=.Attribute o x p/\f o x p=some r) e q (λ_ _ _ _ h=>⟨_,_,_,rfl,h⟩) q h
 .rw[dif_neg q]at h;exact aE h
theorem aa0{β:Type}{f:aq->aq->Pos->Option β}{r:β}(h:w_ e f none=some r):∃o x p,e=.Subscript o x p/\f o x p=some r:=by
 unfold w_ at h;by_cases q:e.ctorIdx=21;.rw[dif_pos q]at h;exact zB (motive_1:=λe=>∀q,zB (motive_1:=λ_=>Option β) e q f=some r->∃o x p,e=.Subscript o x p/\f o x p=some r) e q (λ_ _ _ _ h=>⟨_,_,_,rfl,h⟩) q h
 .rw[dif_neg q]at h;exact aE h
theorem P_{β:Type}{f:aq->List aq->List wk->Pos->Option β}{r:β}(h:xb e f none=some r):∃g as ks p,e=.Call g as ks p/\f g as ks p=some r:=by
 unfold xb at h;by_cases q:e.ctorIdx=16;.rw[dif_pos q]at h;exact sY (motive_1:=λe=>∀q,sY (motive_1:=λ_=>Option β) e q f=some r->∃g as ks p,e=.Call g as ks p/\f g as ks p=some r) e q (λ_ _ _ _ _ h=>⟨_,_,_,_,rfl,h⟩) q h
 .rw[dif_neg q]at h;exact aE h
theorem P'{β:Type}{f:List aq->Nat->Pos->Option β}{r:β}(h:xd e f none=some r):∃ts k p,e=.Tuple ts k p/\f ts k p=some r:=by
 unfold xd at h;by_cases q:e.ctorIdx=25;.rw[dif_pos q]at h;exact Ij (motive_1:=λe=>∀q,Ij (motive_1:=λ_=>Option β) e q f=some r->∃ts k p,e=.Tuple ts k p/\f ts k p=some r) e q (λ_ _ _ _ h=>⟨_,_,_,rfl,h⟩) q h
 .rw[dif_neg q]at h;exact aE h
theorem Qa{β:Type}{f:Const->Nat->Pos->Option β}{r:β}(h:IG e f none=some r):∃c k p,e=.Constant c k p/\f c k p=some r:=by
 unfold IG at h;by_cases q:e.ctorIdx=19;.rw[dif_pos q]at h;exact Ib (motive_1:=λe=>∀q,Ib (motive_1:=λ_=>Option β) e q f=some r->∃c k p,e=.Constant c k p/\f c k p=some r) e q (λ_ _ _ _ h=>⟨_,_,_,rfl,h⟩) q h
 .rw[dif_neg q]at h;exact aE h
theorem aa1{β:Type}{f:Option aq->Option aq->Option aq->Pos->Option β}{r:β}(h:IH e f none=some r):∃a b c p,e=.Slice a b c p/\f a b c p=some r:=by
 unfold IH at h;by_cases q:e.ctorIdx=26;.rw[dif_pos q]at h;exact Ik (motive_1:=λe=>∀q,Ik (motive_1:=λ_=>Option β) e q f=some r->∃a b c p,e=.Slice a b c p/\f a b c p=some r) e q (λ_ _ _ _ _ h=>⟨_,_,_,_,rfl,h⟩) q h
 .rw[dif_neg q]at h;exact aE h
theorem aa2{β:Type}{f:aq->List Cq->cz->Pos->Option β}{r:β}(h:II e f none=some r):∃a b c p,e=.ListComp a b c p/\f a b c p=some r:=by
 unfold II at h;by_cases q:e.ctorIdx=8;.rw[dif_pos q]at h;exact Ic (motive_1:=λe=>∀q,Ic (motive_1:=λ_=>Option β) e q f=some r->∃a b c p,e=.ListComp a b c p/\f a b c p=some r) e q (λ_ _ _ _ _ h=>⟨_,_,_,_,rfl,h⟩) q h
 .rw[dif_neg q]at h;exact aE h
theorem bH{β γ:Type}{x:Option β}{f:β->Option γ}{r:γ}(h:aU x f none=some r):∃a,x=some a/\f a=some r:=by cases x with|none=>exact aE h|some a=>exact⟨a,rfl,h⟩
theorem aa3{β γ:Type}{x:Option β}{f:β->Option γ}{r:γ}(h:x.bind f=some r):∃a,x=some a/\f a=some r:=Option.bind_eq_some_iff.mp h
theorem map_some{β γ:Type}{x:Option β}{f:β->γ}{r:γ}(h:x.map f=some r):∃a,x=some a/\f a=r:=sW.mp h
theorem cI[Decidable p]{β:Type}{x:Option β}{r:β}(h:(if p then x else none)=some r):p/\x=some r:=by
 by_cases q:p;.rw[if_pos q]at h;exact⟨q,h⟩
 .rw[if_neg q]at h;exact aE h
end
def ib(v:Option V)(w:aa):Bool:=aU v (λv=>v.zT (λaG=>aG==w) false) false
inductive Rs(α:Type)where|ok(a:α)|de(i:Nat)deriving Inhabited
abbrev pN α:=Option (Rs α×List MO)
noncomputable def aa4(a:α)(u:List MO):pN α:=some (.ok a,u)
structure Fn where
 ps:iz
 body:List bj
 sc:cz
 nest:Option Str
structure cJ where
 G:Str->Option V
 fn:aj->Option Fn
 mt:aj->Str->Option aj
 s8:aj->Option aj
 cx:aj
 pO:aj->Str->Bool
 ae:aj->Option (List V)
structure Loc where
 sc:cz
 vars:bI
 cells:List (Str×Nat)nest:Option Str:=none
def pP(cells:List (Str×Nat)):List (Str×qK)->List (Str×Nat)->Option (List (Str×Nat))|[],acc=>some acc|p::r,acc=>if p.2=.free then aU (cells.lookup p.1) (λi=>pP cells r ((p.1,i)::acc)) none else pP cells r acc
inductive Fl where|next|ret(v:V)deriving Inhabited
noncomputable def pQ(x:Str)(v:V):bI->bI|[]=>[(x,v)]|p::r=>if x=p.1 then(x,v)::r else p::pQ x v r
def IJ(Y:Loc)(u:List MO)(x:Str):Option V:=aU (Y.cells.lookup x) (λi=>aU u[i]? (λm=>m.IF id none) none) none
def eI(S:cJ)(Y:Loc)(u:List MO)(x:Str):Option V:=aU (Y.sc.names.lookup x) (λk=>H4 k (Y.vars.lookup x) (IJ Y u x) (IJ Y u x) none (S.G x)) none
noncomputable def j4(x:Str):Bool:=x !="__debug__"&&x !="__classdict__"
def fN(Y:Loc)(u:List MO)(x:Str)(v:V):Option (Loc×List MO):=aU (Y.sc.names.lookup x) (λk=>H4 k (some ({Y with vars:=pQ x v Y.vars},u)) (aU (Y.cells.lookup x) (λi=>aU u[i]? (λm=>m.IF (λ_=>some (Y,u.set i (.cell (some v)))) none) none) none) none none none) none
noncomputable def alloc(mo:MO)(u:List MO):pN V:=some (.ok (.ref u.length),u++[mo])
noncomputable def Qb(l:List V):Option KV:=match l with|[]=>none|x::l=>match l with|[]=>none|y::l=>match l with|[]=>x.iB (λa=>y.iB (λb=>some (.p a b)) none) none|_::_=>none
def IK(x y:Bool)(z:V):Option KV:=match x with
 |true=>match y with|true=>none|false=>z.j3 (λs=>some (.s s)) none
 |false=>match y with|true=>z.DN Qb none|false=>z.iB (λn=>some (.i n)) none
def DQ(l:List V):Option KV:=match l with|[]=>none|x::l=>match l with|[]=>none|y::l=>match l with|[]=>none|z::l=>match l with|[]=>x.qT (λx=>y.qT (λy=>IK x y z) none) none|_::_=>none
def uJ(v:V):Option KV:=v.DN DQ none
noncomputable def DT(a b:V):Option Bool:=V.casesOn a none (λx=>b.qT (λy=>some (x==y)) none) (λx=>b.iB (λy=>some (x==y)) none) (λx=>b.j3 (λy=>some (x==y)) none) (λ_=>none) (λ_=>none) λ_=>none
noncomputable def IL(v x:V):Option Bool:=V.casesOn v none (λ_=>none) (λa=>V.casesOn x none (λ_=>none) (λb=>some (a==b)) (λ_=>none) (λ_=>some false) (λ_=>none) λ_=>none) (λa=>x.j3 (λb=>some (a==b)) none) (λ_=>none) (λ_=>none) λ_=>none
def uK:List V->List V->Option Bool
 |[],m=>match m with|[]=>some true|_::_=>none
 |x::r,m=>match m with|[]=>none|y::q=>aU (DT x y) (λa=>(uK r q).map λb=>a&&b) none
def j5(v:V):List V->Option Bool|[]=>some false|x::r=>aU (IL v x) (λa=>(j5 v r).map λb=>a||b) none
noncomputable def zU(x:Int):Bool:=decide (-(2^64)<x)&&decide (x<2^64)
def qV{α:Type}(u:List MO)(i:Nat)(f:List V->Option α):Option α:=aU u[i]? (λm=>m.lu f none) none
def Qc(i:Nat)(b:V)(u:List MO):Option Bool:=b.qU (λj=>qV u i λx=>qV u j λy=>if x.length=y.length then uK x y else some false) none
def IM(a b:V)(u:List MO):Option Bool:=a.qU (λi=>Qc i b u) (DT a b)
def Qd(a:V)(m:MO):Option Bool:=MO.casesOn m (j5 a) (λkv=>V.casesOn a none (λ_=>none) (λk=>some (kv.lookup k).isSome) (λ_=>none) (λl=>match kv with|[]=>(DQ l).map λ_=>false|_::_=>none) (λ_=>none) λ_=>none) (λkv=>a.j3 (λk=>some (kv.lookup k).isSome) none) (λkv=>(uJ a).map λk=>(kv.lookup k).isSome) (λ_ _=>none) (λ_=>none) (λ_ _ _ _=>none) (λ_=>none) λ_=>none
def IP(a b:V)(u:List MO):Option Bool:=V.casesOn b none (λ_=>none) (λ_=>none) (λ_=>none) (λl=>j5 a l) (λi=>aU u[i]? (Qd a) none) λ_=>none
noncomputable def Qe(a b:V):Option Bool:=V.casesOn b (V.casesOn a (some false) (λ_=>none) (λ_=>some true) (λ_=>some true) (λ_=>some true) (λ_=>none) λ_=>none) (λ_=>none) (λ_=>none) (λ_=>none) (λ_=>none) (λ_=>none) λ_=>none
noncomputable def zV(a b:V)(f:Int->Int->Bool):Option Bool:=a.iB (λx=>b.iB (λy=>some (f x y)) none) none
def cmp(op:sJ)(a b:V)(u:List MO):Option Bool:=match op with|.Eq=>IM a b u|.NotEq=>(IM a b u).map (!·)|.Lt=>zV a b λx y=>decide (x<y)|.LtE=>zV a b λx y=>decide (x<=y)|.Gt=>zV a b λx y=>decide (y<x)|.GtE=>zV a b λx y=>decide (y<=x)|.In=>IP a b u|.NotIn=>(IP a b u).map (!·)|.IsNot=>Qe a b|_=>none
noncomputable def IQ(v:V):Bool:=v.zT (λ_=>false) true
def zW(u:List MO)(d:Nat)(n:Str):Option V:=aU u[d]? (λm=>m.j3 (λkv=>(kv.lookup n).filter IQ) none) none
def aa5(S:cJ)(n:Str)(u:List MO)(m:MO):Option V:=MO.casesOn m (λ_=>none) (λ_=>none) (λ_=>none) (λ_=>none) (λC d=>if S.pO C n=true/\C≠S.cx then zW u d n else none) (λ_=>none) (λ_ _ _ _=>none) (λd=>if S.pO S.cx n=true then zW u d n else none) λ_=>none
def DU(S:cJ)(v:V)(n:Str)(u:List MO):Option V:=v.qU (λi=>aU u[i]? (aa5 S n u) none) none
noncomputable def df(l:List V)(k:Int):Option V:=if-(2^63)<=k/\k<2^63 then(CB k l.length).bind λj=>l[j]? else none
def zX(i:V)(m:MO):Option V:=MO.casesOn m (λl=>i.iB (df l) none) (λkv=>i.iB (λk=>kv.lookup k) none) (λkv=>i.j3 (λk=>kv.lookup k) none) (λkv=>aU (uJ i) (λk=>kv.lookup k) none) (λ_ _=>none) (λ_=>none) (λ_ _ _ _=>none) (λ_=>none) λ_=>none
def kK(v i:V)(u:List MO):Option V:=V.casesOn v none (λ_=>none) (λ_=>none) (λ_=>none) (λl=>i.iB (df l) none) (λj=>aU u[j]? (zX i) none) λ_=>none
noncomputable def dU{K:Type}[DecidableEq K](k:K)(v:V):List (K×V)->List (K×V)|[]=>[(k,v)]|p::r=>if p.1=k then(p.1,v)::r else p::dU k v r
def Qg(i v:V)(m:MO):Option MO:=MO.casesOn m (λ_=>none) (λkv=>V.casesOn i none (λ_=>none) (λk=>if kv.length<=bk then some (.bg (dU k v kv))else none) (λ_=>none) (λl=>match kv with|[]=>(DQ l).map λk=>.ji [(k,v)]|_::_=>none) (λ_=>none) λ_=>none) (λkv=>i.j3 (λk=>if kv.length<=bk then some (.aV (dU k v kv))else none) none) (λkv=>if kv.length<=bk then(uJ i).map λk=>.ji (dU k v kv)else none) (λ_ _=>none) (λ_=>none) (λ_ _ _ _=>none) (λ_=>none) λ_=>none
def kL(o i v:V)(u:List MO):Option (List MO):=o.qU (λj=>aU u[j]? (λm=>(Qg i v m).map λm=>u.set j m) none) none
def aa6(S:cJ)(n:Str)(v:V)(u:List MO)(m:MO):Option (List MO):=MO.casesOn m (λ_=>none) (λ_=>none) (λ_=>none) (λ_=>none) (λC d=>if S.pO C n=true/\C≠S.cx then aU u[d]? (λm=>m.j3 (λkv=>if kv.length<=bk then some (u.set d (.aV (dU n v kv)))else none) none) none else none) (λ_=>none) (λ_ _ _ _=>none) (λ_=>none) λ_=>none
def Qh(S:cJ)(o:V)(n:Str)(v:V)(u:List MO):Option (List MO):=o.qU (λj=>aU u[j]? (aa6 S n v u) none) none
noncomputable def zY(v:V):Option (Option Int):=V.casesOn v (some none) (λ_=>none) (λk=>some (some k)) (λ_=>none) (λ_=>none) (λ_=>none) λ_=>none
def cut(l:List V)(lo hi:V):Option (List V):=aU (zY lo) (λa=>aU (zY hi) (λb=>if l.length<=bk then some ((l.drop (a.elim 0 (iS l.length))).take (b.elim l.length (iS l.length)-a.elim 0 (iS l.length)))else none) none) none
noncomputable def dk(e:aq):Bool:=qJ e.ctorIdx 22
def oH(e:aq):Bool:=xb e (λf as ks _=>qJ f.ctorIdx 23&&as.isEmpty&&ks.isEmpty) false
inductive eZ where|list(i:Nat)|tup(l:List V)|range(n:Int)|enum(i:Nat)|keys(i:Nat)|vals(i:Nat)
def rd(src:eZ)(u:List MO)(k:Nat):Option (Option V):=eZ.casesOn src (λi=>qV u i λl=>some l[k]?) (λl=>some l[k]?) (λn=>some (if(k:Int)<n then some (.int k)else none)) (λi=>qV u i λl=>some (l[k]?.map λv=>.tup [.int k,v])) (λ_=>none) λ_=>some none
def namesOf:List aq->Option (List Str)|[]=>some []|e::r=>oG e (λx _=>(namesOf r).map (x::·)) none
def uL:List Str->List V->Loc->List MO->Option (Loc×List MO)
 |[],vs,Y,u=>match vs with|[]=>some (Y,u)|_::_=>none
 |x::xs,vs,Y,u=>match vs with|[]=>none|v::vs=>aU (fN Y u x v) (λp=>uL xs vs p.1 p.2) none
def DV(v:V)(u:List MO):Option (List V):=V.casesOn v none (λ_=>none) (λ_=>none) (λ_=>none) some (λi=>qV u i some) λ_=>none
def cf(t:aq)(v:V)(Y:Loc)(u:List MO):Option (Loc×List MO):=oG t (λx _=>fN Y u x v) (xd t (λts _ _=>aU (namesOf ts) (λxs=>aU (DV v u) (λvs=>uL xs vs Y u) none) none) none)
def qW(S:cJ):Nat->aq->Loc->List MO->Option V|0,_,_,_=>none|n+1,e,Y,u=>oG e (λx _=>if j4 x=true then eI S Y u x else none) (pM e (λo a _=>if oH o=false then aU (qW S n o Y u) (λv=>DU S v a u) none else none) (w_ e (λo k _=>aU (qW S n o Y u) (λv=>oG k (λx _=>if j4 x=true then aU (eI S Y u x) (λk=>kK v k u) none else none) none) none) none))
def uM(S:cJ)(elt:aq)(x:Str)(sc:cz)(cl:List (Str×Nat))(u:List MO):List (Int×V)->Option (List V)|[]=>some []|p::r=>aU (qW S 4 elt ⟨sc,[(x,.int p.1)],cl,none⟩ u) (λv=>aU (uM S elt x sc cl u r) (λvs=>some (v::vs)) none) none
def uN(e:aq):Option Str:=oG e (λx _=>some x) none
def Qi(e:aq):Option (List aq):=xd e (λts _ _=>some ts) none
def nh(tgt:aq)(src:eZ):Bool:=eZ.casesOn src (λ_=>true) (λ_=>true) (λ_=>true) (λ_=>(Qi tgt).isSome) (λ_=>false) λ_=>true
noncomputable def DW(e:aq):Bool:=qJ e.ctorIdx 7
noncomputable def IS(sc:cz)(it:aq):Bool:=sc.kind==.function&&sc.names.all (λx=>x.2 !=.cell&&(x.2 !=.local||sc.names.lookup x.1==some .local))&&!DW it
noncomputable def pR:List (Str×qK)->List MO->List (Str×Nat)->List MO×List (Str×Nat)|[],u,acc=>(u,acc)|p::r,u,acc=>if p.2=.cell then pR r (u++[.cell none]) ((p.1,u.length)::acc)else pR r u acc
def ni:List (Str×V)->Loc->List MO->Option (Loc×List MO)|[],Y,u=>some (Y,u)|p::r,Y,u=>aU (fN Y u p.1 p.2) (λq=>ni r q.1 q.2) none
noncomputable def qX(ps:iz):Bool:=ps.posonlyargs.isEmpty&&ps.vararg.isNone&&ps.kwonlyargs.isEmpty&&ps.kwarg.isNone&&ps.kw_defaults.isEmpty&&ps.defaults.isEmpty&&ps.args.all λa=>a.annotation.isNone
noncomputable def Qj(sc:cz):Bool:=!sc.isCoroutine&&!sc.isGenerator&&sc.kind==.function
noncomputable def aa7(ps:iz)(args:List V):Option (List (Str×V)):=if args.length=(ps.args.map (·.arg)).length/\(ps.args.map (·.arg)).Nodup then some ((ps.args.map (·.arg)).zip args)else none
def enter(ps:iz)(sc:cz)(cs:List (Str×Nat))(mk:Option Str)(args:List V)(u:List MO):Option (Loc×List MO):=if Qj sc=true/\qX ps=true then aU (aa7 ps args) (λbs=>ni bs ⟨sc,[],(pR sc.names u cs).2,mk⟩ (pR sc.names u cs).1) none else none
def IT(u:List MO)(q:Str)(pos:Pos)(ps:iz)(body:sv)(sc:cz)(cl:List (Str×Nat))(cs:List ((Nat×Nat)×Str)):pN V:=aU (cs.lookup (pos.line,pos.col)) (λq'=>if q'=q then alloc (.jE ps body sc cl) u else none) (alloc (.jE ps body sc cl) (u.set 0 (.tab (cs++[((pos.line,pos.col),q)]))))
noncomputable def MO.Qk{α:Type}(m:MO)(f:List ((Nat×Nat)×Str)->α)(d:α):α:=MO.casesOn (motive:=λ_=>α) m (λ_=>d) (λ_=>d) (λ_=>d) (λ_=>d) (λ_ _=>d) (λ_=>d) (λ_ _ _ _=>d) (λ_=>d) f
def qY(Y:Loc)(u:List MO)(q:Str)(pos:Pos)(ps:iz)(body:sv)(sc:cz):pN V:=if qX ps=true then aU Y.nest (λpre=>aU (u[0]?:Option MO) (λm=>m.Qk (λcs=>aU (pP Y.cells sc.names []) (λcl=>IT u (pre++q) pos ps body sc cl cs) none) none) none) none else none
noncomputable def zZ:List V->Option Bool|[]=>some true|v::r=>v.qT (λb=>(zZ r).map (b&&·)) none
mutual noncomputable def uO:V->Option sG|.int i=>some (.int i)|.str x=>some (.str x)|.tup l=>(l_ l).map .tuple|_=>none noncomputable def l_:List V->Option (List sG)|[]=>some []|v::r=>aU (uO v) (λx=>aU (l_ r) (λxs=>some (x::xs)) none) none end
noncomputable def uP(d:sG):Option Str:=if d.showable=true/\d.hasDict=false/\d.depth<=50/\d.shown.length<=bk then some d.shown else none
noncomputable def oJ:List V->Option (List Str)|[]=>some []|v::r=>v.j3 (λx=>(oJ r).map (x::·)) none
noncomputable def qZ:List V->Option (List Int)|[]=>some []|v::r=>v.iB (λx=>(qZ r).map (x::·)) none
noncomputable def dW{α:Type}[BEq α](l:List α):List α:=l.foldl (λacc x=>if acc.any (·==x)then acc else acc++[x]) []
abbrev eC(l:List Int):List Int:=dW l
def oK(l:List Int):Bool:=eC l==(cA (eC l).length).map (λ(k:Nat)=>(k:Int))&&decide ((eC l).length<=32)&&decide (l.length<1000)
noncomputable def xf(n:Nat):Option V:=if n<=bk then some (.int n)else none
def IU(v:V)(u:List MO):Option V:=V.casesOn v none (λ_=>none) (λ_=>none) (λs=>xf s.length) (λl=>xf l.length) (λi=>qV u i λl=>xf l.length) λ_=>none
def DX(f:List sG->sG)(l:List V):Option V:=aU (l_ l) (λxs=>aU (uP (f xs)) (λx=>some (.str x)) none) none
def Ql(v:V)(u:List MO):Option V:=V.casesOn v none (λ_=>none) (λk=>if k.natAbs.log2<1920 then some (.str (qR (toString k)))else none) (λx=>if(reprText x).length<=bk then some (.str (reprText x))else none) (DX .tuple) (λi=>qV u i (DX .list)) λ_=>none
noncomputable def Qm(v:V)(T:String):Option V:=V.casesOn v none (λ_=>none) (λ_=>if T="str"\/T="tuple"then some (.bool false)else none) (λ_=>if T="str"then some (.bool true)else if T="tuple"then some (.bool false)else none) (λ_=>if T="str"then some (.bool false)else if T="tuple"then some (.bool true)else none) (λ_=>none) λ_=>none
noncomputable def Value.IV{α:Type}(v:aa)(f:String->α)(d:α):α:=if h:v.ctorIdx=8 then Il (motive:=λ_=>α) v h f else d
def Qn(hd:Option Nat)(id:String)(v:V)(u:List MO):Option V:=if id="len"then IU v u else if id="abs"then v.iB (λk=>some (.int k.natAbs)) none else if id="all"then aU hd (λ_=>none) (v.qU (λi=>qV u i λl=>(zZ l).map .bool) none)else if id="repr"then Ql v u else none
def Qo(hd:Option Nat)(id:String)(v w:V):Option V:=if id="isinstance"then w.zT (λt=>Value.IV t (Qm v) none) none else if id="max"then aU hd (λ_=>none) (v.iB (λa=>w.iB (λb=>some (.int (if a<b then b else a))) none) none)else none
def Qp(hd:Option Nat)(id:String)(args:List V)(u:List MO):Option V:=match args with|[]=>none|v::r=>match r with|[]=>Qn hd id v u|w::r=>match r with|[]=>Qo hd id v w|_::_=>none
def lx(hd:Option Nat)(id:String)(args:List V)(u:List MO):pN V:=(Qp hd id args u).map λv=>(.ok v,u)
def Qq(hd:Option Nat)(T:String)(v:V)(u:List MO):pN V:=v.iB (λk=>if T="int"then aa4 (.int k) u else none) (v.qU (λi=>if T="list"/\hd=none then aU u[i]? (λm=>m.DO (λkv=>match kv with|[]=>alloc (.list []) u|_::_=>none) none) none else none) none)
def Qr(hd:Option Nat)(T:String)(args:List V)(u:List MO):pN V:=match args with|[]=>none|v::r=>match r with|[]=>Qq hd T v u|_::_=>none
def xg:List (Option aq)->Option (List Str)|[]=>some []|o::r=>aU o (λe=>IG e (λc _ _=>PA c none (λ_=>none) (λ_=>none) (λ_=>none) (λ_ _=>none) (λx=>(xg r).map (x::·)) (λ_=>none) none) none) none
noncomputable def Qs(c:Const):Option V:=PA c (some .none) (λb=>some (.bool b)) (λi=>some (.int i)) (λ_=>none) (λ_ _=>none) (λx=>some (.str x)) (λ_=>none) none
def Qt(e:aq):Option (Option aq×Option aq):=IH e (λlo hi st _=>match st with|none=>some (lo,hi)|some _=>none) none
noncomputable def aa8(f g:Str):Bool:=(f=="sorted"&&g=="set")||(f=="len"&&g=="set")||(f=="list"&&g=="range")
noncomputable def IW(as:List aq):Option Expr:=match as with|[]=>none|e::r=>match r with|[]=>some e|_::_=>none
def IX(e:aq):Option (Str×aq):=xb e (λf as ks _=>match ks with|[]=>aU (uN f) (λg=>aU (IW as) (λe=>some (g,e)) none) none|_::_=>none) none
def specOf(f:aq)(as:List aq):Option (Str×Str×aq):=aU (uN f) (λf=>aU (IW as) (λe=>aU (IX e) (λq=>if aa8 f q.1=true then some (f,q.1,q.2)else none) none) none) none
def DY(e:aq):Option (aq×Str×Pos):=pM e (λo n p=>some (o,n,p)) none
noncomputable def DZ(gs:List Cq):Option (aq×aq×List aq):=match gs with|[]=>none|g::r=>match r with|[]=>if g.is_async=0 then some (g.target,g.iter,g.ifs)else none|_::_=>none
def xh(S:cJ)(Y:Loc)(x:Str):Bool:=j4 x&&Y.sc.names.lookup x==some .globalImplicit&&ib (S.G x) (.ref S.cx)
def IY(e:aq):Option (aq×aq×aq×List aq×cz):=II e (λelt gs sc _=>(DZ gs).map λq=>(elt,q.1,q.2.1,q.2.2,sc)) none
noncomputable def z0(e:aq):Bool:=Nat.ble 8 e.ctorIdx&&Nat.ble e.ctorIdx 10
def D0(e:aq):Bool:=xd e (λvs _ _=>vs.all (foldedForSure 8)||!(vs.all (NO 8))) true
def IZ(hd:Option Nat)(t e:aq):Bool:=xd t (λts _ _=>hd.isNone&&D0 e&&(namesOf ts).isSome) (qJ t.ctorIdx 20||Nat.beq t.ctorIdx 21||Nat.beq t.ctorIdx 23)
noncomputable def Qu(ts:List aq):Option Expr:=match ts with|[]=>none|t::r=>match r with|[]=>some t|_::_=>none
def D1(hs:List ExceptHandler):Option (Str×Option Str×List bj):=match hs with|[]=>none|x::r=>match r with
 |[]=>match x with|.ExceptHandler e n h _=>aU e (λe=>(uN e).map λx=>(x,n,h)) none
 |_::_=>none
def Hd(A:dR)(al:List aj):Option Nat->Prop|none=>A.handled=none|some i=>∃a,A.handled=some (.ref a)/\al[i]?=some a
structure Cx(c:aR)(n:Nat)(hd:Option Nat)(A:dR)(al:List aj)(fs:Fs):Prop where
 depth:A.depth+n<yU
 units:A.units+8*n<dJ
 handled:Hd A al hd
 frames:∃l,A.frames=some l/\∀e∈l,∃L,e.frame=some L/\L∈fs.map (·.1)/\e.scope.kind=.function
 tab:al[0]?=some c.tab
 guards:A.guards=some []
theorem Cx.at(C:Cx c n hd A al fs)(ha:jF al aT):Cx c n hd A aT fs:=⟨C.depth,C.units,by cases hd with|none=>exact C.handled|some i=>obtain⟨a,x,y⟩:=C.handled;exact⟨a,x,ha _ _ y⟩,C.frames,ha _ _ C.tab,C.guards⟩
def xi(ag:Env)(x:Str)(k:Option qK):Prop:=aU k (λk=>H4 k (ag.kindOf x=some .local) (ag.kindOf x=some .cell) (ag.kindOf x=some .free\/ag.kindOf x=some .cell) (ag.kindOf x=some .globalExplicit) (ag.kindOf x=some .globalImplicit)) (ag.kindOf x=none)
structure dm(c:aR)(ag:Env)(al:List aj)(Y:Loc)(L:aj):Prop where
 kind:ag.scope.kind=.function
 loc:ag.locals=L
 gl:ag.globals=fK
 bi:ag.builtins=hV
 names:∀x,xi ag x (Y.sc.names.lookup x)cells:∀x i,Y.cells.lookup x=some i->∃a,ag.cells.lookup x=some a/\al[i]?=some a
 nest:∀q,Y.nest=some q->ag.qual=q/\∃cd P,ag.code=.ref cd/\al[0]?=some P/\zG c.B cd P
theorem dm.at(R:dm c ag al Y L)(ha:jF al aT):dm c ag aT Y L:=⟨R.kind,R.loc,R.gl,R.bi,R.names,λx i e=>by obtain⟨a,p,q⟩:=R.cells x i e;exact⟨a,p,ha _ _ q⟩,λq e=>by obtain⟨a,cd,P,b,d,f⟩:=R.nest q e;exact⟨a,cd,P,b,ha _ _ d,f⟩⟩
theorem Qv:jF [] al:=λi a e=>aE (sQ.symm.trans e)
section
variable{β:Type}{r:β}{P:V->aa->Prop}
@[elab_as_elim]theorem mc(e:v.iB f none=some r)(x:VR h al v q)(k:∀i t,f i=some r->P (.int i) (.int i t)):P v q:=by cases x with|int i t=>exact k i t e|_=>exact aE e
@[elab_as_elim]theorem uQ(e:v.j3 f none=some r)(x:VR h al v q)(k:∀i t,f i=some r->P (.str i) (.str i t)):P v q:=by cases x with|str i t=>exact k i t e|_=>exact aE e
@[elab_as_elim]theorem D2(e:v.qT f none=some r)(x:VR h al v q)(k:∀b,f b=some r->P (.bool b) (.bool b)):P v q:=by cases x with|bool b=>exact k b e|_=>exact aE e
@[elab_as_elim]theorem z1(e:v.qU f none=some r)(x:VR h al v q)(k:∀i a,al[i]?=some a->f i=some r->P (.ref i) (.ref a)):P v q:=by cases x with|ref ea=>exact k _ _ ea e|_=>exact aE e
@[elab_as_elim]theorem Qw(e:v.DN f none=some r)(x:VR h al v q)(k:∀l a(items:Array aa),fz h a items->aQ h al l items.toList->f l=some r->P (.tup l) (.ref a)):P v q:=by cases x with|tup t vs=>exact k _ _ _ t vs e|_=>exact aE e
theorem aa9{m:MO}(e:m.lu f none=some r):∃l,m=.list l/\f l=some r:=by cases m with|list l=>exact⟨l,rfl,e⟩|_=>exact aE e
theorem Qx{m:MO}(e:m.j3 f none=some r):∃l,m=.aV l/\f l=some r:=by cases m with|aV l=>exact⟨l,rfl,e⟩|_=>exact aE e
theorem I0{m:MO}(e:m.IF f none=some r):∃l,m=.cell l/\f l=some r:=by cases m with|cell l=>exact⟨l,rfl,e⟩|_=>exact aE e
theorem s9(e:qV u i f=some r):∃l,u[i]?=some (.list l)/\f l=some r:=by obtain⟨m,h,e⟩:=bH e;obtain⟨l,k,e⟩:=aa9 e;exact⟨l,k▸h,e⟩
end
inductive aa_(c:aR)(s:aF)(al:List aj)(fs:Fs){α β:Type}(Rel:α->List aj->a_->β->Prop)(v:α)(aM:List MO)(q:β)(s':aF):Prop|mk(aT:List aj)(R:SR c s'.heap aT aM fs)(T:a8 s.heap al (fs.map (·.1)) s'.heap aT)(m:cW s s')(k:Rel v aT s'.heap q)
inductive aa'(c:aR)(s:aF)(al:List aj)(fs:Fs)(i:Nat)(aM:List MO)(q:aa)(s':aF):Prop|mk(aT:List aj)(a:aj)(R:SR c s'.heap aT aM fs)(T:a8 s.heap al (fs.map (·.1)) s'.heap aT)(m:cW s s')(e:q=.ref a)(ea:aT[i]?=some a)(d:Nat)(ed:aM[i]?=some (.exc d))
def PQ(c:aR)(s:aF)(al:List aj)(fs:Fs){α β:Type}(Rel:α->List aj->a_->β->Prop)(r:Rs α)(aM:List MO):β->aF->Prop:=λq s'=>match r with|.ok v=>aa_ c s al fs Rel v aM q s'|.de _=>False
def PE(c:aR)(s:aF)(al:List aj)(fs:Fs){α:Type}(r:Rs α)(aM:List MO):aa->aF->Prop:=λq s'=>match r with|.ok _=>False|.de i=>aa' c s al fs i aM q s'
abbrev RV:V->List aj->a_->aa->Prop:=λv al h q=>VR h al v q
abbrev aba:List V->List aj->a_->List aa->Prop:=λv al h q=>aQ h al v q
abbrev RB:Bool->List aj->a_->Bool->Prop:=λv _ _ q=>v=q
theorem done{Rel:α->List aj->a_->β->Prop}(R:SR c s.heap al u fs)(k:Rel a al s.heap q):PQ c s al fs Rel (.ok a) u q s:=⟨al,R,a8.refl ..,cW.refl s,k⟩
section
variable{s:aF}{rest:Fs}
theorem pS{Rel:α->List aj->a_->β->Prop}(R:SR c s.heap al u fs)(k:Rel a al s.heap q):PQ c s al fs Rel (.ok a) u q {s with toks:=tk}:=⟨al,R,a8.refl ..,⟨rfl,rfl,rfl⟩,k⟩
structure fg(c:aR)(S:cJ):Prop where
 cx:S.cx=c.cx
 glob:∃mg mb,c.B.Ns fK mg/\c.B.Ns hV mb/\∀x v,S.G x=some v->∃q,(mg x=some q\/(mg x=none/\mb x=some q))/\VR c.B [] v q
theorem Qy(hg:s.heap.Ns ag.globals mg)(hb:s.heap.Ns ag.builtins mb)(e:mg x=some q\/(mg x=none/\mb x=some q))(h:Q q s):av M A (Hi ag x) Q E s:=by
 unfold Hi;refine aw (He hg ?_);rcases e with e|⟨e,e'⟩;.rw[e];exact aP h
 .rw[e];refine aw (He hb ?_);rw[e'];exact aP h
theorem abb(hk:ag.scope.kind=.function)(hn:ag.kindOf x=some .globalImplicit):y6 ag x=Hi ag x:=by
 have hb:ag.blockKind=.function:=by unfold Env.blockKind;rw[hk];rfl
 unfold y6;rw[hk,hn,hb];rfl
theorem Qz(e:IJ Y u x=some v)(C:dm c ag al Y L){fs:Fs}(R:SR c s.heap al u fs):∃a q,ag.cells.lookup x=some a/\s.heap.IsCell a (some q)/\VR s.heap al v q:=by obtain⟨i,ei,e⟩:=bH e;obtain⟨m,em,e⟩:=bH e;obtain⟨w,rfl,rfl⟩:=I0 e;obtain⟨a,ea,eb⟩:=C.cells x i ei;obtain⟨q,hq,hv⟩:=R.obj i _ a em eb;exact⟨a,q,ea,hq,hv⟩
theorem I1(G:fg c S){x:Str}{v:V}(e:eI S Y u x=some v)(hx:x≠"__classdict__")(C:dm c ag al Y L)(R:SR c s.heap al u ((L,Y.vars)::rest)){Q:aa->aF->Prop}{E:aa->aF->Prop}(hQ:∀p,VR s.heap al v p->Q p s):av c.M A (y6 ag x) Q E s:=by obtain⟨k,hl,e⟩:=bH e;have hn:=C.names x;rw[hl]at hn;cases k with|«local»=>obtain⟨m,hm,k⟩:=R.fr _ (.head _);obtain⟨q,hq,hv⟩:=k x v e;exact GY C.kind hn (m:=m) (C.loc▸hm) hq (hQ _ hv)|cell=>obtain⟨a,q,ea,hq,hv⟩:=Qz e C R;exact Nn C.kind hn ea hq (hQ _ hv)|free=>obtain⟨a,q,ea,hq,hv⟩:=Qz e C R;exact hn.elim (λhn=>Np C.kind hn ea hq (hQ _ hv) (beq_false_of_ne hx)) λhn=>Nn C.kind hn ea hq (hQ _ hv)|globalExplicit=>exact aE e|globalImplicit=>obtain⟨mg,mb,hg,hb,k⟩:=G.glob;obtain⟨q,hq,hv⟩:=k x v e;rw[abb C.kind hn];exact Qy (C.gl▸hg.keeps R.base) (C.bi▸hb.keeps R.base) hq (hQ _ (hv.mono (λa o e _=>R.base a o e) Qv))
end
abbrev z2:Bool->List aj->a_->aa->Prop:=λv _ _ q=>q=.bool v
def abc(c:aR):Prop:=∀op a b u r,cmp op a b u=some r->∀A fs s al qa qb,A.units+8<dJ->SR c s.heap al u fs->VR s.heap al a qa->VR s.heap al b qb->av c.M A (CC op qa qb) (PQ c s al fs z2 (.ok r) u) (PE c s al fs (.ok r) u) s
structure dh(c:aR):Prop where
 mods:∃o,c.B.get? ur=some o
 nolimit:c.B.NoLimit
theorem abd(e:(zU x||zU y)=true):IntMulOk x y:=by
 rcases(Df _ _).mp e with e|e<;>(unfold zU at e;simp only[iV,decide_eq_true_eq]at e);.exact .of_left (intBits_le_64 e.1 e.2)
 .exact .of_right (intBits_le_64 e.1 e.2)
theorem abe{x y:Str}(h:(x.length==0)=true):x++y=y:=by
 have :x.cps=#[]:=by
  have :x.cps.size=0:=by simpa[O2]using h
  exact OJ this
 show(⟨x.cps++y.cps⟩:Str)=y;rw[this];simp
theorem abf{x y:Str}(h:(y.length==0)=true):x++y=x:=by
 have :y.cps=#[]:=by
  have :y.cps.size=0:=by simpa[O2]using h
  exact OJ this
 show(⟨x.cps++y.cps⟩:Str)=x;rw[this];simp
theorem newList(R:SR c s.heap al u fs)(k:aQ s.heap al l items.toList):PQ c s al fs RV (.ok (.ref u.length)) (u++[.list l]) (.ref s.heap.objs.size) {s with heap:=s.heap.push {cls:=.type "list",data:=.seq items}}:=by have hk:dT s.heap (s.heap.push {cls:=.type "list",data:=.seq items}):=λa o e _=>d6 _ e;have :=R.push (o:={cls:=.type "list",data:=.seq items}) (mo:=.list l) rfl ⟨items,0,gj _ rfl,k.mono hk kJ⟩;exact⟨_,this.1,this.2,⟨rfl,rfl,rfl⟩,.ref (R.len▸lX)⟩
end
noncomputable section
open PyProof.Rows PySem PySem.Calls PySem.SeqAt PySem.W
section
variable{A:dR}{s:aF}{al:List aj}
inductive nj{β:Type}(h:a_)(al:List aj)(f:β->aa):Option V->Option β->Prop|no:nj h al f none none|yes{v:V}{p:β}(x:VR h al v (f p)):nj h al f (some v) (some p)
theorem nj.isSome(x:nj h al f v p):p.isSome=v.isSome:=by cases x<;>rfl
theorem abg{K:Type}[DecidableEq K]{k:K}{p:K×aa}{r:List (K×aa)}:mW (p::r) k=if p.1=k then some p.2 else mW r k:=by
 unfold mW;by_cases q:p.1=k;.rw[NY (by exact decide_eq_true q),if_pos q];rfl
 .rw[NZ (by exactλh=>q (of_decide_eq_true h)),if_neg q]
theorem QA{K:Type}[DecidableEq K]{k:K}{p:K×aj×aa}{r:List (K×aj×aa)}:pH (p::r) k=if p.1=k then some p.2 else pH r k:=by
 unfold pH;by_cases q:p.1=k;.rw[NY (by exact decide_eq_true q),if_pos q];rfl
 .rw[NZ (by exactλh=>q (of_decide_eq_true h)),if_neg q]
theorem c_.lookup{K:Type}[DecidableEq K]{k:K}{kv:List (K×V)}{kvs:List (K×aa)}(x:c_ h al kv kvs):nj h al id (kv.lookup k) (mW kvs k):=by induction x with|nil=>exact .no|@cons p v l r a t ih=>
 rw[gN,abg];by_cases q:p.1=k;.rw[if_pos q,if_pos q];exact .yes a
 .rw[if_neg q,if_neg q];exact ih
theorem c_.isSome{K:Type}[DecidableEq K]{k:K}{kv:List (K×V)}{kvs:List (K×aa)}(x:c_ h al kv kvs):(mW kvs k).isSome=(kv.lookup k).isSome:=x.lookup.isSome
theorem eh.lookup(x:eh h al kv xs):nj h al Prod.snd (kv.lookup k) (pH xs k):=by induction x with|nil=>exact .no|@cons p b v l r a t ih=>
 rw[gN,QA];by_cases q:p.1=k;.rw[if_pos q,if_pos q];exact .yes a
 .rw[if_neg q,if_neg q];exact ih
theorem eh.isSome(x:eh h al kv xs):(pH xs k).isSome=(kv.lookup k).isSome:=x.lookup.isSome
theorem nj.get{p:Option β}(y:nj h al f x p)(e:x=some v):∃b,p=some b/\VR h al v (f b):=by cases y with|no=>exact aE e|yes x=>exact⟨_,rfl,aJ e▸x⟩
theorem abh(e:Qb l=some k)(x:aQ h al l p)(t:fz h b p.toArray):k.b1=false/\k.b2=true/\j0 h k (.ref b):=by cases l with|nil=>exact aE e|cons aG l=>cases l with|nil=>exact aE e|cons v l=>cases l with|cons _ _=>exact aE e|nil=>revert t;refine x.fA λp r hu x=>x.fA λq r hv x=>x.jj λt=>?_;replace e:aG.iB (λa=>v.iB (λb=>some (KV.p a b)) none) none=some k:=e;revert t;refine mc e hu λi ti e=>mc e hv λj tj e t=>?_;exact aJ e▸⟨rfl,rfl,.p _ _ _ _ t⟩
theorem abi(e:IK x y z=some k)(hz:VR h al z q):k.b1=x/\k.b2=y/\j0 h k q:=by cases x with
 |true=>cases y with|true=>exact aE e|false=>exact uQ e hz λi t e=>aJ e▸⟨rfl,rfl,.s _ _⟩
 |false=>cases y with|true=>exact Qw e hz λl a items t vs e=>abh e vs t|false=>exact mc e hz λi t e=>aJ e▸⟨rfl,rfl,.i _ _⟩
theorem I2(e:DQ l=some k)(x:aQ h al l p)(t:fz h b p.toArray):gm h k b:=by cases l with|nil=>exact aE e|cons aG l=>cases l with|nil=>exact aE e|cons v l=>cases l with|nil=>exact aE e|cons w l=>cases l with|cons _ _=>exact aE e|nil=>revert t;refine x.fA λp r hu x=>x.fA λq r hv x=>x.fA λz r hw x=>x.jj λt=>?_;replace e:aG.qT (λx=>v.qT (λy=>IK x y w) none) none=some k:=e;revert t;refine D2 e hu λi e=>D2 e hv λj e t=>?_;obtain⟨e1,e2,y⟩:=abi e hw;exact⟨_,e1.symm▸e2.symm▸t,y⟩
theorem I3(e:uJ v=some k)(x:VR h al v q):∃a,q=.ref a/\gm h k a:=Qw e x λl a items t vs e=>⟨a,rfl,I2 e vs t⟩
structure abj(A:dR)(s:aF)(p q:aa)(r:Bool):Prop where
 e:kG A s p q r
 c:RcAt A s p q r
 n:RcNeAt A s p q (!r)
theorem QB(e:DT a b=some r)(x:VR h al a qa)(y:VR h al b qb):abj A s qa qb r:=by cases x with|int i t=>exact mc e y λj aG e=>aJ e▸⟨zP _ _ _ _,RcAt.int_int _ _ _ _,RcNeAt.int_int _ _ _ _⟩|str i t=>exact uQ e y λj aG e=>aJ e▸⟨Ig _ _ _ _,RcAt.str_str _ _ _ _,RcNeAt.str_str _ _ _ _⟩|bool i=>exact D2 e y λj e=>aJ e▸⟨Ie _ _,RcAt.bool_bool _ _,RcNeAt.bool_bool _ _⟩|_=>exact aE e
inductive z3(A:dR)(s:aF)(p q:List aa)(r:Bool):Prop|mk(e:Nat->Bool)(h:∀(j:Nat)(h1:j<p.length)(h2:j<q.length),kG A s p[j] q[j] (e j))(k:(cA p.length).all e=r):z3 A s p q r
theorem z3.cons(x:kG A s a b aG)(y:z3 A s p q v):z3 A s (a::p) (b::q) (aG&&v):=by
 obtain⟨f,hf,uH⟩:=y;refine⟨λj=>Nc j aG f,λj h1 h2=>?_,?_⟩;.cases j with|zero=>exact x|succ j=>exact hf j (GN h1) (GN h2)
 .rw[eU,CT,C0,C2,<-uH];rfl
theorem abk l:∀{m:List V}{r:Bool}{p q:List aa},uK l m=some r->aQ h al l p->aQ h al m q->z3 A s p q r:=by induction l with
 |nil=>intro m r p q e x y;cases m with|nil=>exact x.jj (y.jj ⟨λ_=>true,λj h1 _=>absurd h1 (M9 _),aJ e⟩)|cons=>exact aE e
 |cons a l ih=>intro m r p q e x y;cases m with|nil=>exact aE e|cons b m=>obtain⟨aG,hu,e⟩:=bH e;obtain⟨v,hv,e⟩:=map_some e;exact e▸x.fA λpa p xa x=>y.fA λqb q yb y=>.cons (QB hu xa yb).e (ih hv x y)
theorem xj(U:A.units+8<dJ):A.in1.units<dJ/\A.units<dJ/\A.in1.units+4<cLine:=have h:A.in1.units+4<cLine:=bD (by rw[O3,hU];exact k_ ai _) U;⟨wZ h,wZ U,h⟩
theorem abl(U:A.units+8<dJ){x y:List V}{r:Bool}{a b:aj}{is js:Array aa}(e:(if x.length=y.length then uK x y else some false)=some r)(il:s.heap.IsList a is)(jl:s.heap.IsList b js)(k1:aQ s.heap al x is.toList)(k2:aQ s.heap al y js.toList):RcAt A s (.ref a) (.ref b) r/\RcNeAt A s (.ref a) (.ref b) (!r):=by
 have V:=(xj U).2.1;rw[k1.length,k2.length,eY,eY]at e;by_cases sz:is.size=js.size;.rw[if_pos sz]at e;obtain⟨f,hf,uH⟩:=abk (A:=A.in1) (s:=s) x e k1 k2;rw[eY]at uH;exact uH▸⟨RcAt.lists il jl sz V hf,RcNeAt.lists il jl sz V hf⟩
 .rw[if_neg sz]at e;exact aJ e▸⟨RcAt.lists_lengths il jl (bne_iff_ne.mpr sz) V,RcNeAt.lists_lengths il jl (bne_iff_ne.mpr sz) V⟩
theorem iX(x:IsL h a items n):h.IsList a items:=⟨_,x,rfl,n,rfl⟩
theorem QC(U:A.units+8<dJ){a b:V}{r:Bool}{qa qb:aa}(e:IM a b u=some r)(R:SR c s.heap al u fs)(x:VR s.heap al a qa)(y:VR s.heap al b qb):RcAt A s qa qb r/\RcNeAt A s qa qb (!r):=by have other:DT a b=some r->RcAt A s qa qb r/\RcNeAt A s qa qb (!r):=λe=>have z:=QB e x y;⟨z.c,z.n⟩;cases x with|@ref i a ea=>clear other;replace e:Qc i b u=some r:=e;refine z1 e y λj b eb e=>?_;obtain⟨l,hl,e⟩:=s9 e;obtain⟨m,hm,e⟩:=s9 e;obtain⟨is,n,xl,k1⟩:=R.obj _ _ _ hl ea;obtain⟨js,n',xm,k2⟩:=R.obj _ _ _ hm eb;exact abl U e (iX xl) (iX xm) k1 k2|_=>exact other e
noncomputable def uR(v:V)(p:aa):Bool:=V.casesOn v false (λ_=>false) (λk=>if h:p.ctorIdx=4 then Dy (motive:=λ_=>Bool) p h λi _=>i==k else false) (λx=>if h:p.ctorIdx=6 then Dz (motive:=λ_=>Bool) p h λy _=>y==x else false) (λ_=>false) (λ_=>false) λ_=>false
theorem abm(a b:Int):(a==b)=(b==a):=wD.mpr (by rw[beq_iff_eq,beq_iff_eq];exact eq_comm)
theorem abn(a b:Str):(a==b)=(b==a):=wD.mpr (by rw[beq_iff_eq,beq_iff_eq];exact eq_comm)
theorem abo(hu:A.units<dJ)(e:IL v x=some r)(hv:VR h al v q)(hx:VR s.heap al x p):kG A s p q r/\uR v p=r:=by cases hv with
 |int i t=>cases hx with|int j aG=>exact aJ e▸abm j i▸⟨zP _ _ _ _,rfl⟩|tup t' vs=>exact aJ e▸⟨Pe _ _ t' hu,rfl⟩|_=>exact aE e
 |str i t=>exact uQ e hx λj aG e=>aJ e▸abn j i▸⟨Ig _ _ _ _,rfl⟩|_=>exact aE e
theorem QD(hu:A.units<dJ)(hv:VR h al v q) l:∀{r:Bool}{p:List aa},j5 v l=some r->aQ s.heap al l p->(∀y,y∈p->kG A s y q (uR v y))/\p.any (uR v)=r:=by induction l with|nil=>exactλe x=>x.jj ⟨λx m=>absurd m eH,aJ e⟩|cons a l ih=>intro r p e x;obtain⟨aG,Iz,e⟩:=bH e;obtain⟨w,hw,e⟩:=map_some e;refine x.fA λpa p xa x=>?_;have k1:=ih hw x;have k3:=abo hu Iz hv xa;exact⟨λy m=>(bX.mp m).elim (λq=>by rw[q,k3.2];exact k3.1) (k1.1 y),by rw[Ol,k3.2,k1.2];exact e⟩
theorem ly(R:SR c s.heap al u fs):PQ c s al fs z2 (.ok b) u (.bool b) s:=⟨al,R,a8.refl ..,cW.refl s,rfl⟩
theorem D3(R:SR c s.heap al u fs):PQ c s al fs z2 (.ok b) u (.bool b) {s with toks:=tk}:=⟨al,R,a8.refl ..,⟨rfl,rfl,rfl⟩,rfl⟩
def s_(c:aR)(A:dR)(fs:Fs)(s:aF)(al:List aj)(u:List MO)(op:sJ)(qa qb:aa)(r:Bool):Prop:=av c.M A (CC op qa qb) (PQ c s al fs z2 (.ok r) u) (PE c s al fs (.ok r) u) s
structure xk(c:aR)(A:dR)(fs:Fs)(s:aF)(al:List aj)(u:List MO)(qa qb:aa)(r:Bool):Prop where
 i:s_ c A fs s al u .In qa qb r
 n:s_ c A fs s al u .NotIn qa qb (!r)
theorem ta(O:dh c)(R:SR c s.heap al u fs){i:Nat}{a:aj}(e:al[i]?=some a):(a==ur)=false:=by have h1:=R.off a (eG _ (ez e));obtain⟨o,h2⟩:=O.mods;exact beq_false_of_ne λe=>nomatch h2.symm.trans (e▸h1:c.B.get? ur=none)
theorem in_dict{K:Type}[DecidableEq K]{knd:KeyKind c.prog c.w K}(O:dh c)(R:SR c s.heap al u fs){i:Nat}{a:aj}(ea:al[i]?=some a){kv:List (K×V)}{k:K}{key:aa}(hk:knd.is k key=true)(x:hZ knd s.heap al a kv):xk c A fs s al u key (.ref a) (kv.lookup k).isSome:=by obtain⟨kvs,d,p⟩:=x;exact⟨wpAny_in_of hk (ta O R ea) d.mapOf (by rw[p.isSome];exact D3 R),wpAny_notIn_of hk (ta O R ea) d.mapOf (by rw[p.isSome];exact D3 R)⟩
theorem wpAny_notIn_heap{K:Type}[DecidableEq K]{knd:HeapKind prog w K}{d a:aj}{k:K}{xs:List (K×aj×aa)}{E:aa->aF->Prop}{Q:aa->aF->Prop}(hu:knd.room A.in1)(D4:knd.is s.heap k a)(hd:(d==ur)=false)(hm:s.heap.DictOfH knd d xs)(h:Q (.bool (!(pH xs k).isSome)) {s with toks:=s.toks+knd.draws k}):av (cv prog w) A (CC .NotIn (.ref a) (.ref d)) Q E s:=by
 show av _ _ (do return .bool (!(<-contains (.ref d) (.ref a)))) Q E s;refine aw ?_;unfold contains;try with_reducible refine fT ?_
 refine aw (yR hm.typeIs slot_dict_contains.lookup ?_);show av _ _ (if(some (wM "dict.__contains__")==some l7)=true then _ else _) _ E s;rw[if_neg (by rw[G3];exact l5)];refine aw (wpAny_callSpecialUnlessNone?_slot (name:=qR "__contains__") hm.typeIs Nt (sj Nt hm.typeIs entry_dict_contains ?_ (args_dict_contains _ _)));show av _ _ (dictGet d (.ref a)>>=_) _ _ s;refine aw (wpAny_dictGet_heap hu D4 hm ?_);cases hf:pH xs k with|some p=>rw[hf]at h;show av _ _ (ret (.bool true)) _ _ _;exact aP ⟨_,rfl,pD (aP h)⟩|none=>rw[hf]at h;show av _ _ (ZO d (.ref a)>>=_) _ _ _;exact aw (wpAny_pendingKey_other hd (aP ⟨_,rfl,pD (aP h)⟩))
theorem abp{K:Type}[DecidableEq K]{prog:kD}{w:d5}{knd:KeyKind prog w K}{l:List lU}(x:Pairs knd l []):l=[]:=by cases x;rfl
theorem c_.nil_inv{K:Type}{kvs:List (K×aa)}(p:c_ h al [] kvs):kvs=[]:=by cases p;rfl
theorem QE{K:Type}[DecidableEq K]{prog:kD}{w:d5}{knd:KeyKind prog w K}{a:aj}(x:hZ knd h al a []):h.DictOfH (w6 prog w) a []:=by obtain⟨kvs,d,p⟩:=x;have d:h.DictOf knd a []:=p.nil_inv▸d;obtain⟨o,es,ep,e,x,d,k,pr,nd⟩:=d;exact⟨o,es,ep,e,x,d,abp pr,λx m=>absurd m eH,wy⟩
theorem QF(O:dh c)(U:A.units+8<dJ)(R:SR c s.heap al u fs){i:Nat}{a:aj}(ea:al[i]?=some a){k:KV}{b:aj}(kx:gm s.heap k b){xs:List (KV×aj×aa)}(d:s.heap.DictOfH (w6 c.prog c.w) a xs):xk c A fs s al u (.ref b) (.ref a) (pH xs k).isSome:=have U5:(w6 c.prog c.w).room A.in1:=(xj U).2.2;⟨wpAny_in_heap U5 kx (ta O R ea) d (D3 R),wpAny_notIn_heap U5 kx (ta O R ea) d (D3 R)⟩
theorem abq(U:A.units+8<dJ)(R:SR c s.heap al u fs){v:V}{q:aa}{l:List V}{r:Bool}{a:aj}(e:j5 v l=some r)(hv:VR s.heap al v q)(x:pL s.heap al a l):xk c A fs s al u q (.ref a) r:=by obtain⟨is,n,x,vs⟩:=x;have k:=QD (A:=A.in1) (xj U).1 hv l e vs;have k1:∀y,y∈is->kG A.in1 s y q (uR v y):=λy m=>k.1 y (Di.mpr m);have k2:is.any (uR v)=r:=HU.symm.trans k.2;exact⟨in_listAt _ (iX x) k1 (by rw[k2];exact ly R),notIn_listAt _ (iX x) k1 (by rw[k2];exact ly R)⟩
theorem abr(U:A.units+8<dJ)(R:SR c s.heap al u fs){v:V}{q:aa}{l:List V}{r:Bool}{a:aj}{items:Array aa}(e:j5 v l=some r)(hv:VR s.heap al v q)(t:fz s.heap a items)(vs:aQ s.heap al l items.toList):xk c A fs s al u q (.ref a) r:=by have k:=QD (A:=A.in1) (xj U).1 hv l e vs;have k1:∀y,y∈items->kG A.in1 s y q (uR v y):=λy m=>k.1 y (Di.mpr m);have k2:items.any (uR v)=r:=HU.symm.trans k.2;exact⟨in_tupleAt _ (w0 t) k1 (by rw[k2];exact ly R),notIn_tupleAt _ (w0 t) k1 (by rw[k2];exact ly R)⟩
theorem abt(O:dh c)(U:A.units+8<dJ)(R:SR c s.heap al u fs){v:V}{q:aa}{m:MO}{r:Bool}{i:Nat}{a:aj}(ea:al[i]?=some a)(e:Qd v m=some r)(hv:VR s.heap al v q)(x:eB c s.heap al a m):xk c A fs s al u q (.ref a) r:=by cases m with
 |list l=>exact abq U R e hv x|bg kv=>cases hv with
  |int k t=>exact aJ e▸in_dict O R ea (wd ..) x|@tup l b items t vs=>cases kv with|nil=>obtain⟨k,hk,rfl⟩:=map_some e;exact QF O U R ea (I2 hk vs t) (QE x)|cons _ _=>exact aE e
  |_=>exact aE e
 |aV kv=>exact uQ e hv λk t e=>aJ e▸in_dict O R ea (beq_self_eq_true (α:=Str) k) x|ji kv=>obtain⟨k,hk,rfl⟩:=map_some e;obtain⟨b,rfl,kx⟩:=I3 hk hv;obtain⟨xs,d,p⟩:=x;exact p.isSome▸QF O U R ea kx d|_=>exact aE e
theorem QG(O:dh c)(U:A.units+8<dJ)(R:SR c s.heap al u fs){v b:V}{q p:aa}{r:Bool}(e:IP v b u=some r)(hv:VR s.heap al v q)(hb:VR s.heap al b p):xk c A fs s al u q p r:=by cases hb with|tup t vs=>exact abr U R e hv t vs|ref ea=>obtain⟨m,hm,e⟩:=bH e;exact abt O U R ea e hv (R.obj _ _ _ hm ea)|_=>exact aE e
theorem abu(R:SR c s.heap al u fs){v b:V}{q p:aa}{r:Bool}(e:Qe v b=some r)(hv:VR s.heap al v q)(hb:VR s.heap al b p):s_ c A fs s al u .IsNot q p r:=by cases hb with
 |none=>cases hv with|none=>exact aJ e▸isnot_none_none (ly R)|int=>exact aJ e▸isnot_int_none (ly R)|str=>exact aJ e▸isnot_str_none (ly R)|tup=>exact aJ e▸isnot_ref_none (ly R)|_=>exact aE e
 |_=>exact aE e
theorem D5{P:aa->aa->Prop}(e:zV v b f=some r)(hv:VR h al v q)(hb:VR h al b p)(k:∀x t y aG,f x y=r->P (.int x t) (.int y aG)):P q p:=mc e hv λx t e=>mc e hb λy aG e=>k x t y aG (aJ e)
theorem abv(O:dh c){op:sJ}{a b:V}{r:Bool}{qa qb:aa}(e:cmp op a b u=some r)(U:A.units+8<dJ)(R:SR c s.heap al u fs)(ka:VR s.heap al a qa)(kb:VR s.heap al b qb):s_ c A fs s al u op qa qb r:=by cases op with|Eq=>exact(QC U e R ka kb).1 c.prog c.w _ _ (ly R)|NotEq=>obtain⟨r',e',rfl⟩:=map_some e;exact(QC U e' R ka kb).2 c.prog c.w _ _ (ly R)|Lt=>exact D5 (P:=λq p=>s_ c A fs s al u .Lt q p r) e ka kb λx t y aG e=>e▸PySem.P.lt_int (ly R)|LtE=>exact D5 (P:=λq p=>s_ c A fs s al u .LtE q p r) e ka kb λx t y aG e=>e▸PySem.P.le_int (ly R)|Gt=>exact D5 (P:=λq p=>s_ c A fs s al u .Gt q p r) e ka kb λx t y aG e=>e▸PySem.P.gt_int (ly R)|GtE=>exact D5 (P:=λq p=>s_ c A fs s al u .GtE q p r) e ka kb λx t y aG e=>e▸PySem.P.ge_int (ly R)|In=>exact(QG O U R e ka kb).i|NotIn=>obtain⟨r',e',rfl⟩:=map_some e;exact(QG O U R e' ka kb).n|IsNot=>exact abu R e ka kb|_=>exact aE e
theorem abw(O:dh c):abc c:=λop a b u r e A fs s al qa qb U R ka kb=>abv O e U R ka kb
end
theorem QH x y v l:(pQ x v l).lookup y=if y=x then some v else l.lookup y:=by
 induction l with
 |nil=>
  refine gN.trans ?_;by_cases h:y=x;.rw[if_pos h,if_pos h.symm]
  .rw[if_neg h,if_neg λq=>h q.symm]|cons p r ih=>
  show wA y (if x=p.1 then(x,v)::r else p::pQ x v r)=_;by_cases h:x=p.1
  .rw[if_pos h,gN,gN];by_cases h':y=x;.rw[if_pos h',if_pos h'.symm]
   .rw[if_neg h',if_neg λq=>h' q.symm,if_neg λq=>h' (q.symm.trans h.symm)]
  .rw[if_neg h,gN,gN,ih];by_cases h':p.1=y;.rw[if_pos h',if_pos h',if_neg λq=>h (q.symm.trans h'.symm)]
   .rw[if_neg h',if_neg h']
section
variable{rest fs:Fs}
theorem SR.frame(R:SR c h al u ((L,vars)::rest)){vars':bI}(hs:mZ L h h')(f:h_ h' al (L,vars')):SR c h' al u ((L,vars')::rest)/\a8 h al (((L,vars)::rest).map (·.1)) h' al:=by
 have mL:L∈((L,vars)::rest).map (·.1):=.head _;have I4:∀a∈al,a≠L:=λa ha q=>(gH.mp R.nd).2.2 a ha L mL q;have abx:∀p∈rest,p.1≠L:=λp hp q=>(jg.mp (gH.mp R.nd).2.1).1 (q▸sN (f:=(·.1)) hp);have keep:∀b o,b≠L->h.get? b=some o->h'.get? b=some o:=λb o q e=>(hs.2 b q).trans e;have kf:dT h h':=λa o e t=>keep a o (λq=>(R.kH e t).2 (q▸mL)) e;refine⟨⟨λb o e=>keep b o (λq=>R.DL e (gi _ (q▸mL))) (R.base b o e),R.off,R.len,R.nd,λi mo a e ea=>?_,λp hp=>(bX.mp hp).elim (λq=>q▸f) λhp=>?_⟩,⟨λb o e=>?_,λb o e _ h2=>⟨o,keep b o (λq=>h2 (q▸mL)) e,.inl rfl⟩,[],(cG _).symm,λ_ m=>absurd m eH⟩⟩;.exact(R.obj i mo a e ea).keep (λo=>keep a o (I4 a (ez ea))) ⟨kf,λb o e t m=>⟨o,keep b o (λq=>(R.fr _ (.head _)).look.tb (q▸e) t) e,t⟩,λ_ _ e=>e,λa m=>.inl m⟩
 .exact(R.fr p (.tail _ hp)).keep (λo=>keep _ o (abx p hp)) kf λ_ _ e=>e
 .by_cases q:b=L;.obtain⟨o',e'⟩:=f.look.there;exact⟨o',q▸e'⟩
  .exact⟨o,keep b o q e⟩
theorem oD.cell(x:oD h al a v):∃v',h.IsCell a v':=by cases v with|none=>exact⟨_,x⟩|some v=>obtain⟨p,d,-⟩:=x;exact⟨_,d⟩
theorem aby(hn:ag.kindOf x=some .local)(C:dm c ag al Y L)(R:SR c s.heap al u ((L,Y.vars)::rest))(k:VR s.heap al v q){Q:Unit->aF->Prop}{E:aa->aF->Prop}(hQ:∀s',SR c s'.heap al u ((L,pQ x v Y.vars)::rest)->a8 s.heap al (((L,Y.vars)::rest).map (·.1)) s'.heap al->cW s s'->dm c ag al {Y with vars:=pQ x v Y.vars} L->Q () s'):
 av c.M A (y0 ag x q) Q E s:=by obtain⟨m,hm,km⟩:=R.fr _ (.head _);refine Ng hn (C.loc▸hm) (λh' fB eD=>?_) (C.kind▸rfl);rw[C.loc]at fB eD;have kf:dT s.heap h':=λa o e t=>(eD.2 a λq=>(R.kH e t).2 (q▸.head _)).trans e;have T:=R.frame (vars':=pQ x v Y.vars) eD ⟨_,fB,λy w ey=>by
 rw[QH]at ey;by_cases h:y=x;.rw[if_pos h]at ey;rw[if_pos h];exact⟨q,rfl,aJ ey▸k.mono kf λ_ _ e=>e⟩
 .rw[if_neg h]at ey;rw[if_neg h];obtain⟨z,hz,hv⟩:=km y w ey;exact⟨z,hz,hv.mono kf λ_ _ e=>e⟩⟩;exact hQ _ T.1 T.2 ⟨rfl,rfl,rfl⟩ ⟨C.kind,C.loc,C.gl,C.bi,C.names,C.cells,C.nest⟩
theorem abz(hn:ag.kindOf x=some .cell)(ei:Y.cells.lookup x=some i)(hw:u[i]?=some (.cell w))(C:dm c ag al Y L)(R:SR c s.heap al u ((L,Y.vars)::rest))(k:VR s.heap al v q){Q:Unit->aF->Prop}{E:aa->aF->Prop}(hQ:∀s',SR c s'.heap al (u.set i (.cell (some v))) ((L,Y.vars)::rest)->a8 s.heap al (((L,Y.vars)::rest).map (·.1)) s'.heap al->cW s s'->Q () s'):av c.M A (y0 ag x q) Q E s:=by obtain⟨a,ea,eb⟩:=C.cells x i ei;obtain⟨v',hc⟩:=oD.cell (R.obj i _ a hw eb);refine wpAny_storeName_cell C.kind hn ea hc λh' I5 eD=>?_;have kf:dT s.heap h':=λb o e t=>(eD.2 b λq=>(R.kH e t).1 (q▸ez eb)).trans e;have T:=R.set (mo':=.cell (some v)) hw eb (λb o e ne=>(eD.2 b ne).trans e) ⟨q,I5,k.mono kf λ_ _ e=>e⟩;exact hQ _ T.1 T.2 ⟨rfl,rfl,rfl⟩
theorem xq(e:fN Y u x v=some (bR,aM))(C:dm c ag al Y L)(R:SR c s.heap al u ((L,Y.vars)::rest))(k:VR s.heap al v q){Q:Unit->aF->Prop}{E:aa->aF->Prop}(hQ:∀s',SR c s'.heap al aM ((L,bR.vars)::rest)->a8 s.heap al (((L,Y.vars)::rest).map (·.1)) s'.heap al->cW s s'->dm c ag al bR L->Q () s'):av c.M A (y0 ag x q) Q E s:=by obtain⟨kd,hl,e⟩:=bH e;have hn:=C.names x;rw[hl]at hn;cases kd with|«local»=>have e:=jW (aJ e);exact aby hn C R k λs' R' T m C'=>hQ s' (e.1▸e.2▸R') T m (e.1▸C')|cell=>obtain⟨i,ei,e⟩:=bH e;obtain⟨m,hw,e⟩:=bH e;obtain⟨w,rfl,e⟩:=I0 e;have e:=jW (aJ e);exact abz hn ei hw C R k λs' R' T m=>hQ s' (e.1▸e.2▸R') T m (e.1▸C)|_=>exact aE e
theorem c_.cons_inv{K:Type}{p:K×V}{l:List (K×V)}{qs:List (K×aa)}(x:c_ h al (p::l) qs):∃q r,qs=(p.1,q)::r/\VR h al p.2 q/\c_ h al l r:=by cases x with|cons a t=>exact⟨_,_,rfl,a,t⟩
theorem abA f(hf:∀n v aG,f (n,v) aG=(do y0 ag n v;pure (.yield ⟨⟩))) bs:∀(qs:List (Str×aa))(Y bR:Loc)(u aM:List MO)(s:aF),ni bs Y u=some (bR,aM)->dm c ag al Y L->SR c s.heap al u ((L,Y.vars)::rest)->c_ s.heap al bs qs->∀(Q:PUnit->aF->Prop),(∀s',SR c s'.heap al aM ((L,bR.vars)::rest)->a8 s.heap al (((L,Y.vars)::rest).map (·.1)) s'.heap al->cW s s'->dm c ag al bR L->Q ⟨⟩ s')->av c.M A (forIn qs ⟨⟩ f) Q E s:=by induction bs with|nil=>intro qs Y bR u aM s e C R K Q hQ;have e:=jW (aJ e);rw[K.nil_inv,Oj];exact aP (hQ s (e.1▸e.2▸R) (a8.refl ..) (cW.refl s) (e.1▸C))|cons p l ih=>intro qs Y bR u aM s e C R K Q hQ;obtain⟨w,jk,e⟩:=bH e;obtain⟨q,r,rfl,a,t⟩:=K.cons_inv;rw[zk,hf];exact aw (aw (xq jk C R a λcq gP iY uS oL=>aP (ih r w.1 bR w.2 aM cq e oL gP (t.mono (R.fix iY) iY.at) Q λdD d7 j6 kM te=>hQ dD d7 (iY.trans j6) (uS.trans kM) te)))
theorem SR.enter(R:SR c h al u fs):SR c (h.push {cls:=.type "frame",data:=.dict #[]}) al u ((h.objs.size,[])::fs):=by have k:∀b o,h.get? b=some o->(h.push {cls:=.type "frame",data:=.dict #[]}).get? b=some o:=λb o e=>d6 _ e;have hn:h.objs.size∉al++fs.map (·.1):=λm=>mU _ (R.lt m);refine⟨λb o e=>k b o (R.base b o e),λa m=>?_,R.len,(wx.nodup_iff).mpr (jg.mpr ⟨hn,R.nd⟩),λi mo a e ea=>(R.obj i mo a e ea).keep (λo=>k a o) (.of k al),λp hp=>(bX.mp hp).elim (λq=>q▸⟨_,Heap.Ns.new h _,λx v q=>aE q⟩) λhp=>(R.fr p hp).keep (λo=>k _ o) (λa o e _=>k a o e) λ_ _ e=>e⟩;refine(cV.mp m).elim (λm=>R.off a (eG _ m)) λm=>(bX.mp m).elim (λq=>?_) λm=>R.off a (gi _ m);cases z:c.B.get? a with|none=>rfl|some o=>exact absurd (eW (R.base _ o z)) (q▸mU _)
theorem SR.drop(R:SR c h al u (p::fs)):SR c h al u fs:=⟨R.base,λa m=>R.off a ((cV.mp m).elim (eG _) λm=>gi _ (.tail _ m)),R.len,(jg.mp ((wx.nodup_iff).mp R.nd)).2,R.obj,λp hp=>R.fr p (.tail _ hp)⟩
theorem a8.leave(k:∀b o,h.get? b=some o->az.get? b=some o)(hL:h.get? L=none)(T:a8 az al (L::fa) h' aT):a8 h al fa h' aT:=by refine⟨λb o e=>T.live b o (k b o e),λb o e h1 h2=>T.keep b o (k b o e) h1 λq=>(bX.mp q).elim (λq=>aE ((q▸hL:h.get? b=none).symm.trans e)) h2,?_⟩;obtain⟨n,e,hn⟩:=T.ext;refine⟨n,e,λa ha=>?_⟩;cases z:h.get? a with|none=>rfl|some o=>exact aE ((hn a ha).symm.trans (k a o z))
theorem abB names:∀(u:List MO)(acc:List (Str×Nat))(cs:List (Str×aj))(h:a_)(al:List aj),SR c h al u fs->dv al acc cs->∃aT,SR c (uu h names) aT (pR names u acc).1 fs/\a8 h al (fs.map (·.1)) (uu h names) aT/\dv aT (pR names u acc).2 (wh h.objs.size names cs):=by induction names with|nil=>exactλu acc cs h al R K=>⟨al,R,a8.refl ..,K⟩|cons p r ih=>
 intro u acc cs h al R K;have e1:uu h (p::r)=if(p.2==.cell)=true then uu (h.push {cls:=.type "cell",data:=.cell none}) r else uu h r:=rfl;have e2:pR (p::r) u acc=if p.2=.cell then pR r (u++[.cell none]) ((p.1,u.length)::acc)else pR r u acc:=rfl;have e3:wh h.objs.size (p::r) cs=if(p.2==.cell)=true then wh (h.objs.size+1) r ((p.1,h.objs.size)::cs)else wh h.objs.size r cs:=rfl;by_cases hk:p.2=.cell;.have hb:(p.2==uD)=true:=beq_iff_eq.mpr hk;rw[e1,e2,e3,if_pos hb,if_pos hk,if_pos hb];have P:=R.push (o:={cls:=.type "cell",data:=.cell none}) (mo:=.cell none) rfl ⟨_,gj _ rfl,rfl⟩;obtain⟨aT,R',T',K'⟩:=ih _ ((p.1,u.length)::acc) ((p.1,h.objs.size)::cs) _ _ P.1 (.cons (R.len▸lX) (K.mono P.2.at));exact⟨aT,R',P.2.trans T',C3 ..▸K'⟩
 .have hb:¬(p.2==uD)=true:=λq=>hk (eq_of_beq q);rw[e1,e2,e3,if_neg hb,if_neg hk,if_neg hb];exact ih u acc cs h al R K
end
theorem abC{α:Type}{v:α}{zs:List (Str×α)}(l:List Str)(hl:∀m∈l,m≠n):l.filterMap (λm=>(((n,v)::zs).lookup m).map (m,·))=l.filterMap (λm=>(zs.lookup m).map (m,·)):=by induction l with|nil=>rfl|cons m l ih=>rw[zf,zf,ih λm hm=>hl m (.tail _ hm),gN,if_neg λq=>hl m (.head _) q.symm]
theorem QI{α:Type}(ns:List Str):∀{vs:List α},vs.length=ns.length->ns.Nodup->ns.filterMap (λn=>((ns.zip vs).lookup n).map (n,·))=ns.zip vs:=by induction ns with|nil=>exactλ_ _=>rfl|cons n ns ih=>intro vs e nd;cases vs with|nil=>exact absurd e (M7 _).symm|cons v vs=>rw[List.zip_cons_cons,zf,gN,if_pos rfl,abC ns λm hm(q:m=n)=>(jg.mp nd).1 (q▸hm),ih (zO e) (jg.mp nd).2];rfl
theorem abD(o:Obj)(f):(o.mapFields f).dict=o.dict:=by obtain⟨c,d,dt,sl⟩:=o;cases dt<;>rfl
theorem abE(t:Tb o) x:Tb (o.mapFields (·.setIfInBounds 3 x)):=by obtain⟨ts,L,d,e,z⟩:=t;exact⟨_,L,H3 d _,(OI ai).trans e,HQ.symm▸z⟩
def oM(h:a_)(a:aj):Prop:=∃o vs T,h.get? a=some o/\o.data=.fields vs/\vs[1]?=some (.ref T)
structure nq(c:aR)(s:aF)(al:List aj)(fs:Fs)(u:List MO)(s':aF):Prop where
 R:SR c s'.heap al u fs
 T:a8 s.heap al (fs.map (·.1)) s'.heap al
 m:cW s s'
theorem nq.refl(R:SR c s.heap al u fs):nq c s al fs u s:=⟨R,a8.refl ..,cW.refl s⟩
theorem nq.trans(x:nq c s al fs u cq)(y:nq c cq al fs u dD):nq c s al fs u dD:=⟨y.R,x.T.trans y.T,x.m.trans y.m⟩
theorem SR.exc(R:SR c h al u fs){i d:Nat}{a:aj}(ea:al[i]?=some a)(ex:u[i]?=some (.exc d)):DJ c h al a d:=R.obj i _ a ex ea
theorem SR.QJ(R:SR c h al u fs){b:aj}{o:Obj}(e:h.get? b=some o)(t:Tb o):b∉fs.map (·.1):=λq=>by obtain⟨p,hp,z⟩:=dS.mp q;exact(R.fr p hp).look.tb (z▸e) t
theorem QK(R:SR c s.heap al u fs){T:aj}{oT:Obj}(eT:s.heap.get? T=some oT)(t:Tb oT)(nT:T∉al)(nB:c.B.get? T=none){x:aa}{Q:Unit->aF->Prop}{E:aa->aF->Prop}(hQ:∀s',nq c s al fs u s'->(∀b,b∈al->s'.heap.get? b=s.heap.get? b)->Q () s'):av c.M A (setField (.ref T) 3 x) Q E s:=by
 obtain⟨ts,L,d,e1,z⟩:=id t;refine NP eT d (cw ai z) ?_;have abF:=pI (zz (·.setIfInBounds 3 x)) eT (OU (H3 d (·.setIfInBounds 3 x)));have other:∀b,b≠T->(s.heap.update T (zz (·.setIfInBounds 3 x))).get? b=s.heap.get? b:=λb ne=>sS _ _ (hY ne);have S:=R.shift (h':=s.heap.update T (zz (·.setIfInBounds 3 x))) (λb o e h1 h2=>?_) (λi a mo ea em=>.inl λo e=>(other a λq=>nT (q▸ez ea)).trans e) (λp hp o e=>⟨o.slots,(other _ λq=>R.QJ eT t (q▸sN hp)).trans e⟩);.exact hQ _ ⟨S.1,S.2,⟨rfl,rfl,rfl⟩⟩ λb m=>other b λq=>nT (q▸m)
 .by_cases q:b=T;.have :oT=o:=aJ (eT.symm.trans (q▸e));exact⟨_,q▸abF,.inr ⟨this▸t,abE t x,q▸nB⟩⟩
  .exact⟨o,(other b q).trans e,.inl rfl⟩
def q0(fs:Fs)(l:List Env):Prop:=∀e∈l,∃L,e.frame=some L/\L∈fs.map (·.1)/\e.scope.kind=.function
theorem abG(R:SR c h al u fs) l:q0 fs l->h.FunFrames {} l:=by induction l with|nil=>exactλ_=>trivial|cons ag rest ih=>intro k;obtain⟨L,hf,hL,hk⟩:=k ag (.head _);obtain⟨p,hp,z⟩:=dS.mp hL;obtain⟨o,e,k1⟩:=(z▸(R.fr p hp).look:gn h L true);obtain⟨m,⟨o',es,ep,e',d',_⟩,_⟩:=R.fr p hp;have q:o'=o:=aJ (e'.symm.trans (z▸e));exact⟨by rw[hk];decide,⟨L,o,hf,rfl,e,λvs aG=>P6 (d'.symm.trans (q▸aG))⟩,ih λe he=>k e (.tail _ he)⟩
noncomputable abbrev xr(head:aa)(L:aj)(pl:List aa):Obj:={cls:=.type "traceback",dict:=none,data:=.fields ([head,.ref L,.none,gG L,.none]++(if pl.isEmpty then wz 6 l7 else pl)).toArray}
theorem abH:Tb (xr head L pl):=⟨_,L,rfl,rfl,by rw[CU,aX];exact cy 5 _⟩
theorem QL{vs:Array aa}(h:5<vs.size):(vs.setIfInBounds 1 v)[1]?=some v:=Array.getElem?_setIfInBounds_self_of_lt (v3 ai h)
theorem abI(R:SR c h al u fs){i d:Nat}{a:aj}(ea:al[i]?=some a)(ex:u[i]?=some (.exc d)){L:aj}{head:aa}{pl:List aa}{az:a_}(dN:h.objs.size=az.objs.size)(ck:∀b,b∉fs.map (·.1)->az.get? b=h.get? b)(ia:∀b o,h.get? b=some o->∃sl,az.get? b=some {o with slots:=sl}){oe:Obj}{dx:aj}{vs:Array aa}(j7:al[d]?=some dx)(he:h.get? a=some oe)(hc:oe.cls=.ref c.cx)(q_:oe.dict=some dx)(hd:oe.data=.fields vs)(hz:5<vs.size) h'(hh:h'=(az.push (xr head L pl)).update a (zz (·.setIfInBounds 1 (jD az.objs.size)))):SR c h' al u fs/\a8 h al (fs.map (·.1)) h' al/\oM h' a:=by
 have ma:=ez ea;have z4:∀b,b∈al->b∉fs.map (·.1):=λb hb q=>(gH.mp R.nd).2.2 b hb b q rfl;have QM:az.get? a=some oe:=(ck a (z4 a ma)).trans he;have I6:=d6 (h:=az) (xr head L pl) QM;have I7:=H3 hd (·.setIfInBounds 1 (jD az.objs.size));have QN:h'.get? a=_:=hh▸pI (zz (·.setIfInBounds 1 (jD az.objs.size))) I6 (OU I7);have other:∀b,b≠a->h'.get? b=(az.push (xr head L pl)).get? b:=λb ne=>hh▸sS _ _ (hY ne);have abJ:h'.get? az.objs.size=some (xr head L pl):=(other _ (v5 (eW QM))).trans (gj az rfl);have keep:∀b o,b≠a->az.get? b=some o->h'.get? b=some o:=λb o hb e=>(other b hb).trans (d6 _ e);have S:=R.shift (h':=h') (λb o e h1 h2=>⟨o,keep b o (λq=>h1 (q▸ma)) ((ck b h2).trans e),.inl rfl⟩) (λj b mo eb em=>?_) (λp hp o e=>?_);.exact⟨S.1,S.2,⟨_,_,az.objs.size,QN,I7,QL hz⟩⟩
 .by_cases q:b=a
  .have ej:j=i:=DK (gH.mp R.nd).1 eb (q▸ea);have em:mo=.exc d:=aJ (em.symm.trans (ej▸ex));refine .inr (em▸q▸⟨_,dx,_,j7,QN,(Obj.cls_mapFields ..).trans hc,(abD ..).trans q_,I7,HQ.symm▸hz,.has az.objs.size _ (QL hz) abJ abH (λm=>?_) ?_⟩);.exact absurd (R.lt (eG _ m)) (dN▸mU _)
   .cases z:c.B.get? az.objs.size with|none=>rfl|some o=>exact absurd (eW (R.base _ o z)) (dN▸mU _)
  .exact .inl λo e=>keep b o q ((ck b (z4 b (ez eb))).trans e)
 .obtain⟨sl,e'⟩:=ia _ o e;exact⟨sl,keep _ _ (λq=>z4 a ma (q▸sN hp)) e'⟩
theorem QO(R:SR c s.heap al u fs){i d:Nat}{a:aj}(ea:al[i]?=some a)(ex:u[i]?=some (.exc d)){ag:Env}{outer:List Env}{L:aj}(xu:A.frames=some (ag::outer))(oN:q0 fs (ag::outer))(hf:ag.frame=some L){head:aa}{abK:Bool}{Q:Unit->aF->Prop}{E:aa->aF->Prop}(hQ:∀s',nq c s al fs u s'->oM s'.heap a->Q () s'):av c.M A (do let b<-frameOf ag;let pl<-entryPlaceOf L abK;let b<-Pm head b .none (gG L) .none pl;setField (.ref a) 1 b) Q E s:=by
 obtain⟨oe,dx,vs,j7,he,hc,q_,hd,hz,-⟩:=R.exc ea ex;refine aw (wpAny_frameOf_fun (base:={}) xu (abG R _ oN) hf λaz tg=>?_);refine aw (wpAny_entryPlaceOf λpl j8=>?_);unfold Pm newFields;refine aw (si ?_ (j8.sizeOk5 _ _ _ _ _));have ck:∀b,b∉fs.map (·.1)->az.get? b=s.heap.get? b:=λb hb=>tg.2.1 b λq=>by obtain⟨e,he,abL⟩:=N7.mp q;obtain⟨L',h1,h2,_⟩:=oN e he;exact hb (aJ (h1.symm.trans abL)▸h2)
 have z4:a∉fs.map (·.1):=λq=>(gH.mp R.nd).2.2 a (ez ea) a q rfl;refine NP (d6 (h:=az) (xr head L pl) ((ck a z4).trans he)) hd (v3 ai hz) ?_;have S:=abI (head:=head) (pl:=pl) (L:=L) R ea ex tg.1.symm ck tg.2.2 j7 he hc q_ hd hz _ rfl;exact hQ _ ⟨S.1,S.2.1,⟨rfl,rfl,rfl⟩⟩ S.2.2
theorem QP T:(jD T !=l7)=true:=rfl
theorem QQ(R:SR c s.heap al u fs){i d:Nat}{a:aj}(ea:al[i]?=some a)(ex:u[i]?=some (.exc d)){ag:Env}{outer:List Env}{L:aj}(xu:A.frames=some (ag::outer))(oN:q0 fs (ag::outer))(hf:ag.frame=some L){Q:Unit->aF->Prop}{E:aa->aF->Prop}(hQ:∀s',nq c s al fs u s'->oM s'.heap a->Q () s'):av c.M A (CE (.ref a) ag) Q E s:=by obtain⟨oe,dx,vs,j7,he,hc,q_,hd,hz,I8⟩:=R.exc ea ex;unfold CE;simp only[hf];cases I8 with|no h1=>refine aw (pE he hd h1 ?_);rw[if_neg ai];exact QO R ea ex xu oN hf hQ|has T oT h1 eT tT nT nB=>
 refine aw (pE he hd h1 ?_);rw[if_pos (QP T)];obtain⟨ts,L',d',e1,z⟩:=id tT;refine aw (pE eT d' (wF (cw (by decide:3<5) z)) ?_);by_cases hq:(ts[3]'(cw (by decide:3<5) z)==gG L)=true;.rw[if_pos hq];exact aP (hQ s (.refl R) ⟨oe,vs,T,he,hd,h1⟩)
 .rw[if_neg hq];exact aw (QK R eT tT nT nB λcq G _=>QO G.R ea ex xu oN hf λdD I9 I_=>hQ dD (G.trans I9) I_)
theorem D6(R:SR c s.heap al u fs){i d:Nat}{a:aj}(ea:al[i]?=some a)(ex:u[i]?=some (.exc d)){fr:Option aj}{Q:Unit->aF->Prop}{E:aa->aF->Prop}(hQ:∀s',nq c s al fs u s'->(oM s.heap a->oM s'.heap a)->Q () s'):av c.M A (Hm (.ref a) fr) Q E s:=by obtain⟨oe,dx,vs,j7,he,hc,q_,hd,hz,I8⟩:=R.exc ea ex;unfold Hm;cases I8 with|no h1=>refine aw (pE he hd h1 ?_);rw[if_neg ai];exact aP (hQ s (.refl R) id)|has T oT h1 eT tT nT nB=>refine aw (pE he hd h1 ?_);rw[if_pos (QP T)];exact QK R eT tT nT nB λcq G ck=>hQ cq G λ_=>⟨oe,vs,T,(ck a (ez ea)).trans he,hd,h1⟩
theorem abM(R:SR c s.heap al u fs){i d:Nat}{a:aj}(ea:al[i]?=some a)(ex:u[i]?=some (.exc d)){ag:Env}{outer:List Env}{L:aj}(xu:A.frames=some (ag::outer))(oN:q0 fs (ag::outer))(hf:ag.frame=some L){Q:Unit->aF->Prop}{E:aa->aF->Prop}(hQ:∀s',nq c s al fs u s'->oM s'.heap a->Q () s'):av c.M A (leaving ag (.ref a)) Q E s:=by unfold leaving;exact aw (QQ R ea ex xu oN hf λcq G Ja=>D6 G.R ea ex λdD I9 I_=>hQ dD (G.trans I9) (I_ Ja))
theorem abN(R:SR c s.heap al u fs){i d:Nat}{a:aj}(ea:al[i]?=some a)(ex:u[i]?=some (.exc d)){ag:Env}(hn:oM s.heap a){QR:String}{α:Type}{Q:α->aF->Prop}{E:aa->aF->Prop}(hQ:∀s',nq c s al fs u s'->oM s'.heap a->E (.ref a) s'):av c.M A (Nu QR (.ref a) ag:Sem α) Q E s:=by obtain⟨o,vs,T,e,d',h1⟩:=id hn;unfold Nu;refine aw (pE e d' h1 ?_);rw[if_neg (show¬(jD T==l7)=true from l5)];exact aw (D6 R ea ex λcq G Ja=>Cw (hQ cq G (Ja hn)))
def RF:Fl->List aj->a_->lW->Prop|.next,_,_,fl=>fl=.next|.ret v,al,h,fl=>∃q,fl=.ret q/\VR h al v q
structure d8(Y bR:Loc):Prop where
 sc:bR.sc=Y.sc
 cells:bR.cells=Y.cells
 nest:bR.nest=Y.nest
theorem d8.refl Y:d8 Y Y:=⟨rfl,rfl,rfl⟩
theorem d8.trans(x:d8 Y bR)(y:d8 bR abO):d8 Y abO:=⟨y.sc.trans x.sc,y.cells.trans x.cells,y.nest.trans x.nest⟩
theorem dm.D7(R:dm c ag al Y L)(e:d8 Y bR):dm c ag al bR L:=⟨R.kind,R.loc,R.gl,R.bi,by rw[e.sc];exact R.names,by rw[e.cells];exact R.cells,by rw[e.nest];exact R.nest⟩
structure Bx(A:dR)(ag:Env)(outer:List Env)(L:aj)(rest:Fs):Prop where
 frames:A.frames=some (ag::outer)frame:ag.frame=some L
 kind:ag.scope.kind=.function
 outer:q0 rest outer
theorem q0.tail(x:q0 fs l):q0 (p::fs) l:=λe he=>by obtain⟨L,a,b,d⟩:=x e he;exact⟨L,a,.tail _ b,d⟩
theorem Bx.QS{outer:List Env}(B:Bx A ag outer L rest) v:q0 ((L,v)::rest) (ag::outer):=λe he=>by
 rcases bX.mp he with rfl|he;.exact⟨L,B.frame,.head _,B.kind⟩
 .exact B.outer.tail e he
theorem uT[Decidable p]{x y:Sem α}{Q:α->aF->Prop}(h:¬p)(k:av M A y Q E s):av M A (if p then x else y) Q E s:=by rw[if_neg h];exact k
theorem QT{α β:Type}{l:List α}{b:β}{f:α->β->Sem (ForInStep β)}{Q:β->aF->Prop}(h:l=[])(k:Q b s):av M A (forIn l b f) Q E s:=by rw[h,Oj];exact aP k
noncomputable def Jb(fd:pG)(as:List Arg):FuncData:={fd with params:={posonlyargs:=[],args:=as,vararg:=none,kwonlyargs:=[],kw_defaults:=[],kwarg:=none,defaults:=[]},defaults:=.none}
theorem abP{ns:List Str}{vals:List aa}(hl:vals.length=ns.length)(nd:ns.Nodup):ns.filter (λn=>((ns.zip vals).lookup n).isNone)=[]:=by
 rw[List.filter_eq_nil_iff];intro n hn hq;have h1:n∈(ns.filterMap (λn=>((ns.zip vals).lookup n).map (n,·))).map (·.1):=by rw[QI ns hl nd,Oc (bo hl.symm)];exact hn
 obtain⟨p,h2,h3⟩:=dS.mp h1;obtain⟨m,-,h5⟩:=N7.mp h2;obtain⟨w,h6,h7⟩:=sW.mp h5;have :m=n:=(congrArg Prod.fst h7).trans h3;rw[<-this,h6]at hq;exact absurd hq l5
theorem abQ(hl:vals.length=(as.map (·.arg)).length)(nd:(as.map (·.arg)).Nodup)(h:Q ((as.map (·.arg)).zip vals) s):av M A (y7 (Jb fd as) ⟨vals,[]⟩) Q E s:=by
 unfold y7;refine aw (aP ?_);refine aw (show av M A (pure none:Sem (Option (Array aa))) _ E s from aP ?_);refine uT (λq=>?_) ?_;.exact absurd (of_decide_eq_true ((eA.mp q).1)) (mV.mpr (bo hl))
 refine uT (λq=>?_) ?_;.have e:Ou ((none.getD #[]:Array aa).toList.length-(([]:List Str)++as.map (·.arg)).length) ((none.getD #[]:Array aa).toList)=[]:=CY;revert q;show¬(!(List.filter (λn=>(((as.map (·.arg)).zip vals).lookup n).isNone) (List.take ((as.map (·.arg)).length-(Ou ((none.getD #[]:Array aa).toList.length-(([]:List Str)++as.map (·.arg)).length) ((none.getD #[]:Array aa).toList)).length) (as.map (·.arg)))).isEmpty)=true;rw[e,zl,GW,eV,abP hl nd];exact l5
 refine aw (QT ?_ ?_);.exact(congrArg (List.zip _) CY).trans List.zip_nil_right
 refine aw (QT rfl ?_);refine aP ?_;show Q (List.filterMap (λn=>(((as.map (·.arg)).zip vals).lookup n).map (n,·)) (as.map (·.arg)++[])) s;rw[cG,QI _ hl nd];exact h
theorem QU(h:qX ps=true):ps={posonlyargs:=[],args:=ps.args,vararg:=none,kwonlyargs:=[],kw_defaults:=[],kwarg:=none,defaults:=[]}:=by obtain⟨p1,p2,p3,p4,p5,p6,p7⟩:=ps;unfold qX at h;simp only[iV,mY,uB]at h;rw[h.1.1.1.1.1.1,h.1.1.1.1.1.2,h.1.1.1.1.2,h.1.1.1.2,h.1.1.2,h.1.2]
theorem QV(hp:qX fd.params=true)(hl:vals.length=(fd.params.args.map (·.arg)).length)(nd:(fd.params.args.map (·.arg)).Nodup)(hd:fd.defaults=.none){Q:List (Str×aa)->aF->Prop}(h:Q ((fd.params.args.map (·.arg)).zip vals) s):av M A (y7 fd ⟨vals,[]⟩) Q E s:=by
 have e:Jb fd fd.params.args=fd:=by unfold Jb;rw[<-QU hp,<-hd]
 exact e▸abQ hl nd h
theorem a8.body(x:a8 h al fa az dM)(y:a8 az dM (L::fa) bl d1)(hL:h.get? L=none):a8 h al fa bl d1:=by
 obtain⟨x1,x2,n,xe,hn⟩:=x;obtain⟨y1,y2,n',ye,fB⟩:=y;refine⟨λb o e=>(x1 b o e).elim λo' e'=>y1 b o' e',λb o e h1 h2=>?_,n++n',by rw[ye,xe,cS],λa ha=>(cV.mp ha).elim (hn a) λq=>?_⟩;.obtain⟨w8,jk,ck⟩:=x2 b o e h1 h2;obtain⟨zS,uI,ia⟩:=y2 b w8 jk (λq=>(cV.mp (xe▸q)).elim h1 λq=>aE ((hn b q).symm.trans e)) λq=>(bX.mp q).elim (λq=>aE ((q▸hL:h.get? b=none).symm.trans e)) h2;exact⟨zS,uI,ck.elim (λk=>k▸ia) λt=>.inr ⟨t.1,ia.elim (λk=>k▸t.2) DF⟩⟩
 .cases z:h.get? a with|none=>rfl|some o=>obtain⟨o',e'⟩:=x1 a o z;exact aE ((fB a q).symm.trans e')
theorem c_.zip(ns:List Str):∀{l:List V}{r:List aa},aQ h al l r->c_ h al (ns.zip l) (ns.zip r):=by induction ns with|nil=>exactλ_=>.nil|cons n ns ih=>intro l r x;cases l with|nil=>exact x.jj .nil|cons v l=>exact x.fA λp r a t=>.cons a (ih t)
theorem abR(h:Qj sc=true):sc.kind=.function:=eq_of_beq (eA.mp h).2
theorem abT(h:ag.kindOf x=k):xi ag x k:=by cases k with|none=>exact h|some k=>cases k with|free=>exact .inl h|_=>exact h
theorem abU{nest:Option Str}(e:enter ps sc cs nest args u=some (Y,aD))(R:SR c s.heap al u fs){cl:List (Str×aj)}(K:dv al cs cl){qs:List aa}(k:aQ s.heap al args qs){qual:Str}{fn:aj}{code:aa}(hn:∀q,nest=some q->qual=q/\∃cd P,code=.ref cd/\al[0]?=some P/\zG c.B cd P){Q:Env->aF->Prop}(hQ:∀ag dM L cq,dm c ag dM Y L->ag.frame=some L->ag.scope=sc->s.heap.get? L=none->SR c cq.heap dM aD ((L,Y.vars)::fs)->a8 s.heap al (fs.map (·.1)) cq.heap dM->cW s cq->Q ag cq):av c.M A (Cp sc fK cl ((ps.args.map (·.arg)).zip qs) qual (some fn) code none hV) Q E s:=by obtain⟨Jc,e⟩:=cI e;obtain⟨bs,xv,e⟩:=bH e;obtain⟨-,xv⟩:=cI xv;replace e:=aJ xv▸e;have hL:s.heap.get? s.heap.objs.size=none:=zq (br _);simp only[Cp,Option.isSome_none,sU,if_false];refine aw (wpAny_alloc ?_);refine aw (wpAny_layCells _ (λname kind cells=>by cases abV:kind==uD<;>simp[abV]) _ _ _ _ ?_);obtain⟨dM,d7,j6,abW⟩:=abB sc.names u cs cl _ _ R.enter K;have iY:a8 s.heap al (fs.map (·.1)) (uu (s.heap.push {cls:=.type "frame",data:=.dict #[]}) sc.names) dM:=a8.leave (λb o e=>d6 _ e) hL j6;have oL:dm c (newEnv sc s.heap.objs.size fK (wh (s.heap.push {cls:=.type "frame",data:=.dict #[]}).objs.size sc.names cl) qual (some fn) code none hV) dM ⟨sc,[],(pR sc.names u cs).2,nest⟩ s.heap.objs.size:=⟨abR Jc.1,rfl,rfl,rfl,λx=>abT rfl,λx i e=>abW.lookup e,λq e=>by obtain⟨a1,cd,P,a2,a3,a4⟩:=hn q e;exact⟨a1,cd,P,a2,j6.at _ _ a3,a4⟩⟩;exact aw (abA (L:=s.heap.objs.size) (rest:=fs) (ag:=newEnv sc s.heap.objs.size fK (wh (s.heap.push {cls:=.type "frame",data:=.dict #[]}).objs.size sc.names cl) qual (some fn) code none hV) _ (λ_ _ _=>rfl) _ _ _ _ _ _ {s with heap:=uu (s.heap.push {cls:=.type "frame",data:=.dict #[]}) sc.names} e oL d7 (c_.zip _ (R.w9 iY k)) _ λdD rf Jd Je abX=>aP (hQ _ dM s.heap.objs.size dD abX rfl rfl hL rf (iY.body Jd hL) ⟨Je.1,Je.2.1,Je.2.2⟩))
inductive rg(c:aR)(h:a_)(al:List aj)(a:aj)(ps:iz)(body:sv)(sc:cz)(cs:List (Str×Nat))(nest:Option Str):Prop|mk(o:Obj)(fd:pG)(e:h.get? a=some o)(d:o.data=.func fd)(p1:fd.params=ps)(p2:fd.body=body)(p3:fd.scope=sc)(p4:dv al cs fd.closure)(p5:fd.globals=fK)(p6:fd.builtins=hV)(p7:fd.defaults=.none)(cr:h.CodeRec fd.code fd.qualname)(n:∀q,nest=some q->fd.qualname++".<locals>."=q/\∃cd P,fd.code=.ref cd/\al[0]?=some P/\zG c.B cd P):rg c h al a ps body sc cs nest
theorem QW(hk:k<=8):aG+k+8*n<=aG+8*(n+1):=by rw[hU,M',dZ k];exact k_ (k_ hk _) _
theorem Cx.deeper(C:Cx c (n+1) hd A al fs){dM:List aj}(ha:jF al dM){ag:Env}{L:aj}{v:bI}(hf:ag.frame=some L)(hk:ag.scope.kind=.function):Cx c n hd (A.deeper ag) dM ((L,v)::fs):=by
 refine⟨lT A.depth 1 n▸C.depth,bD (QW (by decide:3<=8)) C.units,?_,?_,ha _ _ C.tab,C.guards⟩;.have :=(C.at ha).handled;cases hd<;>exact this
 .obtain⟨l,e,k⟩:=C.frames;refine⟨ag::l,(congrArg (wH (ag::·)) e:A.frames.map _=_),λx hx=>(bX.mp hx).elim (λq=>q▸⟨L,hf,.head _,hk⟩) λhx=>?_⟩;obtain⟨L',a,b,d⟩:=k x hx;exact⟨L',a,.tail _ b,d⟩
structure Jf(c:aR)(C fi:aj):Prop where
 makes:Makes c.M c.B C
 init:jZ c.M c.B (jz (.ref C) "__init__") (some (.ref fi))bind:∀self,jZ c.M c.B (bindSpecial (.ref fi) self) (.ref fi,[self])
theorem Makes.keeps(x:Makes M h C)(k:∀b o,h.get? b=some o->h'.get? b=some o):Makes M h' C:=⟨by obtain⟨oc,od,cd,sl,e,r⟩:=x.obj;exact⟨oc,od,cd,sl,k _ _ e,r⟩,x.made.keeps k,x.base.keeps k,x.self.keeps k,x.top.keeps k,x.call.keeps k,x.typ.keeps k⟩
section
variable{A:dR}{s:aF}
theorem QX:A.under (.builtin "type.__call__" ⟨.ref C::rest,[]⟩)={A with depth:=A.depth+1,units:=A.units+1}:=by
 obtain⟨hd,d,fr,gs,aG⟩:=A;have h1:(Pw "type.__call__" ⟨.ref C::rest,[]⟩).isGuard=false:=by show guardIds.contains "type.__call__"=false;decide+kernel
 have h2:(Pw "type.__call__" ⟨.ref C::rest,[]⟩).weight=1:=by simp only[Code.weight,h1];rfl
 simp only[Around.under,h2,Code.guards,h1];rfl
theorem Cx.tc(C:Cx c (n+1) hd A al fs):Cx c n hd {A with depth:=A.depth+1,units:=A.units+1} al fs:=⟨lT A.depth 1 n▸C.depth,bD (QW (by decide:1<=8)) C.units,by have :=C.handled;cases hd<;>exact this,C.frames,C.tab,C.guards⟩
theorem QY(R:SR c s.heap al u fs):SR c (s.heap.push s6) (al++[s.heap.objs.size]) (u++[.aV []]) fs/\a8 s.heap al (fs.map (·.1)) (s.heap.push s6) (al++[s.heap.objs.size]):=R.push (mo:=.aV []) rfl ⟨[],⟨_,#[],0,gj _ rfl,⟨rfl,rfl,rfl⟩,rfl,λ_ he=>absurd he (HR _),.nil,wy⟩,.nil⟩
end
theorem abY(R:SR c s.heap al u fs)(k:aQ s.heap al l items):PQ c s al fs RV (.ok (.tup l)) u (.ref s.heap.objs.size) {s with heap:=s.heap.push {cls:=.type "tuple",data:=.seq items.toArray}}:=by have kp:∀b o,s.heap.get? b=some o->(s.heap.push {cls:=.type "tuple",data:=.seq items.toArray}).get? b=some o:=λb o e=>d6 _ e;refine⟨al,R.keep kp,.of_keep kp ..,⟨rfl,rfl,rfl⟩,.tup (IsTup.new _ _) ?_⟩;exact k.mono (λa o e _=>kp a o e) λ_ _ e=>e
theorem uU(h:dk x=false):iA (x::xs) ag=(false,eval x ag)::iA xs ag:=by cases x with|Starred=>exact bZ h.symm|_=>rfl
theorem Jg(h:(x::xs).any dk=false):dk x=false/\xs.any dk=false:=Bool.or_eq_false_iff.mp h
theorem QZ:as.any dk=false->(jT pos (iA as ag)).any (·.1)=false:=by induction as with|nil=>exactλ_=>rfl|cons x xs ih=>intro h;rw[uU (Jg h).1];exact ih (Jg h).2
theorem Q0(h:(x::xs).any dk=false):iA (x::xs) ag=(false,eval x ag)::iA xs ag:=uU (Jg h).1
theorem Q1(hf:∀o n p,f≠.Attribute o n p):eval (.Call f as [] pos) ag=(eval f ag>>=λfv=>sx pos fv [] (jT pos (iA as ag)) []):=by cases f<;>first|rfl|exact absurd rfl (hf _ _ _)
def abZ(attr:Str)(ag:Env)(whole:Sem aa)(o:aq):Prop:=oH o=false->G_ o attr ag whole=whole
theorem ab0 attr ag whole o:abZ attr ag whole o:=by cases o with
 |Call f as ks p=>cases f with
  |Name x q=>cases as with
   |nil=>cases ks with|nil=>exactλh=>bZ h.symm|cons=>exactλ_=>rfl
   |cons=>exactλ_=>rfl
  |_=>exactλ_=>rfl
 |_=>exactλ_=>rfl
theorem Jh(h:oH o=false):G_ o attr ag whole=whole:=ab0 attr ag whole o h
noncomputable abbrev rh:List Value:=[.type "Exception",.type "BaseException",.type "object"]
structure ri where
 nm:Str
 q:Str
 N:aj
 bs:List aa
 sn:List Str
 sub:List aa
 ab:Bool
 col:Option Bool
 dd:Option aj
 k0:Option aa
 k1:Option aa
 k2:Option aa
 k3:Option aa
 k5:Option aa
 mN:Str->Option aa
abbrev ri.obj(D:ri)(C:aj):Obj:=Hf D.nm D.q C D.N D.bs rh true D.sn D.sub D.ab D.col D.dd D.k0 D.k1 D.k2 D.k3 D.k5 "Exception.__new__"
def Q2(c:aR)(n:Str):Prop:=∃D:ri,c.B.get? c.cx=some (D.obj c.cx)/\c.B.Ns D.N D.mN/\D.mN "__getattribute__"=none/\D.mN "__getattr__"=none/\D.mN n=none/\jz (.type "Exception") n=pure none
section
variable{os:sE}{D:ri}
theorem D8(hC:h.get? C=some (D.obj C))(hn:h.Ns D.N D.mN)(md:D.mN y=none){r:Option aa}(hB:jz (.type "Exception") y=pure r){Q:Option aa->aF->Prop}(hq:Q r ⟨h,g,d,t,os⟩):av M A (jz (.ref C) y) Q E ⟨h,g,d,t,os⟩:=Ni hC hn H0.mro hB (by rw[md];exact hq)
theorem Q3(hC:h.get? C=some (D.obj C))(hx:h.get? x=some o)(hc:o.cls=.ref C)(j9:o.dict=some dx){cr:Bool}{Q:Option aj->aF->Prop}(hq:Q (some dx) ⟨h,g,d,t,os⟩):av M A (Ct x cr) Q E ⟨h,g,d,t,os⟩:=by unfold Ct;refine aw (ow hx ?_);rw[hc];show av _ _ (CF C>>=_) _ _ _;unfold CF;refine aw (aw (sm hC (aP ?_)));rw[j9];exact aP hq
theorem ab1(hC:h.get? C=some (D.obj C))(hn:h.Ns D.N D.mN)(md:D.mN name=none)(hB:jz (.type "Exception") name=pure none)(hx:h.get? x=some o)(hc:o.cls=.ref C)(fh:o.data=.fields vs)(j9:o.dict=some dx)(ic:h.Ns dx mA)(hv:mA name=some v)(hq:Q (.done (.ret v)) ⟨h,g,d,t,os⟩):av (cv prog w) A (Builtin.«object.__getattribute__» ⟨[.ref x,.str name tk],[]⟩) Q E ⟨h,g,d,t,os⟩:=by
 unfold Builtin.«object.__getattribute__»;repeat(first|(with_reducible refine ow hx ?_;rw[hc])|(with_reducible refine D8 hC hn md hB ?_)|(with_reducible refine Q3 hC hx hc j9 ?_)|wp_step)
 rw[fh];repeat(first|(with_reducible refine Q3 hC hx hc j9 ?_)|(with_reducible refine He ic ?_;rw[hv])|wp_step)
 exact hq
theorem ab2(hC:h.get? C=some (D.obj C))(hx:h.get? x=some o)(hc:o.cls=.ref C)(hq:Q () ⟨h,g,d,t,os⟩):av M A (G4 "BaseException.__getattribute__" ⟨[.ref x,ab3],[]⟩) Q E ⟨h,g,d,t,os⟩:=by
 have hk:builtinKind "BaseException.__getattribute__"=some .slot:=by decide+kernel
 have ab4:splitId "BaseException.__getattribute__"=some ("BaseException","__getattribute__"):=by decide+kernel
 have ab5:(jD C::rh).contains (.type "BaseException")=true:=ak
 have ha:=F.args_bexc_ga (.ref x) ab3;simp only[G4,hk,ab4];refine aw ?_;unfold Hh;repeat(first|(with_reducible refine ow hx ?_;rw[hc])|(with_reducible refine Cj hC ?_;rw[ab5])|wp_step)
 exact hq
theorem ab6(FB:ExcAttrBase "Exception" auV)(hC:h.get? C=some (D.obj C))(hn:h.Ns D.N D.mN)(md:D.mN name=none)(hB:jz (.type "Exception") name=pure none)(hx:h.get? x=some o)(hc:o.cls=.ref C)(fh:o.data=.fields vs)(j9:o.dict=some dx)(ic:h.Ns dx mA)(hv:mA name=some v)(hq:R (.ok (.ret v)) ⟨h,g,d,t,os⟩):je (cv prog w) A (.call (.builtin "BaseException.__getattribute__") ⟨[.ref x,.str name tk],[]⟩) R ⟨h,g,d,t,os⟩:=GZ FB.ga.plain F.entry_bexc_ga (ab2 hC hx hc (ab1 hC hn md hB hx hc fh j9 ic hv hq))
theorem ab7(hC:h.get? C=some (D.obj C))(hn:h.Ns D.N D.mN)(z5:D.mN "__getattribute__"=none)(Ji:D.mN "__getattr__"=none)(md:D.mN name=none)(hB:jz (.type "Exception") name=pure none)(hx:h.get? x=some o)(hc:o.cls=.ref C)(fh:o.data=.fields vs)(j9:o.dict=some dx)(ic:h.Ns dx mA)(hv:mA name=some v)(hh:handedOut v=pure v)(hq:Q v ⟨h,g,d,t+1,os⟩):av (cv prog w) A (wm (.ref x) name expr) Q E ⟨h,g,d,t,os⟩:=by
 have FB:=PySem.F.attrBase_Exception;have f3:=FB.ga.bind (.ref x);have auW:(expr&&Hn (wM "BaseException.__getattribute__"))=false:=by cases expr<;>rfl
 have ab8:(wM "BaseException.__getattribute__"==wM "object.__getattribute__")=false:=by decide+kernel
 have Q4:(Hn (jD C)&&wM "BaseException.__getattribute__"==wM "object.__getattribute__")=false:=by rw[ab8];rfl
 unfold wm getAttrBy;repeat(any_goals(first|assumption|(with_reducible refine ow hx ?_;rw[hc])|(with_reducible refine D8 hC hn z5 FB.ga.lookup ?_)|(with_reducible refine D8 hC hn Ji FB.noGetattr ?_)|wp_step))
 refine ab6 FB hC hn md hB hx hc fh j9 ic hv ?_;show av _ _ (handedOut v) _ _ _;rw[hh];exact aP hq
end
structure lz(c:aR)(S:cJ)(K:d0):Prop where
 Jj:K.In c.B
 cx:S.cx=c.cx
 ab9:∀n,S.pO c.cx n=true->Q2 c n
 pO:∀C n,S.pO C n=true->C≠c.cx->jY K (.ref C) "__getattribute__"=some (some (.builtin "object.__getattribute__"))/\zE K C=true/\∃attr,jY K (.ref C) n=some attr/\noGet K attr=true
section
variable{c:aR}{K:d0}{h:a_}
theorem c_.found{K:Type}[DecidableEq K]{k:K}{kv:List (K×V)}{kvs:List (K×aa)}{v:V}(x:c_ h al kv kvs)(e:kv.lookup k=some v):∃p,mW kvs k=some p/\VR h al v p:=x.lookup.get e
theorem eh.found(x:eh h al kv xs)(e:kv.lookup k=some v):∃p,pH xs k=some p/\VR h al v p.2:=x.lookup.get e
theorem handed(e:IQ v=true)(x:VR h al v q):handedIn q=true:=by cases x with|st=>exact bZ e|_=>rfl
theorem D9 n t:(dQ prog w).is n (.str n t)=true:=beq_self_eq_true (α:=Str) n
theorem isStr_of{n:Str}:(dQ prog w).is n v=v.isStr n:=(dQ prog w).strs n n 0 v (beq_self_eq_true (α:=Str) n)
theorem Jk{n:Str}:(λe:lU=>(dQ prog w).is n e.key)=λe:lU=>e.key.isStr n:=funext λe=>isStr_of
theorem ab_{n:Str}(d:o.data=.dict es ep)(h:es.toList.find? (·.key.isStr n)=some e):wW n o=some (some e.val):=by unfold wW;rw[d];dsimp only;rw[h]
theorem Jl{n:Str}(pr:Pairs (dQ prog w) l kvs):(l.find? λe=>e.key.isStr n).map (·.val)=mW kvs n:=Jk (prog:=prog) (w:=w)▸pr.find n
theorem ab'{n:Str}(d:h.DictOf (dQ prog w) a kvs)(ho:h.get? a=some o)(e:mW kvs n=some p):wW n o=some (some p):=by obtain⟨o',es,ep,e',x,dd,k,pr,nd⟩:=d;obtain⟨en,D_,hv⟩:=map_some ((Jl pr).trans e);exact hv▸ab_ (aJ (e'.symm.trans ho)▸dd) D_
theorem Jm(h:(dQ prog w).is y v=true):∃x t,v=.str x t:=by rw[isStr_of]at h;cases v with|str x t=>exact⟨x,t,rfl⟩|_=>exact bZ h
theorem aca{n:Str}:hX es n=(es.toList.find? λe=>e.key.isStr n).map (·.val):=by obtain⟨l⟩:=es;unfold hX findBy;simp
theorem acb(d:h.DictOf (dQ prog w) a kvs):h.Ns a (mW kvs):=by obtain⟨o,es,ep,ho,_,hd,k,pr,_⟩:=d;exact⟨o,es,ep,ho,hd,λe he=>by obtain⟨y,hy,_⟩:=k e he;exact Jm hy,λn=>aca.trans (Jl pr)⟩
theorem Q5(e:zW u d nm=some x)(R:SR c h al u fs)(ed:al[d]?=some dx):∃kvs p,h.DictOf (dQ c.prog c.w) dx kvs/\mW kvs nm=some p/\IQ x=true/\VR h al x p:=by obtain⟨m,hm,e⟩:=bH e;obtain⟨kv,rfl,e⟩:=Qx e;obtain⟨kvs,hd,pr⟩:=R.obj _ _ _ hm ed;obtain⟨l1,l2⟩:=Option.filter_eq_some_iff.mp e;obtain⟨p,hp,hv⟩:=pr.found l1;exact⟨kvs,p,hd,hp,l2,hv⟩
theorem acd(SA:lz c S K){x:V}{nm:Str}{C d:Nat}{a:aj}(pT:S.pO C nm=true/\C≠S.cx)(e:zW u d nm=some x)(R:SR c s.heap al u fs)(i:DH s.heap al a C d){expr:Bool}{Q:aa->aF->Prop}{E:aa->aF->Prop}(hQ:∀p tk,VR s.heap al x p->Q p {s with toks:=tk}):av c.M A (wm (.ref a) nm expr) Q E s:=by obtain⟨dx,j7,eo⟩:=i;obtain⟨g1,g2,attr,g3,g4⟩:=SA.pO C nm pT.1 (SA.cx▸pT.2);obtain⟨kvs,p,hd,hp,l2,hv⟩:=Q5 e R j7;obtain⟨od,es,ep,uV,_⟩:=id hd;exact get_value (SA.Jj.keeps R.base) (⟨eo,rfl,rfl,uV⟩:InstAt s.heap a (zF C dx) C (some od)) g1 (findObj_own g2 g3 g4 (ab' hd uV hp)) (handed l2 hv) (hQ _ _ hv)
theorem ace(SA:lz c S K){x:V}{nm:Str}{d:Nat}{a:aj}(pT:S.pO S.cx nm=true)(e:zW u d nm=some x)(R:SR c s.heap al u fs)(i:DJ c s.heap al a d){expr:Bool}{Q:aa->aF->Prop}{E:aa->aF->Prop}(hQ:∀p tk,VR s.heap al x p->Q p {s with toks:=tk}):av c.M A (wm (.ref a) nm expr) Q E s:=by obtain⟨o,dx,vs,j7,eo,hc,q_,fh,_⟩:=i;obtain⟨D,b1,b2,b3,b4,b5,b6⟩:=SA.ab9 nm (SA.cx▸pT);obtain⟨kvs,p,hd,hp,l2,hv⟩:=Q5 e R j7;obtain⟨h,g,d',t,os⟩:=s;exact ab7 (R.base _ _ b1) (b2.keeps R.base) b3 b4 b5 b6 eo hc fh q_ (acb hd) hp (handedOut_of (handed l2 hv)) (hQ _ _ hv)
theorem Q6(SA:lz c S K){v x:V}{nm:Str}(e:DU S v nm u=some x)(R:SR c s.heap al u fs){q:aa}(k:VR s.heap al v q){expr:Bool}{Q:aa->aF->Prop}{E:aa->aF->Prop}(hQ:∀p tk,VR s.heap al x p->Q p {s with toks:=tk}):av c.M A (wm q nm expr) Q E s:=by refine z1 e k λi a ea e=>?_;obtain⟨m,hm,e⟩:=bH e;cases m with|inst C d=>exact acd SA (cI e).1 (cI e).2 R (R.obj _ _ _ hm ea) hQ|exc d=>exact ace SA (cI e).1 (cI e).2 R (R.obj _ _ _ hm ea) hQ|_=>exact aE e
theorem Q7(e:df l k=some x):-(2^63)<=k/\k<2^63/\∃j,CB k l.length=some j/\l[j]?=some x:=by obtain⟨h,e⟩:=cI e;obtain⟨j,h1,h2⟩:=aa3 e;exact⟨h.1,h.2,j,h1,h2⟩
theorem Int.acf(h:0<=a+b):-b<=a:=(ZQ h)
theorem acg(e:df l k=some x)(y:pL s.heap al a l){Q:aa->aF->Prop}{E:aa->aF->Prop}(hQ:∀p,VR s.heap al x p->Q p s):av c.M A (wo (.ref a) (.int k tk)) Q E s:=by
 obtain⟨items,n,il,vs⟩:=y;obtain⟨b1,b2,j,hj,hx⟩:=Q7 e;obtain⟨p,hp,hv⟩:=vs.get hx;rw[jC]at hp;rw[vs.length,eY]at hj;unfold CB at hj;by_cases hk:k<0;.rw[if_pos hk]at hj;obtain⟨hc,hj⟩:=cI hj;exact wpAny_getItem_list_neg (iX il) hk (Int.acf (of_decide_eq_true (eA.mp hc).1)) b1 (aJ hj▸hp) (hQ _ hv)
 .rw[if_neg hk]at hj;obtain⟨hc,hj⟩:=cI hj;exact wpAny_getItem_list (iX il) (of_decide_eq_true (eA.mp hc).1) b2 (aJ hj▸hp) (hQ _ hv)
theorem ach(e:df l k=some x)(t:fz s.heap a items)(vs:aQ s.heap al l items.toList){Q:aa->aF->Prop}{E:aa->aF->Prop}(hQ:∀p,VR s.heap al x p->Q p s):av c.M A (wo (.ref a) (.int k tk)) Q E s:=by obtain⟨b1,b2,j,hj,hx⟩:=Q7 e;obtain⟨p,hp,hv⟩:=vs.get hx;exact getItem_tuple t b1 b2 (by rw[<-eY,<-vs.length];exact hj) (jC▸hp) (hQ _ hv)
theorem Q8{K:Type}[DecidableEq K]{knd:KeyKind c.prog c.w K}{k:K}{key:aa}{a:aj}{kv:List (K×V)}{x:V}(hk:knd.is k key=true)(y:hZ knd s.heap al a kv)(e:kv.lookup k=some x){Q:aa->aF->Prop}{E:aa->aF->Prop}(hQ:∀p tk,VR s.heap al x p->Q p {s with toks:=tk}):av c.M A (wo (.ref a) key) Q E s:=by obtain⟨kvs,d,p⟩:=y;obtain⟨q,hq,hv⟩:=p.found e;exact wpAny_getItem_of hk d.mapOf hq (hQ _ _ hv)
theorem aci(e:zX i m=some x)(U:A.units+8<dJ)(y:eB c s.heap al a m)(ki:VR s.heap al i qi){Q:aa->aF->Prop}{E:aa->aF->Prop}(hQ:∀p tk,VR s.heap al x p->Q p {s with toks:=tk}):av c.M A (wo (.ref a) qi) Q E s:=by cases m with|list l=>exact mc e ki λk t e=>acg e y λp=>hQ p s.toks|bg kv=>exact mc e ki λk t e=>Q8 (wd ..) y e hQ|aV kv=>exact uQ e ki λk t e=>Q8 (D9 k t) y e hQ|ji kv=>obtain⟨k,ek,e⟩:=bH e;obtain⟨xs,d,p⟩:=y;obtain⟨b,rfl,kx⟩:=I3 ek ki;obtain⟨q,hq,hv⟩:=p.found e;exact wpAny_getItem_heap (xj U).2.2 kx d hq (hQ _ _ hv)|_=>exact aE e
theorem Q9(O:dh c){v i x:V}(e:kK v i u=some x)(U:A.units+8<dJ)(R:SR c s.heap al u fs){qv qi:aa}(kv:VR s.heap al v qv)(ki:VR s.heap al i qi){Q:aa->aF->Prop}{E:aa->aF->Prop}(hQ:∀p tk,VR s.heap al x p->Q p {s with toks:=tk}):av c.M A (wo qv qi) Q E s:=by cases kv with|@tup l _ _ t vs=>replace e:i.iB (df l) none=some x:=e;exact mc e ki λk aG e=>ach e t vs λp=>hQ p s.toks|ref ea=>obtain⟨m,hm,e⟩:=bH e;exact aci e U (R.obj _ _ _ hm ea) ki hQ|_=>exact aE e
end
theorem Q_ slice o i:∃ops,subscripted slice false o i=operate ops (wo o i):=by cases slice with
 |Slice a b st p=>cases st with|none=>exact⟨_,rfl⟩|some x=>exact⟨_,rfl⟩
 |_=>exact⟨_,rfl⟩
inductive Jo(s:aF)(q:aa):Prop|mk(T id:String)(t:s.TypeIs q T)(l:jz (.type T) "__getitem__"=pure (some (.builtin id))):Jo s q
theorem acj(e:zX i m=some x)(y:eB c s.heap al a m):Jo s (.ref a):=by cases m with|list l=>obtain⟨items,n,il,-⟩:=y;exact⟨_,_,(iX il).typeIs,Nq⟩|bg kv=>obtain⟨kvs,d,-⟩:=y;exact⟨_,_,d.typeIs,slot_dict_getitem.lookup⟩|aV kv=>obtain⟨kvs,d,-⟩:=y;exact⟨_,_,d.typeIs,slot_dict_getitem.lookup⟩|ji kv=>obtain⟨xs,d,-⟩:=y;exact⟨_,_,d.typeIs,slot_dict_getitem.lookup⟩|_=>exact aE e
theorem Rb(e:kK v i u=some x)(R:SR c s.heap al u fs){qv:aa}(kv:VR s.heap al v qv):Jo s qv:=by cases kv with|tup t vs=>exact⟨_,_,t.typeIs,slot_tuple_getitem.lookup⟩|ref ea=>obtain⟨m,hm,e⟩:=bH e;exact acj e (R.obj _ _ _ hm ea)|_=>exact aE e
theorem part_of(e:zY v=some p)(x:VR h al v q):IsPart q p:=by cases x with|none=>exact aJ e▸.none|int i t=>exact aJ e▸.int _ _|_=>exact aE e
structure D'(c:aR)(S:cJ):Prop where ae:∀a l,S.ae a=some l->∃items,c.B.IsList a items/\aQ c.B [] l items.toList
theorem IsList.ack{h h':a_}(x:h.IsList a items)(k:∀b o,h.get? b=some o->h'.get? b=some o):h'.IsList a items:=by obtain⟨o,e,r⟩:=x;exact⟨o,k _ _ e,r⟩
theorem acm(e:l_ (v::l)=some ds):∃d z6,uO v=some d/\l_ l=some z6/\ds=d::z6:=by obtain⟨d,h1,e⟩:=bH (show aU (uO v) (λx=>aU (l_ l) (λxs=>some (x::xs)) none) none=some ds from e);obtain⟨z6,h2,e⟩:=bH e;exact⟨d,z6,h1,h2,(aJ e).symm⟩
theorem Rc(x:aQ h al l qs):∀{ds:List sG},l_ l=some ds->∃as,ReadsAll h qs ds as:=aQ.rec (motive_1:=λv q _=>∀{d:sG},uO v=some d->∃as,Reads h q d as) (motive_2:=λl qs _=>∀{ds:List sG},l_ l=some ds->∃as,ReadsAll h qs ds as) (λe=>aE e) (λ_ _ e=>aE e) (λ_ _ _ e=>aJ e▸⟨_,.int _ _⟩) (λ_ _ _ e=>aJ e▸⟨_,.str _ _⟩) (λt _ ih _ e=>by obtain⟨xs,hx,rfl⟩:=map_some e;obtain⟨o,ho,hc,m,fh⟩:=t;obtain⟨as,r⟩:=ih hx;exact⟨as,.tuple ho hc fh r⟩) (λ_ _ e=>aE e) (λ_ _ e=>aE e) (λe=>aJ e▸⟨_,.nil⟩) (λ_ _ acn aco _ e=>by obtain⟨d,z6,h1,h2,rfl⟩:=acm e;obtain⟨as,ra⟩:=acn h1;obtain⟨bs,rb⟩:=aco h2;exact⟨_,.cons ra rb⟩) x
theorem Jp{Rel:α->List aj->a_->β->Prop}(k:∀b o,s.heap.get? b=some o->h'.get? b=some o)(R:SR c s.heap al u fs)(r:Rel a al h' q):PQ c s al fs Rel (.ok a) u q {s with heap:=h',toks:=tk}:=⟨al,R.keep k,.of_keep k ..,⟨rfl,rfl,rfl⟩,r⟩
def tm(c:aR)(A:dR)(s:aF)(al:List aj)(fs:Fs)(u:List MO)(id:String)(qs:List aa)(v:V):Prop:=av c.M A (call (.builtin id) qs) (PQ c s al fs RV (.ok v) u) (PE c s al fs (.ok v) u) s
theorem Rd(e:uP d=some x)(C:Cx c (n+10) hd A al fs)(R:SR c s.heap al u fs){a:aj}{as:List aj}(rd:Reads s.heap (.ref a) d as):tm c A s al fs u "repr" [.ref a] (.str x):=by obtain⟨hc,e⟩:=cI e;exact aJ e▸repr_of_reads' rd hc.1 (λq=>absurd (hc.2.1.symm.trans q) l5) C.guards (by have :=C.units;have :=hc.2.2.1;omega) (λ_ _ e=>e) (λh' aG tk k=>Jp k R (.str _ _)) hc.2.2.2
theorem acp l:∀{b:Bool}{p:List aa},zZ l=some b->aQ h al l p->∃tr:Nat->Bool,(cA l.length).all tr=b/\∀(j:Nat)(v:aa),p[j]?=some v->v=.bool (tr j):=by induction l with|nil=>exactλe x=>x.jj ⟨λ_=>true,aJ e,λj v hv=>aE (sQ.symm.trans hv)⟩|cons w l ih=>
 intro b p e x;refine x.fA λq p' a t=>?_;refine D2 (show w.qT (λb=>(zZ l).map (b&&·)) none=some b from e) a λb' e=>?_;obtain⟨b2,e2,e⟩:=map_some e;obtain⟨tr,h1,h2⟩:=ih e2 t;refine⟨λj=>Nc j b' tr,?_,λj v hv=>?_⟩;.rw[eU,CT,C0,C2,<-e,<-h1];rfl
 .cases j with|zero=>exact(aJ hv).symm|succ j=>exact h2 j v hv
theorem acq(C:Cx c n none A al fs)(R:SR c s.heap al u fs){l:List V}{b:Bool}{a:aj}(x:pL s.heap al a l)(e:zZ l=some b):tm c A s al fs u "all" [.ref a] (.bool b):=by
 obtain⟨items,m,hi,vs⟩:=x;obtain⟨tr,h1,h2⟩:=acp l e vs;have hlen:l.length=items.size:=vs.length.trans eY;refine call_all_walk (G2 (iX hi) ⟨_,_,_,_,_,_,tr,rfl,PJ (A:=A.in1) C.handled _ a (gh (eW hi)) items,⟨⟨_,gj _ rfl,rfl,rfl⟩,(iX hi).push _⟩,λj v s' Q E hv hQ=>?_,λh' tk hk=>?_⟩);.exact(h2 j v (jC.trans hv)).symm▸pD hQ
 .rw[<-hlen,h1];exact Jp (λb o eb=>hk b o (λq=>mU _ (bM.mp q▸eW eb)) (d6 _ eb)) R (.bool b)
theorem acr k:(if k<0 then-k else k)=(k.natAbs:Int):=by split<;>omega
theorem acs a b t t':VR h al (.int (if a<b then b else a)) (if b>a then .int b t' else .int a t):=by
 by_cases q:a<b;.rw[if_pos q,if_pos q];exact .int _ _
 .rw[if_neg q,if_neg q];exact .int _ _
theorem xw[Decidable p]{β:Type}{x y:Option β}{r:β}(h:(if p then x else y)=some r):(p/\x=some r)\/(¬p/\y=some r):=by
 by_cases q:p;.rw[if_pos q]at h;exact .inl ⟨q,h⟩
 .rw[if_neg q]at h;exact .inr ⟨q,h⟩
theorem Jq(h:n<=bk):(n:Int)<2^63:=C6 (gI.mpr h) ai
theorem acu(e:IU v u=some r)(R:SR c s.heap al u fs)(x:VR s.heap al v q):tm c A s al fs u "len" [q] r:=by cases x with|str y t=>obtain⟨h,e⟩:=cI e;exact aJ e▸PySem.P.len_str (Int.not_le.mpr (Jq h)) (pS R (.int _ _))|tup t vs=>obtain⟨h,e⟩:=cI e;rw[vs.length,eY]at h e;exact aJ e▸len_tuple t (Jq h) (pS R (.int _ _))|ref ea=>obtain⟨l,hl,e⟩:=s9 e;obtain⟨items,m,hi,vs⟩:=R.obj _ _ _ hl ea;obtain⟨h,e⟩:=cI e;rw[vs.length,eY]at h e;exact aJ e▸len_list (iX hi) (Jq h) (pS R (.int _ _))|_=>exact aE e
theorem Rg(e:DX f l=some r):∃ds x,l_ l=some ds/\uP (f ds)=some x/\r=.str x:=by obtain⟨ds,h1,e⟩:=bH e;obtain⟨x,h2,e⟩:=bH e;exact⟨ds,x,h1,h2,(aJ e).symm⟩
theorem acv(e:Ql v u=some r)(C:Cx c (n+10) hd A al fs)(R:SR c s.heap al u fs)(x:VR s.heap al v q):tm c A s al fs u "repr" [q] r:=by cases x with|int k t=>obtain⟨h,e⟩:=cI e;exact aJ e▸PySem.P.repr_of_int h (pS R (.str _ _))|str y t=>obtain⟨h,e⟩:=cI e;exact aJ e▸PySem.P.repr_of_str (pS R (.str _ _)) h|tup t vs=>obtain⟨ds,x,h1,h2,rfl⟩:=Rg e;obtain⟨as,ra⟩:=Rc vs h1;obtain⟨o,ho,hc,m,fh⟩:=t;exact Rd h2 C R (.tuple ho hc fh ra)|ref ea=>obtain⟨l,hl,e⟩:=s9 e;obtain⟨items,m,hi,vs⟩:=R.obj _ _ _ hl ea;obtain⟨ds,x,h1,h2,rfl⟩:=Rg e;obtain⟨as,ra⟩:=Rc vs h1;exact Rd h2 C R (.list hi rfl rfl ra)|_=>exact aE e
theorem Rh{β γ:Type}{x:Option β}{y:Option γ}{r:γ}(e:aU x (λ_=>none) y=some r):x=none/\y=some r:=by cases x with|none=>exact⟨rfl,e⟩|some _=>exact aE e
theorem acw{id:String}(e:Qn hd id v u=some r)(C:Cx c (n+10) hd A al fs)(R:SR c s.heap al u fs)(x:VR s.heap al v q):tm c A s al fs u id [q] r:=by
 rcases xw e with⟨rfl,e⟩|⟨-,e⟩;.exact acu e R x
 rcases xw e with⟨rfl,e⟩|⟨-,e⟩;.exact mc e x λk t e=>aJ e▸call_abs_int λaG tk=>acr k▸pS R (.int _ _)
 rcases xw e with⟨rfl,e⟩|⟨-,e⟩;.obtain⟨rfl,e⟩:=Rh e;refine z1 e x λi a ea e=>?_;obtain⟨l,hl,e⟩:=s9 e;obtain⟨b,hb,rfl⟩:=map_some e;exact acq C R (R.obj _ _ _ hl ea) hb
 obtain⟨rfl,e⟩:=cI e;exact acv e C R x
theorem tuple_cls(t:fz h a items):∃o,h.get? a=some o/\o.cls=.type "tuple":=by obtain⟨o,ho,hc,-⟩:=t;exact⟨o,ho,hc⟩
theorem acx(e:Qm v T=some r)(R:SR c s.heap al u fs)(x:VR s.heap al v q):tm c A s al fs u "isinstance" [q,.type T] r:=by
 cases x with
 |int k t=>obtain⟨hT,e⟩:=cI e;exact aJ e▸hT.elim (λh=>h▸IsiPair.int_str (pS R (.bool _))) λh=>h▸IsiPair.int_tuple (pS R (.bool _))|str y t=>
  rcases xw e with⟨rfl,e⟩|⟨-,e⟩;.exact aJ e▸IsiPair.str_str (done R (.bool _))
  .obtain⟨rfl,e⟩:=cI e;exact aJ e▸IsiPair.str_tuple (pS R (.bool _))|tup t vs=>
  obtain⟨o,ho,hc⟩:=tuple_cls t;rcases xw e with⟨rfl,e⟩|⟨-,e⟩;.exact aJ e▸IsiPair.tuple_str ho hc (pS R (.bool _))
  .obtain⟨rfl,e⟩:=cI e;exact aJ e▸IsiPair.tuple_tuple ho hc (done R (.bool _))|_=>exact aE e
@[elab_as_elim]theorem acy{β:Type}{r:β}{P:V->aa->Prop}{f:aa->Option β}(e:v.zT f none=some r)(x:VR h al v q)(k:∀t,f t=some r->P (.st t) t):P v q:=by cases x with|st=>exact k _ e|_=>exact aE e
theorem acz{r:β}(h:Value.IV v f none=some r):∃T,v=.type T/\f T=some r:=by
 unfold Value.IV at h;by_cases q:v.ctorIdx=8;.rw[dif_pos q]at h;exact Il (motive:=λv=>∀q,Il (motive:=λ_=>Option β) v q f=some r->∃T,v=.type T/\f T=some r) v q (λ_ _ h=>⟨_,rfl,h⟩) q h
 .rw[dif_neg q]at h;exact aE h
theorem acA{id:String}(e:Qo hd id v w=some r)(C:Cx c (n+10) hd A al fs)(R:SR c s.heap al u fs)(x:VR s.heap al v q)(y:VR s.heap al w p):tm c A s al fs u id [q,p] r:=by
 rcases xw e with⟨rfl,e⟩|⟨-,e⟩;.refine acy e y λt e=>?_;obtain⟨T,rfl,e⟩:=acz e;exact acx e R x
 .obtain⟨rfl,e⟩:=cI e;obtain⟨rfl,e⟩:=Rh e;exact mc e x λa t e=>mc e y λb aG e=>aJ e▸PySem.max_two_ints C.handled λh' tk k=>Jp k R (acs _ _ _ _)
theorem acB{id:String}(e:Qp hd id args u=some r)(C:Cx c (n+10) hd A al fs)(R:SR c s.heap al u fs){qs:List aa}(k:aQ s.heap al args qs):tm c A s al fs u id qs r:=by cases args with|nil=>exact aE e|cons v l=>cases l with|nil=>exact k.fA λq qs x k=>k.jj (acw e C R x)|cons w l=>cases l with|nil=>exact k.fA λq qs x k=>k.fA λp qs y k=>k.jj (acA e C R x y)|cons=>exact aE e
theorem acC{id:String}(e:lx hd id args u=some (r,aM))(C:Cx c (n+10) hd A al fs)(R:SR c s.heap al u fs){qs:List aa}(k:aQ s.heap al args qs):av c.M A (call (.builtin id) qs) (PQ c s al fs RV r aM) (PE c s al fs r aM) s:=by obtain⟨v,e,q⟩:=map_some e;have q:=jW q;exact q.1▸q.2▸acB e C R k
theorem acD(R:SR c h al u fs){i:Nat}{a:aj}{l l':List V}{items:Array aa}{m:Nat}(ea:al[i]?=some a)(hl:u[i]?=some (.list l))(x:IsL h a items m) f(vs:aQ h al l' (f items).toList):SR c (h.update a (jX f)) al (u.set i (.list l')) fs/\a8 h al (fs.map (·.1)) (h.update a (jX f)) al:=by have other:∀b o,h.get? b=some o->b≠a->(h.update a (jX f)).get? b=some o:=λb o e ne=>(sS _ _ (hY ne)).trans e;have ma:=ez ea;have kf:dT h (h.update a (jX f)):=λb o e t=>other b o e λq=>(R.kH e t).1 (q▸ma);exact R.set hl ea other ⟨f items,_,x.update f,vs.mono kf λ_ _ e=>e⟩
theorem acE(hs:as.any dk=false)(hl:as.length<29):((jT pos (iA as ag)).all (λx=>!x.1)&&(CK pos (Cy [] ag)).all (λx=>x.1.isSome)&&decide (as.length+([]:List wk).length+(if([]:List wk).isEmpty then 0 else 1)<30))=true:=by
 have h1:(jT pos (iA as ag)).all (λx=>!x.1)=true:=jV.mpr λx hx=>by have :=Hw.mp (QZ (ag:=ag) (pos:=pos) hs) x hx;rw[Bool.not_eq_true]at this;rw[this];rfl
 rw[h1];exact decide_eq_true (se hl:as.length<30)
structure z7(c:aR)(S:cJ)(K:d0):Prop where mt:∀C n f,S.mt C n=some f->jY K (.ref C) "__getattribute__"=some (some (.builtin "object.__getattribute__"))/\jY K (.ref C) "__getattr__"=some none/\jY K (.ref C) n=some (some (.ref f))/\typeIn K (.ref f)=some (.type "function")
section
variable{h:a_}
theorem Ri(z8:oH o=false)(hs:args.any dk=false)(hl:args.length<29)(Jr:(apos.endLine==pos.line)=true)(h:av M A (eval o ag) (λov cq=>∃f first,(∀(pl:Sem Bool)(Q':aa×List aa->aF->Prop),Q' (f,first) cq->av M A (CG ov name pl) Q' E cq)/\av M A (sx pos f first (jT pos (iA args ag)) []) Q E cq) E s):av M A (eval (.Call (.Attribute o name apos) args [] pos) ag) Q E s:=by
 rw[arm_eval_Call,Jh z8];refine aw (b_ h (λov cq az=>?_) λ_ _ e=>e);obtain⟨f,first,hg,hc⟩:=az;refine aw (kC ?_);have acF:NQ (args.length+([]:List wk).length) (jT pos (iA args ag)) (CK pos (Cy [] ag))=true:=acE hs hl;have acG:Cr true o ag apos pos=pure pos:=by unfold Cr;simp[Jr]
 unfold methodCall;rw[acF];refine aw (fT (hg _ _ ?_));exact aw (oy acG hc)
theorem Js(hs:as.any dk=false){qf:aa}{first:List aa}{pos:Pos}{Q:aa->aF->Prop}(h:av M A (spliced (jT pos (iA as ag))) (λvs s'=>(∃k,(k=wR\/k=wQ\/k=wO)/\jZ M s'.heap (lV qf) k)/\av M A (call qf (first++vs) []) Q E s') E s):av M A (sx pos qf first (jT pos (iA as ag)) []) Q E s:=by refine callWith_of (P:=λh=>∃k,(k=wR\/k=wQ\/k=wO)/\jZ M h (lV qf) k) (by rw[QZ hs];rfl) (λh x=>x) ?_;cases as with|nil=>unfold evalArgs;show av M A (spliced []>>=_) _ _ s;refine aw (b_ h (λvs s' h'=>?_) λ_ _ x=>x);refine aw (aP ?_);refine fT ?_;exact aw (aP (aw (aP (aP h'))))|cons x xs=>rw[Q0 hs]at h⊢;exact evalArgs_plain h
theorem Rj{e:lU}(h:∃x t,e.key=.str x t):e.refKey=false:=by obtain⟨x,t,h⟩:=h;unfold DictEntry.refKey;rw[h]
theorem acH{n:Str}(d:o.data=.dict es ep)(h:es.toList.find? (·.key.isStr n)=none)(k:es.toList.any (·.refKey)=false):wW n o=some none:=by unfold wW;rw[d];dsimp only;rw[h,k];rfl
theorem acI{n:Str}(d:h.DictOf (dQ prog w) a kvs)(ho:h.get? a=some o)(e:mW kvs n=none):wW n o=some none:=by obtain⟨o',es,ep,e',x,dd,k,pr,nd⟩:=d;refine acH (aJ (e'.symm.trans ho)▸dd) (Option.map_eq_none_iff.mp ((Jl pr).trans e)) (Hw.mpr λx hx=>?_);obtain⟨y,hy,_⟩:=k x (Di.mp hx);rw[Rj (Jm hy)];exact l5
end
theorem Jt(e:fN Y u x v=some (bR,aM)):d8 Y bR:=by obtain⟨k,-,e⟩:=bH e;cases k with|«local»=>exact(jW (aJ e)).1▸⟨rfl,rfl,rfl⟩|cell=>obtain⟨i,-,e⟩:=bH e;obtain⟨m,-,e⟩:=bH e;obtain⟨w,rfl,e⟩:=I0 e;exact(jW (aJ e)).1▸d8.refl _|_=>exact aE e
theorem Rk xs:∀{vs:List V}{Y bR:Loc}{u aM:List MO},uL xs vs Y u=some (bR,aM)->d8 Y bR/\xs.length=vs.length:=by induction xs with
 |nil=>intro vs Y bR u aM e;cases vs with|nil=>exact⟨(jW (aJ e)).1▸d8.refl _,rfl⟩|cons=>exact aE e
 |cons x xs ih=>intro vs Y bR u aM e;cases vs with|nil=>exact aE e|cons v vs=>obtain⟨p,jk,e⟩:=bH e;have k:=ih e;exact⟨(Jt jk).trans k.1,congrArg (·+1) k.2⟩
inductive Ju(Y:Loc)(u:List MO)(v:V)(r:Loc×List MO):aq->Prop|name(x:Str)(p:Pos)(e:fN Y u x v=some r):Ju Y u v r (.Name x p)|tup(ts:List aq)(k:Nat)(p:Pos)(xs:List Str)(vs:List V)(hx:namesOf ts=some xs)(hv:DV v u=some vs)(e:uL xs vs Y u=some r):Ju Y u v r (.Tuple ts k p)
theorem Rl{β:Type}{f:Str->Pos->Option β}{y:Option β}{r:β}(h:oG e f y=some r):(∃x p,e=.Name x p/\f x p=some r)\/y=some r:=by
 by_cases q:e.ctorIdx=23;.exact .inl (DP (by unfold oG at h⊢;rw[dif_pos q]at h⊢;exact h))
 .unfold oG at h;rw[dif_neg q]at h;exact .inr h
theorem Jv(e:cf t v Y u=some r):Ju Y u v r t:=by
 rcases Rl e with⟨x,p,rfl,e⟩|e;.exact .name x p e
 .obtain⟨ts,k,p,rfl,e⟩:=P' e;obtain⟨xs,hx,e⟩:=bH e;obtain⟨vs,hv,e⟩:=bH e;exact .tup ts k p xs vs hx hv e
theorem Ea(e:cf t v Y u=some (bR,aM)):d8 Y bR:=by cases Jv e with|name x p e2=>exact Jt e2|tup ts k p xs vs hx hv e2=>exact(Rk xs e2).1
section
variable{ag:Env}{rest fs:Fs}
theorem Jw(e:namesOf (t::ts)=some xs):∃x p jm,t=.Name x p/\namesOf ts=some jm/\xs=x::jm:=by obtain⟨x,p,rfl,e⟩:=DP (show oG t (λx _=>(namesOf ts).map (x::·)) none=some xs from e);obtain⟨jm,h1,rfl⟩:=map_some e;exact⟨x,p,jm,rfl,h1,rfl⟩
theorem Rm:sq (.Name x p::ts) ag=(false,assign (.Name x p) ag)::sq ts ag:=rfl
theorem acJ ts:∀{xs:List Str},namesOf ts=some xs->(sq ts ag).length=xs.length/\(sq ts ag).findIdx? (·.1)=none:=by induction ts with|nil=>exactλe=>aJ e▸⟨rfl,rfl⟩|cons t ts ih=>intro xs e;obtain⟨x,p,jm,rfl,h1,rfl⟩:=Jw e;have k:=ih h1;rw[Rm,List.findIdx?_cons,k.2];exact⟨congrArg (·+1) k.1,rfl⟩
theorem acK ts:∀{xs:List Str}{vs:List V}{qs:List aa}{Y:Loc}{u:List MO}{s:aF},namesOf ts=some xs->uL xs vs Y u=some (bR,aM)->dm c ag al Y L->SR c s.heap al u ((L,Y.vars)::rest)->aQ s.heap al vs qs->∀{Q:Unit->aF->Prop},(∀s',SR c s'.heap al aM ((L,bR.vars)::rest)->a8 s.heap al (((L,Y.vars)::rest).map (·.1)) s'.heap al->cW s s'->dm c ag al bR L->Q () s')->av c.M A (G' ((sq ts ag).map (·.2)) qs) Q E s:=by induction ts with
 |nil=>intro xs vs qs Y u s hn e C R k Q hQ;rw[<-aJ hn]at e;cases vs with|nil=>have e:=jW (aJ e);exact k.jj (O6 (hQ s (e.1▸e.2▸R) (a8.refl ..) (cW.refl s) (e.1▸C)))|cons=>exact aE e
 |cons t ts ih=>intro xs vs qs Y u s hn e C R k Q hQ;obtain⟨x,p,jm,rfl,h1,rfl⟩:=Jw hn;cases vs with|nil=>exact aE e|cons v vs=>obtain⟨p,jk,e⟩:=bH e;rw[Rm];exact k.fA λq acL kq Jx=>O5 (assign_Name (xq jk C R kq λcq gP iY uS oL=>ih h1 e oL gP (R.w9 iY Jx) λdD d7 j6 kM te=>hQ dD d7 (iY.trans j6) (uS.trans kM) te))
theorem Rn(e:DV v u=some vs)(hh:A.handled=none)(R:SR c s.heap al u fs)(k:VR s.heap al v q){Q:List aa->aF->Prop}(hQ:∀qs h',(∀b o,s.heap.get? b=some o->h'.get? b=some o)->aQ h' al vs qs->Q qs {s with heap:=h'}):av c.M A (unpackItems q vs.length none) Q E s:=by have kp:∀{h'},C4 s.heap.objs.size s.heap h'->∀b o,s.heap.get? b=some o->h'.get? b=some o:=λhe b o eb=>he b o (gh (eW eb)) eb;cases k with|tup t fV=>rw[<-aJ e,fV.length,eY];exact unpackItems_tuple hh t λh' he=>hQ _ h' (kp he) (aJ e▸fV.mono (λb o eb _=>kp he b o eb) λ_ _ e=>e)|ref ea=>obtain⟨l,hl,e⟩:=s9 e;obtain⟨items,n,hi,fV⟩:=R.obj _ _ _ hl ea;rw[<-aJ e,fV.length,eY];exact kun_itemsOf hh (iX hi) λh' he=>hQ _ h' (kp he) (aJ e▸fV.mono (λb o eb _=>kp he b o eb) λ_ _ e=>e)|_=>exact aE e
theorem Jy(e:cf t v Y u=some (bR,aM))(hh:A.handled=none\/∃x p,t=.Name x p)(C:dm c ag al Y L)(R:SR c s.heap al u ((L,Y.vars)::rest))(k:VR s.heap al v q){Q:Unit->aF->Prop}(hQ:∀s',SR c s'.heap al aM ((L,bR.vars)::rest)->a8 s.heap al (((L,Y.vars)::rest).map (·.1)) s'.heap al->cW s s'->dm c ag al bR L->Q () s'):av c.M A (assign t ag q) Q E s:=by cases Jv e with|name x p e2=>exact assign_Name (xq e2 C R k hQ)|tup ts kk p xs vs jn z9 e2=>have hh:A.handled=none:=hh.elim id λ⟨x,p,hh⟩=>nomatch hh;have y:=acJ (ag:=ag) ts jn;rw[assign_Tuple];refine aw (kC ?_);unfold unpack;rw[y.1,y.2,(Rk xs e2).2];exact aw (fT (Rn z9 hh R k λqs h' kp kk=>acK ts jn e2 C (R.keep kp) kk λdD d7 j6 kM te=>hQ dD d7 ((a8.of_keep kp ..).trans j6) ⟨kM.1,kM.2.1,kM.2.2⟩ te))
theorem Ro{ag:Env} bs:∀{Y:Loc}{u:List MO},(∀b∈bs,Y.sc.names.lookup b.1=some .local)->ni bs Y u=some ({Y with vars:=bs.foldl (λvs b=>pQ b.1 b.2 vs) Y.vars},u):=by induction bs with|nil=>exactλ_=>rfl|cons p bs ih=>intro Y u h;have e1:ni (p::bs) Y u=aU (fN Y u p.1 p.2) (λq=>ni bs q.1 q.2) none:=rfl;unfold fN at e1;rw[h p (.head _)]at e1;exact e1.trans (ih (Y:={Y with vars:=pQ p.1 p.2 Y.vars}) λb hb=>h b (.tail _ hb))
theorem Rp{bs:List (Str×V)}(h:y∉bs.map (·.1)):bs.lookup y=none:=by induction bs with|nil=>rfl|cons b bs ih=>rw[gN,if_neg λ(q:b.1=y)=>h (q▸.head _)];exact ih λm=>h (.tail _ m)
theorem Rq y(bs:List (Str×V)):∀(vs:bI),(bs.map (·.1)).Nodup->(bs.foldl (λvs b=>pQ b.1 b.2 vs) vs).lookup y=(bs.lookup y).or (vs.lookup y):=by induction bs with|nil=>exactλ_ _=>rfl|cons b bs ih=>
 intro vs nd;have nd:=jg.mp nd;rw[zm,ih _ nd.2,QH,gN];by_cases h:b.1=y;.rw[if_pos h,if_pos h.symm,Rp (h▸nd.1)];rfl
 .rw[if_neg h,if_neg λq=>h q.symm]
theorem acM y{bs:List (Str×V)}(nd:(bs.map (·.1)).Nodup):bs.reverse.lookup y=bs.lookup y:=by induction bs with|nil=>rfl|cons b bs ih=>
 have nd:=jg.mp nd;rw[Hv,N8,ih nd.2,gN,gN];by_cases h:b.1=y;.rw[if_pos h,if_pos h,Rp (h▸nd.1)];rfl
 .rw[if_neg h,if_neg h];exact Option.or_none
theorem acN xs:∀{vs:List V}{Y:Loc}{u:List MO}{r},uL xs vs Y u=some r->xs.length=vs.length/\ni (xs.zip vs) Y u=some r:=by induction xs with
 |nil=>intro vs Y u r e;cases vs with|nil=>exact⟨rfl,e⟩|cons=>exact aE e
 |cons x xs ih=>intro vs Y u r e;cases vs with|nil=>exact aE e|cons v vs=>obtain⟨p,jk,e⟩:=bH e;have k:=ih e;have e1:ni ((x::xs).zip (v::vs)) Y u=aU (fN Y u x v) (λq=>ni (xs.zip vs) q.1 q.2) none:=rfl;rw[jk]at e1;exact⟨congrArg (·+1) k.1,e1.trans k.2⟩
theorem SR.acO(R:SR c h al u ((L,vars)::rest))(e:∀y,vars'.lookup y=vars.lookup y):SR c h al u ((L,vars')::rest):=⟨R.base,R.off,R.len,R.nd,R.obj,λp hp=>(bX.mp hp).elim (λq=>by obtain⟨m,hm,k⟩:=R.fr _ (.head _);exact q▸⟨m,hm,λx v q=>k x v ((e x).symm.trans q)⟩) λhp=>R.fr p (.tail _ hp)⟩
theorem acP bs:∀{qs:List aa}{Y:Loc}{u:List MO}{s:aF},ni bs Y u=some (bR,aM)->dm c ag al Y L->SR c s.heap al u ((L,Y.vars)::rest)->aQ s.heap al (bs.map (·.2)) qs->∀{Q:Unit->aF->Prop},(∀s',SR c s'.heap al aM ((L,bR.vars)::rest)->a8 s.heap al (((L,Y.vars)::rest).map (·.1)) s'.heap al->cW s s'->dm c ag al bR L->Q () s')->av c.M A (G' (bs.map λb=>sy ag b.1) qs) Q E s:=by induction bs with|nil=>intro qs Y u s e C R k Q hQ;have e:=jW (aJ e);exact k.jj (O6 (hQ s (e.1▸e.2▸R) (a8.refl ..) (cW.refl s) (e.1▸C)))|cons b bs ih=>intro qs Y u s e C R k Q hQ;obtain⟨p,jk,e⟩:=bH e;replace k:aQ s.heap al (b.2::bs.map (·.2)) qs:=k;exact k.fA λq acL kq Jx=>O5 (wpAny_bindName (xq jk C R kq λcq gP iY uS oL=>ih e oL gP (R.w9 iY Jx) λdD d7 j6 kM te=>hQ dD d7 (iY.trans j6) (uS.trans kM) te))
theorem acQ n:∀(l:List Str),l.length<=n->l.eraseDups.length<=l.length/\(l.eraseDups.length=l.length->l.Nodup):=by induction n with
 |zero=>intro l hl;cases l with|nil=>exact⟨br _,λ_=>.nil⟩|cons=>exact absurd hl (Nat.not_succ_le_zero _)
 |succ n ih=>intro l hl;cases l with|nil=>exact⟨br _,λ_=>.nil⟩|cons x l=>rw[List.eraseDups_cons,eU,eU];have hf:=N0 (λb=>!b==x) l;have k:=ih (l.filter λb=>!b==x) (ax hf (Nat.le_of_succ_le_succ hl));refine⟨gf (ax k.1 hf),λe=>?_⟩;have e0:=zO e;have e1:(l.filter λb=>!b==x).length=l.length:=ot hf (e0▸k.1);have e2:=List.length_filter_eq_length_iff.mp e1;have b:=k.2 (e0.trans e1.symm);rw[List.filter_eq_self.mpr e2]at b;refine jg.mpr ⟨λhm=>?_,b⟩;have :=e2 x hm;rw[beq_self_eq_true]at this;exact bZ this
theorem acR{l:List Str}(h:l.eraseDups.length=l.length):l.Nodup:=(acQ l.length l (br _)).2 h
theorem acS(hf:∀x p,f (.Name x p)=if(ag.kindOf x==some .local&&p.line==line)=true then some x else none) ts:∀{xs:List Str},namesOf ts=some xs->(ts.filterMap f).length=ts.length->ts.filterMap f=xs/\∀x∈xs,ag.kindOf x=some .local:=by induction ts with|nil=>exactλh _=>aJ h▸⟨rfl,λx m=>absurd m eH⟩|cons t ts ih=>
 intro xs h hl;obtain⟨x,p,jm,rfl,h1,rfl⟩:=Jw h;rw[zf,hf]at hl⊢;by_cases hq:(ag.kindOf x==some .local&&p.line==line)=true;.rw[if_pos hq]at hl⊢;have k:=ih h1 (zO hl);exact⟨congrArg (x::·) k.1,λy hy=>(bX.mp hy).elim (λq=>q▸eq_of_beq (eA.mp hq).1) (k.2 y)⟩
 .rw[if_neg hq]at hl;exact absurd hl (gh (oq (List.length_filterMap_le f ts)))
def Sw(X:Sem (Option (List Str)))(xs:List Str)(P:Prop):Prop:=X=pure none\/(X=pure (some xs)/\P)
theorem Sw.no:Sw (pure none) xs P:=.inl rfl
theorem Sw.ite{d:Decidable p}(h:¬p->Sw X xs P):Sw (if p then pure none else X) xs P:=by
 by_cases q:p;.rw[if_pos q];exact .no
 .rw[if_neg q];exact h q
theorem Sw.neg{d:Decidable p}(q:¬p)(h:Sw X xs P):Sw (if p then cD else X) xs P:=by rw[if_neg q];exact h
theorem acT(H:dm c ag al Y L){x:Str}(h:ag.kindOf x=some .local):Y.sc.names.lookup x=some .local:=by have k:=H.names x;cases e:Y.sc.names.lookup x with|none=>rw[e]at k;exact aE (k.symm.trans h)|some kd=>rw[e]at k;cases kd with|«local»=>rfl|free=>exact k.elim (λk=>nomatch k.symm.trans h) λk=>nomatch k.symm.trans h|_=>exact nomatch(show _=_ from k).symm.trans h
theorem acU(H:dm c ag al Y L){ts vs:List aq}{xs:List Str}{k aG:Nat}{p q:Pos}(hn:namesOf ts=some xs)(ho:(vs.all (foldedForSure 8)||!(vs.all (NO 8)))=true):Sw (yW [.Tuple ts k p] (.Tuple vs aG q) ag) xs (xs.Nodup/\∀x∈xs,Y.sc.names.lookup x=some .local):=by
 refine Sw.ite λ_=>Sw.ite λ_=>Sw.ite λc3=>Sw.ite λc4=>Sw.neg (λc5=>?_) ?_;.rw[Df,Dd]at ho;exact ho.elim c4 λh=>bZ (h.symm.trans c5)
 .rw[Df,not_or]at c3;have y:=acS (λ_ _=>rfl) ts hn (Pb.mp λh=>c3.1 (bne_iff_ne.mpr h));refine .inr ⟨congrArg (λx=>pure (some x)) y.1,acR ?_,λx hx=>acT H (y.2 x hx)⟩;exact y.1▸Pb.mp λh=>c3.2 (bne_iff_ne.mpr h)
theorem acV(H:dm c ag al Y L){ts:List aq}{xs:List Str}{k:Nat}{p:Pos}{e:aq}(hn:namesOf ts=some xs)(ho:D0 e=true):Sw (yW [.Tuple ts k p] e ag) xs (xs.Nodup/\∀x∈xs,Y.sc.names.lookup x=some .local):=by cases e with|Tuple vs aG q=>exact acU H hn ho|_=>exact .no
end
section
variable{K:d0}
theorem acW(k:G7 (dQ prog w) es):(es.any λx=>x.refKey)=false:=by rw[<-HU,Hw];intro x hx;obtain⟨y,hy,_⟩:=k x (Di.mp hx);rw[Rj (Jm hy)];exact l5
inductive Rr(w:d5)(prog:kD)(o:Obj)(f:Obj->Obj)(kvs:List (Str×aa)):Prop|mk(es:Array lU)(ep:Nat)(e:f o={o with data:=.dict es ep})(k:G7 (dQ prog w) es)(p:Pairs (dQ prog w) es.toList kvs)(n:(kvs.map (·.1)).Nodup):Rr w prog o f kvs
theorem acX{es:Array lU}:es.findIdx? p=es.toList.findIdx? p:=by obtain⟨l⟩:=es;simp
theorem acY(hd:o.data=.dict es ep)(hk:G7 (dQ prog w) es)(hp:Pairs (dQ prog w) es.toList kvs)(hn:(kvs.map (·.1)).Nodup):Rr w prog o (Dm name ((dQ prog w).hash name) (.str name tk) v) (stored kvs name v):=by
 have Eb:(es.toList.findIdx? λe=>e.key.isStr name)=kvs.findIdx? λkv=>decide (kv.1=name):=Jk (prog:=prog) (w:=w)▸hp.findIdx name;have z_:Dm name ((dQ prog w).hash name) (.str name tk) v o={o with data:=match es.findIdx? (λe=>e.key.isStr name)with|some i=>.dict (es.modify i λe=>{e with val:=v}) ep|none=>.dict (es.push ⟨(dQ prog w).hash name,.str name tk,v⟩) (ep+1)}:=by obtain⟨oc,od,acZ,Jz⟩:=o;cases hd;rw[Obj.putName_eq];unfold Obj.putNameByArray;dsimp only;cases es.findIdx? (λe=>e.key.isStr name)<;>rfl
 rw[acX]at z_;cases hi:es.toList.findIdx? λe=>e.key.isStr name with|some i=>rw[hi]at z_ Eb;have Aa:=any_of_findIdx_some Eb.symm;refine⟨_,_,z_,hk.modify _ _,?_,by rw[stored,if_pos Aa,keys_map_store];exact hn⟩;rw[stored,if_pos Aa,Array.toList_modify];exact hp.modify hn (Jk (prog:=prog) (w:=w)▸hi) v|none=>
  rw[hi]at z_ Eb;have Rt:name∉kvs.map (·.1):=not_mem_of_findIdx_none Eb.symm;have Aa:¬(kvs.any λkv=>decide (kv.1=name))=true:=λh=>by obtain⟨kv,iZ,he⟩:=zj.mp h;exact Rt (dS.mpr ⟨kv,iZ,of_decide_eq_true he⟩)
  refine⟨_,_,z_,hk.push (D9 name tk) _,by rw[stored,if_neg Aa,wG];exact hp.append (D9 name tk) _ v,?_⟩;rw[stored,if_neg Aa,cH,gH];exact⟨hn,jg.mpr ⟨eH,.nil⟩,λa ha b hb e=>Rt ((e.trans (bM.mp hb):a=name)▸ha)⟩
theorem Ru(hm:s.heap.DictOf (dQ prog w) d kvs){Q:Unit->aF->Prop}(hQ:∀h',h'.DictOf (dQ prog w) d (stored kvs name v)->mZ d s.heap h'->Q () {s with heap:=h',toks:=s.toks+1}):av (cv prog w) A (nsSet d name v) Q E s:=by obtain⟨o,es,ep,ho,hc,hd,hk,hp,hn⟩:=hm;unfold nsSet;refine aw (aw (v9 (aP (aw (wpAny_mkText (aw (yV ho ?_)))))));rw[hd];dsimp only;rw[aRefKeyMayBeTheName_at,acW hk,zu];refine wpAny_updatePart ho ?_;obtain⟨es',xx,he,dX,uW,fB⟩:=acY (w:=w) (prog:=prog) (name:=name) (v:=v) (tk:=s.toks) hd hk hp hn;replace he:Dm name (O0 w.params name) (.str name s.toks) v o=_:=he;have hu:=pI (Dm name (O0 w.params name) (.str name s.toks) v) ho (by rw[he];rfl);rw[he]at hu;exact hQ _ ⟨_,_,_,hu,hc,rfl,dX,uW,fB⟩ (Ia ..)
theorem ac0(X:K.In s.heap)(I:InstAt s.heap x ox C (some od))(hd:ox.dict=some dx)(hs:jY K (.ref C) "__setattr__"=some (some (.builtin "object.__setattr__")))(hp:Dt K C=true)(ht:Dv K C name=some none)(hh:zE K C=true)(hm:s.heap.DictOf (dQ prog w) dx kvs)(hz:kvs.length<=bk)(hQ:∀h' tk,h'.DictOf (dQ prog w) dx (stored kvs name v)->mZ dx s.heap h'->Q () {s with heap:=h',toks:=tk}):av (cv prog w) A (CM (.ref x) name v) Q E s:=by refine set_plain X I hs (osa_open (s:={s with toks:=s.toks+1}) X I hp ht λb=>?_);obtain⟨cd,hc,ac1⟩:=any_some hh;obtain⟨hx,rj,hn,-⟩:=I;obtain⟨oc,auX,auY,Jz⟩:=ox;dsimp only at rj hd;subst rj hd;refine aw (aP (aw (aw (yV hx (aw (Looks.here (s:={s with toks:=s.toks+1}) (looks_clsIn X hc) ?_))))));rw[ac1];refine aP (a:=some dx) (aw (aP (aw ?_)));refine Ru (s:={s with toks:=s.toks+1}) hm λh' jo eD=>?_;obtain⟨o',es',xx,Ab,I5,hd2,dX,uW,fB⟩:=id jo;refine aw (NG Ab (by rw[hd2];refine NH (ax (bo ?_) (ax (NI kvs name v) (gf hz)));exact eY.symm.trans uW.length) ?_);exact aP (hQ h' _ jo eD)
theorem ac2{K:Type}[DecidableEq K]{k:K}{p:aa}{q:K×aa}{r:List (K×aa)}(nd:q.1∉r.map (·.1)):stored (q::r) k p=if q.1=k then(q.1,p)::r else q::stored r k p:=by
 unfold stored;rw[Ol,ef];by_cases e:q.1=k;.rw[if_pos e,if_pos e,decide_eq_true e,Bool.true_or,if_pos rfl];refine congrArg _ ((kE λy hy=>?_).trans (Oq r));exact if_neg λ(z:y.1=k)=>nd (e.trans z.symm▸sN (f:=(·.1)) hy)
 .rw[if_neg e,if_neg e,decide_eq_false e,OG];by_cases z:(r.any λkv=>decide (kv.1=k))=true;.rw[if_pos z,if_pos z]
  .rw[if_neg z,if_neg z];rfl
theorem c_.stored{K:Type}[DecidableEq K]{k:K}{v:V}{p:aa}(kp:VR h al v p){kv:List (K×V)}{kvs:List (K×aa)}(x:c_ h al kv kvs)(nd:(kvs.map (·.1)).Nodup):c_ h al (dU k v kv) (stored kvs k p):=by induction x with|nil=>exact .cons (p:=(k,v)) kp .nil|@cons q aG l r a t ih=>
 have nd:=jg.mp nd;rw[ac2 nd.1];show c_ h al (if q.1=k then(q.1,v)::l else q::dU k v l) _;by_cases e:q.1=k;.rw[if_pos e,if_pos e];exact .cons (p:=(q.1,v)) kp t
 .rw[if_neg e,if_neg e];exact .cons a (ih nd.2)
theorem c_.len{KK:Type}{l:List (KK×V)}{r:List (KK×aa)}(x:c_ h al l r):l.length=r.length:=by induction x with|nil=>rfl|cons _ _ ih=>exact congrArg (·+1) ih
end
structure xy(c:aR)(S:cJ)(K:d0):Prop where
 Jj:K.In c.B
 cx:S.cx=c.cx
 wr:∀C n,S.pO C n=true->C≠c.cx->jY K (.ref C) "__setattr__"=some (some (.builtin "object.__setattr__"))/\Dt K C=true/\Dv K C n=some none/\zE K C=true
section
variable{K:d0}{h:a_}
theorem Ec(R:SR c h al u fs){h':a_}{i:Nat}{a:aj}{mo mo':MO}(ea:al[i]?=some a)(hm:u[i]?=some mo)(hs:mZ a h h')(x:dT h h'->eB c h' al a mo'):SR c h' al (u.set i mo') fs/\a8 h al (fs.map (·.1)) h' al:=R.set hm ea (λb o e ne=>(hs.2 b ne).trans e) (x λb o e t=>(hs.2 b λq=>(R.kH e t).1 (q▸ez ea)).trans e)
theorem DictOf.nd{K:Type}[DecidableEq K]{prog:kD}{w:d5}{knd:KeyKind prog w K}{a:aj}{kvs:List (K×aa)}(d:h.DictOf knd a kvs):(kvs.map (·.1)).Nodup:=by obtain⟨_,_,_,_,_,_,_,_,nd⟩:=d;exact nd
theorem hZ.put{K:Type}[DecidableEq K]{prog:kD}{w:d5}{knd:KeyKind prog w K}{h':a_}{a:aj}{kv:List (K×V)}{kvs:List (K×aa)}{k:K}{v:V}{p:aa}(nd:(kvs.map (·.1)).Nodup)(hm:h'.DictOf knd a (stored kvs k p))(pr:c_ h al kv kvs)(pU:VR h al v p)(kf:dT h h'):hZ knd h' al a (dU k v kv):=⟨_,hm,(pr.mono kf λ_ _ e=>e).stored (pU.mono kf λ_ _ e=>e) nd⟩
theorem ac3(SW:xy c S K){ov v:V}{nm:Str}(e:Qh S ov nm v u=some aM)(R:SR c s.heap al u fs){q p:aa}(ko:VR s.heap al ov q)(kv:VR s.heap al v p){Q:Unit->aF->Prop}(hQ:∀s',SR c s'.heap al aM fs->a8 s.heap al (fs.map (·.1)) s'.heap al->cW s s'->Q () s'):av c.M A (CM q nm p) Q E s:=by refine z1 e ko λi a ea e=>?_;obtain⟨m,hi,e⟩:=bH e;cases m with|inst C' d'=>obtain⟨Rv,e⟩:=cI e;obtain⟨m,Rw,e⟩:=bH e;obtain⟨pU,rfl,e⟩:=Qx e;obtain⟨hlen,e⟩:=cI e;obtain⟨dx,j7,eo⟩:=R.obj _ _ _ hi ea;obtain⟨kvs,dd,pr⟩:=R.obj _ _ _ Rw j7;obtain⟨od,es,ep,uV,_⟩:=id dd;obtain⟨w1,w2,w3,w4⟩:=SW.wr C' nm Rv.1 (SW.cx▸Rv.2);refine ac0 (SW.Jj.keeps R.base) ⟨eo,rfl,rfl,uV⟩ rfl w1 w2 w3 w4 dd (pr.len▸hlen) λh' tk jo eD=>?_;have T:=Ec (mo':=.aV (dU nm v pU)) R j7 Rw eD λkf=>.put (DictOf.nd dd) jo pr kv kf;exact hQ _ (aJ e▸T.1) T.2 ⟨rfl,rfl,rfl⟩|_=>exact aE e
end
theorem ac4{r:List (KV×aj×aa)}(nd:q.1∉r.map (·.1)):(q::r).map (putAt k p)=if q.1=k then(q.1,q.2.1,p)::r else q::r.map (putAt k p):=by
 rw[ef];by_cases e:q.1=k;.rw[if_pos e,putAt,if_pos e];refine congrArg _ ((kE λy hy=>?_).trans (Oq r));exact if_neg λ(z:y.1=k)=>nd (e.trans z.symm▸sN (f:=(·.1)) hy)
 .rw[if_neg e,putAt,if_neg e]
theorem ac5{r:List (KV×aj×aa)}(nd:q.1∉r.map (·.1)):CN (q::r) k a p=if q.1=k then(q.1,q.2.1,p)::r else q::CN r k a p:=by
 unfold CN;rw[ac4 nd,QA];by_cases e:q.1=k;.rw[if_pos e,if_pos e,if_pos e];rfl
 .rw[if_neg e,if_neg e,if_neg e];by_cases z:(pH r k).isSome=true;.rw[if_pos z,if_pos z]
  .rw[if_neg z,if_neg z];rfl
theorem eh.stored(kp:VR h al v p){kv:List (KV×V)}{xs:List (KV×aj×aa)}(x:eh h al kv xs)(nd:(xs.map (·.1)).Nodup):eh h al (dU k v kv) (CN xs k a p):=by induction x with|nil=>exact .cons (p:=(k,v)) kp .nil|@cons q b aG l r a' t ih=>
 have nd:=jg.mp nd;rw[ac5 nd.1];show eh h al (if q.1=k then(q.1,v)::l else q::dU k v l) _;by_cases e:q.1=k;.rw[if_pos e,if_pos e];exact .cons (p:=(q.1,v)) kp t
 .rw[if_neg e,if_neg e];exact .cons a' (ih nd.2)
theorem eh.len(x:eh h al l r):l.length=r.length:=by induction x with|nil=>rfl|cons _ _ ih=>exact congrArg (·+1) ih
theorem Rx{KK:Type}[DecidableEq KK]{knd:KeyKind c.prog c.w KK}(R:SR c s.heap al u fs){j:Nat}{a:aj}{mo mo':MO}{kv:List (KK×V)}{k:KK}{key p:aa}{v:V}(hk:knd.is k key=true)(ea:al[j]?=some a)(hm:u[j]?=some mo)(x:hZ knd s.heap al a kv)(hlen:kv.length<=bk)(hp:VR s.heap al v p)(to:∀h,hZ knd h al a (dU k v kv)->eB c h al a mo'){Q:Unit->aF->Prop}(hQ:∀s',SR c s'.heap al (u.set j mo') fs->a8 s.heap al (fs.map (·.1)) s'.heap al->cW s s'->Q () s'):av c.M A (setItem (.ref a) key p) Q E s:=by obtain⟨kvs,d,pr⟩:=x;refine wpAny_setItem_pairs hk d (λh' jo eD=>?_) (pr.len▸hlen);have T:=Ec (mo':=mo') R ea hm eD λkf=>to h' (.put (DictOf.nd d) jo pr hp kf);exact hQ _ T.1 T.2 ⟨rfl,rfl,rfl⟩
theorem Ry(U:A.units+8<dJ)(R:SR c s.heap al u fs){j:Nat}{a b:aj}{mo:MO}{kv:List (KV×V)}{xs:List (KV×aj×aa)}{k:KV}{p:aa}{v:V}(kx:gm s.heap k b)(ea:al[j]?=some a)(hm:u[j]?=some mo)(d:s.heap.DictOfH (w6 c.prog c.w) a xs)(pr:eh s.heap al kv xs)(hlen:kv.length<=bk)(hp:VR s.heap al v p){Q:Unit->aF->Prop}(hQ:∀s',SR c s'.heap al (u.set j (.ji (dU k v kv))) fs->a8 s.heap al (fs.map (·.1)) s'.heap al->cW s s'->Q () s'):av c.M A (setItem (.ref a) (.ref b) p) Q E s:=by obtain⟨_,_,_,_,_,_,_,_,nd⟩:=id d;refine wpAny_setItem_heap (knd:=w6 c.prog c.w) (xj U).2.2 kx d (λh' jo eD=>?_) (pr.len▸hlen);have T:=Ec (mo':=.ji (dU k v kv)) R ea hm eD λkf=>⟨_,jo,(pr.mono kf λ_ _ e=>e).stored (hp.mono kf λ_ _ e=>e) nd⟩;exact hQ _ T.1 T.2 ⟨rfl,rfl,rfl⟩
theorem ac6(e:kL ov iv v u=some aM)(U:A.units+8<dJ)(R:SR c s.heap al u fs){q i p:aa}(ko:VR s.heap al ov q)(ki:VR s.heap al iv i)(kv:VR s.heap al v p){Q:Unit->aF->Prop}(hQ:∀s',SR c s'.heap al aM fs->a8 s.heap al (fs.map (·.1)) s'.heap al->cW s s'->Q () s'):av c.M A (setItem q i p) Q E s:=by refine z1 e ko λj a ea e=>?_;obtain⟨m,hm,e⟩:=bH e;obtain⟨m',e2,rfl⟩:=map_some e;clear e;have e:=e2;clear e2;have x:=R.obj _ _ _ hm ea;cases m with
 |bg pU=>cases ki with
  |int k t=>obtain⟨hlen,e⟩:=cI e;exact Rx R (wd ..) ea hm x hlen kv (λ_ y=>aJ e▸y) hQ|tup t vs=>cases pU with|nil=>obtain⟨k,hk,rfl⟩:=map_some e;exact Ry U R (I2 hk vs t) ea hm (QE x) .nil (dC _) kv hQ|cons=>exact aE e
  |_=>exact aE e
 |aV pU=>exact uQ e ki λk t e=>have e:=cI e;Rx R (D9 k t) ea hm x e.1 kv (λ_ y=>aJ e.2▸y) hQ|ji pU=>obtain⟨hlen,e⟩:=cI e;obtain⟨k,hk,rfl⟩:=map_some e;obtain⟨b,rfl,kx⟩:=I3 hk ki;obtain⟨xs,d,pr⟩:=x;exact Ry U R kx ea hm d pr hlen kv hQ|_=>exact aE e
theorem ac7(h:ag.scope.kind=.function):interactive ag=false:=by unfold interactive;rw[h];rfl
theorem JA(h:z0 e=false):swapsWith e t l ag=pure false:=by cases e with|ListComp=>exact bZ h.symm|SetComp=>exact bZ h.symm|DictComp=>exact bZ h.symm|_=>rfl
theorem RA(h:av M A (t v) Q E s):av M A (CJ v [t]) Q E s:=h
def dG(W:List aj)(h h':a_):Prop:=∀b o,b∉W->h.get? b=some o->h'.get? b=some o
structure pV(c:aR)(h:a_)(al:List aj)(fs:Fs)(w:aj):Prop where
 al:w∉al
 fs:w∉fs.map (·.1)b:c.B.get? w=none
 k:∀o,h.get? w=some o->¬w7 o/\¬Tb o
section
variable{c:aR}{h bF h':a_}{W:List aj}
theorem SR.but(R:SR c h al u fs)(hW:∀w∈W,pV c h al fs w)(k:dG W h h'):SR c h' al u fs/\dT h h':=by have fx:dT h h':=λa o e t=>k a o (λm=>((hW a m).k o e).1 t) e;have kk:Kp h al h' al:=⟨fx,λb o e t m=>⟨o,k b o (λm=>((hW b m).k o e).2 t) e,t⟩,λ_ _ e=>e,λa m=>.inl m⟩;exact⟨⟨λb o e=>k b o (λm=>aE ((hW b m).b.symm.trans e)) (R.base b o e),R.off,R.len,R.nd,λi mo a e ea=>(R.obj i mo a e ea).keep (λo eo=>k a o (λm=>(hW a m).al (ez ea)) eo) kk,λp hp=>(R.fr p hp).keep (λo eo=>k _ o (λm=>(hW _ m).fs (sN hp)) eo) fx λ_ _ e=>e⟩,fx⟩
theorem a8.but(T:a8 bF gQ fa h al)(hW:∀w∈W,bF.get? w=none)(k:dG W h h'):a8 bF gQ fa h' al:=by
 refine⟨λb o e=>?_,λb o e h1 h2=>?_,T.ext⟩;.obtain⟨o',e'⟩:=T.live b o e;exact⟨o',k b o' (λm=>aE ((hW b m).symm.trans e)) e'⟩
 .obtain⟨o',e',k'⟩:=T.keep b o e h1 h2;exact⟨o',k b o' (λm=>aE ((hW b m).symm.trans e)) e',k'⟩
inductive Ac(h:a_)(al:List aj)(i k:Nat)(I:aj)(W:List aj):Prop|mk(w:W=[I])(a:aj)(ea:al[i]?=some a)(y:h.IsListIter I a k):Ac h al i k I W
inductive Ed(h:a_)(al:List aj)(l:List V)(k:Nat)(I:aj)(W:List aj):Prop|mk(w:W=[I])(a:aj)(items:Array aa)(t:fz h a items)(vs:aQ h al l items.toList)(y:IsTupIter h I a k):Ed h al l k I W
inductive Ad(h:a_)(n:Int)(k:Nat)(I:aj)(W:List aj):Prop|mk(w:W=[I])(n1:-1000000<n)(n2:n<1000000)(y:Hg h I k (sV 0 n 1-k) 1):Ad h n k I W
inductive Ae(h:a_)(al:List aj)(i k:Nat)(I:aj)(W:List aj):Prop|mk(aA a:aj)(old:aa)(w:W=[I,aA])(ne:I≠aA)(ea:al[i]?=some a)(y:h.IsListIter aA a k)(e:IsEnum h I aA k old):Ae h al i k I W
inductive JB(c:aR)(h:a_)(al:List aj)(i k:Nat)(I:aj)(W:List aj):Prop|mk(w:W=[I])(k0:k=0)(a:aj)(ep:Nat)(ea:al[i]?=some a)(d:h.DictAt (jd c.prog c.w) a [] ep)(y:h.IsValIter I a 0 0 ep):JB c h al i k I W
def dE(c:aR)(h:a_)(al:List aj)(src:eZ)(k:Nat)(I:aj)(W:List aj):Prop:=eZ.casesOn src (λi=>Ac h al i k I W) (λl=>Ed h al l k I W) (λn=>Ad h n k I W) (λi=>Ae h al i k I W) (λ_=>False) λi=>JB c h al i k I W
def gR(c:aR)(bF:a_)(al:List aj)(fs:Fs)(W:List aj):Prop:=∀w∈W,w∉al/\w∉fs.map (·.1)/\bF.get? w=none
theorem int_str{n:Int}:wN n t≠.str q aG:=qS rfl
theorem ac8{n:Int}:wN n t≠.ref L:=qS rfl
theorem ac9:Data.fields vs≠.seq xs n:=lr rfl
theorem iW.RC(hd:o.data=.fields vs)(h1:vs[1]?=some x)(n1:∀q aG,x≠.str q aG)(n2:∀L,x≠.ref L):iW b o:=⟨λxs m q=>absurd (hd.symm.trans q) ac9,λws q v y=>by have z:x=v:=aJ ((h1.symm.trans (congrArg (·[1]?) (zK (hd.symm.trans q)))).trans y);exact z▸⟨n1,λ_=>n2⟩⟩
theorem iW.iter{n:Int}(hd:o.data=.fields vs)(h1:vs[1]?=some (.int n t)):iW b o:=.RC hd h1 (λ_ _=>int_str) λ_=>ac8
theorem IsListIter.look(y:h.IsListIter I a k):gn h I true:=by obtain⟨o,e,-,d⟩:=y;exact⟨o,e,.iter d rfl⟩
theorem Ee(e:W=[I])(m:w∈W):w=I:=bM.mp (e▸m)
theorem dE.plain(x:dE c h al src k I W):∀w∈W,gn h w true:=by intro w hw;cases src with|list i=>obtain⟨e,a,-,y⟩:=x;exact Ee e hw▸IsListIter.look y|tup l=>obtain⟨e,a,items,-,-,o,eo,-,d⟩:=x;exact Ee e hw▸⟨o,eo,.iter d rfl⟩|range n=>obtain⟨e,-,-,eo⟩:=x;exact Ee e hw▸⟨_,eo,.iter rfl rfl⟩|enum i=>obtain⟨aA,a,old,e,ne,ea,hl,eo⟩:=x;exact(bX.mp (e▸hw:w∈[I,aA])).elim (λq=>q▸⟨_,eo,.RC (x:=.bool false) rfl rfl (λ_ _=>qS rfl) λ_=>qS rfl⟩) λm=>bM.mp m▸IsListIter.look hl|vals i=>obtain⟨e,-,a,ep,-,-,o,eo,-,d⟩:=x;exact Ee e hw▸⟨o,eo,.iter d rfl⟩|keys i=>exact x.elim
theorem nr(e:W=[I]):I∈W:=e▸.head _
theorem IsListIter.map(y:h.IsListIter I a k)(f:∀o,h.get? I=some o->h'.get? I=some o):h'.IsListIter I a k:=by obtain⟨o,e,r⟩:=y;exact⟨o,f o e,r⟩
theorem dE.mono(x:dE c h al src k I W)(hv:∀i,src≠.vals i)(kw:∀w∈W,∀o,h.get? w=some o->h'.get? w=some o)(fx:dT h h')(ha:jF al aT):dE c h' aT src k I W:=by cases src with|list i=>obtain⟨e,a,ea,y⟩:=x;exact⟨e,a,ha _ _ ea,IsListIter.map y (kw _ (nr e))⟩|tup l=>obtain⟨w,a,items,t,vs,o,e,r⟩:=x;exact⟨w,a,items,fx.tup t,vs.mono fx ha,o,kw _ (nr w) o e,r⟩|range n=>obtain⟨w,y,y',e⟩:=x;exact⟨w,y,y',kw _ (nr w) _ e⟩|enum i=>obtain⟨aA,a,old,w,ne,ea,hl,e⟩:=x;exact⟨aA,a,old,w,ne,ha _ _ ea,IsListIter.map hl (kw _ (w▸.tail _ (.head _))),kw _ (w▸.head _) _ e⟩|vals i=>exact absurd rfl (hv i)|keys i=>exact x.elim
theorem dE.RD(x:dE c h al src k I W)(kp:∀b o,h.get? b=some o->h'.get? b=some o)(ha:jF al aT):dE c h' aT src k I W:=by have y:=λhv=>dE.mono x hv (λw _ o=>kp w o) (λa o e _=>kp a o e) ha;cases src with|vals i=>obtain⟨e1,e2,a,ep,ea,dd,o,e,r⟩:=x;exact⟨e1,e2,a,ep,ha _ _ ea,dd.keep kp,o,kp _ o e,r⟩|_=>exact y nofun
theorem gR.step(O:gR c bF al fs W)(T:a8 h al fa h' aT)(hp:∀w∈W,∃o,h.get? w=some o):gR c bF aT fs W:=λw m=>by obtain⟨a,b,d⟩:=O w m;obtain⟨nw,e,hn⟩:=T.ext;refine⟨λq=>(cV.mp (e▸q)).elim a λq=>?_,b,d⟩;obtain⟨o,e⟩:=hp w m;exact aE ((hn w q).symm.trans e)
theorem dE.step(x:dE c h al src k I W)(hv:∀i,src≠.vals i)(O:gR c bF al fs W)(R:SR c h al u fs)(T:a8 h al (fs.map (·.1)) h' aT):dE c h' aT src k I W:=dE.mono x hv (λw m o e=>by obtain⟨o',e',kk⟩:=T.keep w o e (O w m).1 (O w m).2.1;exact kk.elim (λq=>q▸e') λt=>((dE.plain x w m).tb e t.1).elim) (R.fix T) T.at
theorem RE n:sV 0 n 1=if 0<n then n else 0:=by unfold sV;simp only[show(1:Int)>0 from by decide,if_true];split<;>omega
noncomputable abbrev RG:List String:=["enumerate","zip","dict_itemiterator","dict_reverseitemiterator","odict_iterator","itertools.zip_longest","itertools.pairwise"]
theorem RH(eo:s.heap.get? I=some o)(hc:o.cls=.type T)(hd:o.data=.fields vs)(hT:RG.contains T=false)(hP:P () s):av c.M A (v_ (.Tuple ts k p) (.ref I) q) P E s:=by cases q with|ref a=>refine aw (sm eo ?_);rw[hc,hd];exact uT (λq=>bZ (hT.symm.trans (eA.mp q).1)) (aP hP)|_=>exact aP hP
theorem JC(eo:s.heap.get? I=some o)(hc:o.cls=.type T)(hd:o.data=.fields vs)(hT:RG.contains T=false)(hP:P () s):av c.M A (v_ tgt (.ref I) q) P E s:=by cases tgt with|Tuple ts k p=>exact RH eo hc hd hT hP|List ts p=>exact(RH (ts:=ts) (k:=0) (p:=p) eo hc hd hT hP:av c.M A (v_ (.Tuple ts 0 p) (.ref I) q) P E s)|_=>exact aP hP
def Af(c:aR)(A:dR)(E:aa->aF->Prop)(s:aF)(al:List aj)(u:List MO)(fs:Fs)(src:eZ)(tgt:aq)(k:Nat)(I:aj)(W:List aj)(Q:Option aa->aF->Prop)(ov:Option V):Prop:=match ov with|none=>∀h',SR c h' al u fs->dG W s.heap h'->Q none {s with heap:=h'}|some v=>∀q az tk,(∀{P:Unit->aF->Prop},(∀h',SR c h' al u fs->dG W s.heap h'->VR h' al v q->dE c h' al src (k+1) I W->P () {s with heap:=h',toks:=tk})->av c.M A (v_ tgt (.ref I) q) P E {s with heap:=az,toks:=tk})->Q (some q) {s with heap:=az,toks:=tk}
section
variable{k:Nat}
theorem dG.of(he:C4 I h h')(w:I∈W):dG W h h':=λb o hb=>he b o λq=>hb (q▸w)
theorem JD{items:Array aa}(vs:aQ h al l items.toList)(hk:l[k]?=none):items[k]?=none:=by have h:=zd.mp hk;rw[vs.length,eY]at h;exact zw h
theorem ac_(hh:A.handled=none)(e:rd (.list i) u k=some ov)(x:Ac s.heap al i k I W)(hW:∀w∈W,pV c s.heap al fs w)(R:SR c s.heap al u fs)(hQ:Af c A E s al u fs (.list i) tgt k I W Q ov):av c.M A (jU (.ref I)) Q E s:=by obtain⟨w,a,ea,hit⟩:=x;obtain⟨l,hl,e⟩:=s9 e;obtain⟨items,n,hi,vs⟩:=R.obj _ _ _ hl ea;have e:=aJ e;cases hk:l[k]? with|none=>rw[<-e,hk]at hQ;exact wpAny_pyNext_list_end hh hit (iX hi) (JD vs hk) λh' he=>have bt:=dG.of he (nr w);hQ h' (R.but hW bt).1 bt|some v=>rw[<-e,hk]at hQ;obtain⟨q,hq,kq⟩:=vs.get hk;refine wpAny_pyNext_list_item hit (iX hi) (jC▸hq) λh' pW eD=>hQ q h' s.toks λ{P}hP=>?_;have bt:=dG.of eD.extBut (nr w);have y:=R.but hW bt;obtain⟨o,eo,hc,hd⟩:=id pW;exact JC (s:={s with heap:=h'}) eo hc hd ai (hP h' y.1 bt (kq.mono y.2 λ_ _ e=>e) ⟨w,a,ea,pW⟩)
theorem ac'(hh:A.handled=none)(e:l[k]?=ov)(x:Ed s.heap al l k I W)(hW:∀w∈W,pV c s.heap al fs w)(R:SR c s.heap al u fs)(hQ:Af c A E s al u fs (.tup l) tgt k I W Q ov):av c.M A (jU (.ref I)) Q E s:=by obtain⟨w,a,items,t,vs,hit⟩:=x;cases ov with|none=>exact next_tuple_end hh hit t (JD vs e) λh' he=>have bt:=dG.of he (nr w);hQ h' (R.but hW bt).1 bt|some v=>obtain⟨q,hq,kq⟩:=vs.get e;refine next_tuple_item hit t (jC▸hq) λh' pW eD=>hQ q h' s.toks λ{P}hP=>?_;have bt:=dG.of eD.extBut (nr w);have y:=R.but hW bt;obtain⟨o,eo,hc,hd⟩:=id pW;exact JC (s:={s with heap:=h'}) eo hc hd ai (hP h' y.1 bt (kq.mono y.2 λ_ _ e=>e) ⟨w,a,items,y.2.tup t,vs.mono y.2 λ_ _ e=>e,pW⟩)
theorem ada{n:Int}(h:(k:Int)<n):0<(if 0<n then n else 0)-(k:Int):=by split<;>omega
theorem adb{n:Int}(h:¬(k:Int)<n):(if 0<n then n else 0)-(k:Int)<=0:=by split<;>omega
theorem ade a k:a-k-1=a-((k+1:Nat):Int):=ZR
theorem adf{n:Int}(hh:A.handled=none)(e:(if(k:Int)<n then some (V.int k)else none)=ov)(x:Ad s.heap n k I W)(hW:∀w∈W,pV c s.heap al fs w)(R:SR c s.heap al u fs)(hQ:Af c A E s al u fs (.range n) tgt k I W Q ov):av c.M A (jU (.ref I)) Q E s:=by
 obtain⟨w,n1,n2,hit⟩:=x;by_cases hk:(k:Int)<n;.rw[if_pos hk]at e;rw[<-e]at hQ;refine wpAny_pyNext_range_item hit (RE n▸ada hk) λh' pW eD=>hQ (.int k s.toks) h' (s.toks+1) λ{P}hP=>?_;have bt:=dG.of eD.extBut (nr w);exact JC (s:={s with heap:=h',toks:=s.toks+1}) pW rfl rfl ai (hP h' (R.but hW bt).1 bt (.int _ _) ⟨w,n1,n2,ade _ k▸(uy k 1).symm▸pW⟩)
 .rw[if_neg hk]at e;rw[<-e]at hQ;exact wpAny_pyNext_range_end hh hit (RE n▸adb hk) λh' he=>have bt:=dG.of he (nr w);hQ h' (R.but hW bt).1 bt
theorem adg(hf:nh tgt (.enum i)=true):∃ts k p,tgt=.Tuple ts k p:=by obtain⟨ts,adh⟩:=HV.mp (show(Qi tgt).isSome=true from hf);obtain⟨ts,k,p,e,-⟩:=P' adh;exact⟨ts,k,p,e⟩
theorem adi(hh:A.handled=none)(hf:nh tgt (.enum i)=true)(e:rd (.enum i) u k=some ov)(x:Ae s.heap al i k I W)(hW:∀w∈W,pV c s.heap al fs w)(R:SR c s.heap al u fs)(hQ:Af c A E s al u fs (.enum i) tgt k I W Q ov):av c.M A (jU (.ref I)) Q E s:=by obtain⟨aA,a,old,w,ne,ea,hit,he⟩:=x;obtain⟨l,hl,e⟩:=s9 e;obtain⟨items,n,hi,vs⟩:=R.obj _ _ _ hl ea;have e:=aJ e;have wI:I∈W:=w▸.head _;have wJ:aA∈W:=w▸.tail _ (.head _);cases hk:l[k]? with|none=>rw[<-e,hk]at hQ;exact wpAny_pyNext_enum_end hh he hit (iX hi) (JD vs hk) λh' JE=>have bt:=dG.of JE wJ;hQ h' (R.but hW bt).1 bt|some v=>rw[<-e,hk]at hQ;obtain⟨q,hq,kq⟩:=vs.get hk;refine wpAny_pyNext_enum_item he hit (iX hi) (jC▸hq) ne λh' eo pW ht hz adj=>hQ (.ref s.heap.objs.size) h' (s.toks+1) λ{P}hP=>?_;obtain⟨ts,kk,pp,rfl⟩:=adg hf;refine wpAny_letOwnedTupleGo_enum (s:={s with heap:=h',toks:=s.toks+1}) eo λbl I6 rk=>?_;have RI:dG W s.heap bl:=λb o hb eb=>rk.extBut b o (λq=>hb (q▸wI)) (adj b o (λq=>hb (q▸wI)) (λq=>hb (q▸wJ)) eb);have y:=R.but hW RI;exact hP bl y.1 RI (.tup (items:=#[.int k s.toks,q]) ⟨_,rk.extBut _ _ (v5 (eW he)) ht,rfl,_,rfl⟩ (.cons (.int _ _) (.cons (kq.mono y.2 λ_ _ e=>e) .nil))) ⟨aA,a,q,w,ne,ea,pW.extBut rk.extBut (hY ne),(uy k 1).symm▸I6⟩
theorem RK(hh:A.handled=none)(hf:nh tgt src=true)(e:rd src u k=some ov)(x:dE c s.heap al src k I W)(O:gR c bF al fs W)(B:∀b o,c.B.get? b=some o->bF.get? b=some o)(R:SR c s.heap al u fs)(hQ:Af c A E s al u fs src tgt k I W Q ov):av c.M A (jU (.ref I)) Q E s:=by
 have hW:∀w∈W,pV c s.heap al fs w:=λw m=>by obtain⟨a,b,d⟩:=O w m;refine⟨a,b,?_,λo e=>⟨(dE.plain x w m).fix e,(dE.plain x w m).tb e⟩⟩;cases z:c.B.get? w with|none=>rfl|some o=>exact aE (d.symm.trans (B w o z))
 clear O;cases src with|list i=>exact ac_ hh e x hW R hQ|tup l=>exact ac' hh (aJ e) x hW R hQ|range n=>exact adf hh (aJ e) x hW R hQ|enum i=>exact adi hh hf e x hW R hQ|vals i=>obtain⟨w,rfl,a,ep,ea,dd,hit⟩:=x;rw[<-aJ e]at hQ;exact wpAny_pyNext_values_end (kvs:=[]) hh hit dd rfl λh' he=>have bt:=dG.of he (nr w);hQ h' (R.but hW bt).1 bt|keys i=>exact x.elim
end
end
section
variable{h bF h':a_}
theorem JF(R:SR c h al u fs)(T:a8 bF gQ (fs.map (·.1)) h al){I:aj}(hI:h.objs.size<=I):I∉al/\I∉fs.map (·.1)/\bF.get? I=none:=by refine⟨λm=>mV.mpr hI (R.lt (eG _ m)),λm=>mV.mpr hI (R.lt (gi _ m)),?_⟩;cases z:bF.get? I with|none=>rfl|some o=>obtain⟨o',e'⟩:=T.live I o z;exact absurd (eW e') (mV.mpr hI)
theorem xA:∀b o',h.get? b=some o'->(h.push o).get? b=some o':=λb o' e=>d6 _ e
theorem uX:∃k,(k=wR\/k=wQ\/k=wO)/\jZ M h (lV (.type T)) k:=⟨.machine,.inr (.inl rfl),.now⟩
theorem JG{id:String}:∃k,(k=wR\/k=wQ\/k=wO)/\jZ M h (lV (.builtin id)) k:=⟨.machine,.inr (.inl rfl),.now⟩
end
section
variable{rest fs:Fs}
theorem Cx.vars(C:Cx c n hd A al ((L,v)::rest)):Cx c n hd A al ((L,v')::rest):=⟨C.depth,C.units,C.handled,C.frames,C.tab,C.guards⟩
theorem adk(e:rd src u k=some (some v)):∀i,src≠.vals i:=λi q=>by rw[q]at e;exact aE (aJ e)
end
section
variable{rest fs:Fs}
theorem SR.swap(R:SR c h al u (p::q::fs)):SR c h al u (q::p::fs):=by have pm:HM (al++(q::p::fs).map (·.1)) (al++(p::q::fs).map (·.1)):=Pd al (DA ..);have pf:HM (q::p::fs) (p::q::fs):=DA ..;exact⟨R.base,λa m=>R.off a (pm.mem_iff.mp m),R.len,pm.nodup_iff.mpr R.nd,R.obj,λx hx=>R.fr x (pf.mem_iff.mp hx)⟩
abbrev ff:aa->aF->Prop:=λ_ _=>False
def RL(M:Model)(A:dR)(acc:aa)(aA:aF->Prop)(x:aa)(s:aF):Prop:=av M A (call (.builtin "list.append") [acc,x]) (λ_=>aA) ff s
def RM(M:Model)(A:dR)(ag:Env)(elt:aq)(acc:aa)(aA:aF->Prop)(ok:Bool)(s:aF):Prop:=Bool.casesOn ok (aA s) (av M A (eval elt ag) (RL M A acc aA) ff s)
def Ag(M:Model)(A:dR)(ag:Env)(ifs:List aq)(elt:aq)(acc:aa)(aA:aF->Prop)(s:aF):Prop:=av M A (forIn ifs true λc r=>if r=true then do let ok<-za c ag (eval c ag);pure (wU ok)else pure (wU r)) (RM M A ag elt acc aA) ff s
def RN(M:Model)(A:dR)(ag:Env)(target:aq)(ifs:List aq)(elt:aq)(it acc:aa)(aA:aF->Prop)(v:aa)(s:aF):Prop:=av M A (v_ target it v) (λ_=>av M A (assign target ag v) (λ_=>Ag M A ag ifs elt acc aA) ff) ff s
def JH(M:Model)(A:dR)(ag:Env)(target:aq)(ifs:List aq)(elt:aq)(it acc:aa)(aA R:aF->Prop)(r:Option aa)(s:aF):Prop:=aU r (λv=>RN M A ag target ifs elt it acc aA v s) (R s)
theorem RO(I:Nat->aF->Prop)(turn:∀n s,I n s->av (cv prog w) A (jU it) (JH (cv prog w) A ag target ifs elt it acc (λs=>∃m,m<n/\I m s) (R (.ok .next))) ff s) n(h:I n s):je (cv prog w) A (.compLoop (.ListComp elt [⟨target,iter,ifs,0⟩] scope pos) 0 it acc ag) R s:=by refine codeAny_loop rfl I (λn s hI=>?_) n h;show av _ A ((compTurn (.ListComp elt [⟨target,iter,ifs,0⟩] scope pos) 0 it acc ag).onRaise (λx=>do CE x ag;theTreesLotGoes x)) _ _ s;refine wpAny_noted ?_;rw[compTurn_list];refine aw (kC (aw (b_ (turn n s hI) (λr cq az=>?_) λ_ _ h'=>h'.elim)));cases r with|none=>exact aP az|some v=>replace az:RN (cv prog w) A ag target ifs elt it acc (λs=>∃m,m<n/\I m s) v cq:=az;refine aw (b_ az (λ_ auZ adl=>?_) λ_ _ h'=>h'.elim);refine aw (b_ adl (λ_ dD bl=>aw (b_ bl (λok jG ie=>?_) λ_ _ h'=>h'.elim)) λ_ _ h'=>h'.elim);cases ok with|false=>exact aP ⟨rfl,ie⟩|true=>exact aw (aw (b_ ie (λx Ah er=>aw (b_ er (λ_ Ef JI=>aP (aP ⟨rfl,JI⟩)) λ_ _ h'=>h'.elim)) λ_ _ h'=>h'.elim))
noncomputable abbrev Ai(ag:Env)(x:Str×qK)(cs:List (Str×aj)):Sem (ForInStep (List (Str×aj))):=if(x.2==sZ)=true then(do let a<-cellOf ag x.1;pure (wU ((x.1,a)::cs)))else pure (wU cs)
theorem adm(hk:x.2=.free)(ha:ag.cells.lookup x.1=some a):Ai ag x cs=pure (wU ((x.1,a)::cs)):=by unfold Ai;rw[if_pos (beq_iff_eq.mpr hk),show cellOf ag x.1=pure a by unfold cellOf;rw[ha]];rfl
theorem adn names:∀{acc cl:List (Str×Nat)}{cs:List (Str×aj)},pP Y.cells names acc=some cl->dm c ag al Y L->dv al acc cs->∃eJ,dv al cl eJ/\(forIn names cs (Ai ag):Sem (List (Str×aj)))=pure eJ:=by induction names with|nil=>exactλe R K=>aJ e▸⟨_,K,rfl⟩|cons x r ih=>
 intro acc cl cs e R K;have e1:pP Y.cells (x::r) acc=if x.2=.free then aU (Y.cells.lookup x.1) (λi=>pP Y.cells r ((x.1,i)::acc)) none else pP Y.cells r acc:=rfl;rw[e1]at e;by_cases hk:x.2=.free;.rw[if_pos hk]at e;obtain⟨i,hi,e⟩:=bH e;obtain⟨a,ha,ado⟩:=R.cells x.1 i hi;obtain⟨eJ,K',h'⟩:=ih e R (.cons (p:=(x.1,i)) ado K);exact⟨eJ,K',by rw[zk,adm hk ha];exact h'⟩
 .rw[if_neg hk]at e;obtain⟨eJ,K',h'⟩:=ih e R K;exact⟨eJ,K',by rw[zk,Ai,if_neg λq=>hk (beq_iff_eq.mp q)];exact h'⟩
theorem RQ(e:pP Y.cells sc.names []=some cl)(R:dm c ag al Y L):∃eJ,dv al cl eJ/\Cz sc ag=pure eJ:=by
 obtain⟨eJ,K,h⟩:=adn sc.names e R .nil;refine⟨eJ,K,?_⟩;have q:Cz sc ag=(forIn sc.names [] (Ai ag)>>=λcs=>pure cs):=by unfold Cz;exact congrArg (λf=>(forIn sc.names [] f>>=λcs=>pure cs:Sem (List (Str×aj)))) (funext λx=>funext λcs=>rfl)
 rw[q,h];rfl
noncomputable def Aj(ag:Env)(x:Str)(k:qK):NameKind:=if(k==sZ&&ag.scope.kind==.function&&ag.kindOf x==some .cell)=true then uD else k
theorem adp{names:List (Str×qK)}:(names.map λ(n,k)=>if(k==sZ&&ag.scope.kind==.function&&ag.kindOf n==some .cell)then(n,uD)else(n,k)).lookup x=(names.lookup x).map (Aj ag x):=by
 have q:(λy:Str×qK=>if(y.2==sZ&&ag.scope.kind==.function&&ag.kindOf y.1==some .cell)=true then(y.1,uD)else(y.1,y.2))=λy=>(y.1,Aj ag y.1 y.2):=funext λy=>by
  unfold Aj;by_cases h:(y.2==sZ&&ag.scope.kind==.function&&ag.kindOf y.1==some .cell)=true;.rw[if_pos h,if_pos h]
  .rw[if_neg h,if_neg h]
 show(names.map (λy:Str×qK=>if(y.2==sZ&&ag.scope.kind==.function&&ag.kindOf y.1==some .cell)=true then(y.1,uD)else(y.1,y.2))).lookup x=_;rw[q];induction names with|nil=>rfl|cons y r ih=>
  rw[ef,gN,gN,ih];by_cases h:y.1=x;.rw[if_pos h,if_pos h];exact congrArg (λz=>some (Aj ag z y.2)) h
  .rw[if_neg h,if_neg h]
theorem RR(R:dm c ag al Y L){sc:cz}{cl:List (Str×Nat)}{eJ:List (Str×aj)}(K:dv al cl eJ)(hk:sc.kind=.function) C:dm c (wj sc eJ C ag) al ⟨sc,[],cl,none⟩ C:=by refine⟨hk,rfl,R.gl,R.bi,λx=>?_,λx i e=>K.lookup e,λq e=>aE e⟩;have h1:(wj sc eJ C ag).kindOf x=(sc.names.lookup x).map (Aj ag x):=adp;show xi _ x (sc.names.lookup x);cases e:sc.names.lookup x with
 |none=>rw[e]at h1;exact h1
 |some k=>rw[e]at h1;cases k with
  |free=>
  by_cases q:(sZ==sZ&&ag.scope.kind==.function&&ag.kindOf x==some .cell)=true;.exact .inr (h1.trans (congrArg some (if_pos q)))
  .exact .inl (h1.trans (congrArg some (if_neg q)))|_=>exact h1
theorem dE.self(x:dE c s.heap al src k I W){Q:aa->aF->Prop}(h:Q (.ref I) s):av c.M A (wq (.ref I)) Q E s:=by cases src with|list i=>obtain⟨-,a,-,y⟩:=x;exact wpAny_pyIter_listiter y h|tup l=>obtain⟨-,a,items,-,-,y⟩:=x;exact wpAny_pyIter_tupleiter (t:=a) (i:=k) y h|range n=>obtain⟨-,-,-,e⟩:=x;exact wpAny_pyIter_rangeiter e h|enum i=>obtain⟨aA,a,old,-,-,-,-,e⟩:=x;exact Nz e h|vals i=>obtain⟨-,-,a,ep,-,-,y⟩:=x;exact wpAny_pyIter_valiter y h|keys i=>exact x.elim
theorem Cx.under(X:Cx c n hd A al fs):Cx c n hd A al ((C,v)::fs):=⟨X.depth,X.units,X.handled,by obtain⟨l,e,k⟩:=X.frames;refine⟨l,e,λx hx=>?_⟩;obtain⟨L',a,b,d⟩:=k x hx;exact⟨L',a,.tail _ b,d⟩,X.tab,X.guards⟩
theorem a8.side(T:a8 h al (C::fa) h' dM)(hC:bF.get? C=none)(adq:a8 bF gQ fa h al):a8 bF gQ fa h' dM:=adq.body T hC
end
section
variable{K:d0}{al gQ dM:List aj}{rest fs:Fs}
theorem RS(e:j4 x=true):x≠"__debug__"/\x≠"__classdict__":=by unfold j4 at e;rw[iV,bne_iff_ne,bne_iff_ne]at e;exact e
theorem ads(e:j4 x=true):(x=="__debug__")=false:=beq_false_of_ne (RS e).1
theorem adt{β:Type}{f:aq->Str->Pos->Option β}{y:Option β}{r:β}(h:pM e f y=some r):(∃o x p,e=.Attribute o x p/\f o x p=some r)\/y=some r:=by
 by_cases q:e.ctorIdx=20;.exact .inl (P9 (by unfold pM at h⊢;rw[dif_pos q]at h⊢;exact h))
 .unfold pM at h;rw[dif_neg q]at h;exact .inr h
theorem JJ(G:fg c S){x:Str}{p:Pos}{v:V}{s:aF}(hx:j4 x=true)(e:eI S Y u x=some v)(R:dm c ag al Y L)(Kk:SR c s.heap al u ((L,Y.vars)::rest)){Q:aa->aF->Prop}(hQ:∀p,VR s.heap al v p->Q p s):av c.M A (eval (.Name x p) ag) Q E s:=CA (I1 G e (RS hx).2 R Kk hQ) (ads hx)
theorem adu(O:dh c)(G:fg c S)(SA:lz c S K)(U:A.units+8<dJ)(R:dm c ag al Y L) n:∀{e:aq}{v:V}{s:aF},qW S n e Y u=some v->SR c s.heap al u ((L,Y.vars)::rest)->∀{Q:aa->aF->Prop},(∀p tk,VR s.heap al v p->Q p {s with toks:=tk})->av c.M A (eval e ag) Q E s:=by induction n with|zero=>exactλe=>aE e|succ n ih=>
 intro ex v s e Kk Q hQ;rcases Rl e with⟨x,p,rfl,e⟩|e;.exact JJ G (cI e).1 (cI e).2 R Kk λp=>hQ p s.toks
 rcases adt e with⟨o,nm,p,rfl,e⟩|e;.obtain⟨hs,e⟩:=cI e;obtain⟨aG,hu,e⟩:=bH e;rw[Nv,Jh hs];exact aw (ih hu Kk λq tk ku=>aw (kC (aw (fT (Q6 (s:={s with toks:=tk}) SA e Kk ku λp gq kv=>aw (Nj (aP (hQ p gq kv))))))))
 .obtain⟨o,k,p,rfl,e⟩:=aa0 e;obtain⟨aG,hu,e⟩:=bH e;obtain⟨x,px,rfl,e⟩:=DP e;obtain⟨hx,e⟩:=cI e;obtain⟨i,hi,e⟩:=bH e;refine H_ (ih hu Kk λq tk ku=>JJ (s:={s with toks:=tk}) G hx hi R Kk λEg ki=>?_);obtain⟨T,id,hT,hl⟩:=Rb (s:={s with toks:=tk}) e Kk ku;exact tail_any (s:={s with toks:=tk}) hT hl (Q9 (s:={s with toks:=tk}) O e U Kk ku ki λp gq kv=>hQ p gq kv) rfl
theorem SR.JK(R:SR c h al u fs){C:aj}{v:bI}(h1:C∉al)(h2:C∉fs.map (·.1))(h3:c.B.get? C=none)(f:h_ h al (C,v)):SR c h al u ((C,v)::fs):=⟨R.base,λa m=>(cV.mp m).elim (λm=>R.off a (eG _ m)) λm=>(bX.mp m).elim (λq=>q▸h3) λm=>R.off a (gi _ m),R.len,(wx.nodup_iff).mpr (jg.mpr ⟨λm=>(cV.mp m).elim h1 h2,R.nd⟩),R.obj,λp hp=>(bX.mp hp).elim (λq=>q▸f) (R.fr p)⟩
theorem SR.adopt(R:SR c h al u fs){D:aj}{mo:MO}(h1:D∉al)(h2:D∉fs.map (·.1))(h3:c.B.get? D=none)(h4:∀o,h.get? D=some o->¬Tb o)(x:eB c h (al++[D]) D mo):SR c h (al++[D]) (u++[mo]) fs:=by
 have kk:Kp h al h (al++[D]):=⟨λa o e _=>e,λb o e t _=>⟨o,e,t⟩,kJ,λa m=>(cV.mp m).imp id λm o e=>h4 o ((bM.mp m:_=D)▸e)⟩;refine⟨R.base,λa m=>?_,by rw[aX,aX,R.len];rfl,?_,λi mo' a e ea=>?_,λp hp=>(R.fr p hp).keep (λo e=>e) (λa o e _=>e) kJ⟩;.rw[cS]at m;exact(cV.mp m).elim (λm=>R.off a (eG _ m)) λm=>(bX.mp m).elim (λq=>q▸h3) λm=>R.off a (gi _ m)
 .rw[cS];exact(wx.nodup_iff).mpr (jg.mpr ⟨λm=>(cV.mp m).elim h1 h2,R.nd⟩)
 .by_cases hi:i<al.length;.rw[ew (R.len▸hi)]at e;rw[ew hi]at ea;exact(R.obj i mo' a e ea).keep (λo e=>e) kk
  .exact(DM hi ea).2▸(DM (R.len▸hi) e).2▸x
theorem c_.at{KK:Type}{kv:List (KK×V)}{kvs:List (KK×aa)}(x:c_ h al kv kvs):∀{i:Nat}{q:KK×aa},kvs[i]?=some q->∃v,kv[i]?=some (q.1,v):=by induction x with|nil=>exactλe=>aE (sQ.symm.trans e)|@cons p q l r a t ih=>intro i w e;cases i with|zero=>exact⟨p.2,aJ e▸rfl⟩|succ i=>exact ih (i:=i) e
theorem adv kv:∀{vs:List V},uM S elt x sc cl u kv=some vs->vs.length=kv.length/\∀{i:Nat}{k:Int×V},kv[i]?=some k->∃w,vs[i]?=some w/\qW S 4 elt ⟨sc,[(x,.int k.1)],cl,none⟩ u=some w:=by induction kv with|nil=>exactλe=>⟨aJ e▸rfl,λh=>aE (sQ.symm.trans h)⟩|cons p r ih=>intro vs e;obtain⟨w,h1,e⟩:=bH e;obtain⟨ws,h2,e⟩:=bH e;have y:=ih h2;refine aJ e▸⟨congrArg (·+1) y.1,λ{i k}h=>?_⟩;cases i with|zero=>exact⟨w,rfl,aJ h▸h1⟩|succ i=>exact y.2 (i:=i) h
theorem RT(x:h.Ns C m):gn h C true:=by obtain⟨o',es,ep,e',d',_⟩:=x;exact⟨o',e',.dict d'⟩
theorem xB(x:h.PlainList D ys):gn h D true:=by obtain⟨n,e⟩:=x;exact⟨_,e,λ_ _ _ q=>absurd (Ph q) ai,λvs q=>(nomatch q)⟩
theorem RU(x:h.IsKeyIter I a i n ep):gn h I true:=by obtain⟨o',e',-,hd⟩:=x;exact⟨o',e',.iter hd rfl⟩
theorem adw(hq:(jd prog w).is key q=true):∃t,q=.int key t:=by cases q with|int i t=>exact⟨t,congrArg (wN · t) (eq_of_beq (show(i==key)=true from hq))⟩|_=>exact bZ hq
structure Sd(c:aR)(al:List aj)(fs:Fs)(I C D:aj):Prop where
 hI:I∉al/\I∉fs.map (·.1)/\c.B.get? I=none
 hC:C∉al/\C∉fs.map (·.1)/\c.B.get? C=none
 hD:D∉al/\D∉fs.map (·.1)/\c.B.get? D=none
 IC:I≠C
 ID:I≠D
 CD:C≠D
theorem pV.of(x:w∉al/\w∉fs.map (·.1)/\c.B.get? w=none)(l:gn h w true):pV c h al fs w:=⟨x.1,x.2.1,x.2.2,λo e=>⟨l.fix e,l.tb e⟩⟩
theorem Sd.away(X:Sd c al fs I C D)(l1:gn h I true)(l2:gn h C true)(l3:gn h D true):∀w∈[I,C,D],pV c h al fs w:=λw hw=>(bX.mp hw).elim (λq=>q▸.of X.hI l1) λhw=>(bX.mp hw).elim (λq=>q▸.of X.hC l2) λhw=>bM.mp hw▸.of X.hD l3
theorem dG.one(m:b∈W)(x:mZ b h h'):dG W h h':=dG.of x.extBut m
theorem dG.trans(x:dG W h h')(y:dG W h' bl):dG W h bl:=λb o m e=>y b o m (x b o m e)
structure KL(c:aR)(s:aF)(al:List aj)(I C D a:aj)(kvs:List (Int×aa))(ep:Nat)(vs:List V)(k:Nat)(m:Str->Option aa)(ys:Array aa)(s':aF):Prop where
 bt:dG [I,C,D] s.heap s'.heap
 ms:cW s s'
 iI:s'.heap.IsKeyIter I a k kvs.length ep
 iC:s'.heap.Ns C m
 iD:s'.heap.PlainList D ys
 d:s'.heap.DictAt (jd c.prog c.w) a kvs ep
 vr:aQ s'.heap al (vs.take k) ys.toList
inductive Ei(c:aR)(s:aF)(al:List aj)(I C D a:aj)(kvs:List (Int×aa))(ep:Nat)(vs:List V)(f:Nat)(s':aF):Prop|mk(k:Nat)(m:Str->Option aa)(ys:Array aa)(hf:f=kvs.length+1-k)(hk:k<=kvs.length)(x:KL c s al I C D a kvs ep vs k m ys s'):Ei c s al I C D a kvs ep vs f s'
theorem KL.away(X:Sd c al fs I C D)(cD:KL c s al I C D a kvs ep vs k m ys s'):∀w∈[I,C,D],pV c s'.heap al fs w:=X.away (RU cD.iI) (RT cD.iC) (xB cD.iD)
theorem KL.size(cD:KL c s al I C D a kvs ep vs k m ys s')(hl:vs.length=kvs.length)(hk:k<=kvs.length):ys.size=k:=by have h1:=cD.vr.length;rw[iT,hl,sf hk]at h1;exact(h1.trans eY).symm
theorem KL.turn(O:dh c)(G:fg c S)(SA:lz c S K)(U:A.units+8<dJ){elt:aq}{x:Str}{sc:cz}{cl:List (Str×Nat)}{nt:Env}{key:Int}{w:V}{bl:a_}{t:Tok}(X:Sd c al fs I C D)(cD:KL c s al I C D a kvs ep vs k m ys s')(R':SR c s'.heap al u fs)(ea:a∈al)(hl:vs.length=kvs.length)(hk:k<kvs.length)(hlen:kvs.length<1000000)(rl:dm c nt al ⟨sc,[],cl,none⟩ C)(hw:vs[k]?=some w)(lA:qW S 4 elt ⟨sc,[(x,.int key)],cl,none⟩ u=some w)(RX:dG [I,C,D] s'.heap bl)(iI:bl.IsKeyIter I a (k+1) kvs.length ep)(iC:bl.Ns C λn=>if n=x then some (.int key t)else m n)(iD:bl.PlainList D ys)(d:bl.DictAt (jd c.prog c.w) a kvs ep){f:Nat}(hf:f=kvs.length+1-k){tk:Nat}:Ag c.M A nt [] elt (.ref D) (λEf=>∃f',f'<f/\Ei c s al I C D a kvs ep vs f' Ef) {s' with heap:=bl,toks:=tk}:=by
 have y:=R'.but (cD.away X) RX;have rf:SR c bl al u ((C,[(x,.int key)])::fs):=y.1.JK X.hC.1 X.hC.2.1 X.hC.2.2 ⟨_,iC,λz aG hz=>by
  rw[gN]at hz;by_cases q:x=z;.rw[if_pos q]at hz;exact⟨.int key t,if_pos q.symm,aJ hz▸.int _ _⟩
  .rw[if_neg q]at hz;exact aE hz⟩;refine NK (adu (s:={s' with heap:=bl,toks:=tk}) O G SA U (rl.D7 (bR:=⟨sc,[(x,.int key)],cl,none⟩) ⟨rfl,rfl,rfl⟩) 4 lA rf λp gq kp=>?_);refine Nd (s:={s' with heap:=bl,toks:=gq}) iD (λie adx Ak=>?_) (cD.size hl (fJ hk)▸ax (fJ (v3 hk hlen)) ai);have RY:=RX.trans (dG.one (.tail _ (.tail _ (.head _))) Ak);have z:=R'.but (cD.away X) RY;have ady:dT bl ie:=λb o eb f=>Ak.extBut b o (λq=>(xB iD).fix (q▸eb) f) eb;refine⟨kvs.length+1-(k+1),hf▸(ZS hk),.mk (k+1) _ (ys.push p) rfl hk ⟨cD.bt.trans RY,cD.ms.trans ⟨rfl,rfl,rfl⟩,iI.extBut Ak.extBut X.ID,iC.extBut Ak.extBut X.CD,adx,d.extBut Ak.extBut λq=>X.hD.1 (q▸ea),?_⟩⟩;rw[Hx,hw,wG];exact(cD.vr.mono z.2 λ_ _ e=>e).append (.cons (kp.mono ady λ_ _ e=>e) .nil)
theorem KL.item(O:dh c)(G:fg c S)(SA:lz c S K)(U:A.units+8<dJ){elt:aq}{x:Str}{px:Pos}{sc:cz}{cl:List (Str×Nat)}{nt:Env}{key:Int}{val:aa}{w:V}(X:Sd c al fs I C D)(cD:KL c s al I C D a kvs ep vs k m ys s')(R':SR c s'.heap al u fs)(ea:a∈al)(hl:vs.length=kvs.length)(iZ:kvs[k]?=some (key,val))(hlen:kvs.length<1000000)(hx:sc.names.lookup x=some .local)(rl:dm c nt al ⟨sc,[],cl,none⟩ C)(hw:vs[k]?=some w)(lA:qW S 4 elt ⟨sc,[(x,.int key)],cl,none⟩ u=some w){f:Nat}(hf:f=kvs.length+1-k){aA:aF->Prop}:av c.M A (jU (.ref I)) (JH c.M A nt (.Name x px) [] elt (.ref I) (.ref D) (λEf=>∃f',f'<f/\Ei c s al I C D a kvs ep vs f' Ef) aA) ff s':=by
 refine wpAny_pyNext_dict_item cD.iI cD.d iZ λq az hq adz tg=>?_;obtain⟨t,rfl⟩:=adw hq;refine aP ?_;have adA:nt.kindOf x=some .local:=by have q:=rl.names x;dsimp only at q;rw[hx]at q;exact q
 have adB:=cD.iC.extBut tg.extBut (hY X.IC);refine wpAny_assign_Name (Ng adA (rl.loc▸adB) (λbl RZ rk=>?_) (rl.kind▸rfl));rw[rl.loc]at RZ rk;exact KL.turn O G SA U X cD R' ea hl (cn.mp iZ).1 hlen rl hw lA ((dG.one (.head _) tg).trans (dG.one (.tail _ (.head _)) rk)) (adz.extBut rk.extBut X.IC) RZ ((cD.iD.extBut tg.extBut (hY X.ID)).extBut rk.extBut (hY X.CD)) ((cD.d.extBut tg.extBut λq=>X.hI.1 (q▸ea)).extBut rk.extBut λq=>X.hC.1 (q▸ea)) hf
theorem adC(O:dh c)(G:fg c S)(SA:lz c S K)(U:A.units+8<dJ)(hh:A.handled=none){elt it:aq}{x:Str}{px pos:Pos}{sc:cz}{cl:List (Str×Nat)}{nt:Env}{kv:List (Int×V)}{m₀:Str->Option aa}(e:uM S elt x sc cl u kv=some vs)(hlen:kv.length<1000000)(hx:sc.names.lookup x=some .local)(rl:dm c nt al ⟨sc,[],cl,none⟩ C)(gP:SR c s.heap al u fs)(pr:c_ s.heap al kv kvs)(dd:s.heap.DictAt (jd c.prog c.w) a kvs ep)(ea:a∈al)(X:Sd c al fs I C D)(nI:s.heap.IsKeyIter I a 0 kvs.length ep)(nC:s.heap.Ns C m₀)(nD:s.heap.PlainList D #[]){R:sH->aF->Prop}(hR:∀s' m ys,dG [I,C,D] s.heap s'.heap->cW s s'->s'.heap.Ns C m->s'.heap.PlainList D ys->aQ s'.heap al vs ys.toList->R (.ok .next) s'):je c.M A (.compLoop (.ListComp elt [⟨.Name x px,it,[],0⟩] sc pos) 0 (.ref I) (.ref D) nt) R s:=by have hl:=adv kv e;have R0:vs.length=kvs.length:=hl.1.trans pr.len;have R1:KL c s al I C D a kvs ep vs 0 m₀ #[] s:=⟨λ_ _ _ e=>e,cW.refl s,nI,nC,nD,dd,.nil⟩;refine RO (Ei c s al I C D a kvs ep vs) (λf s' cD=>?_) (kvs.length+1) (.mk 0 m₀ #[] rfl (dC _) R1);obtain⟨k,m,ys,hf,hk,cD⟩:=cD;have y:=gP.but (R1.away X) cD.bt;cases iZ:kvs[k]? with|none=>refine wpAny_pyNext_dict_end hh cD.iI cD.d iZ λaz he=>?_;have me:dG [I,C,D] s'.heap az:=dG.of he (.head _);have z:=y.1.but (cD.away X) me;have vr:=cD.vr;rw[lY (R0▸zd.mp iZ)]at vr;exact hR {s' with heap:=az} m ys (cD.bt.trans me) (cD.ms.trans ⟨rfl,rfl,rfl⟩) (cD.iC.extBut he (hY X.IC)) (cD.iD.extBut he (hY X.ID)) (vr.mono z.2 λ_ _ e=>e)|some kp=>obtain⟨v',adD⟩:=pr.at iZ;obtain⟨w,hw,lA⟩:=hl.2 adD;exact KL.item O G SA U X cD y.1 ea R0 (val:=kp.2) iZ (pr.len▸hlen) hx rl hw lA hf
end
theorem R2(h:DW it=false) x ag:NA it ag x=pure x:=by cases it with|Set=>exact bZ h.symm|_=>rfl
theorem adE(e:IS sc it=true):sc.kind=.function/\(∀x∈sc.names,x.2≠.cell)/\(∀x∈sc.names,x.2=.local->sc.names.lookup x.1=some .local)/\∀(x:aa)(ag:Env),NA it ag x=pure x:=by have e1:=eA.mp e;have e2:=eA.mp e1.1;have e3:=λx hx=>eA.mp (jV.mp e2.2 x hx);exact⟨eq_of_beq e2.1,λx hx=>bne_iff_ne.mp (e3 x hx).1,λx hx hl=>((Df _ _).mp (e3 x hx).2).elim (λq=>absurd hl (bne_iff_ne.mp q)) λq=>eq_of_beq q,R2 (Dd _|>.mp e1.2)⟩
theorem a8.grow(T:a8 bF gQ fa h al)(hD:bF.get? D=none):a8 bF gQ fa h (al++[D]):=by obtain⟨t1,t2,nw,e,hn⟩:=T;exact⟨t1,t2,nw++[D],by rw[e,cS],λa m=>(cV.mp m).elim (hn a) λm=>bM.mp m▸hD⟩
section
variable{rest fs:Fs}
theorem SR.R3(R:SR c h al u ((C,v)::fs))(hs:mZ C h h'):SR c h' al u fs/\dT h h':=by have R4:=jg.mp ((wx.nodup_iff).mp R.nd);exact R.drop.but (W:=[C]) (λw m=>bM.mp m▸.of ⟨λq=>R4.1 (eG _ q),λq=>R4.1 (gi _ q),R.off _ (gi _ (.head _))⟩ (R.fr _ (.head _)).look) (dG.one (.head _) hs)
end
structure tq(c:aR):Prop where obj:∃(nm q:Str)(N:aj)(bs bm:List aa)(JL:Bool)(sn:List Str)(sub:List aa)(ab:Bool)(col:Option Bool)(dd:Option aj)(k0 k1 k2 k3 k5:Option aa)(newId:String),c.B.get? c.cx=some (Hf nm q c.cx N bs bm JL sn sub ab col dd k0 k1 k2 k3 k5 newId)/\bm.contains (.type "BaseException")=true
section
variable{outer:List Env}{rest fs:Fs}
theorem R5(e:ib v w=true):v=some (.st w):=by cases v with|none=>exact bZ e|some v=>cases v with|st aG=>exact congrArg (some∘V.st) (eq_of_beq (show(aG==w)=true from e))|_=>exact bZ e
theorem adF(G:fg c S)(X:tq c){x:Str}(hx:xh S Y x=true){p:Pos}(R:dm c ag al Y L)(Kk:SR c s.heap al u ((L,Y.vars)::rest)){i d:Nat}{a:aj}(ea:al[i]?=some a)(ed:u[i]?=some (.exc d)){R':sH->aF->Prop}{pos:Pos}(h:R' (.ok .brk) s):je c.M A (.handlers (.ref a) [.ExceptHandler (some (.Name x p)) none [] pos] ag) R' s:=by
 have h1:=eA.mp hx;have h2:=eA.mp h1.1;have hl:eI S Y u x=some (.st (.ref S.cx)):=by unfold eI;rw[eq_of_beq h2.2];exact R5 h1.2
 refine codeAny_handlers_test (JJ G h2.1 hl R Kk λq k=>?_);cases k;obtain⟨nm,q,N,bs,bm,JL,sn,sub,ab,col,dd,k0,k1,k2,k3,k5,newId,Ej,z8⟩:=X.obj;obtain⟨oe,dx,vs,j7,he,hc,q_,fh,hz,_⟩:=Kk.exc ea ed;rw[G.cx];obtain⟨hp,g,dr,tk,os⟩:=s;exact wpAny_excMatches_sub_self (Kk.base _ _ Ej) he hc z8 h
theorem Cx.mark(C:Cx c n hd A al fs)(ea:al[i]?=some a):Cx c n (some i) (A.mark (some (.ref a))) al fs:=⟨C.depth,C.units,⟨a,rfl,ea⟩,C.frames,C.tab,C.guards⟩
theorem Bx.mark(B:Bx A ag outer L rest):Bx (A.mark v) ag outer L rest:=⟨B.frames,B.frame,B.kind,B.outer⟩
end
section
variable{rest fs:Fs}
theorem adG(hk:ag.kindOf nm=some .local)(xC:ag.scope.kind=.function)(hl:ag.locals=L)(R:SR c s.heap al u ((L,v)::rest)){Q:Unit->aF->Prop}(hQ:∀s',SR c s'.heap al u ((L,[])::rest)->a8 s.heap al (L::rest.map (·.1)) s'.heap al->cW s s'->(∀b,b≠L->s'.heap.get? b=s.heap.get? b)->Q () s'):av c.M A (do sy ag nm .none;Ci ag nm pos) Q E s:=by obtain⟨m,hm,_⟩:=R.fr _ (.head _);refine wpAny_nameGoes hk (hl▸hm) (xC▸rfl) λh' m' hn hs=>?_;rw[hl]at hn hs;have T:=R.frame (vars':=[]) hs ⟨m',hn,λx v q=>aE q⟩;exact hQ _ T.1 T.2 ⟨rfl,rfl,rfl⟩ λb hb=>hs.2 b hb
end
structure tw(c:aR):Prop where b:∃mg bm ob,c.B.Ns fK mg/\mg "__builtins__"=some (.ref bm)/\bm≠hV/\c.B.get? bm=some ob/\ob.cls=.type "module"/\ob.dict=some hV/\ob.data=.plain
section
variable{h bF h':a_}
theorem tw.at(T:tw c){P:aj}(hP:c.B.get? P=none)(k:∀b o,c.B.get? b=some o->h.get? b=some o):∃mg,h.Ns fK mg/\fK≠P/\h.BuiltinsAt mg P:=by
 obtain⟨mg,bm,ob,hg,b1,b2,b3,b4,b5,b6⟩:=T.b;obtain⟨o,es,ep,e,hd,_⟩:=id hg;have Ek:fK≠P:=λq=>aE (hP.symm.trans (q▸e));have adH:bm≠P:=λq=>aE (hP.symm.trans (q▸b3));have adI:bm≠mainGlobals:=λq=>by have z:ob=o:=aJ (b3.symm.trans (q▸e));exact nomatch b6.symm.trans ((congrArg Obj.data z).trans hd)
 exact⟨mg,hg.keeps k,Ek,bm,ob,b1,b2,adI,adH,k _ _ b3,b4,b5,b6⟩
theorem adJ{pos:Pos}(ht:kI ps.toList)(kt:∀pos:Pos,TabAt h ps pos (cs.lookup (pos.line,pos.col)))(hn:cs.lookup (pos.line,pos.col)=none)(fx:dT h h')(hP:h'.get? P=some (wV (ps++#[gG pos.line,gG pos.col,.ref c'])))(hc:h'.CodeRec (.ref c') q):eB c h' al P (.tab (cs++[((pos.line,pos.col),q)])):=by have hl:(ps++#[gG pos.line,gG pos.col,.ref c']).toList=ps.toList++[gG pos.line,gG pos.col,.ref c']:=HS;refine⟨_,hP,by rw[hl];exact ht.app (.cons _ _ _ _ _ _ .nil),λpos'=>?_⟩;have k:=kt pos';have e1:pF pos' (ps++#[gG pos.line,gG pos.col,.ref c']).toList=(pF pos' ps.toList).or (if((pos.line:Int)==pos'.line&&(pos.col:Int)==pos'.col)=true then some (.ref c')else none):=(congrArg _ hl).trans (ht.among pos');rw[N8];cases hx:cs.lookup (pos'.line,pos'.col)with|some q'=>rw[hx]at k;obtain⟨R6,e,r⟩:=k;exact⟨R6,e1.trans (by rw[e];rfl),fx.code r⟩|none=>rw[hx]at k;replace k:pF pos' ps.toList=none:=k;rw[k,HW]at e1;rw[HW,fL];cases hq:(pos'.line,pos'.col)==(pos.line,pos.col)with|true=>have z:=jW (eq_of_beq hq);exact⟨c',e1.trans (if_pos (by rw[z.1,z.2,beq_self_eq_true,beq_self_eq_true];rfl)),hc⟩|false=>exact e1.trans (if_neg λz=>beq_eq_false_iff_ne.mp hq (by have z:=eA.mp z;rw[lg (eq_of_beq z.1),lg (eq_of_beq z.2)]))
theorem El(gP:SR c az al aD fs)(iY:a8 s.heap al (fs.map (·.1)) az al)(ho:o={cls:=.type "function",data:=.func fd})(f1:fd.params=ps)(f2:fd.body=body)(f3:fd.scope=sc)(kN:dv al cl fd.closure)(f5:fd.globals=fK)(f6:fd.builtins=hV)(f7:fd.defaults=.none)(f8:fd.kwdefaults=.none)(f9:az.CodeRec fd.code fd.qualname):PQ c s al fs RV (.ok (.ref aD.length)) (aD++[.jE ps body sc cl]) (.ref az.objs.size) {s with heap:=az.push o,toks:=tk}:=by have R7:=gP.push (o:=o) (mo:=.jE ps body sc cl) (ho▸rfl) ⟨o,fd,gj _ (ho▸rfl),ho▸rfl,ho▸rfl,f1,f2,f3,kN.mono kJ,f5,f6,f7,f8,f9.keeps xA⟩;exact⟨_,R7.1,iY.trans R7.2,⟨rfl,rfl,rfl⟩,.ref (gP.len▸lX)⟩
theorem adK(TB:tw c){q:Str}{pos:Pos}{ps:iz}{body:sv}{sc:cz}{r:Rs V}{cl:List (Str×Nat)}{cs:List ((Nat×Nat)×Str)}{cd P:aj}{JM:List (Str×aj)}(e:IT u (ag.qual++q) pos ps body sc cl cs=some (r,aM))(R:dm c ag al Y L)(Kk:SR c s.heap al u fs)(Em:u[0]?=some (.tab cs))(Al:al[0]?=some P)(kN:dv al cl JM)(tx:Cz sc ag=pure JM)(xD:ag.code=.ref cd)(Am:zG c.B cd P){firstLine:Nat}:av c.M A (Hb q (ag.qual++q) ps body sc ag [] [] [] pos firstLine) (PQ c s al fs RV r aM) (PE c s al fs r aM) s:=by obtain⟨adL,Eo,ht,kt⟩:=Kk.obj 0 _ P Em Al;have mP:=ez Al;obtain⟨mg,hg,Ek,hb⟩:=TB.at (Kk.off P (eG _ mP)) Kk.base;have CH:=Am.keeps Kk.base;have k:=kt pos;unfold IT at e;cases lA:cs.lookup (pos.line,pos.col)with
 |some q'=>rw[lA]at e k;obtain⟨R8,e⟩:=cI e;have e:=jW (aJ e);obtain⟨R6,R9,pX⟩:=k;cases body with|stmts b=>exact makeFunction_hit (mg:=mg) tx R.gl hg xD CH Eo ht.ok R9 hb λJN doc h' tk kp dN=>e.1▸e.2▸El (Kk.keep kp) (.of_keep kp ..) rfl rfl rfl rfl kN rfl rfl rfl rfl (R8▸pX.keeps kp)|expr b=>exact kla_makeFunctionHit (mg:=mg) tx R.gl hg xD CH Eo ht.ok R9 hb λJN h' tk kp dN=>e.1▸e.2▸El (Kk.keep kp) (.of_keep kp ..) rfl rfl rfl rfl kN rfl rfl rfl rfl (R8▸pX.keeps kp)
 |none=>rw[lA]at e k;have e:=jW (aJ e);have step:∀{h':a_}{c':aj},C4 P s.heap h'->h'.CodeRec (.ref c') (ag.qual++q)->h'.get? P=some (wV (adL++#[gG pos.line,gG pos.col,.ref c']))->SR c h' al (u.set 0 (.tab (cs++[((pos.line,pos.col),ag.qual++q)]))) fs/\a8 s.heap al (fs.map (·.1)) h' al:=λhx pX An=>Kk.set Em Al (λb o eb ne=>hx b o ne eb) (adJ ht kt lA (λb o eb f=>hx b o (λq=>(Kk.kH eb f).1 (q▸mP)) eb) An pX);cases body with|stmts b=>exact makeFunction_K (mg:=mg) tx R.gl hg xD CH Eo ht.ok k Ek hb λc' JN doc h' tk hx adM dz pX An=>have y:=step hx pX An;e.1▸e.2▸El y.1 y.2 rfl rfl rfl rfl kN rfl rfl rfl rfl pX|expr b=>exact kla_makeFunction (mg:=mg) tx R.gl hg xD CH Eo ht.ok k Ek hb λc' JN h' tk hx adM dz pX An=>have y:=step hx pX An;e.1▸e.2▸El y.1 y.2 rfl rfl rfl rfl kN rfl rfl rfl rfl pX
theorem adN{m:MO}{r:β}(e:m.Qk f none=some r):∃cs,m=.tab cs/\f cs=some r:=by cases m with|tab cs=>exact⟨cs,rfl,e⟩|_=>exact aE e
theorem adO(TB:tw c){q:Str}{pos:Pos}{ps:iz}{body:sv}{sc:cz}{r:Rs V}(e:qY Y u q pos ps body sc=some (r,aM))(C:Cx c n hd A al fs)(R:dm c ag al Y L)(Kk:SR c s.heap al u fs){firstLine:Nat}:av c.M A (Hb q (ag.qual++q) ps body sc ag [] [] [] pos firstLine) (PQ c s al fs RV r aM) (PE c s al fs r aM) s:=by obtain⟨-,e⟩:=cI e;obtain⟨pre,adP,e⟩:=bH e;obtain⟨m,Em,e⟩:=bH e;obtain⟨cs,rfl,e⟩:=adN e;obtain⟨cl,rj,e⟩:=bH e;obtain⟨JM,kN,tx⟩:=RQ rj R;obtain⟨hq,cd,P,xD,Al,Am⟩:=R.nest pre adP;exact adK TB (hq▸e) R Kk Em Al kN tx xD Am
theorem adQ l:(∀x∈l,x.annotation=none)->annotationsOf l ag=[]:=by induction l with|nil=>exactλ_=>rfl|cons x l ih=>intro hx;have h1:=hx x (.head _);obtain⟨xa,xn,xt⟩:=x;cases h1;exact ih λy hy=>hx y (.tail _ hy)
theorem R_(h:qX ps=true):ps.defaults=[]/\ps.kw_defaults=[]/\annTrees ps none ag=[]/\defaultsOf ps ag=([],[]):=by have p7:=jV.mp (eA.mp h).2;rw[QU h];refine⟨rfl,rfl,?_,rfl⟩;show annotationsOf (ps.args++[]++[]++[]++[]) ag++[]=[];rw[cG,cG,cG,cG,cG];exact adQ _ λx hx=>uB.mp (p7 x hx)
end
theorem Sa:Slot "wrapper_descriptor" "__get__" "wrapper_descriptor.__get__":=.of (owner:="wrapper_descriptor") (n:="__get__") (by rw[wa,v8];kernel_rfl) (by decide+kernel) (by decide+kernel) (by decide+kernel) (by first|exact .inl (by decide+kernel)|exact .inr (by decide+kernel)) (by rw[wb];kernel_rfl)
theorem adR:CL table "wrapper_descriptor.__get__"=some Builtin.«wrapper_descriptor.__get__»:=NJ ak
theorem adS a b c:sI "wrapper_descriptor.__get__" ⟨[a,b,c],[]⟩:=by unfold sI;kernel_rfl
theorem Se:zb (.builtin "Exception.__init__")=pure (.type "wrapper_descriptor"):=ak
theorem adT:classOwn (.type "Exception") "__init__"=pure (some (.builtin "Exception.__init__")):=ak
noncomputable abbrev gJ(C:aj)(od:Option aj)(vs:Array aa):Obj:={cls:=.ref C,dict:=od,data:=.fields vs}
noncomputable abbrev rm(x:aj):Obj:={cls:=.type "method-wrapper",data:=.fields #[.builtin "Exception.__init__",.ref x]}
abbrev JO(C x:aj):Obj:={cls:=.type "super",data:=.fields #[.ref C,.ref x,.ref C]}
section
variable{os:sE}
variable{D:ri}{vs:Array aa}
theorem adU C:(jD C::rh).contains (.type "Exception")=true:=ak
theorem Sf(hC:h.get? C=some (D.obj C)){Q:Bool->aF->Prop}(hq:Q true ⟨h,g,d,t,os⟩):av M A (Ho (.ref C) (.type "Exception")) Q E ⟨h,g,d,t,os⟩:=Cj hC ((adU C).symm▸hq)
theorem Sg(hC:h.get? C=some (D.obj C)){Q:List aa->aF->Prop}(hq:Q (.ref C::rh) ⟨h,g,d,t,os⟩):av M A (mroOf (.ref C)) Q E ⟨h,g,d,t,os⟩:=wpAny_mroOf_exc hC hq
theorem adV C:((jD C::rh).dropWhile (· !=.ref C)).drop 1=rh:=by simp[List.dropWhile]
theorem adW:(".".intercalate ("Exception.__init__".cutAt '.').dropLast)="Exception":=by decide+kernel
theorem adX(h:x≠C):(if(jD x==jD C)=true then l7 else .ref x)=.ref x:=if_neg (by simp[h])
theorem adY(hC:h.get? C=some (D.obj C))(hx:h.get? x=some (gJ C od vs)){Q:aa->aF->Prop}(hq:Q (.ref h.objs.size) ⟨h.push (rm x),g,d,t,os⟩):av (cv prog w) A (call (.builtin "wrapper_descriptor.__get__") [.builtin "Exception.__init__",.ref x,.ref C]) Q E ⟨h,g,d,t,os⟩:=by
 refine sj Sa Se adR ?_ (adS _ _ _);repeat(first|(with_reducible refine ow hx ?_)|(with_reducible refine Sf hC ?_)|(with_reducible refine⟨_,rfl,?_⟩)|wp_step)
 rw[adW];refine Sf hC ?_;repeat(first|(with_reducible refine⟨_,rfl,?_⟩)|wp_step)
 all_goals exact hq
theorem adZ(hC:h.get? C=some (D.obj C))(gr:h.get? so=some (JO C x))(xE:jZ (cv prog w) h (G5 (.ref C)) none)(hx:h.get? x=some (gJ C od vs))(JP:x≠C)(hq:Q (.done (.ret (.ref h.objs.size))) ⟨h.push (rm x),g,d,t,os⟩):av (cv prog w) A (Builtin.«super.__getattribute__» ⟨[.ref so,.str "__init__" tk],[]⟩) Q E ⟨h,g,d,t,os⟩:=by
 have f0:(#[.ref C,.ref x,.ref C]:Array aa)[0]?=some (.ref C):=rfl;have f1:(#[.ref C,.ref x,.ref C]:Array aa)[1]?=some (.ref x):=rfl;have f2:(#[.ref C,.ref x,.ref C]:Array aa)[2]?=some (.ref C):=rfl;unfold Builtin.«super.__getattribute__»;repeat(first|(with_reducible refine pE gr rfl f0 ?_)|(with_reducible refine pE gr rfl f1 ?_)|(with_reducible refine pE gr rfl f2 ?_)|(with_reducible refine ks_wpAny_notOpaque xE ?_)|(with_reducible refine Cn ak ?_)|(with_reducible refine Sg hC ?_;rw[adV])|(rw[zk,adT])|(with_reducible refine oy Se ?_)|(with_reducible refine oy Sa.lookup ?_)|(rw[adX JP];with_reducible refine adY hC hx ?_)|wp_step|dsimp only)
 all_goals exact hq
theorem ad0(hC:h.get? C=some (D.obj C))(gr:h.get? so=some (JO C x))(xE:jZ (cv prog w) h (G5 (.ref C)) none)(hx:h.get? x=some (gJ C od vs))(JP:x≠C)(hq:Q (.ref h.objs.size,[]) ⟨h.push (rm x),g,d,t+1,os⟩):av (cv prog w) A (CG (.ref so) "__init__" pl) Q E ⟨h,g,d,t,os⟩:=by have lA:=H2.lookup;have hT:∀t',(⟨h,g,d,t',os⟩:aF).TypeIs (.ref so) "super":=λ_=>⟨_,gr,rfl⟩;unfold CG;refine aw (yR (hT _) lA ?_);show av _ _ (if(Manifest.canonical "super.__getattribute__"!="object.__getattribute__")=true then _ else _) _ _ _;rw[if_pos F.ks_canon_super_ga];unfold wm getAttrBy;refine aw (aw (wpAny_mkText (fT (aw (yY (hT _) (aw (oy lA ?_)))))));show av _ _ (NL (.ref so) (.str "__init__" t) (.type "super") (.builtin "super.__getattribute__") true false) _ _ _;unfold NL hookBefore callGetattribute boundAndCalled;refine aw (oy (show(if Hn (.type "super")then jz (.type "super") "__getattr__"else pure none)=pure none from rfl) ?_);refine aw (yX (fT ?_));show av _ _ (bindSpecial (.builtin "super.__getattribute__") (.ref so)>>=_) _ _ _;refine aw (oy (H2.bind _) ?_);exact b_ (Q:=λv s'=>v=.ref h.objs.size/\s'=⟨h.push (rm x),g,d,t+1,os⟩) (E:=λ_ _=>False) (sj H2 (hT _) F.ks_entry_super_ga (adZ hC gr xE hx JP ⟨_,rfl,rfl,rfl⟩) (F.ks_gaArgs_super _ _)) (λv s' hv=>hv.1▸hv.2▸aP (aP hq)) λ_ _ z=>z.elim
theorem ad1(hC:h.get? C=some (D.obj C))(hx:h.get? x=some (gJ C od vs)){Q:Unit->aF->Prop}(hq:Q () ⟨h,g,d,t,os⟩):av M A (G9 "Exception.__init__" ⟨.ref x::args,[]⟩) Q E ⟨h,g,d,t,os⟩:=by
 have F:=HZ;delta G9;rw[F.initRow,F.initKind];dsimp only;repeat(first|(with_reducible refine ow hx ?_)|(with_reducible refine ow hC ?_)|wp_step)
 refine wpAny_onRaise ?_;rw[show∀(a b:String)(n:Nat),Bind.check ⟨.positional,"*","Exception",.self,[⟨"args",.varPos,false⟩]⟩ a b n (zp (λx=>x.fst) ({pos:=.ref x::args}:Args).kw)=pure ()fromλa b n=>check_star_args _ _ _ _ _ _];exact aP hq
theorem ad2(h:vs[0]?=some (.ref a)):0<vs.size:=(Dh.mp h).1
theorem ad3(hx:h.get? x=some (gJ C none vs)){a:aj}(h0:vs[0]?=some (.ref a))(hl:args.length<=bk){R:sH->aF->Prop}(hq:∀h' fV,h'.get? x=some (gJ C none fV)->fV.size=vs.size->fV[1]?=vs[1]?->(∀y o,y≠x->h.get? y=some o->h'.get? y=some o)->R (.ok (.ret .none)) ⟨h',g,d,t,os⟩):je (cv prog w) A (.builtin "Exception.__init__" ⟨.ref x::args,[]⟩) R ⟨h,g,d,t,os⟩:=by refine uo HZ.initEntry ?_;unfold Builtin.«BaseException.__init__»;have Ep:=d6 {cls:=.type "tuple",data:=.seq args.toArray} hx;wp_walk;rw[h0];refine aP ?_;show av _ _ (setField (.ref x) 0 (.ref h.objs.size)>>=λ_=>letGo [.ref a]) _ _ _;refine aw (Ck Ep (ad2 h0) λh1 e1 s1=>?_);wp_walk;exact hq _ _ e1 (HQ ..) (OI (show 0≠1 by decide)) λy o ne e=>(s1.2 y ne).trans (d6 _ e)
theorem ad4(hC:h.get? C=some (D.obj C))(hm:h.get? m=some (rm x))(hx:h.get? x=some (gJ C none vs)){a:aj}(h0:vs[0]?=some (.ref a))(hl:args.length<=bk)(hq:∀h' fV,h'.get? x=some (gJ C none fV)->fV.size=vs.size->fV[1]?=vs[1]?->(∀y o,y≠x->h.get? y=some o->h'.get? y=some o)->Q .none ⟨h',g,d,t,os⟩):av (cv prog w) A (call (.ref m) args) Q E ⟨h,g,d,t,os⟩:=by refine we (G8 ?_);show av _ A.in1 (callAny (.ref m) ⟨args,[]⟩) _ _ _;unfold callAny;refine aw (sm hm ?_);show av _ _ (G9 "Exception.__init__" ⟨.ref x::args,[]⟩>>=λ_=>again _) _ _ _;exact aw (ad1 hC hx (aP ⟨Pu _ (by decide+kernel),ad3 hx h0 hl hq⟩))
structure uY(prog:kD)(w:d5)(h h':a_)(x C dx:aj)(od:Option aj)(vs:Array aa)(kvs:List (Str×aa)):Prop where
 fresh:od=some dx\/od=none/\h.get? dx=none
 obj:h'.get? x=some (gJ C (some dx) vs)ne:dx≠x
 dict:h'.DictOf (dQ prog w) dx kvs
 keep:∀b ob,b≠x->b≠dx->h.get? b=some ob->h'.get? b=some ob
def Ao(prog:kD)(w:d5)(h:a_)(x:aj)(od:Option aj)(kvs:List (Str×aa)):Prop:=(od=none/\kvs=[])\/∃dx,od=some dx/\dx≠x/\h.DictOf (dQ prog w) dx kvs
theorem ad5(X:uY prog w h bF x C dx od vs kvs)(dN:kvs.length<bk)(hq:∀h' gq,uY prog w h h' x C dx od vs (stored kvs name v)->Q (.done (.ret .none)) ⟨h',g,d,gq,os⟩):av (cv prog w) A (O_ dx (.str name tk) name v) Q E ⟨bF,g,d,t,os⟩:=by unfold O_ ZD;refine aw (aP (aw (Ru (s:=⟨bF,g,d,t,os⟩) X.dict λh' jo eD=>?_)));obtain⟨o',es',xx,Ab,I5,hd2,dX,uW,fB⟩:=id jo;refine aw (NG Ab (hd2▸NH (eY▸uW.length▸pz (ax (NI kvs name v) dN))) ?_);exact aP (hq h' _ ⟨X.fresh,(eD.2 x X.ne.symm).trans X.obj,X.ne,jo,λb ob b1 b2 e=>(eD.2 b b2).trans (X.keep b ob b1 b2 e)⟩)
theorem ad6(hC:h.get? C=some (D.obj C))(hx:h.get? x=some (gJ C od vs))(hd:Ao prog w h x od kvs)(hq:∀h' dx,uY prog w h h' x C dx od vs kvs->Q (some dx) ⟨h',g,d,t,os⟩):av (cv prog w) A (Ct x true) Q E ⟨h,g,d,t,os⟩:=by
 unfold Ct;refine aw (ow hx ?_);show av _ _ (CF C>>=_) _ _ _;unfold CF;refine aw (aw (sm hC (aP ?_)));rcases hd with⟨Sh,e⟩|⟨dx,j9,gu,ic⟩;.have jn:x≠h.objs.size:=gh (eW hx);have Ep:=d6 {cls:=.type "dict",data:=.dict #[]} hx;rw[Sh];refine aw (wpAny_alloc' (aw (wpAny_update' Ep (aP (hq _ _ ⟨.inr ⟨Sh,zq (br _)⟩,pI _ Ep rfl,jn.symm,?_,λb ob b1 b2 e=>(Ox _ _ _ _ b1).trans (d6 _ e)⟩)))));rw[e];exact⟨_,#[],0,(Ox _ _ _ _ jn.symm).trans (Oy rfl rfl),⟨rfl,rfl,rfl⟩,rfl,λ_ he=>absurd he (HR _),.nil,wy⟩
 .rw[j9];exact aP (hq _ _ ⟨.inl j9,j9▸hx,gu,ic,λb ob _ _ e=>e⟩)
theorem ad7(hC:h.get? C=some (D.obj C))(hx:h.get? x=some (gJ C od vs)){Q:Unit->aF->Prop}(hq:Q () ⟨h,g,d,t,os⟩):av (cv prog w) A (O8 (.ref x) "__setattr__") Q E ⟨h,g,d,t,os⟩:=by rw[refuse_eq];refine aw (aw (ow hx (aP (aw (Sg hC ?_)))));rw[refuseLoop_ref,H0.passes];exact aP hq
theorem ad8(hC:h.get? C=some (D.obj C))(hn:h.Ns D.N D.mN)(md:D.mN name=none)(hB:jz (.type "Exception") name=pure none)(hx:h.get? x=some (gJ C od vs))(hd:Ao prog w h x od kvs)(dN:kvs.length<bk)(hq:∀h' gq dx,uY prog w h h' x C dx od vs (stored kvs name v)->Q (.done (.ret .none)) ⟨h',g,d,gq,os⟩):av (cv prog w) A (Builtin.«object.__setattr__» ⟨[.ref x,.str name tk,v],[]⟩) Q E ⟨h,g,d,t,os⟩:=by show av _ _ (O8 (.ref x) "__setattr__">>=_) _ _ _;refine aw (ad7 hC hx (aw (aP (aw (aw (ow hx (aP (aw (D8 hC hn md hB (aw (aP ?_)))))))))));show av _ _ (O9 (.ref x) (.ref C) (.str name tk) name v false) _ _ _;unfold O9;refine aw (oy (show ownStreamTells (.ref x) (.ref C)=pure ()from rfl) (Cn ak ?_));exact aw (ad6 hC hx hd λh' dx X=>ad5 X dN λh' gq X=>hq h' gq dx X)
theorem ad9(SF:StoreFacts "Exception" rh sa owner){name:Str}{v:aa}{tk:Tok}{kvs:List (Str×aa)}{R:sH->aF->Prop}(hC:h.get? C=some (D.obj C))(hn:h.Ns D.N D.mN)(md:D.mN name=none)(hB:jz (.type "Exception") name=pure none)(hx:h.get? x=some (gJ C od vs))(hd:Ao prog w h x od kvs)(dN:kvs.length<bk)(hq:∀h' gq dx,uY prog w h h' x C dx od vs (stored kvs name v)->R (.ok (.ret .none)) ⟨h',g,d,gq,os⟩):je (cv prog w) A (.call (.builtin sa) ⟨[.ref x,.str name tk,v],[]⟩) R ⟨h,g,d,t,os⟩:=GZ SF.slot.plain SF.entry (wpAny_check_sa SF hC hx rfl (ad8 hC hn md hB hx hd dN hq))
theorem ad_(ad':D.mN "__setattr__"=none)(hC:h.get? C=some (D.obj C))(hn:h.Ns D.N D.mN)(md:D.mN name=none)(hB:jz (.type "Exception") name=pure none)(hx:h.get? x=some (gJ C od vs))(hd:Ao prog w h x od kvs)(dN:kvs.length<bk)(hq:∀h' gq dx,uY prog w h h' x C dx od vs (stored kvs name v)->Q () ⟨h',g,d,gq,os⟩):av (cv prog w) A (CM (.ref x) name v) Q E ⟨h,g,d,t,os⟩:=by
 have SF:=H0;have f3:=SF.slot.bind (.ref x);unfold CM callSpecial? specialOf;repeat(any_goals(first|assumption|(with_reducible refine ow hx ?_)|(with_reducible refine Ni hC hn SF.mro SF.slot.lookup ?_;rw[ad'])|wp_step))
 refine ad9 SF hC hn md hB hx hd dN (λh' gq dx X=>?_);repeat(any_goals(first|assumption|wp_step))
 exact hq h' gq dx X
end
noncomputable abbrev Er(p:Nat->Pos):Stmt:=.Expr (.Call (.Attribute (.Call (.Name "super" (p 1)) [] [] (p 2)) "__init__" (p 3)) [.Name "code" (p 4)] [] (p 5)) (p 6)
noncomputable abbrev uZ(p:Nat->Pos)(a:Str)(i:Nat):Stmt:=.Assign [.Attribute (.Name "self" (p i)) a (p (i+1))] (.Name a (p (i+2))) (p (i+3))
structure Es where
 oF:Obj
 ca:aj
 ar:Arg
 cc:aj
 oc:Obj
 fv:Array aa
 fl:Str
 tf:Tok
 mg:Str->Option aa
 mb:Str->Option aa
 pp:Nat->Pos
structure oO(c:aR)(D:ri)(F:Es)(fI:aj)(fd:pG):Prop where
 hC:c.B.get? c.cx=some (D.obj c.cx)hN:c.B.Ns D.N D.mN
 s8:D.mN "__init__"=some (.ref fI)sa:D.mN "__setattr__"=none
 Si:D.mN "code"=none
 Sj:D.mN "told"=none
 Et:jZ c.M c.B (G5 (.ref c.cx)) none
 Sl:jz (.type "Exception") "code"=pure none
 Sm:jz (.type "Exception") "told"=pure none
 hF:c.B.get? fI=some F.oF
 Sn:F.oF.cls=.type "function"JQ:F.oF.data=.func fd
 So:c.B.CodeRec fd.code fd.qualname
 b1:∀(s:aF)(x v:aa),(∀b o,c.B.get? b=some o->s.heap.get? b=some o)->∃tk,CO s fd ⟨[x,v],[]⟩ [("self",x),("code",v),("told",.str "" tk)]b2:∀(s:aF)(x v w:aa),(∀b o,c.B.get? b=some o->s.heap.get? b=some o)->CO s fd ⟨[x,v,w],[]⟩ [("self",x),("code",v),("told",w)]Sp:∀x∈fd.scope.names,x.2≠.cell
 self:fd.scope.names.lookup ("self":Str)=some .local
 code:fd.scope.names.lookup ("code":Str)=some .local
 aB:fd.scope.names.lookup ("told":Str)=some .local
 sup:fd.scope.names.lookup ("super":Str)=some .globalImplicit
 cl:fd.scope.names.lookup ("__class__":Str)=some .free
 co:fd.scope.isCoroutine=false
 gen:fd.scope.isGenerator=false
 kind:fd.scope.kind=.function
 gl:fd.globals=fK
 bi:fd.builtins=hV
 jE:fd.closure.lookup ("__class__":Str)=some F.ca
 cell:c.B.IsCell F.ca (some (.ref c.cx))head:(fd.params.posonlyargs++fd.params.args).head?=some F.ar
 arg:F.ar.arg="self"Sq:fd.code=.ref F.cc
 Ss:c.B.get? F.cc=some F.oc
 Su:F.oc.data=.fields F.fv
 Sv:F.fv[2]?=some (.str F.fl F.tf)file:((c.prog.main.file:Str)==F.fl)=true
 top:(c.prog.main.scope.names.lookup ("super":Str)).isSome=false
 Sx:c.B.Ns fK F.mg
 Sy:c.B.Ns hV F.mb
 Sz:F.mg "super"=none
 SD:F.mb "super"=some (.type "super")body:fd.body=.stmts [Er F.pp,uZ F.pp "code" 7,uZ F.pp "told" 11]line:((F.pp 3).endLine==(F.pp 5).line)=true
def oP(x:aj)(h h':a_):Prop:=∀b o,h.get? b=some o->b≠x->h'.get? b=some o
noncomputable abbrev xL(x:aj)(v w:aa):List (Str×aa):=[("self",.ref x),("code",v),("told",w)]
structure XE(c:aR)(F:Es)(fd:pG)(fI:aj)(bF:a_)(x:aj)(v w:aa)(ag:Env):Prop where
 kind:ag.scope.kind=.function
 of:∀y,ag.kindOf y=fd.scope.names.lookup y
 gl:ag.globals=fK
 bi:ag.builtins=hV
 cl:ag.cells.lookup ("__class__":Str)=some F.ca
 fn:ag.func=some fI
 code:ag.code=.ref F.cc
 ns:∀h',oP x bF h'->h'.Ns ag.locals λy=>(xL x v w).reverse.lookup y
 kB:∀b o,c.B.get? b=some o->bF.get? b=some o
 Eu:c.B.get? x=none
section
variable{c:aR}{D:ri}{os:sE}
theorem XE.kb(e:XE c F fd fI bF x v w ag)(k:oP x bF az):∀b o,c.B.get? b=some o->az.get? b=some o:=λb o q=>k b o (e.kB b o q) λr=>aE (e.Eu.symm.trans (r▸q))
theorem XE.name(e:XE c F fd fI bF x v w ag){y:Str}{val:aa}{pos:Pos}(k:oP x bF az)(l:fd.scope.names.lookup y=some .local)(hv:(xL x v w).reverse.lookup y=some val)(hd:(y==("__debug__":Str))=false){Q:aa->aF->Prop}(q:Q val ⟨az,g,d,t,os⟩):av c.M A (eval (.Name y pos) ag) Q E ⟨az,g,d,t,os⟩:=CA (GY e.kind ((e.of _).trans l) (e.ns _ k) hv q) hd
theorem XE.put(e:XE c F fd fI bF x v w ag)(X:oO c D F fI fd){cd:Code}{a:Str}{val:aa}{i:Nat}{kvs:List (Str×aa)}{od:Option aj}{vs:Array aa}(k:oP x bF az)(la:fd.scope.names.lookup a=some .local)(hv:(xL x v w).reverse.lookup a=some val)(hd:(a==("__debug__":Str))=false)(na:D.mN a=none)(nB:jz (.type "Exception") a=pure none)(hx:az.get? x=some (gJ c.cx od vs))(hh:Ao c.prog c.w az x od kvs)(dN:kvs.length<bk){Q:lW->aF->Prop}(hq:∀h' gq dx,uY c.prog c.w az h' x c.cx dx od vs (stored kvs a val)->Q .next ⟨h',g,d,gq,os⟩):Cu c.M A cd (exec (uZ F.pp a i) ag) Q E ⟨az,g,d,t,os⟩:=ks_wpAt_Assign_Attr (Ha (e.name k la hv hd (e.name k X.self (val:=.ref x) rfl (by decide+kernel) (ad_ X.sa (e.kb k _ _ X.hC) (X.hN.keeps (e.kb k)) na nB hx hh dN hq))))
theorem XE.sup(e:XE c F fd fI bF x v w ag)(X:oO c D F fI fd){Q:aa->aF->Prop}(hq:Q (.type "super") ⟨bF,g,d,t,os⟩):av c.M A (y6 ag "super") Q E ⟨bF,g,d,t,os⟩:=by rw[loadName_read e.kind ((e.of _).trans X.sup)];exact Qy (mg:=F.mg) (mb:=F.mb) (e.gl▸X.Sx.keeps e.kB) (e.bi▸X.Sy.keeps e.kB) (.inr ⟨X.Sz,X.SD⟩) hq
theorem aea(hC:h.get? c.cx=some (D.obj c.cx)):jZ c.M h (Ho (.ref c.cx) (.ref c.cx)) true:=λA Q E s k hq=>by obtain⟨hh,g',d',t',pY⟩:=s;exact Cj (k _ _ hC) ((show(jD c.cx::rh).contains (.ref c.cx)=true from Hu.trans (Bool.or_eq_true_iff.mpr (.inl (beq_self_eq_true _)))).symm▸hq)
theorem XE.base(e:XE c F fd fI bF x v w ag)(X:oO c D F fI fd){vs:Array aa}(hx:bF.get? x=some (gJ c.cx none vs)){body:List bj}{p0 p1:Pos}{whole:Sem aa}{Q:aa->aF->Prop}(hq:∀az so,az.get? so=some (JO c.cx x)->(∀b o,bF.get? b=some o->az.get? b=some o)->Q (.ref so) ⟨az,g,d,t,os⟩):Cu c.M A (.func body ag) (G_ (.Call (.Name "super" p0) [] [] p1) "__init__" ag whole) Q E ⟨bF,g,d,t,os⟩:=have hC:=e.kB _ _ X.hC;ks_wpAt_super_base (f:=fI) (cc:=F.cc) ((e.of _).trans X.sup) ((e.of _).trans X.cl) (by decide+kernel) e.fn (e.kB _ _ X.hF) X.JQ X.head e.code (e.kB _ _ X.Ss) X.Su X.Sv X.file X.top (e.sup X ⟨rfl,Np e.kind ((e.of _).trans X.cl) e.cl (X.cell.keeps e.kB) (X.arg▸GY e.kind ((e.of _).trans X.self) (e.ns _ λ_ _ q _=>q) (v:=.ref x) rfl (ks_wpAny_isType_cls hC rfl ⟨rfl,ks_wpAny_call_super hC rfl hx rfl (λ_ e=>nomatch e) (aea hC) λaz gr ck=>hq az _ gr ck⟩))⟩)
theorem XE.call(e:XE c F fd fI bF x v w ag)(X:oO c D F fI fd){p4 p5:Pos}{vs:Array aa}{a:aj}(k:oP x bF az)(hx:az.get? x=some (gJ c.cx none vs))(h0:vs[0]?=some (.ref a)){Q:aa->aF->Prop}(hq:∀h' fV,h'.get? x=some (gJ c.cx none fV)->fV.size=vs.size->fV[1]?=vs[1]?->oP x az h'->Q .none ⟨h',g,d,t,os⟩):av c.M A (sx p5 (.ref az.objs.size) [] (jT p5 (iA [.Name "code" p4] ag)) (CK p5 (Cy [] ag))) Q E ⟨az.push (rm x),g,d,t,os⟩:=by
 have ia:∀b o,az.get? b=some o->(az.push (rm x)).get? b=some o:=λb o e=>d6 _ e;have hm:(az.push (rm x)).get? az.objs.size=some (rm x):=Oy rfl rfl;refine Js rfl ?_;show av c.M _ (spliced ((false,eval (.Name "code" p4) ag)::[])) _ _ _;unfold spliced;refine aw (e.name (λb o q ne=>ia b o (k b o q ne)) X.code rfl (by decide+kernel) ?_);refine aw (aP (aw (fT ?_)));unfold spliced;refine aP (aP ⟨⟨.machine,.inr (.inl rfl),λA Q E s k hq=>?_⟩,?_⟩);.unfold lV;exact aw (sm (k _ _ hm) (aP hq))
 exact ad4 (ia _ _ (e.kb k _ _ X.hC)) hm (ia _ _ hx) h0 (by simp[sk]) λh' fV a1 a2 a3 a4=>hq h' fV a1 a2 a3 λb o q ne=>a4 b o ne (ia b o q)
theorem XE.first(e:XE c F fd fI bF x v w ag)(X:oO c D F fI fd){vs:Array aa}{a:aj}(hx:bF.get? x=some (gJ c.cx none vs))(h0:vs[0]?=some (.ref a)){body:List bj}{Q:lW->aF->Prop}(hq:∀h' fV tk,h'.get? x=some (gJ c.cx none fV)->fV.size=vs.size->fV[1]?=vs[1]?->oP x bF h'->Q .next ⟨h',g,d,tk,os⟩):Cu c.M A (.func body ag) (exec (Er F.pp) ag) Q E ⟨bF,g,d,t,os⟩:=by refine ks_wpAt_Expr_any ?_ (by unfold interactive;rw[e.kind];rfl);rw[arm_eval_Call];refine PySem.wpAt_bind (e.base X hx λaz so gr ck=>Ha (aw (kC ?_)));have kx:oP x bF az:=λb o e _=>ck b o e;unfold methodCall;rw[show NQ ([Expr.Name "code" (F.pp 4)].length+([]:List wk).length) (jT (F.pp 5) (iA [.Name "code" (F.pp 4)] ag)) (CK (F.pp 5) (Cy [] ag))=true from rfl];refine aw (fT (ad0 (e.kb kx _ _ X.hC) gr (X.Et.keeps λb o q=>e.kb kx b o q) (ck _ _ hx) (λr=>aE (e.Eu.symm.trans (r▸X.hC))) ?_));refine aw (oy (show Cr true _ ag (F.pp 3) (F.pp 5)=pure (F.pp 5)by unfold Cr;simp[X.line]) ?_);exact e.call X kx (ck _ _ hx) h0 λh' fV a1 a2 a3 a4=>hq h' fV _ a1 a2 a3 λb o q ne=>a4 b o (ck b o q) ne
structure SE(c:aR)(h h':a_)(x dx:aj)(v w:aa)(vs:Array aa):Prop where
 keep:oP x h h'
 obj:h'.get? x=some (gJ c.cx (some dx) vs)size:vs.size=6
 no:vs[1]?=some .none
 fresh:h.get? dx=none
 ne:dx≠x
 dict:h'.DictOf (dQ c.prog c.w) dx [(("code":Str),v),("told",w)]
theorem SH(k:oP x h h')(ne:dx≠x)(e:h'.get? dx=none):h.get? dx=none:=by cases z:h.get? dx with|none=>rfl|some o=>exact aE (e.symm.trans (k _ _ z ne))
theorem aeb(e:XE c F fd fI bF x v w ag)(X:oO c D F fI fd){tt:aj}(hx:bF.get? x=some (gJ c.cx none #[.ref tt,.none,.none,.none,.bool false,.none])){body:List bj}{Q:lW->aF->Prop}(hq:∀h' tk dx vs,SE c bF h' x dx v w vs->Q .next ⟨h',g,d,tk,os⟩):Cu c.M A (.func body ag) (execs [Er F.pp,uZ F.pp "code" 7,uZ F.pp "told" 11] ag) Q E ⟨bF,g,d,t,os⟩:=by refine G1 (e.first X hx rfl λie vs tk a1 a2 a3 Ap=>?_);refine G1 (e.put X Ap X.code rfl (by decide+kernel) X.Si X.Sl a1 (.inl ⟨rfl,rfl⟩) (by simp[sk]) λer au0 dx S=>?_);have xF:ie.get? dx=none:=S.fresh.elim (λq=>aE q) λq=>q.2;have SI:oP x bF er:=λb o q ne=>S.keep b o ne (λr=>aE (xF.symm.trans (r▸Ap b o q ne))) (Ap b o q ne);refine G1 (e.put X SI X.aB rfl (by decide+kernel) X.Sj X.Sm S.obj (.inr ⟨dx,rfl,S.ne,S.dict⟩) (by simp[stored,sk]) λJI au1 dy T=>?_);have ed:dy=dx:=T.fresh.elim (λq=>(aJ q).symm) λq=>aE q.1.symm;exact Ha (yS (hq JI _ dy vs ⟨λb o q ne=>T.keep b o ne (λr=>aE (xF.symm.trans (ed▸r▸Ap b o q ne))) (SI b o q ne),T.obj,a2,a3,SH Ap T.ne (ed▸xF),T.ne,T.dict⟩))
theorem aec(O:dh c)(X:oO c D F fI fd)(kB:∀b o,c.B.get? b=some o->h.get? b=some o){tt:aj}{rest:List aa}(hx:h.get? x=some (gJ c.cx none #[.ref tt,.none,.none,.none,.bool false,.none]))(Eu:c.B.get? x=none){Q:aa->aF->Prop}(hb:CO ⟨h,g,d,t,os⟩ fd ⟨.ref x::rest,[]⟩ (xL x v w))(xG:A.depth<yU)(hq:∀h' tk dx vs,SE c h h' x dx v w vs->Q .none ⟨h',g,d,tk,os⟩):av c.M A (call (.ref fI) (.ref x::rest)) Q E ⟨h,g,d,t,os⟩:=by
 refine we (Nh xG (kB _ _ X.hF) X.JQ X.co X.gen X.body (X.So.keeps kB) (hb _ _ _ _ (Nk X.Sp (λy hy=>?_) (λbF aed SJ=>⟨(ZN O.nolimit kB).fresh _ SJ,ks_codeAny_funcAt ?_⟩) X.kind)));.exact(bX.mp hy).elim (λr=>r▸X.self) λhy=>(bX.mp hy).elim (λr=>r▸X.code) λhy=>bM.mp hy▸X.aB
 have k₀:∀b o,h.get? b=some o->bF.get? b=some o:=λb o e=>SJ.extBut b o (gh (eW e)) (d6 _ e);have e:XE c F fd fI bF x v w (callEnv fd h.objs.size fI):=⟨X.kind,λ_=>rfl,X.gl,X.bi,X.jE,rfl,X.Sq,λh' k=>by obtain⟨o',es',xx,a1,a2,a3⟩:=aed;exact⟨o',es',xx,k _ _ a1 (v5 (eW hx)),a2,a3⟩,λb o q=>k₀ b o (kB b o q),Eu⟩;exact aeb e X (k₀ _ _ hx) λh' tk dx vs y=>hq h' tk dx vs ⟨λb o q ne=>y.keep b o (k₀ b o q) ne,y.obj,y.size,y.no,SH (λb o q _=>k₀ b o q) y.ne y.fresh,y.ne,y.dict⟩
end
theorem SR.free(R:SR c h al u fs){D:aj}(e:h.get? D=none):D∉al/\D∉fs.map (·.1):=have k:D∉al++fs.map (·.1):=λm=>by obtain⟨o,eo⟩:=(R.lk m).there;exact aE (e.symm.trans eo)
 ⟨λq=>k (eG _ q),λq=>k (gi _ q)⟩
theorem Aq{h h':a_}(k:∀b o,h.get? b=some o->h'.get? b=some o)(e:h'.get? D=none):h.get? D=none:=by cases z:h.get? D with|none=>rfl|some o=>exact aE (e.symm.trans (k _ _ z))
theorem aee(R:SR c h al u fs){bl:a_}(k:∀b o,h.get? b=some o->bl.get? b=some o){dx x:aj}(j9:h.get? dx=none)(hx:h.get? x=none){v w:V}{p q:aa}{vs:Array aa}(kv:VR h al v p)(kw:VR h al w q)(jk:bl.get? x=some {cls:=.ref c.cx,dict:=some dx,data:=.fields vs})(uI:5<vs.size)(xF:vs[1]?=some .none)(aef:dx≠x)(SK:bl.DictOf (dQ c.prog c.w) dx [("code",p),("told",q)]):SR c bl (al++[dx]++[x]) (u++[.aV [("code",v),("told",w)]]++[.exc u.length]) fs/\a8 h al (fs.map (·.1)) bl (al++[dx]++[x])/\(al++[dx]++[x])[u.length+1]?=some x:=by
 have fx:dT h bl:=λa o e _=>k a o e;have f1:=R.free j9;have f3:=R.free hx;have d7:=(R.keep k).adopt (D:=dx) (mo:=.aV [("code",v),("told",w)]) f1.1 f1.2 (Aq R.base j9) (λo eo tb=>by obtain⟨o',es,ep,a1,a2,a3,_⟩:=SK;exact(iW.dict (b:=true) a3).tb (aJ (eo.symm.trans a1)▸tb)) ⟨_,SK,.cons (p:=(("code":Str),v)) (kv.mono fx kJ) (.cons (p:=(("told":Str),w)) (kw.mono fx kJ) .nil)⟩;have hlen:(al++[dx]).length=u.length+1:=by rw[aX,R.len];rfl
 have rf:=d7.adopt (D:=x) (mo:=.exc u.length) (λm=>(cV.mp m).elim f3.1 λm=>aef (bM.mp m).symm) f3.2 (Aq R.base hx) (λo eo tb=>by obtain⟨ts,L,b1,b2,_⟩:=(aJ (eo.symm.trans jk)▸tb:Tb _);exact nomatch xF.symm.trans ((congrArg (·[1]?) (zK b1)).trans b2)) ⟨_,dx,vs,by rw[ew (by rw[hlen];exact eR _),<-R.len];exact lX,jk,rfl,rfl,rfl,uI,.no xF⟩;exact⟨rf,((a8.of_keep k al _).grow j9).grow hx,hlen▸lX⟩
theorem SN(O:dh c){D:ri}{F:Es}{fI:aj}{fd:pG}(X:oO c D F fI fd){v w:V}{p:aa}{rest:List aa}(R:SR c s.heap al u fs)(xG:A.depth+1<yU)(kv:VR s.heap al v p)(hl:rest.length<=bk)(hb:∀(s':aF)(x:aa),(∀b o,c.B.get? b=some o->s'.heap.get? b=some o)->∃q,CO s' fd ⟨x::rest,[]⟩ [("self",x),("code",p),("told",q)]/\VR s.heap al w q):av c.M A (call (.ref c.cx) rest) (PQ c s al fs RV (.ok (.ref (u.length+1))) (u++[.aV [("code",v),("told",w)]]++[.exc u.length])) E s:=by obtain⟨h,g,d,t,os⟩:=s;refine wpAny_call_exc_init HZ (R.base _ _ X.hC) (X.hN.keeps R.base) X.s8 (R.base _ _ X.hF) X.Sn (λh' x hm=>?_) hl;rw[QX];obtain⟨tt,hx,au2,_⟩:=hm.there;have kB:∀b o,c.B.get? b=some o->h'.get? b=some o:=λb o e=>hm.keeps b o (R.base b o e);obtain⟨q,hb,kw⟩:=hb ⟨h',g,d,t,os⟩ (.ref x) kB;refine aec O X kB hx (Aq R.base hm.new) hb xG λbl tk dx vs T=>⟨rfl,?_⟩;have y:=aee R (λb o e=>T.keep b o (hm.keeps b o e) λq=>aE (hm.new.symm.trans (q▸e))) (Aq hm.keeps T.fresh) hm.new kv kw T.obj (by rw[T.size];decide) T.no T.ne T.dict;exact⟨_,y.1,y.2.1,⟨rfl,rfl,rfl⟩,.ref y.2.2⟩
noncomputable def SQ(args:List V)(u:List MO):pN V:=match args with|[]=>none|v::r=>match r with|[]=>some (.ok (.ref (u.length+1)),u++[.aV [("code",v),("told",.str "")]]++[.exc u.length])|w::r=>match r with|[]=>some (.ok (.ref (u.length+1)),u++[.aV [("code",v),("told",w)]]++[.exc u.length])|_::_=>none
theorem aeg(O:dh c){D:ri}{F:Es}{fI:aj}{fd:pG}(X:oO c D F fI fd){args:List V}{qs:List aa}{r:Rs V}(e:SQ args u=some (r,aM))(xG:A.depth+1<yU)(R:SR c s.heap al u fs)(k:aQ s.heap al args qs):av c.M A (call (.ref c.cx) qs) (PQ c s al fs RV r aM) (PE c s al fs r aM) s:=by cases args with|nil=>exact aE e|cons v l=>cases l with|nil=>have e:=jW (aJ e);exact e.1▸e.2▸k.fA λq qs kv k=>k.jj (SN O X (v:=v) (w:=.str "") R xG kv (by simp[sk]) λs' x kB=>by obtain⟨tk,b⟩:=X.b1 s' x _ kB;exact⟨_,b,.str _ _⟩)|cons w l=>cases l with|nil=>have e:=jW (aJ e);exact e.1▸e.2▸k.fA λq qs kv k=>k.fA λp qs kw k=>k.jj (SN O X R xG kv (by simp[sk]) λs' x kB=>⟨_,X.b2 s' x _ _ kB,kw⟩)|cons=>exact aE e
section
variable{A:dR}{E:aa->aF->Prop}{s:aF}{K:Type}[DecidableEq K]{knd:KeyKind prog w K}
theorem aeh(hd:(d==ur)=false){kvs:List (K×aa)}(hm:s.heap.DictOf knd d kvs)(hl:kvs.length<=2^24){Q:Bool->aF->Prop}(h:∀b tk,Q b {s with toks:=tk}):av (cv prog w) A (Dk (.ref d)) Q E s:=by
 have hT:s.TypeIs (.ref d) "dict":=hm.typeIs;unfold Dk;refine aw (yR hT F.slot_dict_len.lookup ?_);generalize Ar:("dict.__len__":String)=JR;wp_delta;rw[show splitId JR=some ("dict","__len__")from by subst Ar;decide+kernel];subst Ar;refine aw (Cm (T:="dict") (b:=true) hT (by rw[wb];kernel_rfl) ?_);refine lb (λi0=>absurd i0 ai) (λ_=>?_);refine lb (λi0=>?_) (λ_=>?_);.exact aw (yY hT (aP (h _ s.toks)))
 refine lb (λ_=>?_) (λi0=>absurd rfl i0);refine aw (wg ?_);refine aw (yX (call_len_dict hd hm (ZT hl) ?_));have JS:zy ((kvs.length:Int).toNat)=false:=by simp[zy,bk];exact hl
 refine aw (m:=asInt? _) (aP ?_);exact lb (λi0=>absurd i0 (by rw[JS];decide)) (λ_=>aP (h _ _))
theorem aei{d:aj}{ep:Nat}(hh:A.handled=none)(hd:(d==ur)=false)(hm:s.heap.DictAt knd d ([]:List (K×aa)) ep) S res SU(hS:s.heap.get? S=some {cls:=.type "list",data:=.seq #[] SU})(hR:∀h' tk c',(∀b o,b≠S->s.heap.get? b=some o->h'.get? b=some o)->h'.get? S=some {cls:=.type "list",dict:=none,data:=.seq #[] c',slots:=#[]}->R (.ok (.ret res)) {s with heap:=h',toks:=tk}):av (cv prog w) A.in1 (wK (.ref S) (.ref d) res) (λfin s'=>match fin with|.done f=>R (.ok f) s'|.again c'=>c'.quiet=true/\je (cv prog w) A c' R s') (λe s'=>R (.error e) s') s:=by
 have hT:s.TypeIs (.ref d) "dict":=hm.dictOf.typeIs;have As:S≠d:=λe=>by obtain⟨o,es,ho,hc,_⟩:=hm;rw[<-e,hS]at ho;cases ho;have :=hc.1;simp at this
 have Ew:S<s.heap.objs.size:=eW hS;have tA:S≠s.heap.objs.size:=gh Ew;have aej:d≠s.heap.objs.size:=gh hm.lt_size;have xH:S∉[s.heap.objs.size,d]:=λhm=>by
  rcases bX.mp hm with e|e;.exact tA e
  .exact As (bM.mp e)
 have W:=(Walks.dictKeys (knd:=knd) (A:=A.in1) hh s.heap.objs.size d aej ([]:List (K×aa)) ep).toS;have key:∀(h:a_)(u0 tk:Nat),h.IsKeyIter s.heap.objs.size d 0 0 ep/\h.DictAt knd d ([]:List (K×aa)) ep->(∀b o,b≠S->s.heap.get? b=some o->h.get? b=some o)->h.get? S=some {cls:=.type "list",data:=.seq #[] u0}->je (cv prog w) A (.builtin "list.extend.loop" ⟨[.ref S,.ref s.heap.objs.size,res],[]⟩) R {s with heap:=h,toks:=tk}:=by
  intro h u0 tk hit hk tB;refine Nl W (dC _) S xH res 0 0 _ #[] u0 rfl (dC _) hit tB (PB _) λs' Au c' hm rq Av=>?_;rw[PC hm];have :Au=#[]:=by have :=Av.1;simpa using this
  subst this;refine hR s'.heap s'.toks c' (λb o hb e=>hm.heap b o (λxI=>?_) (hk b o hb e)) rq;rcases bX.mp xI with e'|xI;.exact hb e'
  .exact absurd (eW e) (by rw[bM.mp xI];exact mU _)
 unfold wK;refine aw (yY hT ?_);have h1:Dl (.ref S) (.ref d)=false:=by simp[Dl,As]
 have h2:(pJ "dict"==pJ "list")=false:=by decide
 have h3:(pJ "dict"==pJ "tuple")=false:=by decide
 simp only[h1,h2,h3,Dg,sU,if_false];refine aw (NC hd hm ?_);refine aw (fT (aeh (knd:=knd) hd (hm.push _).dictOf (by simp) λb tk=>?_));have SV:(s.heap.push {cls:=.type "dict_keyiterator",data:=.fields #[.ref d,.int 0 0,.int (([]:List (K×aa)).length) 0,.int ep 0]}).IsKeyIter s.heap.objs.size d 0 0 ep:=⟨_,gj _ rfl,rfl,rfl⟩;have SX:=hm.push {cls:=.type "dict_keyiterator",data:=.fields #[.ref d,.int 0 0,.int (([]:List (K×aa)).length) 0,.int ep 0]};have tB:=d6 {cls:=.type "dict_keyiterator",data:=.fields #[.ref d,.int 0 0,.int (([]:List (K×aa)).length) 0,.int ep 0]} hS;refine lb (λ_=>?_) (λ_=>aP ⟨uq OT _,key _ SU _ ⟨SV,SX⟩ (λb o _ e=>d6 _ e) tB⟩);refine aw (wg ?_);refine aw ?_;show av _ _ (y4 S (·.push .none)>>=λ_=>y4 S (·.pop)) _ _ _;refine aw (yT tB rfl ?_);have u4:=pI (jX (·.push l7)) tB rfl;refine yT (hz:=by seq_fits) u4 rfl ?_;have JT:=pI (jX (·.pop)) u4 rfl;have mh:∀b o,b≠S->(s.heap.push {cls:=.type "dict_keyiterator",data:=.fields #[.ref d,.int 0 0,.int (([]:List (K×aa)).length) 0,.int ep 0]}).get? b=some o->_:=λb o hb e=>(sS _ (jX (·.pop)) (hY hb)).trans ((sS _ (jX (·.push l7)) (hY hb)).trans e);refine aP ⟨uq OT _,key _ _ _ ⟨?_,?_⟩ (λb o hb e=>mh b o hb (d6 _ e)) JT⟩;.exact SV.at λo e=>mh _ _ tA.symm e
 .exact SX.at' λo e=>mh _ _ (hY As) e
theorem aek{d:aj}{ep:Nat}(hh:A.handled=none)(hd:(d==ur)=false)(hm:s.heap.DictAt knd d ([]:List (K×aa)) ep)(hQ:∀h' tk c',(∀b o,s.heap.get? b=some o->h'.get? b=some o)->h'.get? s.heap.objs.size=some {cls:=.type "list",dict:=none,data:=.seq #[] c',slots:=#[]}->Q (.ref s.heap.objs.size) {s with heap:=h',toks:=tk}):av (cv prog w) A (call (.type "list") [.ref d]) Q E s:=by refine callType_codes (Q₁:=λobj cq=>obj=.ref s.heap.objs.size/\cq={s with heap:=s.heap.push {cls:=.type "list",data:=.seq #[]}}) F.called_list (F.typeCall_list_1 _) F.entry_list_init (code_list_new _ ⟨rfl,rfl⟩) λobj cq az=>?_;obtain⟨rfl,rfl⟩:=az;have hS:(s.heap.push {cls:=.type "list",data:=.seq #[]}).get? s.heap.objs.size=some {cls:=.type "list",data:=.seq #[]}:=gj _ rfl;have As:d≠s.heap.objs.size:=gh hm.lt_size;refine⟨⟨_,hS,rfl⟩,F.args_list_init_2 _ _,?_⟩;show av _ _ (do let old<-ON (.ref s.heap.objs.size);YY (.ref s.heap.objs.size) (λ_=>#[]);letGo old.toList.reverse;wK (.ref s.heap.objs.size) (.ref d) .none) _ _ _;refine aw ?_;unfold ON;refine aw (NN hS rfl (aP ?_));show av _ _ (y4 s.heap.objs.size (λ_=>#[])>>=λ_=>letGo (#[]:Array aa).toList.reverse>>=λ_=>wK (.ref s.heap.objs.size) (.ref d) .none) _ _ _;refine aw (yT hS rfl ?_);have u4:=pI (jX (λ_=>(#[]:Array aa))) hS rfl;have mh:∀b o,b≠s.heap.objs.size->s.heap.get? b=some o->((s.heap.push {cls:=.type "list",data:=.seq #[]}).update s.heap.objs.size (jX (λ_=>(#[]:Array aa)))).get? b=some o:=λb o hb e=>(sS _ _ (hY hb)).trans (d6 _ e);refine aw (wpAny_letGo ?_);refine aei (A:=A.in1) hh hd (hm.at' λo e=>mh d o As e) _ .none _ u4 λh' tk c' hk rq=>⟨rfl,hQ h' tk c' (λb o e=>?_) rq⟩;exact hk b o (gh (eW e)) (mh b o (gh (eW e)) e)
end
structure Ey(c:aR):Prop where
 sorted:∀(A:dR)(E:aa->aF->Prop)(s:aF)(al:List aj)(u:List MO)(fs:Fs)(a:aj)(items:Array aa)(l:List V)(ns:List Int),A.handled=none->SR c s.heap al u fs->s.heap.IsList a items->aQ s.heap al l items.toList->qZ l=some ns->oK ns=true->av c.M A (call (.type "set") [.ref a]) (λv cq=>av c.M A (call (.builtin "sorted") [v]) (PQ c s al fs RV (.ok (.ref u.length)) (u++[.list ((eC ns).map .int)])) E cq) E s
 len:∀(A:dR)(E:aa->aF->Prop)(s:aF)(al:List aj)(u:List MO)(fs:Fs)(a:aj)(items:Array aa)(l:List V)(xs:List Str),A.handled=none->SR c s.heap al u fs->s.heap.IsList a items->aQ s.heap al l items.toList->oJ l=some xs->xs.length<1000->av c.M A (call (.type "set") [.ref a]) (λv cq=>av c.M A (call (.builtin "len") [v]) (PQ c s al fs RV (.ok (.int (dW xs).length)) u) E cq) E s
section
variable{rest:Fs}
theorem JU(G:fg c S){x:Str}{w:aa}(e:ib (eI S Y u x) w=true)(hx:x≠"__classdict__")(hb:x≠"__debug__"){p:Pos}(C:dm c ag al Y L)(R:SR c s.heap al u ((L,Y.vars)::rest)){Q:aa->aF->Prop}{E:aa->aF->Prop}(hQ:Q w s):av c.M A (eval (.Name x p) ag) Q E s:=by exact CA (I1 G (R5 e) hx C R λp hp=>by cases hp;exact hQ) (beq_false_of_ne hb)
theorem call_one(hs:dk e=false){Q:aa->aF->Prop}{w:aa}(hk:∀h,∃k,(k=wR\/k=wQ\/k=wO)/\jZ M h (lV w) k)(h:∀(Q':aa->aF->Prop),Q' w s->av M A (eval (.Name f fp) ag) Q' E s)(h2:av M A (eval e ag) (λx dD=>av M A (call w [x]) Q E dD) E s):av M A (eval (.Call (.Name f fp) [e] [] pos) ag) Q E s:=by rw[Q1 (λ_ _ _=>by simp)];refine aw (h _ (Js (by simp[hs]) ?_));rw[Q0 (by simp[hs])];show av M A (spliced ((false,eval e ag)::[])) _ _ s;unfold spliced;refine aw (b_ h2 (λx dD hx=>?_) λ_ _ y=>y);refine aw (aP (aw (fT ?_)));unfold spliced;exact aP (aP ⟨hk _,hx⟩)
theorem aQ.ael l:∀b:Nat,(∀j v,l[j]?=some v->VR h al (.int ((b+j:Nat):Int)) v)->aQ h al ((List.range' b l.length).map λ(k:Nat)=>V.int k) l:=by induction l with|nil=>exactλb _=>.nil|cons x r ih=>intro b hx;rw[eU,List.range'_succ,ef];exact .cons (hx 0 x rfl) (ih (b+1) λj v e=>lT b 1 j▸hx (j+1) v e)
theorem aQ.aem(hit:ItemsOf P acc n)(hp:∀(i:Nat)v,P i v->VR h al (.int i) v):aQ h al ((cA n).map λ(k:Nat)=>V.int k) acc.toList:=by have :=aQ.ael (h:=h) (al:=al) acc.toList 0 λj v e=>(eu j).symm▸hp j v (hit.2 j v (jC.symm.trans e));rw[eY,hit.1]at this;rw[List.range_eq_range'];exact this
theorem JV(R:SR c s.heap al u fs){h':a_}{tk c':Nat}(kp:∀b o,s.heap.get? b=some o->h'.get? b=some o){x:aj}(hx:s.heap.get? x=none)(hS:h'.get? x=some {cls:=.type "list",dict:=none,data:=.seq items c',slots:=#[]})(k:aQ h' al l items.toList):PQ c s al fs RV (.ok (.ref u.length)) (u++[.list l]) (.ref x) {s with heap:=h',toks:=tk}:=by have f:=R.free hx;have d7:=(R.keep kp).adopt (D:=x) (mo:=.list l) f.1 f.2 (Aq R.base hx) (λo eo=>(xB ⟨c',hS⟩).tb eo) ⟨items,c',hS,k.mono (λ_ _ e _=>e) kJ⟩;exact⟨_,d7,(a8.of_keep kp al _).grow hx,⟨rfl,rfl,rfl⟩,.ref (R.len▸lX)⟩
end
def RP(c:aR)(xs:List Str):List V->List aj->a_->List (aa×aa)->Prop:=λws al h ps=>ws.length=xs.length->∃kvs,Carries (dQ c.prog c.w) ps kvs/\c_ h al (xs.zip ws) kvs/\kvs.map (·.1)=xs
theorem aen ks:∀{xs:List Str},xg ks=some xs->ks.all (·.isSome)=true/\xs.length=ks.length:=by induction ks with|nil=>exactλh=>aJ h▸⟨rfl,rfl⟩|cons k ks ih=>intro xs h;obtain⟨e,rfl,h⟩:=bH h;obtain⟨cc,kk,p,rfl,h⟩:=Qa h;cases cc with|str x=>obtain⟨jm,jn,rfl⟩:=map_some h;have y:=ih jn;exact⟨y.1,congrArg (·+1) y.2⟩|_=>exact aE h
theorem aeo{β:Type}{m:MO}{f:List (Int×V)->Option β}{r:β}(e:m.DO f none=some r):∃l,m=.bg l/\f l=some r:=by cases m with|bg l=>exact⟨l,rfl,e⟩|_=>exact aE e
theorem aep(O:dh c){T:String}{v:V}{q:aa}{r:Rs V}(e:Qq hd T v u=some (r,aM))(C:Cx c n hd A al fs)(R:SR c s.heap al u fs)(x:VR s.heap al v q):av c.M A (call (.type T) [q]) (PQ c s al fs RV r aM) (PE c s al fs r aM) s:=by cases x with
 |int k t=>obtain⟨rfl,e⟩:=cI e;have e:=jW (aJ e);exact e.1▸e.2▸call_int_int (done R (.int _ _))|ref ea=>obtain⟨⟨rfl,rfl⟩,e⟩:=cI e;obtain⟨m,hi,e⟩:=bH e;obtain⟨kv,rfl,e⟩:=aeo e;cases kv with|cons=>exact aE e|nil=>have e:=jW (aJ e);obtain⟨kvs,d,pr⟩:=R.obj _ _ _ hi ea;obtain⟨ep,d'⟩:=(pr.nil_inv▸d:s.heap.DictOf (jd c.prog c.w) _ []).dictAt;exact e.1▸e.2▸aek C.handled (ta O R ea) d' λh' tk c' kp hS=>JV (items:=#[]) R kp (zq (br _)) hS .nil
 |_=>exact aE e
theorem aeq(O:dh c){T:String}{args:List V}{qs:List aa}{r:Rs V}(e:Qr hd T args u=some (r,aM))(C:Cx c n hd A al fs)(R:SR c s.heap al u fs)(k:aQ s.heap al args qs):av c.M A (call (.type T) qs) (PQ c s al fs RV r aM) (PE c s al fs r aM) s:=by cases args with|nil=>exact aE e|cons v l=>cases l with|nil=>exact k.fA λq qs x k=>k.jj (aep O e C R x)|cons=>exact aE e
theorem Cx.less(C:Cx c n hd A al fs)(h:m<=n):Cx c m hd A al fs:=⟨bD (k_ h _) C.depth,bD (k_ (r_ 8 h) _) C.units,C.handled,C.frames,C.tab,C.guards⟩
structure JW(c:aR)(S:cJ):Prop where
 cx:S.cx=c.cx
 fn:∀a f,S.fn a=some f->rg c c.B [c.tab] a f.ps (.stmts f.body) f.sc [] f.nest
 s8:∀a fi,S.s8 a=some fi->a≠c.cx->Jf c a fi
 kp:∀a fi,S.s8 a=some fi->jZ c.M c.B (lV (.ref a)) .machine
 kx:jZ c.M c.B (lV (.ref c.cx)) .machine
 xc:∃D F fI fd,oO c D F fI fd
theorem JX(ho:h.get? a=some o)(hd:o.data=.func fd):jZ M h (lV (.ref a)) .frame:=λA Q E s k hq=>by unfold lV;refine aw (sm (k _ _ ho) ?_);rw[hd];exact aP hq
theorem dv.nil_of(x:dv al [] r):dv aT [] r:=by cases x;exact .nil
theorem rg.up{f:Fn}(F:rg c c.B [c.tab] a f.ps (.stmts f.body) f.sc [] f.nest)(kB:∀b o,c.B.get? b=some o->h.get? b=some o)(ht:al[0]?=some c.tab):rg c h al a f.ps (.stmts f.body) f.sc [] f.nest:=by obtain⟨o,fd,ho,q1,q2,q3,q4,q5,q6,q7,q8,q9,aer⟩:=F;refine⟨o,fd,kB _ _ ho,q1,q2,q3,q4,dv.nil_of q5,q6,q7,q8,q9.keeps kB,λq hq=>?_⟩;obtain⟨a1,cd,P,a2,a3,a4⟩:=aer q hq;exact⟨a1,cd,P,a2,aJ a3▸ht,a4⟩
structure kO(c:aR)(S:cJ)(K:d0):Prop where
 O:dh c
 KI:K.In c.B
 G:fg c S
 SA:lz c S K
 SM:z7 c S K
 SW:xy c S K
 SL:D' c S
 SF:JW c S
 X:tq c
 TB:tw c
 SO:Ey c
theorem aes(e:Qt i=some q):∃p,i=.Slice q.1 q.2 none p:=by obtain⟨a,b,st,p,rfl,e⟩:=aa1 e;cases st with|none=>exact aJ e▸⟨p,rfl⟩|some _=>exact aE e
theorem xJ(e:uN i=some x):∃p,i=.Name x p:=by obtain⟨y,p,rfl,e⟩:=DP e;exact aJ e▸⟨p,rfl⟩
theorem SY(e:DY i=some q):i=.Attribute q.1 q.2.1 q.2.2:=by obtain⟨o,n,p,rfl,e⟩:=P9 e;exact aJ e▸rfl
theorem S0(e:IW l=some x):l=[x]:=by cases l with|nil=>exact aE e|cons a r=>cases r with|nil=>exact aJ e▸rfl|cons _ _=>exact aE e
theorem S2(e:IX i=some q):∃gp p,i=.Call (.Name q.1 gp) [q.2] [] p:=by obtain⟨f,as,ks,p,rfl,e⟩:=P_ e;cases ks with|cons _ _=>exact aE e|nil=>obtain⟨g,h1,e1⟩:=bH e;obtain⟨x,h2,e2⟩:=bH e1;obtain⟨gp,rfl⟩:=xJ h1;exact aJ e2▸⟨gp,p,S0 h2▸rfl⟩
theorem aet(e:specOf f as=some q):∃fp gp p,f=.Name q.1 fp/\as=[.Call (.Name q.2.1 gp) [q.2.2] [] p]:=by obtain⟨g,h1,e1⟩:=bH e;obtain⟨y,h2,e2⟩:=bH e1;obtain⟨x,h3,e3⟩:=bH e2;have e4:=(cI e3).2;obtain⟨fp,rfl⟩:=xJ h1;obtain⟨gp,p,rfl⟩:=S2 h3;exact aJ e4▸⟨fp,gp,p,rfl,S0 h2⟩
theorem S3(e:DZ l=some q):l=[⟨q.1,q.2.1,q.2.2,0⟩]:=by cases l with|nil=>exact aE e|cons g r=>cases r with|nil=>obtain⟨t,i,f,a⟩:=g;obtain⟨h,e⟩:=cI e;exact aJ e▸h▸rfl|cons _ _=>exact aE e
theorem aeu(e:Qu l=some x):l=[x]:=by cases l with|nil=>exact aE e|cons a r=>cases r with|nil=>exact aJ e▸rfl|cons _ _=>exact aE e
theorem aev(e:D1 l=some q):∃xp p,l=[.ExceptHandler (some (.Name q.1 xp)) q.2.1 q.2.2 p]:=by cases l with|nil=>exact aE e|cons a r=>cases r with|cons _ _=>exact aE e|nil=>obtain⟨ty,n,h,p⟩:=a;obtain⟨e1,rfl,e⟩:=bH e;obtain⟨x,hx,rfl⟩:=map_some e;obtain⟨xp,rfl⟩:=xJ hx;exact⟨xp,p,rfl⟩
section
universe aG
variable{α:Sort aG}
noncomputable def vInt(v:aa)(f:Int->Tok->α)(d:α):α:=if h:v.ctorIdx=4 then Dy (motive:=λ_=>α) v h f else d
noncomputable def vStr(v:aa)(f:Str->Tok->α)(d:α):α:=if h:v.ctorIdx=6 then Dz (motive:=λ_=>α) v h f else d
noncomputable def xK(v:aa)(f:aj->α)(d:α):α:=if h:v.ctorIdx=10 then wX (motive:=λ_=>α) v h f else d
noncomputable def Ez(x:Data)(f:Array aa->Nat->α)(d:α):α:=if h:x.ctorIdx=2 then Iq (motive:=λ_=>α) x h f else d
noncomputable def Aw(x:Data)(f:Array lU->Nat->α)(d:α):α:=if h:x.ctorIdx=3 then Im (motive:=λ_=>α) x h f else d
noncomputable def EA(x:Data)(f:Array aa->α)(d:α):α:=if h:x.ctorIdx=9 then H' (motive:=λ_=>α) x h f else d
noncomputable def JY(x:Data)(f:pG->α)(d:α):α:=if h:x.ctorIdx=7 then Io (motive:=λ_=>α) x h f else d
theorem S4{β:Type}{f:Int->Tok->Option β}{d:Option β}{r:β}(h:vInt v f d=some r):(∃i t,v=.int i t/\f i t=some r)\/d=some r:=by
 unfold vInt at h;by_cases q:v.ctorIdx=4;.rw[dif_pos q]at h;exact .inl (Dy (motive:=λv=>∀q,Dy (motive:=λ_=>Option β) v q f=some r->∃i t,v=.int i t/\f i t=some r) v q (λ_ _ _ h=>⟨_,_,rfl,h⟩) q h)
 .rw[dif_neg q]at h;exact .inr h
theorem EB{β:Type}{f:Str->Tok->Option β}{d:Option β}{r:β}(h:vStr v f d=some r):(∃i t,v=.str i t/\f i t=some r)\/d=some r:=by
 unfold vStr at h;by_cases q:v.ctorIdx=6;.rw[dif_pos q]at h;exact .inl (Dz (motive:=λv=>∀q,Dz (motive:=λ_=>Option β) v q f=some r->∃i t,v=.str i t/\f i t=some r) v q (λ_ _ _ h=>⟨_,_,rfl,h⟩) q h)
 .rw[dif_neg q]at h;exact .inr h
theorem EC{β:Type}{f:aj->Option β}{r:β}(h:xK v f none=some r):∃a,v=.ref a/\f a=some r:=by
 unfold xK at h;by_cases q:v.ctorIdx=10;.rw[dif_pos q]at h;exact wX (motive:=λv=>∀q,wX (motive:=λ_=>Option β) v q f=some r->∃a,v=.ref a/\f a=some r) v q (λ_ _ h=>⟨_,rfl,h⟩) q h
 .rw[dif_neg q]at h;exact aE h
theorem aew{β:Type}{f:Array aa->Nat->Option β}{r:β}(h:Ez x f none=some r):∃a b,x=.seq a b/\f a b=some r:=by
 unfold Ez at h;by_cases q:x.ctorIdx=2;.rw[dif_pos q]at h;exact Iq (motive:=λv=>∀q,Iq (motive:=λ_=>Option β) v q f=some r->∃a b,v=.seq a b/\f a b=some r) x q (λ_ _ _ h=>⟨_,_,rfl,h⟩) q h
 .rw[dif_neg q]at h;exact aE h
theorem aex{β:Type}{f:Array lU->Nat->Option β}{r:β}(h:Aw x f none=some r):∃a b,x=.dict a b/\f a b=some r:=by
 unfold Aw at h;by_cases q:x.ctorIdx=3;.rw[dif_pos q]at h;exact Im (motive:=λv=>∀q,Im (motive:=λ_=>Option β) v q f=some r->∃a b,v=.dict a b/\f a b=some r) x q (λ_ _ _ h=>⟨_,_,rfl,h⟩) q h
 .rw[dif_neg q]at h;exact aE h
theorem S5{β:Type}{f:Array aa->Option β}{r:β}(h:EA x f none=some r):∃a,x=.fields a/\f a=some r:=by
 unfold EA at h;by_cases q:x.ctorIdx=9;.rw[dif_pos q]at h;exact H' (motive:=λv=>∀q,H' (motive:=λ_=>Option β) v q f=some r->∃a,v=.fields a/\f a=some r) x q (λ_ _ h=>⟨_,rfl,h⟩) q h
 .rw[dif_neg q]at h;exact aE h
theorem aey{β:Type}{f:pG->Option β}{r:β}(h:JY x f none=some r):∃a,x=.func a/\f a=some r:=by
 unfold JY at h;by_cases q:x.ctorIdx=7;.rw[dif_pos q]at h;exact Io (motive:=λv=>∀q,Io (motive:=λ_=>Option β) v q f=some r->∃a,v=.func a/\f a=some r) x q (λ_ _ h=>⟨_,rfl,h⟩) q h
 .rw[dif_neg q]at h;exact aE h
end
def convS:List aa->Option (List V)|[]=>some []|v::r=>vInt v (λi _=>(convS r).map (.int i::·)) (vStr v (λx _=>(convS r).map (.str x::·)) none)
noncomputable def ED(o:Obj):Bool:=o.cls==.type "tuple"&&o.dict.isNone&&o.slots.isEmpty
def S6(a:aj)(o:Obj):Option V:=if ED o=true then Ez o.data (λxs _=>(convS xs.toList).map .tup) none else some (.st (.ref a))
def JZ(K:d0)(v:aa):Option V:=vInt v (λi _=>some (.int i)) (vStr v (λx _=>some (.str x)) (xK v (λa=>aU (K.lookup a) (S6 a) (some (.st (.ref a)))) none))
def EE(K:d0):Array DictEntry:=aU (K.lookup fK) (λo=>Aw o.data (λes _=>es) #[]) #[]
def globK(K:d0)(bT:List (Str×aa))(x:Str):Option V:=aU (hX (EE K) x) (JZ K) ((bT.lookup x).map .st)
def aez(K:d0)(cd:aa):Option Str:=xK cd (λc=>aU (K.lookup c) (λo=>EA o.data (λvs=>aU (vs[1]?:Option aa) (λv=>vStr v (λq _=>some q) none) none) none) none) none
def J0(K:d0)(cd:aa)(q:Str):Bool:=aez K cd==some q
def S7(K:d0)(tab:aj)(nn:Str)(fd:pG):Option Fn:=Pt fd.body (λb=>if fd.closure=[]/\fd.globals=fK/\fd.builtins=hV/\(fd.defaults==.none)=true/\J0 K fd.code fd.qualname=true then(if fd.name=nn then xK fd.code (λcd=>if codeHdIn K cd tab=true then some ⟨fd.params,b,fd.scope,some (fd.qualname++".<locals>.")⟩else none) none else some ⟨fd.params,b,fd.scope,none⟩)else none) λ_=>none
def fnIn(K:d0)(tab:aj)(nn:Str)(a:aj):Option Fn:=aU (K.lookup a) (λo=>JY o.data (S7 K tab nn) none) none
def EF(K:d0)(C:aj)(n:Str):Option Addr:=aU (jY K (.ref C) n) (λx=>aU x (λv=>xK v (λf=>if(typeIn K (.ref f)==some (.type "function"))=true then some f else none) none) none) none
def J1(K:d0)(C:aj):Option Addr:=if makesIn K C=true then EF K C "__init__"else none
noncomputable def EG(K:d0)(C:aj):Bool:=jY K (.ref C) "__getattribute__"==some (some (.builtin "object.__getattribute__"))
def aeA(K:d0)(C:aj)(n:Str):Option Addr:=if EG K C=true/\(jY K (.ref C) "__getattr__"==some none)=true then EF K C n else none
def Ax(K:d0)(cx:aj)(C:aj)(n:Str):Bool:=if C==cx then n==("code":Str)else EG K C&&zE K C&&aU (jY K (.ref C) n) (noGet K) false&&jY K (.ref C) "__setattr__"==some (some (.builtin "object.__setattr__"))&&Dt K C&&Dv K C n==some none
def xM(K:d0)(bT:List (Str×aa))(tab cx:aj)(nn:Str)(ae:aj->Option (List V)):cJ:=⟨globK K bT,fnIn K tab nn,aeA K,J1 K,cx,Ax K cx,ae⟩
section
variable{c:aR}{K:d0}
theorem aeB xs:∀{l:List V},convS xs=some l->aQ h al l xs:=by induction xs with|nil=>exactλe=>aJ e▸.nil|cons v r ih=>
 intro l e;rcases S4 (show vInt v (λi _=>(convS r).map (.int i::·)) (vStr v (λx _=>(convS r).map (.str x::·)) none)=some l from e)with⟨i,t,rfl,e⟩|e;.obtain⟨l',h1,rfl⟩:=map_some e;exact .cons (.int _ _) (ih h1)
 rcases EB e with⟨i,t,rfl,e⟩|e;.obtain⟨l',h1,rfl⟩:=map_some e;exact .cons (.str _ _) (ih h1)
 .exact aE e
theorem aeC(h:ED o=true)(d:o.data=.seq xs n):o={cls:=.type "tuple",dict:=none,data:=.seq xs n,slots:=#[]}:=by obtain⟨oc,od,acZ,Jz⟩:=o;have h1:=eA.mp h;have h2:=eA.mp h1.1;cases d;rw[show oc=.type "tuple"from eq_of_beq h2.1,show od=none from uB.mp h2.2,show Jz=#[]from Array.isEmpty_iff.mp h1.2]
theorem aeD(X:K.In h){a:aj}{x:V}(e:aU (K.lookup a) (S6 a) (some (.st (.ref a)))=some x):VR h al x (.ref a):=by cases hk:K.lookup a with|none=>rw[hk]at e;exact aJ e▸.st _|some o=>
 rw[hk]at e;replace e:(if ED o=true then Ez o.data (λxs _=>(convS xs.toList).map .tup) none else some (.st (.ref a)))=some x:=e;by_cases q:ED o=true;.rw[if_pos q]at e;obtain⟨xs,n,hd,e⟩:=aew e;obtain⟨l,hl,rfl⟩:=map_some e;exact .tup ⟨_,X _ _ (aeC q hd▸hk),rfl,_,rfl⟩ (aeB _ hl)
 .rw[if_neg q]at e;exact aJ e▸.st _
theorem aeE(X:K.In h){v:aa}{x:V}(e:JZ K v=some x):VR h al x v:=by
 rcases S4 e with⟨i,t,q,e⟩|e;.exact q▸aJ e▸.int _ _
 rcases EB e with⟨i,t,q,e⟩|e;.exact q▸aJ e▸.str _ _
 obtain⟨a,q,e⟩:=EC e;exact q▸aeD X e
theorem aeF(X:K.In c.B){mb:Str->Option aa}(hm:∃o es ep,K.lookup fK=some o/\o.data=.dict es ep/\StrKeys es)(hb:c.B.Ns hV mb)(hT:∀x v,bT.lookup x=some v->mb x=some v){tab:aj}:fg c (xM K bT tab c.cx nn ae):=by
 obtain⟨o,es,ep,h1,h2,h3⟩:=hm;have aeG:EE K=es:=by unfold EE;rw[h1];show Aw o.data (λes _=>es) #[]=es;rw[h2];rfl
 refine⟨rfl,hX es,mb,⟨o,es,ep,X _ _ h1,h2,h3,λ_=>rfl⟩,hb,λx v e=>?_⟩;replace e:aU (hX (EE K) x) (JZ K) ((bT.lookup x).map .st)=some v:=e;rw[aeG]at e;cases hq:hX es x with|some q=>rw[hq]at e;exact⟨q,.inl rfl,aeE X e⟩|none=>rw[hq]at e;obtain⟨q,hl,rfl⟩:=map_some e;exact⟨q,.inr ⟨rfl,hT _ _ hl⟩,.st _⟩
theorem J2(X:K.In h){cd:aa}{q:Str}(e:J0 K cd q=true):h.CodeRec cd q:=by
 obtain⟨a,z,e1⟩:=EC (eq_of_beq e);obtain⟨o,hk,e2⟩:=bH e1;obtain⟨vs,hd,e3⟩:=S5 e2;obtain⟨v,hv,e4⟩:=bH e3;rcases EB e4 with⟨q',t,w,e5⟩|e5;.exact⟨_,_,_,_,z,X _ _ hk,hd,aJ e5▸w▸hv⟩
 .exact aE e5
theorem S8{v:aa}(h:(v==.none)=true):v=.none:=eq_of_beq h
theorem aeH(X:K.In c.B){a:aj}{f:Fn}(e:fnIn K c.tab nn a=some f):rg c c.B [c.tab] a f.ps (.stmts f.body) f.sc [] f.nest:=by obtain⟨o,hk,e⟩:=bH e;obtain⟨fd,hd,e⟩:=aey e;unfold S7 at e;cases hb:fd.body with|expr b=>rw[hb]at e;exact aE e|stmts b=>
 rw[hb]at e;obtain⟨⟨g1,g2,g3,g4,g5⟩,e⟩:=cI e;have cl:dv [c.tab] [] fd.closure:=by rw[g1];exact .nil
 by_cases hn:fd.name=nn;.rw[if_pos hn]at e;obtain⟨cd,Am,e⟩:=EC e;obtain⟨hh,e⟩:=cI e;exact aJ e▸⟨_,fd,X _ _ hk,hd,rfl,hb,rfl,cl,g2,g3,S8 g4,J2 X g5,λq hq=>⟨aJ hq,cd,c.tab,Am,rfl,codeHd_of_K X hh⟩⟩
 .rw[if_neg hn]at e;exact aJ e▸⟨_,fd,X _ _ hk,hd,rfl,hb,rfl,cl,g2,g3,S8 g4,J2 X g5,λq hq=>aE hq⟩
theorem S9(e:EF K C n=some f):jY K (.ref C) n=some (some (.ref f))/\typeIn K (.ref f)=some (.type "function"):=by obtain⟨x,h1,e⟩:=bH e;obtain⟨v,rfl,e⟩:=bH e;obtain⟨g,rfl,e⟩:=EC e;obtain⟨h2,e⟩:=cI e;exact aJ e▸⟨h1,eq_of_beq h2⟩
theorem S_(X:K.In c.B){C fi:aj}(e:J1 K C=some fi):Jf c C fi:=have e:=cI e;have y:=S9 e.2;⟨makes_of X e.1,looks_findIn X y.1,λself=>bind_fn X self y.2⟩
theorem aeI(X:K.In c.B){C fi:aj}(e:J1 K C=some fi):jZ c.M c.B (lV (.ref C)) .machine:=by have Z:=(S_ X e).makes;obtain⟨oc,od,cd,sl,ho,_⟩:=Z.obj;intro A Q E s k q;unfold lV;exact aw (sm (k _ _ ho) (aw (Z.call A _ E s k (aP q))))
theorem aeJ(X:K.In c.B){tab:aj}:z7 c (xM K bT tab c.cx nn ae) K:=⟨λC n f e=>have e:=cI (show(if EG K C=true/\(jY K (.ref C) "__getattr__"==some none)=true then EF K C n else none)=some f from e);have y:=S9 e.2;⟨eq_of_beq e.1.1,eq_of_beq e.1.2,y.1,y.2⟩⟩
theorem aeK(h:aU x f false=true):∃a,x=some a/\f a=true:=by cases x with|none=>exact bZ h|some a=>exact⟨a,rfl,h⟩
theorem Ta(e:Ax K cx C n=true)(h:C≠cx):EG K C=true/\zE K C=true/\(∃attr,jY K (.ref C) n=some attr/\noGet K attr=true)/\jY K (.ref C) "__setattr__"=some (some (.builtin "object.__setattr__"))/\Dt K C=true/\Dv K C n=some none:=by unfold Ax at e;rw[if_neg λq=>h (eq_of_beq q)]at e;have e6:=eA.mp e;have e5:=eA.mp e6.1;have e4:=eA.mp e5.1;have e3:=eA.mp e4.1;have e2:=eA.mp e3.1;exact⟨e2.1,e2.2,aeK e3.2,eq_of_beq e4.2,e5.2,eq_of_beq e6.2⟩
theorem aeL(e:Ax K cx cx n=true):n="code":=by unfold Ax at e;rw[if_pos (beq_self_eq_true cx)]at e;exact eq_of_beq e
theorem aeM(X:K.In c.B){tab:aj}(hx:Q2 c "code"):lz c (xM K bT tab c.cx nn ae) K:=⟨X,rfl,λn e=>aeL e▸hx,λC n e h=>have y:=Ta e h;⟨eq_of_beq y.1,y.2.1,y.2.2.1⟩⟩
theorem aeN(X:K.In c.B){tab:aj}:xy c (xM K bT tab c.cx nn ae) K:=⟨X,rfl,λC n e h=>have y:=Ta e h;⟨y.2.2.2.1,y.2.2.2.2.1,y.2.2.2.2.2,y.2.1⟩⟩
end
def Tc(es:Array lU):Bool:=es.all λe=>vStr e.key (λ_ _=>true) false
theorem aeO(e:Tc es=true):StrKeys es:=by intro x hx;have y:=Array.all_eq_true'.mp e x hx;cases hk:x.key with|str a t=>exact⟨a,t,rfl⟩|_=>rw[hk]at y;exact bZ y
def tC(K:d0)(a:aj):Option (Array lU):=aU (K.lookup a) (λo=>Aw o.data (λes _=>if Tc es=true then some es else none) none) none
theorem J3{K:d0}(e:tC K a=some es):∃o ep,K.lookup a=some o/\o.data=.dict es ep/\StrKeys es:=by obtain⟨o,hk,e⟩:=bH e;obtain⟨es',ep,hd,e⟩:=aex e;obtain⟨hs,e⟩:=cI e;exact⟨o,ep,hk,aJ e▸hd,aeO (aJ e▸hs)⟩
theorem EH{K:d0}(X:K.In h){a:aj}{es:Array lU}(e:tC K a=some es):h.Ns a (hX es):=by obtain⟨o,ep,hk,hd,hs⟩:=J3 e;exact⟨o,_,_,X _ _ hk,hd,hs,λ_=>rfl⟩
noncomputable def Ay:List (Str×aa):=[("len",.builtin "len"),("abs",.builtin "abs"),("isinstance",.builtin "isinstance"),("all",.builtin "all"),("max",.builtin "max"),("repr",.builtin "repr"),("sorted",.builtin "sorted"),("str",.type "str"),("tuple",.type "tuple"),("int",.type "int"),("list",.type "list"),("set",.type "set"),("range",.type "range"),("enumerate",.type "enumerate")]
theorem aeP:(Ay.all λp=>yZ p.1==some p.2&&p.1 !=("__name__":Str))=true:=by decide+kernel
theorem aeQ{mb:Str->Option aa}(hb:∀x:Str,x≠"__name__"->mb x=yZ x){x:Str}{v:aa}(l:List (Str×aa)):(l.all λp=>yZ p.1==some p.2&&p.1 !=("__name__":Str))=true->l.lookup x=some v->mb x=some v:=by induction l with|nil=>exactλ_ h=>aE h|cons p r ih=>
 intro ha hl;have ha:=eA.mp ha;rw[gN]at hl;by_cases q:p.1=x;.rw[if_pos q]at hl;have h1:=eA.mp ha.1;exact q▸(hb _ (bne_iff_ne.mp h1.2)).trans ((eq_of_beq h1.1).trans hl)
 .rw[if_neg q]at hl;exact ih ha.2 hl
theorem aeR{mb:Str->Option aa}(hb:∀x:Str,x≠"__name__"->mb x=yZ x) x v(e:Ay.lookup x=some v):mb x=some v:=by exact aeQ hb Ay aeP e
section
variable{St:Nat->aF->Prop}
def EI(prog:kD)(w:d5)(A:dR)(S n:Nat)(P:Nat->aa->Prop)(Inv:Nat->a_->Prop):Prop:=∀(i:Nat)(v:aa)(s:aF)(Q:Bool->aF->Prop)(E:aa->aF->Prop),i<n->P i v->Inv i s.heap->(∀b h' tk,s.toks<=tk->mZ S s.heap h'->Inv (i+1) h'->Q b {s with heap:=h',toks:=tk})->av (cv prog w) A (zc S v) Q E s
theorem aeS(W:WalksS prog w A.in1 I fp wr G n P St) S(xH:S∉fp) Inv(xN:∀i h h',Inv i h->(∀o,h.get? S=some o->h'.get? S=some o)->Inv i h')(Az:EI prog w A.in1 S n P Inv):∀(k i:Nat)(s:aF),n-i=k->i<=n->St i s->Inv i s.heap->(∀s',Moved (S::wr) G s s'->Inv n s'.heap->R (.ok (.ret .none)) s')->je (cv prog w) A (.builtin "set.update.loop" ⟨[.ref S,.ref I],[]⟩) R s:=by have Td:S∉wr:=λh=>xH (W.sub _ h);have EJ:∀b∈wr,b∈S::wr:=λb hb=>ze _ hb;intro k;induction k with|zero=>intro i s hk hi fj hS hR;have aeT:i=n:=(ot hi (vY hk));subst aeT;refine uo OZ ?_;rw[zD H5 _];show av _ A.in1 (jU (.ref I)>>=_) _ _ s;refine aw (W.done s _ _ fj λs' hm=>?_);show av _ A.in1 (ret l7) _ _ s';exact aP (hR s' (hm.mono EJ) (xN _ _ _ hS λo ho=>hm.heap S _ Td ho))|succ k ih=>
 intro i s hk hi fj hS hR;have dz:i<n:=(Nat.lt_of_sub_eq_succ hk);refine uo OZ ?_;rw[zD H5 _];show av _ A.in1 (jU (.ref I)>>=_) _ _ s;refine aw (W.item i s _ _ dz fj λv s' hP aeU hm=>?_);have rq:Inv i s'.heap:=xN _ _ _ hS λo ho=>hm.heap S _ Td ho;show av _ A.in1 (holding [v] (zc S v)>>=_) _ _ s';refine aw (fT (Az i v s' _ _ dz hP rq λb h' tk AA EK J4=>?_));refine aP ⟨uq H5 _,ih (i+1) _ (ZU hk) dz (W.frame _ s' _ _ aeU AA λb hb o e=>?_) J4 λIE aeV aeW=>?_⟩;.rw[EK.2 b (λh:b=S=>xH (by rw[<-h];exact hb))];exact e
 .refine hR IE (Moved.trans W.gtrans ((hm.mono EJ).then_heap AA λb o hb e=>?_) aeV) aeW;rw[EK.2 b (λh:b=S=>hb (by rw[h];exact zg))];exact e
end
section
variable{s:aF}
noncomputable abbrev fk(w:d5):Bool:=!w.params.followText "set-order"
abbrev nu(w:d5):Obj:={cls:=.type "set",dict:=none,data:=.set #[] 0 (.fresh 0 0 (fk w))}
theorem aeX a{Q₁:aa->aF->Prop}(h:Q₁ (.ref s.heap.objs.size) {s with heap:=s.heap.push (nu w)}):je (cv prog w) A (.call (.builtin "set.__new__") ⟨[.type "set",a],[]⟩) (wants Q₁ E) s:=by refine G8 ?_;show av _ A.in1 (do G4 "set.__new__" ⟨[.type "set",a],[]⟩;again (.builtin "set.__new__" ⟨[.type "set",a],[]⟩)) _ _ s;refine aw (oy (PySem.F.newCall_set_1 a) (aP ⟨uq OS _,uo PySem.F.entry_set_new ?_⟩));rw[zD OS _];unfold Builtin.«set.__new__»ZF;have EJ:=sub_set_self;obtain⟨hp,g,d,tk,os⟩:=s;dsimp only;wp_walk;refine v9 (aP ?_);dsimp only;delta newObj;dsimp only;refine aw (wpAny_alloc (aP ?_));exact aP h
structure Tf(s:aF)(S n:Nat)(Inv:Nat->a_->Prop)(s':aF):Prop where
 is:s'={s with heap:=s'.heap,toks:=s'.toks}inv:Inv n s'.heap
 keep:∀b o,b≠S->s.heap.get? b=some o->s'.heap.get? b=some o
theorem aeY(hh:A.handled=none)(hS:s.heap.get? S=some (nu w))(hl:s.heap.IsList l items)(ne:l≠S) Inv(xN:∀i h h',Inv i h->(∀o,h.get? S=some o->h'.get? S=some o)->Inv i h')(h0:∀h,h.get? S=some (nu w)->Inv 0 h)(Az:∀A',EI prog w A' S items.size (λi v=>items[i]?=some v) Inv):av (cv prog w) A (Builtin.«set.__init__» ⟨[.ref S,.ref l],[]⟩) (λf s'=>f=.done (.ret .none)/\Tf s S items.size Inv s') E s:=by
 obtain⟨ol,EL,rj,nl,Tg⟩:=id hl;obtain⟨au3,au4,au5,au6⟩:=ol;simp only at rj Tg;subst rj;subst Tg;have au7:=PySem.F.sub_list_set;have au8:=PySem.F.sub_list_frozenset;have gu:(pJ "list"==pJ "dict")=false:=by decide
 unfold Builtin.«set.__init__»noKeywords ZG;generalize aeZ:wq=PI;wp_walk;subst aeZ;refine G2 hl ?_;refine aw (NR ?_);have hI:∀{b o},s.heap.get? b=some o->b≠s.heap.objs.size:=λe=>gh (eW e);refine aeS ((PJ (by simp[hh]) _ l (hI EL) items).toS) S (λm=>(bX.mp m).elim (hI hS) λm=>ne (bM.mp m).symm) Inv xN (Az _) items.size 0 _ rfl (dC _) ⟨⟨_,gj _ rfl,rfl,rfl⟩,hl.push _⟩ (h0 _ (d6 _ hS)) λs' hm rq=>?_;refine aP (aP ⟨rfl,?_,rq,λb o hb e=>hm.heap b o (λm=>(bX.mp m).elim hb λm=>hI e (bM.mp m)) (d6 _ e)⟩);obtain⟨h',g',d',gq,pY⟩:=s';show Pz ..=Pz ..;rw[show g'=s.gens from hm.gens,show d'=s.drawn from hm.drawn,show pY=s.os from hm.os]
theorem Th(hh:A.handled=none)(hl:s.heap.IsList l items) Inv(xN:∀i h h',Inv i h->(∀o,h.get? s.heap.objs.size=some o->h'.get? s.heap.objs.size=some o)->Inv i h')(h0:∀h,h.get? s.heap.objs.size=some (nu w)->Inv 0 h)(Az:∀A',EI prog w A' s.heap.objs.size items.size (λi v=>items[i]?=some v) Inv)(h:∀(h':a_)(tk:Nat),Inv items.size h'->(∀b o,b<s.heap.objs.size->s.heap.get? b=some o->h'.get? b=some o)->Q (.ref s.heap.objs.size) {s with heap:=h',toks:=tk}):av (cv prog w) A (call (.type "set") [.ref l]) Q E s:=by
 obtain⟨c,tl,au9⟩:=sX.mro;have au_:=sX.made;have EJ:=sX.sub;refine we (G8 ?_);show av _ _ (callAny (.type "set") _) _ _ _;refine aP ⟨Pu _ (by decide+kernel),uo PySem.F.entry_type_call ?_⟩;rw[Around.under_plain (weight_type_call_type "set" [.ref l] []) rfl];have h1:=sX.notType;have h2:=sX.canCreate;have au':=PySem.F.typeCall_set_1 (.ref l);repeat(any_goals(first|assumption|wp_step))
 refine Cv (aeX (.ref l) (E:=E) (Q₁:=λobj cq=>obj=.ref s.heap.objs.size/\cq={s with heap:=s.heap.push (nu w)}) ⟨rfl,rfl⟩) λr cq hr=>?_;cases r with
 |error e=>exact hr|ok fl=>cases fl with
  |ret obj=>
   obtain⟨rfl,rfl⟩:=hr;have hS:(s.heap.push (nu w)).get? s.heap.objs.size=some (nu w):=gj _ rfl;have hT:Py {s with heap:=s.heap.push (nu w)} (.ref s.heap.objs.size) "set":=⟨_,hS,rfl⟩;have ava:=sX.init.lookup;have avb:=sX.init.bind (.ref s.heap.objs.size);repeat(any_goals(first|assumption|wp_step))
   refine Cv (GZ (R:=wants (λr dD=>r=.none/\Tf {s with heap:=s.heap.push (nu w)} s.heap.objs.size items.size Inv dD) E) sX.init.plain PySem.F.entry_set_init (check_set_init_1 hT ?_)) λae0 dD J5=>?_;.exact b_ (aeY (s:={s with heap:=s.heap.push (nu w)}) (by simp[hh]) hS (hl.push _) (gh (eW hl.choose_spec.1)) Inv xN h0 Az) (λf s' y=>by rw[y.1];exact⟨rfl,y.2⟩) λ_ _ y=>y
   .cases ae0 with|error e=>exact J5|ok ae1=>cases ae1 with|ret r=>
    obtain⟨rfl,y⟩:=J5;repeat(any_goals(first|assumption|wp_step))
    exact y.is▸h _ _ y.inv λb o hb e=>y.keep b o (gh hb) (d6 _ e)|_=>exact J5.elim
  |_=>exact hr.elim
end
theorem J6[BEq α] l(x:α):dW (l++[x])=s7 (dW l) x:=by unfold dW;rw[qL];rfl
theorem ae2[BEq α](l:List α):(dW l).length<=l.length:=by
 have key:∀(l acc:List α),(l.foldl (λacc x=>if acc.any (·==x)then acc else acc++[x]) acc).length<=acc.length+l.length:=by intro l;induction l with|nil=>intro acc;exact br _|cons x r ih=>intro acc;rw[zm];refine ax (ih _) ?_;split<;>simp<;>exact bo (lT _ _ _)
 have :=key l [];rw[zl,eu]at this;exact this
section
variable{K:Type}[DecidableEq K]{knd:KeyKind prog w K}
theorem ae3 l(v k:K):(s7 l v).any (·==k)=(l.any (·==k)||decide (k=v)):=by
 unfold s7;by_cases h:l.any (·==v)=true
 .rw[if_pos h];by_cases e:k=v;.subst e;rw[h];simp
  .simp[e]
 .rw[if_neg h,List.any_append];by_cases e:k=v;.subst e;simp
  .have hb:(v==k)=false:=by simpa[beq_iff_eq]using(λh':v=k=>e h'.symm)
   simp[hb,e]
theorem ae4 l(v:K):(s7 l v).length=if l.any (·==v)then l.length else l.length+1:=by unfold s7;split<;>simp
theorem ae5{S:aj}{items:Array aa}{ks:List K}(hl:items.size=ks.length)(hk:∀(i:Nat)(v:aa),items[i]?=some v->∃k,ks[i]?=some k/\knd.is k v=true/\v.scannable=true)(hb:ks.length+1<y5):EI prog w A S items.size (λi v=>items[i]?=some v) (λi h=>h.SetOf knd S (λk=>(dW (ks.take i)).any (·==k)) (dW (ks.take i)).length):=by
 intro i v s Q E hi hv hS hQ;obtain⟨k,ae6,Ti,Jc⟩:=hk i v hv;unfold zc;refine fT (aw (knd.pyHash (k:=k) Ti ?_));have ht:ks.take (i+1)=ks.take i++[k]:=by rw[Hx,ae6];rfl
 have ae7:(dW (ks.take i)).length+1<scanBound:=by have :=ae2 (ks.take i);have h2:=N4 i ks;omega
 refine wpAny_setAddHashed_of (knd:=knd) (s:={s with toks:=s.toks+1}) Ti Jc hS ae7 λh' EK J4=>?_;refine hQ _ h' _ (dI _) EK (SetOf_congr J4 (λk'=>?_) ?_);.rw[ht,J6,ae3]
 .rw[ht,J6,ae4]
end
theorem ae8 l:∀{xs:List Str}{r:List aa},oJ l=some xs->aQ h al l r->r.length=xs.length/\∀(i:Nat)(v:aa),r[i]?=some v->∃x t,xs[i]?=some x/\v=.str x t:=by induction l with|nil=>exactλe k=>k.jj (aJ e▸⟨rfl,λi v h=>aE (sQ.symm.trans h)⟩)|cons a l ih=>intro xs r e k;refine k.fA λp r ka kr=>uQ (show a.j3 (λx=>(oJ l).map (x::·)) none=some xs from e) ka λx t e=>?_;obtain⟨jm,jn,e⟩:=map_some e;have y:=ih jn kr;refine e▸⟨congrArg (·+1) y.1,λi v hv=>?_⟩;cases i with|zero=>exact⟨x,t,rfl,(aJ hv).symm⟩|succ i=>exact y.2 i v hv
theorem ae9 A E s al u fs a items l xs(hh:A.handled=none)(R:SR c s.heap al u fs)(hl:s.heap.IsList a items)(k:aQ s.heap al l items.toList)(hx:oJ l=some xs)(hb:xs.length<1000):av c.M A (call (.type "set") [.ref a]) (λv cq=>av c.M A (call (.builtin "len") [v]) (PQ c s al fs RV (.ok (.int (dW xs).length)) u) E cq) E s:=by
 obtain⟨g1,g2⟩:=ae8 l hx k;have dN:items.size=xs.length:=by rw[<-eY];exact g1
 refine Th hh hl (λi h=>h.SetOf (dQ c.prog c.w) s.heap.objs.size (λk=>(dW (xs.take i)).any (·==k)) (dW (xs.take i)).length) (λi h h' x e=>?_) (λh e=>?_) (λA'=>ae5 dN (λi v hv=>?_) (by unfold y5;exact cw (M1 hb _) ai)) λh' tk hS kp=>?_;.obtain⟨o,es,ep,tb,ho,r⟩:=x;exact⟨o,es,ep,tb,e o ho,r⟩
 .exact SetOf_congr ((setObjOf_fresh (knd:=dQ c.prog c.w) (fk c.w)).setOf e (by unfold y5;exact by decide)) (λ_=>rfl) rfl
 .obtain⟨x,t,h1,rfl⟩:=g2 i v (by rw[jC];exact hv);exact⟨x,h1,strKind_is _ _ _ _,rfl⟩
 .rw[show xs.take items.size=xs by rw[dN,eV]]at hS;obtain⟨o,es,ep,tb,ho,hex,hd,_,_,xv,hf,hn⟩:=hS;have hk:∀b o,s.heap.get? b=some o->h'.get? b=some o:=λb o e=>kp b o (eW e) e;refine call_len_set (s:={s with heap:=h',toks:=tk}) ho hex hd hf (by unfold y5 at xv;exact ZV xv) ?_;rw[hn];exact⟨al,R.keep hk,.of_keep hk ..,⟨rfl,rfl,rfl⟩,.int _ _⟩
noncomputable def j_(led:Bool)(m:Nat):SetTable:={mask:=if m<5 then 7 else if m<19 then 31 else 127,place:=l6 m,dummies:=#[],finger:=0,led:=led,moves:=if m<5 then 0 else if m<19 then 1 else 2,plain:=true}
def ny(led:Bool)(m:Nat):SetTable:={j_ led m with place:=l6 (m+1)}
theorem AB:∀led:Bool,∀m,m<32->(j_ led m).freeSlot (m:Int)=some (m,false)/\(j_ led m).put m=(ny led m,m)/\(ny led m).fits (m+1)=true/\(if(ny led m).tooFull then(ny led m).relaid ((l6 (m+1)).map λ(k:Nat)=>(k:Int)) (Pl (m+1))=some (j_ led (m+1),l6 (m+1))/\coversAll (l6 (m+1)) (m+1)=true/\(j_ led (m+1)).fits (m+1)=true else j_ led (m+1)=ny led m)/\(j_ led m).fits m=true:=by decide+kernel
theorem Tj:∀m:Nat,m<40->y_ (m:Int)=(m:Int):=by decide+kernel
def u5(w:d5)(S m:Nat)(h:a_):Prop:=∃es ep,h.get? S=some {cls:=.type "set",dict:=none,data:=.set es ep (j_ (fk w) m),slots:=#[]}/\es.size=m/\∀(j:Nat)(e:Int×aa),es[j]?=some e->e.1=(j:Int)/\∃tk,e.2=.int (j:Int) tk
theorem ae_{α:Type}(es:Array α):(l6 es.size).filterMap (es[·]?)=es:=by apply Array.ext';rw[Array.toList_filterMap,Array.toList_range];obtain⟨l⟩:=es;simp only[CU,List.getElem?_toArray];induction l with|nil=>rfl|cons x r ih=>rw[eU,CT,zf];simp only[NX,List.filterMap_map];congr 1
theorem u5.elems{S m:Nat}{es:Array (Int×aa)}(hm:m<=33)(hs:es.size=m)(he:∀(j:Nat)(e:Int×aa),es[j]?=some e->e.1=(j:Int)/\∃tk,e.2=.int (j:Int) tk):ElemsOf (jd prog w) es.toList:=by
 intro e jo;obtain⟨j,hj⟩:=lZ.mp jo;rw[jC]at hj;obtain⟨h1,tk,h2⟩:=he j e hj;have J7:j<40:=by have :=(Dh.mp hj).1;exact cw this (ax (bo hs) (ax hm ai))
 refine⟨⟨(j:Int),by rw[h2];exact wd _ _ _ _,?_⟩,by rw[h2];rfl⟩;rw[h1];exact(Tj j J7).symm
noncomputable abbrev eP(es:Array (Int×aa))(k:Nat)(tk:Tok):Array (Int×aa):=es.push ((k:Int),.int (k:Int) tk)
noncomputable abbrev EM(es:Array (Int×aa))(ep:Nat)(T:SetTable):Obj:={cls:=.type "set",dict:=none,data:=.set es ep T,slots:=#[]}
theorem Tn(hs:es.size=k):(eP es k tk).size=k+1:=by rw[Array.size_push,hs]
theorem ae'(hs:es.size=k)(hk:k<32):layNew (j_ (fk w) k) es ((jd prog w).hash (k:Int)) (.int (k:Int) tk)=(eP es k tk,ny (fk w) k,false,false):=by
 obtain⟨f1,f2,f3,_,_⟩:=AB (fk w) k hk;unfold layNew;rw[show(jd prog w).hash (k:Int)=(k:Int)from Tj k (cw hk ai),f1];simp only[f2];have hi:Pj es k ((k:Int),wN (k:Int) tk)=eP es k tk:=by unfold Pj;subst hs;simp
 rw[hi,Tn hs];unfold SetTable.orStandIn;rw[if_pos f3,f3];rfl
theorem afa(hs:es.size=k)(he:∀(j:Nat)(e:Int×aa),es[j]?=some e->e.1=(j:Int)/\∃tk,e.2=.int (j:Int) tk)(j:Nat) e(h:(eP es k tk)[j]?=some e):e.1=(j:Int)/\∃tk,e.2=.int (j:Int) tk:=by
 rw[Array.getElem?_push]at h;by_cases q:j=es.size;.rw[if_pos q]at h;rw[<-aJ h,q,hs];exact⟨rfl,tk,rfl⟩
 .rw[if_neg q]at h;exact he j e h
theorem afb{es:Array (Int×aa)}(hz:es.size=k+1)(he:∀(j:Nat)(e:Int×aa),es[j]?=some e->e.1=(j:Int)/\∃tk,e.2=.int (j:Int) tk):es.map (·.1)=(l6 (k+1)).map λ(k:Nat)=>(k:Int):=by
 apply Array.ext;.simp[hz]
 .intro j h1 h2;have EN:=h1;rw[Array.size_map]at EN;rw[OL,(he j _ (wF EN)).1,OL,Array.getElem_range]
theorem afc(hz:es.size=k+1)(he:∀(j:Nat)(e:Int×aa),es[j]?=some e->e.1=(j:Int)/\∃tk,e.2=.int (j:Int) tk)(hk:k<32)(xO:(ny (fk w) k).tooFull=true):relayAll (ny (fk w) k) es (Pl es.size)=(es,j_ (fk w) (k+1),false):=by obtain⟨_,_,_,f4,_⟩:=AB (fk w) k hk;rw[if_pos xO]at f4;obtain⟨r1,r2,r3⟩:=f4;unfold relayAll;rw[afb hz he,hz,r1];have :(l6 (k+1)).filterMap (es[·]?)=es:=hz▸ae_ _;simp only[this,hz,r2,r3,Bool.and_self,↓reduceIte]
theorem To{h:a_}(ho:h.get? S=some (EM es ep T))(e:Dn es' U (EM es ep T)=EM es' (ep+1) U):(h.update S (Dn es' U)).get? S=some (EM es' (ep+1) U):=(pI _ ho (by rw[e];rfl)).trans (congrArg some e)
theorem afd(hm:m<=32):(j_ (fk w) m).fits m=true:=by
 rcases pB m 32 with q|q;.exact(AB (fk w) m q).2.2.2.2
 .rw[ot hm q];cases fk w<;>decide+kernel
theorem afe{k:Nat}{es:Array (Int×aa)}(he:∀(j:Nat)(e:Int×aa),es[j]?=some e->e.1=(j:Int)/\∃tk,e.2=.int (j:Int) tk)(hr:Om (λe=>(jd prog w).is (k:Int) e.2) es.toList=none)(q:k<es.size):False:=by have hg:es[k]?=some es[k]:=wF q;obtain⟨_,gq,h2⟩:=he k _ hg;have :=List.findIdx?_eq_none_iff.mp hr es[k] (Array.getElem_mem_toList q);rw[h2,wd]at this;exact bZ this.symm
theorem aff(hm:m<=32)(hk:k<m\/(k=m/\m<32)){Q:Bool->aF->Prop}(X:u5 w S m s.heap)(h:∀b h' tk,s.toks<=tk->mZ S s.heap h'->u5 w S (if k<m then m else m+1) h'->Q b {s with heap:=h',toks:=tk}):av (cv prog w) A (zc S (.int (k:Int) tk)) Q E s:=by
 obtain⟨es,ep,ho,hs,he⟩:=X;have Tp:=u5.elems (prog:=prog) (w:=w) (S:=S) (ax hm ai) hs he;have D4:(jd prog w).is (k:Int) (.int (k:Int) tk)=true:=wd _ _ _ _;have Tq:(j_ (fk w) m).fits es.size=true:=by rw[hs];exact afd hm
 unfold zc;refine fT (aw ((jd prog w).pyHash (k:=(k:Int)) D4 ?_));have hb:es.size<scanBound:=by unfold y5;exact bD (bo hs) (bD hm ai)
 unfold setAddHashed setAddHashedIn;refine fT (aw (yQ (s:={s with toks:=s.toks+1}) ho rfl Tq ?_));dsimp only;rw[byScan_of (knd:=jd prog w) rfl hb Tp];simp only[↓reduceIte];unfold setAddByScan
 refine aw ?_;refine aw (wg ?_);refine aw (wpAny_setScan_of (s:={s with toks:=s.toks+1}) D4 ho rfl Tq Tp ?_);cases hr:Om (λe=>(jd prog w).is (k:Int) e.2) es.toList with
 |some j=>
  dsimp only;obtain⟨hj,Tu,_⟩:=List.findIdx?_eq_some_iff_getElem.mp hr;have hg:es[j]?=some es.toList[j]:=by rw[<-jC,cp hj]
  obtain⟨_,gq,h2⟩:=he j _ hg;have afg:j<m:=by rw[<-hs];exact(Dh.mp hg).1
  have afh:(k:Int)=(j:Int):=by
   rw[h2]at Tu;have :(j:Int)=(k:Int):=by simpa[jd,Value.isInt]using Tu
   exact this.symm
  have EO:k<m:=(bD (bo (lg afh)) afg);refine aP (aP ?_);exact h false s.heap (s.toks+1) (dI _) (ZE S s.heap) (by rw[if_pos EO];exact⟨es,ep,ho,hs,he⟩)|none=>
  have EO:¬k<m:=λq=>afe he hr (hs▸q);obtain⟨e,EP⟩:=hk.resolve_left EO;subst e;rw[ae' hs EP];rw[if_neg EO]at h;dsimp only;refine aw (show av _ _ (pure ()) _ _ _ from aP ?_);refine NS rfl (aw (oy (show hashByValue 8 (wN (k:Int) tk)=pure true from hashByValue_scannable 8 rfl) ?_));rw[if_pos rfl];have hz:=Tn (tk:=tk) hs;have AD:=afa (tk:=tk) hs he;have dN:(eP es k tk).size<=sizeLine:=by rw[hz,sk];exact cw EP ai
  refine aw (ND (s:={s with toks:=s.toks+1}) ho rfl ?_ dN);have z5:=To (es':=eP es k tk) (U:=ny (fk w) k) ho (putSet_of _ _ rfl);have Tv:=Ia s.heap S (Dn (eP es k tk) (ny (fk w) k));by_cases xO:(ny (fk w) k).tooFull=true;.refine NS (decide_eq_true xO) ?_;rw[afc hz AD EP xO];refine aw (show av _ _ (pure ()) _ _ _ from aP ?_);refine aw (ND (s:={s with heap:=s.heap.update S (Dn (eP es k tk) (ny (fk w) k)),toks:=s.toks+1}) z5 rfl ?_ dN);exact aP (aP (h true _ (s.toks+1) (dI _) (Tv.trans (Ia _ S _)) ⟨_,_,To (es':=eP es k tk) (U:=j_ (fk w) (k+1)) z5 (putSet_of _ _ rfl),hz,AD⟩))
  .refine Cn (decide_eq_false xO) ?_;have f4:=(AB (fk w) k EP).2.2.2.1;rw[if_neg xO]at f4;exact aP (aP (h true _ (s.toks+1) (dI _) Tv ⟨_,_,by rw[f4];exact z5,hz,AD⟩))
theorem afi{α:Type}:∀{l:List α}{i:Nat}(h:i<l.length),HM ([l[i]]++l.eraseIdx i) l:=by intro l;induction l with|nil=>exactλh=>absurd h (M9 _)|cons a l ih=>intro i h;cases i with|zero=>exact List.Perm.refl _|succ i=>exact(DA ..).trans (List.Perm.cons a (ih (GN h)))
theorem afj{next:Nat->Nat}{x:α}(h:l[next k%l.length]?=some x):uF next (n+1) k l out=uF next n (k+1) (l.eraseIdx (next k%l.length)) (out.push x):=(show uF next (n+1) k l out=HY (motive:=λ_=>Array α) l[next k%l.length]? out (λx=>uF next n (k+1) (l.eraseIdx (next k%l.length)) (out.push x))from by kernel_rfl).trans (by rw[h])
theorem afk next(xs:Array α):(pickOrder next xs).toList.Perm xs.toList:=by
 have key:∀(fuel k:Nat)(left:List α)(out:Array α),left.length<=fuel->(uF next fuel k left out).toList.Perm (out.toList++left):=by intro fuel;induction fuel with|zero=>intro k left out h;rw[List.length_eq_zero_iff.mp (yP.mp h),cG,show uF next 0 k ([]:List α) out=out from by kernel_rfl]|succ n ih=>intro k left out h;cases left with|nil=>rw[cG,show uF next (n+1) k ([]:List α) out=out from by kernel_rfl]|cons a l=>have dz:next k%(a::l).length<(a::l).length:=Nat.mod_lt _ (sg _);rw[afj (cp dz)];refine(ih (k+1) _ _ (by rw[List.length_eraseIdx_of_lt dz];exact uk h)).trans ?_;rw[wG,cS];exact Pd _ (afi dz)
 exact key xs.size 0 xs.toList #[] (bo eY)
theorem afl:∀m,m<=32->∀i,i<=m->Ip (l6 m) i=i:=by decide+kernel
theorem Tw:Slot "set" "__iter__" "set.__iter__":=.of (owner:="set") (n:="__iter__") (by rw[wa,v8];kernel_rfl) (by decide+kernel) (by decide+kernel) (by decide+kernel) (by first|exact .inl (by decide+kernel)|exact .inr (by decide+kernel)) (by rw[wb];kernel_rfl)
theorem afm:CL table "set.__iter__"=some Builtin.«frozenset.__iter__»:=NT (id':="frozenset.__iter__") ak rfl (by decide+kernel) ak
theorem afn a:sI "set.__iter__" ⟨[a],[]⟩:=by unfold sI;kernel_rfl
theorem xP:Slot "set_iterator" "__next__" "set_iterator.__next__":=.of (owner:="set_iterator") (n:="__next__") (by rw[wa,v8];kernel_rfl) (by decide+kernel) (by decide+kernel) (by decide+kernel) (by first|exact .inl (by decide+kernel)|exact .inr (by decide+kernel)) (by rw[wb];kernel_rfl)
theorem Tx:CL table "set_iterator.__next__"=some Builtin.«set_iterator.__next__»:=NJ ak
theorem Tz a:sI "set_iterator.__next__" ⟨[a],[]⟩:=by unfold sI;kernel_rfl
abbrev oQ(w:d5)(es:Array (Int×aa))(ep m:Nat):Obj:={cls:=.type "set",dict:=none,data:=.set es ep (j_ (fk w) m),slots:=#[]}
noncomputable abbrev lB(S slot i m ep:Nat):Obj:={cls:=.type "set_iterator",data:=.fields #[gG slot,gG i,.ref S,gG m,gG ep]}
noncomputable def slotAt(w:d5)(i:Nat):Nat:=if w.params.followText "set-order"then 0 else i
noncomputable def iE(w:d5)(S ep:Nat)(es:Array (Int×aa)):Array (Int×aa):=if w.params.followText "set-order"then pickOrder (w.params.setOrder S ep) es else es
theorem AE w S ep es:(iE w S ep es).toList.Perm es.toList:=by
 unfold iE;split;.exact afk _ _
 .exact .refl _
section
variable{es:Array (Int×aa)}
theorem AF(hm:m<=32)(hs:es.size=m):(j_ (fk w) m).fits es.size=true:=by
 rw[hs];rcases pB m 32 with q|q;.exact(AB (fk w) m q).2.2.2.2
 .have :m=32:=(ot hm q);subst this;cases fk w<;>decide+kernel
theorem TF(hm:m<=32)(hs:es.size=m)(ho:s.heap.get? S=some (oQ w es ep m)){i:Nat}(hi:i<=m){Q:Option (aa×Nat)->aF->Prop}(h:Q ((iE w S ep es)[i]?.map λe=>(e.2,slotAt w (i+1))) s):av (cv prog w) A (setNext S (slotAt w i) i ep) Q E s:=by have hf:=AF (w:=w) hm hs;unfold setNext Hj;refine aw (yQ ho rfl hf ?_);dsimp only;refine aw (aw (v9 (aP ?_)));dsimp only;have hM:(cv prog w).w.params=w.params:=rfl;rw[hM];cases hb:w.params.followText "set-order"with|true=>simp only[↓reduceIte,bne_self_eq_false,sU];unfold setWalk Hj;refine aw (aw (yQ ho rfl hf ?_));dsimp only;refine aw (aw (v9 (aP ?_)));dsimp only;rw[hM,hb];simp only[↓reduceIte];refine aw (v9 (aP (aP ?_)));simp only[iE,slotAt,hb,↓reduceIte]at h⊢;exact h|false=>
 have hl:fk w=true:=by simp[fk,hb]
 have e1:slotAt w i=i:=by simp[slotAt,hb]
 have e2:slotAt w (i+1)=i+1:=by simp[slotAt,hb]
 have e3:iE w S ep es=es:=by simp[iE,hb]
 rw[e2,e3]at h;rw[hl,e1];refine lb (λi0=>absurd i0 ai) (λ_=>?_);refine lb (λi0=>absurd (show false=true from i0) ai) (λ_=>?_);refine aw (show av _ _ (pure ()) _ _ _ from aP ?_);refine aP ?_;show Q (match es[Ip (l6 m) i]?,(l6 m)[Ip (l6 m) i]? with|some (_,x),some j=>some (x,j+1)|_,_=>none) s;rw[afl m hm i hi];rcases pB i m with q|q
 .have h1:es[i]?=some es[i]:=wF (by omega);have h2:(l6 m)[i]?=some i:=by simp[q]
  rw[h1]at h;rw[h1,h2];exact h
 .have h1:es[i]?=none:=zw (ax (bo hs) q);rw[h1]at h;rw[h1];exact h
end
section
variable{S I m ep:Nat}
theorem afo(hm:m<=32)(hs:es.size=m)(ho:s.heap.get? S=some (oQ w es ep m)){i:Nat}(hI:s.heap.get? I=some (lB S (slotAt w i) i m ep)){e:Int×aa}(he:(iE w S ep es)[i]?=some e)(hi:i<=m)(tA:S≠I){Q:Option aa->aF->Prop}(h:∀h',h'.get? I=some (lB S (slotAt w (i+1)) (i+1) m ep)->mZ I s.heap h'->Q (some e.2) {s with heap:=h'}):av (cv prog w) A (jU (.ref I)) Q E s:=by have hT:s.TypeIs (.ref I) "set_iterator":=⟨_,hI,rfl⟩;have hf:=AF (w:=w) hm hs;unfold jU;refine aw (yX (Nf (name:=qR "__next__") hT xP (sj xP hT Tx ?_ (Tz _))));unfold Builtin.«set_iterator.__next__»;show av _ _ (fieldsOf (.ref I)>>=_) _ _ s;refine aw (NU hI rfl ?_);delta gG;dsimp only;refine aw (G0 ho rfl hf ?_);rw[hs];have gu:((m:Int)!=(m:Int))=false:=bne_self_eq_false _;rw[gu];simp only[sU,↓reduceIte,fU];refine aw (TF hm hs ho hi ?_);rw[he];simp only[Dj];refine aw (Ck hI (by simp) λh1 e1 s1=>?_);refine aw (Ck e1 (by simp) λh2 e2 s2=>?_);refine aP ⟨_,rfl,aP (h h2 ?_ (s1.trans s2))⟩;rw[e2];simp[lB,gG]
theorem afp(hh:A.handled=none)(hm:m<=32)(hs:es.size=m)(ho:s.heap.get? S=some (oQ w es ep m)){i:Nat}(hI:s.heap.get? I=some (lB S (slotAt w i) i m ep))(he:(iE w S ep es)[i]?=none)(hi:i<=m)(tA:S≠I){Q:Option aa->aF->Prop}(h:∀h',C4 I s.heap h'->Q none {s with heap:=h'}):av (cv prog w) A (jU (.ref I)) Q E s:=by have hT:s.TypeIs (.ref I) "set_iterator":=⟨_,hI,rfl⟩;have hf:=AF (w:=w) hm hs;unfold jU;refine aw (yX (Nf (name:=qR "__next__") hT xP (sj xP hT Tx ?_ (Tz _))));unfold Builtin.«set_iterator.__next__»;show av _ _ (fieldsOf (.ref I)>>=_) _ _ s;refine aw (NU hI rfl ?_);delta gG;dsimp only;refine aw (G0 ho rfl hf ?_);rw[hs];have gu:((m:Int)!=(m:Int))=false:=bne_self_eq_false _;rw[gu];simp only[sU,↓reduceIte,fU];refine aw (TF hm hs ho hi ?_);rw[he];simp only[Option.map_none];refine aw (Ck hI (by simp) λh1 e1 s1=>?_);show av _ _ (newExc (.type "StopIteration") []>>=_) _ _ _;refine aw ?_;delta newExc newTuple;refine aw (si ?_ (by size_fits));refine aw (m:=NV _ _) (oy (a:=l7) (by first|rfl|(simp only[NV];rfl)) ?_);refine si ?_ (by size_fits);delta raiseNew;dsimp only;refine aw (wpAny_handled ?_);rw[show A.in1.handled=none from hh];refine aw (aP (Cw ?_));refine aw (Cm (T:="StopIteration") (b:=true) ⟨_,gj _ rfl,rfl⟩ isSubtype_stop ?_);exact aP (h _ ((s1.extBut.push _).push _))
theorem TG:Slot "set_iterator" "__iter__" "set_iterator.__iter__":=.of (owner:="set_iterator") (n:="__iter__") (by rw[wa,v8];kernel_rfl) (by decide+kernel) (by decide+kernel) (by decide+kernel) (by first|exact .inl (by decide+kernel)|exact .inr (by decide+kernel)) (by rw[wb];kernel_rfl)
theorem afq:CL table "set_iterator.__iter__"=some Builtin.«dict_keyiterator.__iter__»:=NT (id':="dict_keyiterator.__iter__") ak rfl (by decide+kernel) ak
theorem afr a:sI "set_iterator.__iter__" ⟨[a],[]⟩:=by unfold sI;kernel_rfl
theorem afs(hI:s.heap.get? I=some (lB S (slotAt w i) i m ep)){Q:aa->aF->Prop}(h:Q (.ref I) s):av (cv prog w) A (wq (.ref I)) Q E s:=by have hT:s.TypeIs (.ref I) "set_iterator":=⟨_,hI,rfl⟩;refine NF hT TG (sj TG hT afq ?_ (afr _));exact aP ⟨_,rfl,_,_,hT,xP.lookup,h⟩
theorem aft(hh:A.handled=none)(hm:m<=32)(hs:es.size=m)(tA:S≠I):Walks prog w A I [I,S] [I] m (λi v=>∃e,(iE w S ep es)[i]?=some e/\v=e.2) (λi h=>h.get? I=some (lB S (slotAt w i) i m ep)/\h.get? S=some (oQ w es ep m)/\i<=m)where
 sub:=λb hb=>by simp at hb;simp[hb]
 frame:=λ_ _ _ st hk=>⟨hk I (by simp) _ st.1,hk S (by simp) _ st.2.1,st.2.2⟩;item:=λi s Q E hi st hQ=>by
  have dN:(iE w S ep es).size=m:=by have :=(AE w S ep es).length_eq;rw[eY,eY]at this;omega
  have he:(iE w S ep es)[i]?=some ((iE w S ep es)[i]'(cw hi (bo dN.symm))):=wF (cw hi (bo dN.symm));refine afo hm hs st.2.1 st.1 he (by omega) tA λh' e' sb=>?_;exact hQ _ h' s.toks ⟨_,he,rfl⟩ ⟨e',by rw[sb.2 S tA];exact st.2.1,hi⟩ λb o hb e=>by rw[sb.2 b (λq=>hb (by simp[q]))];exact e
 done:=λs Q E st hQ=>by
  have dN:(iE w S ep es).size=m:=by have :=(AE w S ep es).length_eq;rw[eY,eY]at this;omega
  refine afp hh hm hs st.2.1 st.1 (zw (bo dN)) (br _) tA λh' JE=>hQ h' s.toks λb o hb e=>JE b o (λh=>hb (by simp[h])) e
 self:=λ_ _ _ _ st hQ=>afs st.1 hQ
end
section
variable{S I m ep:Nat}
theorem afu(hm:m<=32)(hs:es.size=m)(ho:s.heap.get? S=some (oQ w es ep m)){Q:Bool->aF->Prop}(h:∀b tk,s.toks<=tk->Q b {s with toks:=tk}):av (cv prog w) A (Dk (.ref S)) Q E s:=by
 have hT:s.TypeIs (.ref S) "set":=⟨_,ho,rfl⟩;have hf:=AF (w:=w) hm hs;unfold Dk;refine aw (yR hT PySem.F.slot_set_len.lookup ?_);generalize Ar:("set.__len__":String)=JR;wp_delta;rw[show splitId JR=some ("set","__len__")from by subst Ar;decide+kernel];subst Ar;refine aw (Cm (T:="set") (b:=true) hT (by rw[wb];kernel_rfl) ?_);refine lb (λi0=>absurd i0 ai) (λ_=>?_);refine lb (λi0=>?_) (λ_=>?_);.exact aw (yY hT (aP (h _ s.toks (br _))))
 refine lb (λ_=>?_) (λi0=>absurd rfl i0);refine aw (wg ?_);refine aw (yX (call_len_set ho ⟨rfl,rfl,rfl⟩ rfl hf (ZW hm hs) ?_));have JS:zy ((es.size:Int).toNat)=false:=by simp[zy,bk];exact ax (bo hs) (ax hm ai)
 refine aw (m:=asInt? _) (aP ?_);exact lb (λi0=>absurd i0 (by rw[JS];decide)) (λ_=>aP (h _ _ (by show s.toks<=s.toks+1+1;exact Nat.le_add_right_of_le (dI _))))
theorem afv(hm:m<=32)(hs:es.size=m)(ho:s.heap.get? S=some (oQ w es ep m)){Q:aa->aF->Prop}(h:Q (.ref s.heap.objs.size) {s with heap:=s.heap.push (lB S (slotAt w 0) 0 m ep)}):av (cv prog w) A (wq (.ref S)) Q E s:=by
 have hT:s.TypeIs (.ref S) "set":=⟨_,ho,rfl⟩;have hf:=AF (w:=w) hm hs;refine NF hT Tw (sj Tw hT afm ?_ (afn _));unfold Builtin.«frozenset.__iter__»ZH slotArgs;simp only[List.isEmpty_nil,zv,sU,↓reduceIte,bind_assoc,zl,bne_self_eq_false];unfold ZI ZJ setDrawn Hj;refine aw (aP ?_);try dsimp only
 refine aw (aP ?_);refine aw (aw (G0 ho rfl hf (aP ?_)));refine aw (aw (yQ ho rfl hf ?_));dsimp only;refine aw (aw (v9 (aP (aP ?_))));dsimp only;refine lb (λi0=>?_) (λ_=>?_);.have :(!(cv prog w).w.params.followText "set-order"&&false)=true:=i0;rw[zu]at this;cases this
 refine aw (aP ?_);unfold setEpoch;refine aw (aw (yQ ho rfl hf (aP ?_)));refine aw (si (aP ⟨_,rfl,"set_iterator",_,⟨_,gj _ rfl,rfl⟩,xP.lookup,?_⟩));have e0:slotAt w 0=0:=by unfold slotAt;split<;>rfl
 rw[e0]at h;rw[hs];exact h
theorem afw(hh:A.handled=none)(hm:m<=32)(hs:es.size=m)(ho:s.heap.get? S=some (oQ w es ep m)){Q:List aa->aF->Prop}(hQ:∀h' tk acc,(∀b o,s.heap.get? b=some o->h'.get? b=some o)->ItemsOf (λi v=>∃e,(iE w S ep es)[i]?=some e/\v=e.2) acc m->Q acc.toList {s with heap:=h',toks:=tk}):av (cv prog w) A (collect (.ref S)) Q E s:=by
 have hT:∀h' tk,h'.get? S=some (oQ w es ep m)->Py {s with heap:=h',toks:=tk} (.ref S) "set":=λh' tk e=>⟨_,e,rfl⟩;have Ew:S<s.heap.objs.size:=eW ho;unfold collect;refine aw (NR (uo entry_proto_collect' ?_));rw[zD PySem.F.plain_proto_collect _];show av _ A.in1 (G6 []>>=λl=>again (.builtin "list.__iadd__" ⟨[l,.ref S],[]⟩)) _ _ s;refine aw (si ?_);refine aP ⟨uq OQ _,uo PySem.F.entry_list_iadd ?_⟩;rw[zD OQ _];show av _ A.in1 (wK (.ref s.heap.objs.size) (.ref S) (.ref s.heap.objs.size)) _ _ _;unfold wK;have ER:(s.heap.push {cls:=.type "list",data:=.seq ([]:List aa).toArray}).get? S=some (oQ w es ep m):=d6 _ ho;refine aw (yY (hT _ s.toks ER) ?_);have gu:s.heap.objs.size≠S:=v5 Ew;have h1:Dl (.ref s.heap.objs.size) (.ref S)=false:=by simp[Dl,gu]
 have h2:(pJ "set"==pJ "list")=false:=by decide
 have h3:(pJ "set"==pJ "tuple")=false:=by decide
 rw[h1,h2,h3];refine Cn rfl ?_;refine aw (afv hm hs ER ?_);have dN:(s.heap.push {cls:=.type "list",data:=.seq ([]:List aa).toArray}).objs.size=s.heap.objs.size+1:=C3 ..;refine aw (fT (afu hm hs (d6 _ ER) λb tk AA=>?_));have W:=(aft (prog:=prog) (w:=w) (A:=A.in1) (S:=S) (I:=(s.heap.push {cls:=.type "list",data:=.seq ([]:List aa).toArray}).objs.size) (ep:=ep) (es:=es) (by simpa using hh) hm hs (by rw[dN];exact gh (se Ew))).toS;have xH:s.heap.objs.size∉[(s.heap.push {cls:=.type "list",data:=.seq ([]:List aa).toArray}).objs.size,S]:=by rw[dN];simp only[bX,eH,or_false,not_or];exact ZX gu
 have afx:(s.heap.push {cls:=.type "list",data:=.seq ([]:List aa).toArray}).get? s.heap.objs.size=some {cls:=.type "list",data:=.seq #[]}:=gj _ rfl;have J8:=d6 (lB S (slotAt w 0) 0 m ep) afx;have TH:((s.heap.push {cls:=.type "list",data:=.seq ([]:List aa).toArray}).push (lB S (slotAt w 0) 0 m ep)).get? (s.heap.push {cls:=.type "list",data:=.seq ([]:List aa).toArray}).objs.size=some (lB S (slotAt w 0) 0 m ep):=gj _ rfl;have tB:=d6 (lB S (slotAt w 0) 0 m ep) ER;have key:∀(h:a_)(u0 tk:Nat),h.get? (s.heap.push {cls:=.type "list",data:=.seq ([]:List aa).toArray}).objs.size=some (lB S (slotAt w 0) 0 m ep)->h.get? S=some (oQ w es ep m)->(∀b o,s.heap.get? b=some o->h.get? b=some o)->h.get? s.heap.objs.size=some {cls:=.type "list",data:=.seq #[] u0}->je (cv prog w) A (.builtin "list.extend.loop" ⟨[.ref s.heap.objs.size,.ref (s.heap.push {cls:=.type "list",data:=.seq ([]:List aa).toArray}).objs.size,.ref s.heap.objs.size],[]⟩) (λr s'=>match r with|.ok (.ret v)=>av (cv prog w) A (match v with|.ref a=>(do let __do_lift<-load a;match __do_lift.data with|.seq xs _=>pure xs.toList|_=>unsupported "internal:collect")|_=>unsupported "internal:collect") Q E s'|.ok _=>False|.error e=>E e s') {s with heap:=h,toks:=tk}:=by
  intro h u0 tk hi hS hk hL;refine Nl W (by rw[sk];exact ax hm ai) s.heap.objs.size xH (.ref s.heap.objs.size) m 0 _ #[] u0 rfl (dC _) ⟨hi,hS,dC _⟩ hL (PB _) λs' Au c' TJ rq Av=>?_;rw[PC TJ];refine aw (sm rq (aP ?_));refine hQ _ _ Au (λb o e=>TJ.heap b o (λxI=>?_) (hk b o e)) Av;have dz:b<s.heap.objs.size:=eW e;simp only[bX,eH,or_false]at xI;have afy:b=s.heap.objs.size\/b=s.heap.objs.size+1:=xI.imp id λq=>q.trans dN;rcases afy with q|q;.rw[q]at dz;exact absurd dz (mU _)
  .rw[q]at dz;exact absurd dz (mV.mpr (dI _))
 have kp:∀b o,s.heap.get? b=some o->((s.heap.push {cls:=.type "list",data:=.seq ([]:List aa).toArray}).push (lB S (slotAt w 0) 0 m ep)).get? b=some o:=λb o e=>d6 _ (d6 _ e);refine lb (λ_=>?_) (λ_=>aP ⟨uq OO _,key _ 0 _ TH tB kp J8⟩);refine aw (wg ?_);refine aw ?_;show av _ _ (y4 s.heap.objs.size (·.push .none)>>=λ_=>y4 s.heap.objs.size (·.pop)) _ _ _;refine aw (yT J8 rfl ?_);have u4:=pI (jX (·.push l7)) J8 rfl;refine yT (hz:=by seq_fits) u4 rfl ?_;have JT:=pI (jX (·.pop)) u4 rfl;have mh:∀b o,b≠s.heap.objs.size->((s.heap.push {cls:=.type "list",data:=.seq ([]:List aa).toArray}).push (lB S (slotAt w 0) 0 m ep)).get? b=some o->_:=λb o hb e=>(sS _ (jX (·.pop)) (hY hb)).trans ((sS _ (jX (·.push l7)) (hY hb)).trans e);exact aP ⟨uq OO _,key _ _ _ (mh _ _ (by rw[dN];exact GR _) TH) (mh _ _ (hY gu) tB) (λb o e=>mh b o (gh (eW e)) (kp b o e)) JT⟩
end
section
variable{S I m ep:Nat}{es:Array (Int×aa)}
theorem intsAre_of{l:List (Int×aa)}:(∀e∈l,∃tk,e.2=.int e.1 tk)->zJ (l.map (·.2)) (l.map (·.1)):=by induction l with|nil=>exactλ_=>.nil|cons e l ih=>intro h;obtain⟨tk,he⟩:=h e (.head _);rw[ef,ef,he];exact .cons _ _ (ih λx hx=>h x (.tail _ hx))
theorem afz(x:zJ l ns):aQ h al (ns.map .int) l:=by induction x with|nil=>exact .nil|cons n t r ih=>exact .cons (.int _ _) ih
theorem afA(hs:es.size=m)(he:∀(j:Nat)(e:Int×aa),es[j]?=some e->e.1=(j:Int)/\∃tk,e.2=.int (j:Int) tk):es.toList.map (·.1)=(cA m).map λ(k:Nat)=>(k:Int):=by
 apply Hy;intro i;rw[cQ,cQ,jC];rcases pB i m with q|q;.have h1:=wF (hs▸q:i<es.size);rw[h1,mX q];exact congrArg some (he i _ h1).1
 .rw[zw (hs▸q),l0 (by rw[fe];exact q)];rfl
theorem afB(dN:(iE w S ep es).size=m)(he:∀(j:Nat)(e:Int×aa),es[j]?=some e->e.1=(j:Int)/\∃tk,e.2=.int (j:Int) tk)(hit:ItemsOf (λi v=>∃e,(iE w S ep es)[i]?=some e/\v=e.2) acc m):zJ acc.toList ((iE w S ep es).toList.map (·.1)):=by
 have Av:acc.toList=(iE w S ep es).toList.map (·.2):=by apply Hy;intro i;rw[cQ,jC,jC];cases h1:acc[i]? with|some v=>obtain⟨e,q1,q2⟩:=hit.2 i v h1;rw[q1,q2];rfl|none=>rw[zw (ax (bo dN) (ax (bo hit.1.symm) (Array.getElem?_eq_none_iff.mp h1)))];rfl
 rw[Av];refine intsAre_of λe afC=>?_;obtain⟨j,hj⟩:=lZ.mp ((AE w S ep es).mem_iff.mp afC);rw[jC]at hj;obtain⟨q1,tk,q2⟩:=he j e hj;exact⟨tk,by rw[q2,q1]⟩
theorem afD(hh:A.handled=none)(hm:m<=32)(hs:es.size=m)(ho:s.heap.get? S=some (oQ w es ep m))(he:∀(j:Nat)(e:Int×aa),es[j]?=some e->e.1=(j:Int)/\∃tk,e.2=.int (j:Int) tk){Q:aa->aF->Prop}(hQ:∀h' tk x out n,(∀b o,s.heap.get? b=some o->h'.get? b=some o)->s.heap.get? x=none->h'.get? x=some {cls:=.type "list",dict:=none,data:=.seq out n,slots:=#[]}->zJ out.toList ((cA m).map λ(k:Nat)=>(k:Int))->Q (.ref x) {s with heap:=h',toks:=tk}):av (cv prog w) A (call (.builtin "sorted") [.ref S]) Q E s:=by
 refine Calls.call_function_entry kind_sorted plain_sorted entry_sorted (args_sorted1 _) ?_;unfold Builtin.«sorted»;refine aw (m:=checkCount "sorted" 1 1 _) (aP ?_);refine aw (afw (by simpa using hh) hm hs ho λh' tk acc kp hit=>?_);refine aw (wpAny_newList ?_ (by rw[eY,hit.1,sk];exact ax hm ai));have dN:(iE w S ep es).size=m:=by have :=(AE w S ep es).length_eq;rw[eY,eY]at this;omega
 have hI:zJ acc.toList ((iE w S ep es).toList.map (·.1)):=afB dN he hit;have J9:s.heap.get? h'.objs.size=none:=by cases e:s.heap.get? h'.objs.size with|none=>rfl|some o=>exact absurd (eW (kp _ _ e)) (mU _)
 have J_:(h'.push (seqObj "list" acc.toList.toArray 0)).get? h'.objs.size=some (seqObj "list" acc.toList.toArray 0):=gj _ rfl;have afE:acc.toList.length<64:=by rw[eY,hit.1];exact bD hm ai
 refine aw (fT (sj slot_list_sort ⟨_,J_,rfl⟩ entry_list_sort (list_sort_tree J_ hI afE λout afF a1 a2 a3=>⟨_,rfl,?_⟩) (args_list_sort _)));obtain⟨n',hx⟩:=sortedHeap_at (out:=out) J_;have ic:afF=(cA m).map λ(k:Nat)=>(k:Int):=by refine List.Perm.eq_of_pairwise (le:=(·<=·)) (λa b _ _ h1 h2=>Int.le_antisymm h1 h2) a3 ?_ (a2.trans (((AE w S ep es).map _).trans (by rw[afA hs he])));rw[zi];exact List.pairwise_lt_range.imp λh=>gI.mpr (fJ h)
 subst ic;refine aP ⟨_,rfl,?_⟩;refine hQ _ tk h'.objs.size out n' (λb o e=>?_) J9 hx a1;have dz:=eW (kp b o e);rw[sortedHeap_old (gh dz) (by rw[size_push'];exact se dz)];exact d6 _ (kp b o e)
end
theorem afG l:∀{xs:List Int}{r:List aa},qZ l=some xs->aQ h al l r->r.length=xs.length/\∀(i:Nat)(v:aa),r[i]?=some v->∃x t,xs[i]?=some x/\v=.int x t:=by induction l with|nil=>exactλe k=>k.jj (aJ e▸⟨rfl,λi v h=>aE (sQ.symm.trans h)⟩)|cons a l ih=>intro xs r e k;refine k.fA λp r ka kr=>mc (show a.iB (λx=>(qZ l).map (x::·)) none=some xs from e) ka λx t e=>?_;obtain⟨jm,jn,e⟩:=map_some e;have y:=ih jn kr;refine e▸⟨congrArg (·+1) y.1,λi v hv=>?_⟩;cases i with|zero=>exact⟨x,t,rfl,(aJ hv).symm⟩|succ i=>exact y.2 i v hv
theorem Ka(fC:oK ns=true) i:dW (ns.take i)=(cA (dW (ns.take i)).length).map (λ(k:Nat)=>(k:Int))/\(dW (ns.take i)).length<=32:=by
 unfold oK at fC;simp only[iV,beq_iff_eq,decide_eq_true_eq]at fC;obtain⟨⟨h1,h2⟩,_⟩:=fC;have pre:∀(l acc:List Int),acc<+:l.foldl (λacc x=>if acc.any (·==x)then acc else acc++[x]) acc:=by intro l;induction l with|nil=>intro acc;exact Og|cons x r ih=>
  intro acc;rw[zm];refine ZM ?_ (ih _);split;.exact Og
  .exact List.prefix_append ..
 have hp:dW (ns.take i)<+:dW ns:=by have :=pre (ns.drop i) (dW (ns.take i));unfold dW at this⊢;rw[<-qL,jB]at this;exact this
 have hle:=hp.length_le;refine⟨?_,ax hle h2⟩;have e:=List.prefix_iff_eq_take.mp hp;have EN:dW ns=(cA (dW ns).length).map (λ(k:Nat)=>(k:Int)):=h1;rw[EN,<-zo,List.take_range,sf hle]at e;exact e
theorem afH(f1:L=(cA L.length).map λ(k:Nat)=>(k:Int))(f3:L'=(cA L'.length).map λ(k:Nat)=>(k:Int))(f4:L'.length<=32)(tD:L'=s7 L x):∃k:Nat,x=(k:Int)/\(k<L.length/\L'.length=L.length\/k=L.length/\L.length<32/\L'.length=L.length+1):=by
 unfold s7 at tD;by_cases ha:L.any (·==x)=true;.rw[if_pos ha]at tD;obtain⟨y,hy,he⟩:=zj.mp ha;have afI:y=x:=beq_iff_eq.mp he;rw[f1]at hy;obtain⟨k,hk,r⟩:=dS.mp hy;exact⟨k,afI.symm.trans r.symm,.inl ⟨oA.mp hk,by rw[tD]⟩⟩
 .rw[if_neg ha]at tD;have xQ:L'.length=L.length+1:=by rw[tD];exact aX
  have TK:L'[L.length]?=some x:=by rw[tD];exact lX
  rw[f3,cQ,mX (sd (eR _) xQ.symm)]at TK;exact⟨L.length,(aJ TK).symm,.inr ⟨rfl,cw (sd (eR _) xQ.symm) f4,xQ⟩⟩
theorem afJ A E s al u fs a items l ns(hh:A.handled=none)(R:SR c s.heap al u fs)(hl:s.heap.IsList a items)(k:aQ s.heap al l items.toList)(hx:qZ l=some ns)(fC:oK ns=true):av c.M A (call (.type "set") [.ref a]) (λv cq=>av c.M A (call (.builtin "sorted") [v]) (PQ c s al fs RV (.ok (.ref u.length)) (u++[.list ((eC ns).map .int)])) E cq) E s:=by
 obtain⟨g1,g2⟩:=afG l hx k;have dN:items.size=ns.length:=by rw[<-eY];exact g1
 refine Th hh hl (λi h=>u5 c.w s.heap.objs.size (dW (ns.take i)).length h) (λi h h' x e=>?_) (λh e=>?_) (λA' i v s' Q E' hi hv X hQ=>?_) λh' tk hS kp=>?_;.obtain⟨es,ep,ho,r⟩:=x;exact⟨es,ep,e _ ho,r⟩
 .refine⟨#[],0,?_,rfl,λj e h=>by simp at h⟩;rw[e];have :(SetTable.fresh 0 0 (fk c.w))=j_ (fk c.w) 0:=rfl;show some (nu c.w)=some _;unfold nu;rw[this];rfl
 .obtain⟨x,t,Q4,rfl⟩:=g2 i v (by rw[jC];exact hv);have ht:ns.take (i+1)=ns.take i++[x]:=by rw[Hx,Q4];rfl
  obtain⟨f1,f2⟩:=Ka fC i;obtain⟨f3,f4⟩:=Ka fC (i+1);have tD:dW (ns.take (i+1))=s7 (dW (ns.take i)) x:=by rw[ht,J6]
  replace X:u5 c.w s.heap.objs.size (dW (ns.take i)).length s'.heap:=X;obtain⟨k,r,hk⟩:=afH f1 f3 f4 tD;subst r;refine aff f2 (hk.imp (·.1) λq=>⟨q.1,q.2.1⟩) X λb h' tk AA sb X'=>hQ b h' tk AA sb (show u5 c.w s.heap.objs.size (dW (ns.take (i+1))).length h' from ?_);rcases hk with q|q;.rw[if_pos q.1]at X';rw[q.2];exact X'
  .rw[if_neg (GS (bo q.1.symm))]at X';rw[q.2.2];exact X'
 .obtain⟨es,ep,ho,hs,he⟩:=hS;rw[show ns.take items.size=ns by rw[dN,eV]]at ho hs;obtain⟨f1,f2⟩:=Ka fC ns.length;rw[eV]at f1 f2;have hk:∀b o,s.heap.get? b=some o->h'.get? b=some o:=λb o e=>kp b o (eW e) e;refine afD (s:={s with heap:=h',toks:=tk}) hh f2 hs ho he λh2 afK x out n afL J9 afM hi=>?_;have afN:s.heap.get? x=none:=by cases e:s.heap.get? x with|none=>rfl|some o=>have :=hk _ _ e;rw[J9]at this;cases this
  have P:=JV (tk:=afK) (l:=(eC ns).map .int) (items:=out) R (λb o e=>afL b o (hk b o e)) afN afM (by rw[<-f1]at hi;exact afz hi);exact P
theorem afO c:Ey c:=⟨afJ,ae9⟩
abbrev KT α:=Rs α->List MO->Prop
def gT(x:pN α)(k:KT α):Prop:=aU x (λp=>k p.1 p.2) False
def bh(k:KT γ)(f:α->List MO->Prop):KT α:=λr u=>Rs.casesOn (motive:=λ_=>Prop) r (λa=>f a u) λi=>k (.de i) u
structure Z where
 s:aF
 al:List aj
 fs:Fs
abbrev Sr(c:aR)(z:Z)(u:List MO):Prop:=SR c z.s.heap z.al u z.fs
structure Nx(z z':Z):Prop where
 T:a8 z.s.heap z.al (z.fs.map (·.1)) z'.s.heap z'.al
 m:cW z.s z'.s
 f:z'.fs=z.fs
theorem Nx.refl z:Nx z z:=⟨.refl ..,.refl _,rfl⟩
theorem Nx.trans(a:Nx z z')(b:Nx z' z''):Nx z z'':=⟨a.T.trans (a.f▸b.T),a.m.trans b.m,b.f.trans a.f⟩
abbrev AG(α β:Type):=α->List aj->a_->β->Prop
abbrev SP:=aF->Prop
inductive bG(c:aR)(z:Z){α β:Type}(Rel:AG α β)(k:KT α)(q:β):SP|mk(v:α)(u:List MO)(z':Z)(N:Nx z z')(R:Sr c z' u)(r:Rel v z'.al z'.s.heap q)(h:k (.ok v) u):bG c z Rel k q z'.s
inductive bA(c:aR)(z:Z){α:Type}(k:KT α):aa->SP|mk(i a d:Nat)(u:List MO)(z':Z)(N:Nx z z')(R:Sr c z' u)(ea:z'.al[i]?=some a)(ed:u[i]?=some (.exc d))(h:k (.de i) u):bA c z k (.ref a) z'.s
structure G where
 A:dR
 ag:Env
 L:aj
 rest:Fs
 outer:List Env
structure Ok(c:aR)(n:Nat)(hd:Option Nat)(g:G)(Y:Loc)(z:Z)(u:List MO):Prop where
 fs:z.fs=(g.L,Y.vars)::g.rest
 C:Cx c n hd g.A z.al z.fs
 E:dm c g.ag z.al Y g.L
 R:Sr c z u
section
variable{c:aR}{z aN au:Z}{Rel:AG α β}
theorem Ok.nx(O:Ok c n hd g Y z u)(N:Nx z au)(R:Sr c au aD):Ok c n hd g Y au aD:=⟨N.f.trans O.fs,N.f▸O.C.at N.T.at,O.E.at N.T.at,R⟩
theorem Ok.R'(O:Ok c n hd g Y z u):SR c z.s.heap z.al u ((g.L,Y.vars)::g.rest):=O.fs▸O.R
theorem Ok.less(O:Ok c (n+1) hd g Y z u):Ok c n hd g Y z u:=⟨O.fs,⟨Nat.lt_of_succ_lt O.C.depth,bD (k_ (r_ _ (dI n)) _) O.C.units,O.C.handled,O.C.frames,O.C.tab,O.C.guards⟩,O.E,O.R⟩
theorem Ok.U(O:Ok c (n+1) hd g Y z u):g.A.units+8<cLine:=bD (k_ (GL 8 (sg n)) _) O.C.units
theorem PQ.post(y:PQ c z.s z.al z.fs Rel r u q s')(h:k r u):bG c z Rel k q s':=by cases r with|ok v=>obtain⟨aT,R,T,m,r⟩:=y;exact .mk v u ⟨s',aT,z.fs⟩ ⟨T,m,rfl⟩ R r h|de i=>exact y.elim
theorem PE.post{r:Rs α}(y:PE c z.s z.al z.fs r u q s')(h:k r u):bA c z k q s':=by cases r with|ok v=>exact y.elim|de i=>obtain⟨aT,a,R,T,m,e,ea,d,ed⟩:=y;exact e▸.mk i a d u ⟨s',aT,z.fs⟩ ⟨T,m,rfl⟩ R ea ed h
theorem ET(h:gT x k)(H:∀r aM,x=some (r,aM)->av M A t (PQ c z.s z.al z.fs Rel r aM) (PE c z.s z.al z.fs r aM) z.s):av M A t (bG c z Rel k) (bA c z k) z.s:=by cases x with|none=>exact h.elim|some p=>exact b_ (H p.1 p.2 rfl) (λ_ _ y=>y.post h) λ_ _ y=>y.post h
theorem bG.gK(N:Nx aN z)(y:bG c z Rel k q s'):bG c aN Rel k q s':=by obtain⟨v,u,z',N',R,r,h⟩:=y;exact .mk v u z' (N.trans N') R r h
theorem bA.gK(N:Nx aN z)(y:bA c z k q s'):bA c aN k q s':=by obtain⟨i,a,d,u,z',N',R,ea,ed,h⟩:=y;exact .mk i a d u z' (N.trans N') R ea ed h
theorem gK(N:Nx aN z)(h:av M A t (bG c z Rel k) (bA c z k) s):av M A t (bG c aN Rel k) (bA c aN k) s:=b_ h (λ_ _=>bG.gK N) λ_ _=>bA.gK N
theorem Ok.post(O:Ok c n hd g Y z u)(N:Nx aN z){k:KT α}{v:α}{q:β}(r:Rel v z.al z.s.heap q)(h:k (.ok v) u):bG c aN Rel k q z.s:=.mk v u z N O.R r h
theorem Ok.iF(O:Ok c n hd g Y z u)(N:Nx aN z){k:KT α}{v:α}{q:β}{tk:Nat}(r:Rel v z.al z.s.heap q)(h:k (.ok v) u):bG c aN Rel k q {z.s with toks:=tk}:=.mk v u ⟨{z.s with toks:=tk},z.al,z.fs⟩ (N.trans ⟨.refl ..,⟨rfl,rfl,rfl⟩,rfl⟩) O.R r h
def Tr(c:aR)(n:Nat)(hd:Option Nat)(Y:Loc)(u:List MO){α β:Type}(Rel:AG α β)(t:Env->Sem β)(k:KT α):Prop:=∀(g:G)(z:Z),Ok c n hd g Y z u->av c.M g.A (t g.ag) (bG c z Rel k) (bA c z k) z.s
theorem seq{k:KT γ}{Q:β->SP}(N:Nx aN z)(O:Ok c n hd g Y z u)(h:Tr c n hd Y u Rel t (bh k f))(hk:∀a aD au q,Nx z au->Nx aN au->Ok c n hd g Y au aD->Rel a au.al au.s.heap q->f a aD->Q q au.s):av c.M g.A (t g.ag) Q (bA c aN k) z.s:=b_ (h g z O) (λq s' y=>by obtain⟨v,aD,au,N',R,r,h⟩:=y;exact hk v aD au q N' (N.trans N') (O.nx N' R) r h) λq s' y=>by obtain⟨i,a,d,aM,z',N',R,ea,ed,h⟩:=y;exact .mk i a d aM z' (N.trans N') R ea ed h
end
structure eE where
 e:aq->Loc->List MO->KT V->Prop
 t:aq->Loc->List MO->KT Bool->Prop
 x:List bj->Loc->List MO->(Rs Fl->Loc->List MO->Prop)->Prop
 c:V->List V->List MO->KT V->Prop
abbrev EZ:=aq->Loc->List MO->KT V->Prop
abbrev TZ:=aq->Loc->List MO->KT Bool->Prop
abbrev Te(c:aR)(n:Nat)(hd:Option Nat)(Y:Loc)(u:List MO)(e:aq)(k:KT V):Prop:=Tr c n hd Y u RV (λag=>eval e ag) k
abbrev Tt(c:aR)(n:Nat)(hd:Option Nat)(Y:Loc)(u:List MO)(e:aq)(k:KT Bool):Prop:=Tr c n hd Y u RB (λag=>za e ag (eval e ag)) k
def bp(c:aR)(n:Nat)(hd:Option Nat)(ev:EZ):Prop:=∀e Y u k,ev e Y u k->Te c n hd Y u e k
def fq(c:aR)(n:Nat)(hd:Option Nat)(ev:TZ):Prop:=∀e Y u k,ev e Y u k->Tt c n hd Y u e k
def oR(ev:EZ)(es:List aq):Loc->List MO->KT (List V)->Prop:=qN (motive:=λ_=>Loc->List MO->KT (List V)->Prop) (λ_ u k=>k (.ok []) u) (λe _ ih Y u k=>if dk e then False else ev e Y u (bh k λv u=>ih Y u (bh k λvs u=>k (.ok (v::vs)) u))) es
def pZ(v:V)(f:Bool->Prop):Prop:=v.qT f False
def TL(op:BoolOp)(p q:Prop):Prop:=BoolOp.casesOn (motive:=λ_=>Prop) op p q
def TM(ev:EZ)(op:BoolOp)(es:List aq):Loc->List MO->KT V->Prop:=qN (motive:=λ_=>Loc->List MO->KT V->Prop) (λ_ _ _=>False) (λe r ih Y u k=>sR (motive:=λ_=>Prop) r (ev e Y u k) λ_ _=>ev e Y u (bh k λv u=>pZ v λb=>TL op (if b then ih Y u k else k (.ok v) u) (if b then k (.ok v) u else ih Y u k))) es
def TN(t:TZ)(op:BoolOp)(es:List aq):Loc->List MO->KT Bool->Prop:=qN (motive:=λ_=>Loc->List MO->KT Bool->Prop) (λ_ u k=>k (.ok (op==.And)) u) (λe _ ih Y u k=>t e Y u (bh k λb u=>TL op (if b then ih Y u k else k (.ok false) u) (if b then k (.ok true) u else ih Y u k))) es
def gd p[Decidable p](q:Prop):Prop:=if p then q else False
def ij(v:V)(f:Int->Prop):Prop:=v.iB f False
def AH(v:V)(f:Str->Prop):Prop:=v.j3 f False
def i4(v:V)(f:Nat->Prop):Prop:=v.qU f False
def aH(x:Option α)(f:α->Prop):Prop:=aU x f False
def dn(u:List MO)(i:Nat)(f:List V->Prop):Prop:=aH u[i]? λm=>m.lu f False
def AI(ev:EZ)(ops:List sJ):List aq->V->Loc->List MO->KT Bool->Prop:=qN (motive:=λ_=>List aq->V->Loc->List MO->KT Bool->Prop) (λ_ _ _ _ _=>False) (λop ops ih es a Y u k=>sR (motive:=λ_=>Prop) es False λe es=>sR (motive:=λ_=>Prop) ops (gd (es.isEmpty=true) (ev e Y u (bh k λb u=>aH (cmp op a b u) λr=>k (.ok r) u))) λ_ _=>gd (es.isEmpty=false) (ev e Y u (bh k λb u=>aH (cmp op a b u) λr=>if r then ih es b Y u k else k (.ok false) u))) ops
theorem cK(h:aH x f):∃a,x=some a/\f a:=by cases x with|none=>exact h.elim|some a=>exact⟨a,rfl,h⟩
theorem aZ[Decidable p](h:gd p q):p/\q:=by
 by_cases z:p;.exact⟨z,(if_pos z).mp h⟩
 .exact((if_neg z).mp h).elim
theorem bz[Decidable p](a:p)(b:q):gd p q:=(if_pos a).mpr b
section
variable{P:V->aa->Prop}
@[elab_as_elim]theorem ru(e:ij v f)(x:VR h al v q)(k:∀i t,f i->P (.int i) (.int i t)):P v q:=VR.casesOn (motive_1:=λv q _=>ij v f->P v q) x (aW) (λ_=>aW) (k) (λ_ _=>aW) (λ_ _=>aW) (λ_=>aW) (λ_=>aW) e
@[elab_as_elim]theorem TO(e:AH v f)(x:VR h al v q)(k:∀i t,f i->P (.str i) (.str i t)):P v q:=VR.casesOn (motive_1:=λv q _=>AH v f->P v q) x (aW) (λ_=>aW) (λ_ _=>aW) (k) (λ_ _=>aW) (λ_=>aW) (λ_=>aW) e
@[elab_as_elim]theorem EU(e:pZ v f)(x:VR h al v q)(k:∀b,f b->P (.bool b) (.bool b)):P v q:=VR.casesOn (motive_1:=λv q _=>pZ v f->P v q) x (aW) (k) (λ_ _=>aW) (λ_ _=>aW) (λ_ _=>aW) (λ_=>aW) (λ_=>aW) e
@[elab_as_elim]theorem TP{P:aa->Prop}(e:pZ v f)(x:VR h al v q)(k:∀b,VR h al v (.bool b)->f b->P (.bool b)):P q:=EU (P:=λv q=>(∀b,VR h al v (.bool b)->f b->P (.bool b))->P q) e x (λb e k=>k b (.bool b) e) k
@[elab_as_elim]theorem rv(e:i4 v f)(x:VR h al v q)(k:∀i a,al[i]?=some a->f i->P (.ref i) (.ref a)):P v q:=VR.casesOn (motive_1:=λv q _=>i4 v f->P v q) x (aW) (λ_=>aW) (λ_ _=>aW) (λ_ _=>aW) (λ_ _=>aW) (λe=>k _ _ e) (λ_=>aW) e
end
inductive Kb(h:a_)(al:List aj)(u:List MO)(i:Nat)(a:aj)(f:List V->Prop):Prop|mk(l:List V)(items:Array aa)(n:Nat)(e:u[i]?=some (.list l))(il:h.IsList a items)(avc:IsL h a items n)(vs:aQ h al l items.toList)(len:l.length=items.size)(h:f l)
theorem Kc{m:MO}(h:m.lu f False):∃l,m=.list l/\f l:=by cases m with|list l=>exact⟨l,rfl,h⟩|_=>exact h.elim
theorem nz(e:dn u i f)(R:SR c h al u fs)(ea:al[i]?=some a):Kb h al u i a f:=by obtain⟨m,hl,e⟩:=cK e;obtain⟨l,q,e⟩:=Kc e;obtain⟨items,n,x,vs⟩:=R.obj _ _ _ (q▸hl) ea;exact⟨l,items,n,q▸hl,iX x,x,vs,vs.length.trans eY,e⟩
theorem rx{a q:Bool}{p1 p2 q1 q2:Prop}(e:a=q)(h:if a then p1 else p2)(f:p1->q1)(g:p2->q2):if q then q1 else q2:=by cases e;cases a with|true=>exact f h|false=>exact g h
theorem afP{r:Bool}{f:Bool->Prop}{p1 q1 q2:Prop}(h:if r then p1 else f false)(g:p1->q1)(e:f r->q2):if r then q1 else q2:=by cases r with|true=>exact g h|false=>exact e h
theorem Kd(H:bp c n hd ev) pos es:∀(u:List MO)(k:KT (List V)),oR ev es Y u k->Tr c n hd Y u aba (λag=>spliced (jT pos (iA es ag))) k:=by induction es with|nil=>exactλu k h g z O=>aP (O.post (.refl z) .nil h)|cons x xs ih=>intro u k h g z O;have fj:dk x=false:=De.mpr λq=>(if_pos q).mp h;show av c.M g.A (spliced (jT pos (iA (x::xs) g.ag))) _ _ z.s;rw[uU fj];exact aw (seq (.refl z) O (H x Y u _ ((if_neg (De.mp fj)).mp h)) λa aD au q _ bE aI ck az=>aw (aP (aw (fT (seq bE aI (ih aD _ az) λb b8 a9 qs N bN bJ ia bl=>aP (bJ.post bN (.cons (aI.R.vr N.T ck) ia) bl))))))
theorem TQ(H:bp c n hd ev) op pos es:∀(u:List MO)(k:KT V),TM ev op es Y u k->Te c n hd Y u (.BoolOp op es pos) k:=by induction es with|nil=>exactλu k h=>h.elim|cons x xs ih=>cases xs with|nil=>exactλu k h g z O=>BoolOp_one (H x Y u k h g z O)|cons y ys=>intro u k h g z O;cases op with|And=>refine BoolOp_and (seq (.refl z) O (H x Y u _ h) λa aD au q _ bE aI ck az=>TP az ck λb ck bl=>pD ?_);exact rx rfl bl (λbl=>gK bE (ih aD k bl g au aI)) (λbl=>aI.post bE ck bl)|Or=>refine BoolOp_or (seq (.refl z) O (H x Y u _ h) λa aD au q _ bE aI ck az=>TP az ck λb ck bl=>pD ?_);exact rx rfl bl (λbl=>aI.post bE ck bl) λbl=>gK bE (ih aD k bl g au aI)
theorem afQ(H:fq c n hd tv) op pos(w:Env->Sem aa) es:∀(u:List MO)(k:KT Bool),TN tv op es Y u k->Tr c n hd Y u RB (λag=>za (.BoolOp op es pos) ag (w ag)) k:=by induction es with
 |nil=>intro u k h g z O;cases op with|And=>exact isTrue_and_nil (O.post (.refl z) rfl h)|Or=>exact isTrue_or_nil (O.post (.refl z) rfl h)
 |cons x xs ih=>intro u k h g z O;cases op with|And=>exact isTrue_and (seq (.refl z) O (H x Y u _ h) λa aD au q _ bE aI ck az=>rx ck az (λaz=>gK bE (ih aD k az g au aI)) (λaz=>aI.post bE rfl az))|Or=>exact isTrue_or (seq (.refl z) O (H x Y u _ h) λa aD au q _ bE aI ck az=>rx ck az (λaz=>aI.post bE rfl az) (λaz=>gK bE (ih aD k az g au aI)))
theorem EV(O':dh c){op:sJ}{a b:V}{qa qb:aa}{g:G}{z aN:Z}(N:Nx aN z)(O:Ok c (n+1) hd g Y z u){f:Bool->Prop}(h:aH (cmp op a b u) f)(ka:VR z.s.heap z.al a qa)(kb:VR z.s.heap z.al b qb){Q:aa->SP}{E:aa->SP}(hQ:∀r au,Nx aN au->Nx z au->Ok c (n+1) hd g Y au u->f r->Q (.bool r) au.s):av c.M g.A (CC op qa qb) Q E z.s:=by obtain⟨r,e,hf⟩:=cK h;refine b_ (abw O' op a b u r e g.A z.fs z.s z.al qa qb O.U O.R ka kb) (λq s' y=>?_) λ_ _ y=>y.elim;obtain⟨aT,R,T,m,e⟩:=y;exact e▸hQ r ⟨s',aT,z.fs⟩ (N.trans ⟨T,m,rfl⟩) ⟨T,m,rfl⟩ (O.nx ⟨T,m,rfl⟩ R) hf
def afR(c:aR)(g:G)(pos:Pos)(qa:aa)(ops:List sJ)(es:List aq)(aN:Z)(k:KT Bool)(s:aF):Prop:=av c.M g.A (compareChain pos qa ops (evalEach es g.ag)) (bG c aN z2 k) (bA c aN k) s/\av c.M g.A (testChain pos qa ops (evalEach es g.ag)) (bG c aN RB k) (bA c aN k) s
theorem TR(O':dh c)(H:bp c (n+1) hd ev) pos ops:∀(es:List aq)(a:V)(u:List MO)(k:KT Bool),AI ev ops es a Y u k->∀(g:G)(z aN:Z)(qa:aa),Nx aN z->Ok c (n+1) hd g Y z u->VR z.s.heap z.al a qa->afR c g pos qa ops es aN k z.s:=by induction ops with|nil=>exactλes a u k h=>h.elim|cons op ops ih=>intro es a u k h g z aN qa N O ka;cases es with|nil=>exact h.elim|cons x es=>cases ops with
 |nil=>cases es with|nil=>exact⟨chain_last (seq N O (H x Y u _ (aZ h).2) λb aD au q N' bE aI ck az=>EV O' bE aI az (O.R.vr N'.T ka) ck λr a9 bN _ bJ hf=>bJ.post bN rfl hf),test_last (seq N O (H x Y u _ (aZ h).2) λb aD au q N' bE aI ck az=>EV O' bE aI az (O.R.vr N'.T ka) ck λr a9 bN _ bJ hf=>pD (bJ.post bN rfl hf))⟩|cons y es=>exact bZ (show false=true from(aZ h).1)
 |cons avd ops=>cases es with|nil=>exact h.elim|cons y es=>exact⟨chain_link (seq N O (H x Y u _ (aZ h).2) λb aD au q N' bE aI ck az=>EV O' bE aI az (O.R.vr N'.T ka) ck λr a9 bN nA bJ hf=>pD (afP (f:=λr=>k (.ok r) aD) hf (λhf=>(ih (y::es) b aD k hf g a9 aN q bN bJ (aI.R.vr nA.T ck)).1) λhf=>bJ.post bN rfl hf)),test_link (seq N O (H x Y u _ (aZ h).2) λb aD au q N' bE aI ck az=>EV O' bE aI az (O.R.vr N'.T ka) ck λr a9 bN nA bJ hf=>pD (rx rfl hf (λhf=>(ih (y::es) b aD k hf g a9 aN q bN bJ (aI.R.vr nA.T ck)).2) λhf=>bJ.post bN rfl hf))⟩
def xR(a b:V)(u:List MO)(k:KT V):Prop:=V.casesOn (motive_1:=λ_=>Prop) a False (λ_=>False) (λx=>ij b λy=>k (.ok (.int (x+y))) u) (λx=>AH b λy=>gd (x.length+y.length<=bk) (k (.ok (.str (x++y))) u)) (λ_=>False) (λi=>i4 b λj=>dn u i λx=>dn u j λy=>gd (x.length+y.length<=bk) (k (.ok (.ref u.length)) (u++[.list (x++y)]))) λ_=>False
def AJ(a b:V)(f:Int->Int->Prop):Prop:=ij a λx=>ij b λy=>f x y
def EW(a b:V)(u:List MO)(k:KT V):Prop:=V.casesOn (motive_1:=λ_=>Prop) a False (λx=>pZ b λy=>k (.ok (.int ((if x then 1 else 0)-(if y then 1 else 0)))) u) (λx=>ij b λy=>k (.ok (.int (x-y))) u) (λ_=>False) (λ_=>False) (λ_=>False) λ_=>False
noncomputable def xS(x:Str)(n:Int):Str:=if n<1 then Str.empty else if(n==1||x.length==0)=true then x else⟨(wz n.toNat x.cps).foldl (·++·) #[]⟩
def Ke(x:Str)(n:Int):Prop:=(decide (n< -(2^63:Int))||decide (n≥2^63))=false/\(n<1\/((x.length:Int)<=(2^63-1)/n/\x.length*n.toNat<=bk))/\(xS x n).length<=bk
noncomputable instance(x:Str)(n:Int):Decidable (Ke x n):=inferInstanceAs(Decidable (_/\_/\_))
def Kf(a b:V)(u:List MO)(k:KT V):Prop:=V.casesOn (motive_1:=λ_=>Prop) a False (λ_=>False) (λx=>ij b λy=>gd ((zU x||zU y)=true) (k (.ok (.int (x*y))) u)) (λx=>ij b λy=>gd (Ke x y) (k (.ok (.str (xS x y))) u)) (λ_=>False) (λ_=>False) λ_=>False
def Kg(op:y8)(a b:V)(u:List MO)(k:KT V):Prop:=match op with|.Add=>xR a b u k|.Sub=>EW a b u k|.Mult=>Kf a b u k|.FloorDiv=>AJ a b λx y=>gd (¬(y=0\/1073741824<=y.natAbs)) (k (.ok (.int (wC x y))) u)|.Mod=>AJ a b λx y=>gd (¬y=0) (k (.ok (.int (Dc x y))) u)|.LShift=>AJ a b λx y=>gd (0<=x/\x<1024/\0<=y/\y<64) (k (.ok (.int (x*2^y.toNat))) u)|_=>False
def Kh(op:CP)(a:V)(u:List MO)(k:KT V):Prop:=match op with|.USub=>ij a λx=>k (.ok (.int (-x))) u|.Not=>pZ a λx=>k (.ok (.bool (!x))) u|_=>False
def AK(ev:EZ)(o:Option aq)(Y:Loc)(u:List MO)(k:KT V):Prop:=aU o (λe=>ev e Y u k) (k (.ok .none) u)
noncomputable def AL{α:Type}(w:aa)(f:Nat->α)(d:α):α:=if h:w.ctorIdx=10 then wX (motive:=λ_=>α) w h f else d
def Ki(v:V)(S:cJ)(u:List MO)(f:List V->Prop):Prop:=V.casesOn (motive_1:=λ_=>Prop) v False (λ_=>False) (λ_=>False) (λ_=>False) (λ_=>False) (λi=>dn u i f) λw=>AL w (λi=>aH (S.ae i) f) False
def Kj(S:cJ)(v a b:V)(u:List MO)(k:KT V):Prop:=Ki v S u λl=>aH (Internal.cut l a b) λl'=>k (.ok (.ref u.length)) (u++[.list l'])
section
variable{K:d0}{E:eE}{k:KT V}{z aN:Z}
theorem Nx.push:Nx z ⟨{z.s with heap:=z.s.heap.push o},z.al,z.fs⟩:=⟨.of_keep (λb o e=>d6 _ e) ..,⟨rfl,rfl,rfl⟩,rfl⟩
theorem Ok.push(O:Ok c n hd g Y z u){o:Obj}:Ok c n hd g Y ⟨{z.s with heap:=z.s.heap.push o},z.al,z.fs⟩ u:=O.nx .push (O.R.keep λb o e=>d6 _ e)
theorem Ok.list(O:Ok c n hd g Y z u)(N:Nx aN z){l:List V}{items:Array aa}(vs:aQ z.s.heap z.al l items.toList)(h:k (.ok (.ref u.length)) (u++[.list l])):bG c aN RV k (.ref z.s.heap.objs.size) {z.s with heap:=z.s.heap.push {cls:=.type "list",data:=.seq items}}:=bG.gK N ((newList O.R vs).post h)
theorem EX(h:some w=some v)(hk:k (.ok v) u):k (.ok w) u:=(aJ h).symm▸hk
theorem Te.const(h:Qs x=some v)(hk:k (.ok v) u):Te c n hd Y u (.Constant x aG pos) k:=λg z O=>by cases x with|none=>exact wpAny_Constant_none (O.post (.refl z) .none (EX h hk))|bool b=>exact wpAny_Constant_bool (O.post (.refl z) (.bool b) (EX h hk))|int i=>exact wpAny_Constant_int (O.iF (.refl z) (.int i _) (EX h hk))|str s=>exact Nw (O.iF (.refl z) (.str s _) (EX h hk))|_=>exact aE h
theorem tE(h:j4 x=true):x≠"__debug__"/\x≠"__classdict__":=(eA.mp h).imp bne_iff_ne.mp bne_iff_ne.mp
theorem TS(SG:fg c S){x:Str}(hx:j4 x=true){f:V->Prop}(h:aH (eI S Y u x) f)(O:Ok c n hd g Y z u){Q:aa->SP}{E:aa->SP}(hQ:∀v p,VR z.s.heap z.al v p->f v->Q p z.s):av c.M g.A (y6 g.ag x) Q E z.s:=by obtain⟨v,e,hf⟩:=cK h;exact I1 SG e (tE hx).2 O.E O.R' λp hp=>hQ v p hp hf
theorem Te.name(SG:fg c S){x:Str}{pos:Pos}(hx:j4 x=true)(h:aH (eI S Y u x) λv=>k (.ok v) u):Te c n hd Y u (.Name x pos) k:=λg z O=>CA (TS SG hx h O λv p hp hk=>O.post (.refl z) hp hk) (beq_false_of_ne (tE hx).1)
abbrev jH(c:aR)(g:G)(z:Z)(k:KT V)(op:y8)(qa qb:aa):Prop:=av c.M g.A (binaryOp op qa qb) (bG c z RV k) (bA c z k) z.s
theorem TU[Decidable p][Decidable q]{α:Type}{x y w:α}{P:α->Prop}(h1:p->P x)(h2:¬p->q->P y)(h3:¬p->¬q->P w):P (if p then x else if q then y else w):=by
 by_cases e:p;.exact(if_pos e).symm▸h1 e
 .by_cases e':q;.exact(if_neg e).symm▸(if_pos e').symm▸h2 e e'
  .exact(if_neg e).symm▸(if_neg e').symm▸h3 e e'
theorem afS(O:Ok c n hd g Y z u){x y:Str}{t aG:Tok}(hle:x.length+y.length<=bk)(h:k (.ok (.str (x++y))) u):jH c g z k .Add (.str x t) (.str y aG):=PySem.P.add_str (TU (P:=λm=>PK m _ _) (λe=>O.iF (tk:=z.s.toks) (.refl z) (.str _ _) ((abe (y:=y) e).subst (motive:=λw=>k (.ok (.str w)) u) h)) (λ_ e=>O.iF (tk:=z.s.toks) (.refl z) (.str _ _) ((abf (x:=x) e).subst (motive:=λw=>k (.ok (.str w)) u) h)) λ_ _=>⟨Cs ..▸hle,O.iF (.refl z) (.str _ _) h⟩)
theorem afT(O:Ok c n hd g Y z u){i j:Nat}{a b:aj}(ea:z.al[i]?=some a)(eb:z.al[j]?=some b)(h:dn u i λx=>dn u j λy=>gd (x.length+y.length<=bk) (k (.ok (.ref u.length)) (u++[.list (x++y)]))):jH c g z k .Add (.ref a) (.ref b):=by obtain⟨l,items,m,_,il,x,vs,len,h⟩:=nz h O.R ea;obtain⟨l2,EY,m2,_,afU,x2,Kl,Km,h⟩:=nz h O.R eb;exact concat_meets ⟨_,x,rfl⟩ ⟨_,x2,rfl⟩ noFill_list_add seq_list_add PySem.F.slot_list_add PySem.F.entry_list_add (PySem.F.args_list_add_2 _ _) (Zx _ _ items EY m m2 _ _ _ _ (len▸Km▸(aZ h).1)) ⟨x,x2,O.list (.refl z) (HS.symm▸vs.append Kl) (aZ h).2⟩
theorem afV(h:xR a b u k)(O:Ok c n hd g Y z u)(ka:VR z.s.heap z.al a qa)(kb:VR z.s.heap z.al b qb):jH c g z k .Add qa qb:=VR.casesOn (motive_1:=λa qa _=>xR a b u k->jH c g z k .Add qa qb) ka aW (λ_=>aW) (λx t h=>ru (P:=λ_ qb=>jH c g z k .Add (.int x t) qb) h kb λy aG h=>PySem.P.add_int (O.iF (.refl z) (.int _ _) h)) (λx t h=>TO (P:=λ_ qb=>jH c g z k .Add (.str x t) qb) h kb λy aG h=>afS O (aZ h).1 (aZ h).2) (λ_ _=>aW) (λea h=>rv (P:=λ_ qb=>jH c g z k .Add (.ref _) qb) h kb λj b eb h=>afT O ea eb h) (λ_=>aW) h
@[elab_as_elim]theorem E0{P:aa->aa->Prop}(h:AJ a b f)(ka:VR z.s.heap z.al a qa)(kb:VR z.s.heap z.al b qb)(k:∀x t y aG,f x y->P (.int x t) (.int y aG)):P qa qb:=ru (P:=λ_ qa=>P qa qb) h ka λx t h=>ru (P:=λ_ qb=>P (.int x t) qb) h kb λy aG h=>k x t y aG h
theorem afW(h:EW a b u k)(O:Ok c n hd g Y z u)(ka:VR z.s.heap z.al a qa)(kb:VR z.s.heap z.al b qb):jH c g z k .Sub qa qb:=VR.casesOn (motive_1:=λa qa _=>EW a b u k->jH c g z k .Sub qa qb) ka aW (λx h=>EU (P:=λ_ qb=>jH c g z k .Sub (.bool x) qb) h kb λy h=>Zy (O.iF (.refl z) (.int _ _) h)) (λx t h=>ru (P:=λ_ qb=>jH c g z k .Sub (.int x t) qb) h kb λy aG h=>PySem.P.sub_int (O.iF (.refl z) (.int _ _) h)) (λ_ _=>aW) (λ_ _=>aW) (λ_=>aW) (λ_=>aW) h
theorem afX(O:Ok c n hd g Y z u){x:Str}{y:Int}{t aG:Tok}(e:Ke x y)(h:k (.ok (.str (xS x y))) u):jH c g z k .Mult (.str x t) (.int y aG):=by
 obtain⟨h1,h2,h3⟩:=e;refine PySem.P.mul_str h1 (λq _=>uA.mpr (h2.resolve_left q).1) (λq _=>decide_eq_false (mV.mpr (h2.resolve_left q).2)) (TU (P:=λm=>PK m _ _) (λe=>?_) (λe1 e2=>?_) λe1 e2=>?_);.rw[show xS x y=Str.empty from if_pos e]at h h3;exact⟨h3,O.iF (.refl z) (.str _ _) h⟩
 .rw[show xS x y=x from(if_neg e1).trans (if_pos e2)]at h;exact O.iF (tk:=z.s.toks) (.refl z) (.str _ _) h
 .rw[show xS x y=⟨(wz y.toNat x.cps).foldl (·++·) #[]⟩from(if_neg e1).trans (if_neg e2)]at h h3;exact⟨h3,O.iF (.refl z) (.str _ _) h⟩
theorem afY(h:Kf a b u k)(O:Ok c n hd g Y z u)(ka:VR z.s.heap z.al a qa)(kb:VR z.s.heap z.al b qb):jH c g z k .Mult qa qb:=VR.casesOn (motive_1:=λa qa _=>Kf a b u k->jH c g z k .Mult qa qb) ka aW (λ_=>aW) (λx t h=>ru (P:=λ_ qb=>jH c g z k .Mult (.int x t) qb) h kb λy aG h=>PySem.P.mul_int (O.iF (.refl z) (.int _ _) (aZ h).2) (abd (aZ h).1)) (λx t h=>ru (P:=λ_ qb=>jH c g z k .Mult (.str x t) qb) h kb λy aG h=>afX O (aZ h).1 (aZ h).2) (λ_ _=>aW) (λ_=>aW) (λ_=>aW) h
theorem afZ{x:Int}(h:0<=x)(h2:x<1024):x.natAbs<2^64:=have :(x.natAbs:Int)<(1024:Nat):=(Int.natAbs_of_nonneg h).symm▸h2;v3 (eX.mp this) ai
theorem af0(h:Kg op a b u k)(O:Ok c n hd g Y z u)(ka:VR z.s.heap z.al a qa)(kb:VR z.s.heap z.al b qb):jH c g z k op qa qb:=by cases op with|Add=>exact afV h O ka kb|Sub=>exact afW h O ka kb|Mult=>exact afY h O ka kb|FloorDiv=>exact E0 h ka kb λx t y aG h=>Zz (not_or.mp (aZ h).1).1 (O.iF (.refl z) (.int _ _) (aZ h).2) (.inl (PyProof.noPylong_small (Nat.lt_of_not_le (not_or.mp (aZ h).1).2)))|Mod=>exact E0 h ka kb λx t y aG h=>ZA (aZ h).1 (O.iF (.refl z) (.int _ _) (aZ h).2)|LShift=>exact E0 h ka kb λx t y aG h=>let⟨h1,h2,h3,h4⟩:=(aZ h).1;ZC h3 (qP (C8 h4 ai)) (afZ h1 h2) (O.iF (.refl z) (.int _ _) (aZ h).2)|_=>exact h.elim
theorem Te.bin(H:bp c (n+1) hd E.e){l r:aq}{op:y8}{pos:Pos}(h:E.e l Y u (bh k λa u=>E.e r Y u (bh k λb u=>Kg op a b u k))):Te c (n+1) hd Y u (.BinOp l op r pos) k:=λg z O=>wpAny_BinOp (seq (.refl z) O (H l Y u _ h) λa aD au qa N bE aI ka az=>seq bE aI (H r Y aD _ az) λb b8 a9 qb N' bN bJ kb bl=>gK bN (af0 bl bJ (aI.R.vr N'.T ka) kb))
theorem af1(h:Kh op a u k)(O:Ok c n hd g Y z u)(ka:VR z.s.heap z.al a q):av c.M g.A (unaryOp op q) (bG c z RV k) (bA c z k) z.s:=by cases op with|USub=>exact ru (P:=λ_ q=>av c.M g.A (unaryOp .USub q) (bG c z RV k) (bA c z k) z.s) h ka λx t h=>PySem.P.neg_int (O.iF (.refl z) (.int _ _) h)|Not=>exact EU (P:=λ_ q=>av c.M g.A (unaryOp .Not q) (bG c z RV k) (bA c z k) z.s) h ka λx h=>not_of (pD (O.post (.refl z) (.bool _) h))|_=>exact h.elim
theorem Te.un(H:bp c n hd E.e){x:aq}{op:CP}{pos:Pos}(h:E.e x Y u (bh k λa u=>Kh op a u k)):Te c n hd Y u (.UnaryOp op x pos) k:=λg z O=>UnaryOp_ (seq (.refl z) O (H x Y u _ h) λa aD au q _ bE aI ka az=>gK bE (af1 az aI ka))
theorem Te.af2(H:bp c n hd E.e)(HT:fq c n hd E.t){t b o:aq}{pos:Pos}(h:E.t t Y u (bh k λq u=>if q then E.e b Y u k else E.e o Y u k)):Te c n hd Y u (.IfExp t b o pos) k:=λg z O=>IfExp_ (seq (.refl z) O (HT t Y u _ h) λa aD au q _ bE aI ka az=>rx ka az (λaz=>gK bE (H b Y aD _ az g au aI)) λaz=>gK bE (H o Y aD _ az g au aI))
theorem Te.cmp(O':dh c)(H:bp c (n+1) hd E.e){l:aq}{ops:List sJ}{rs:List aq}{pos:Pos}(hm:wi ops rs=false)(h:E.e l Y u (bh k λa u=>AI E.e ops rs a Y u (bh k λb u=>k (.ok (.bool b)) u))):Te c (n+1) hd Y u (.Compare l ops rs pos) k:=λg z O=>by show av c.M g.A (eval (.Compare l ops rs pos) g.ag) _ _ z.s;rw[arm_eval_Compare,O4 _ _ _ hm];exact aw (seq (.refl z) O (H l Y u _ h) λa aD au q _ bE aI ka az=>b_ (TR O' H pos ops rs a aD _ az g au z q bE aI ka).1 (λq s' y=>bG.casesOn y λv aM z' N' R r h'=>Eq.rec (motive:=λq _=>bG c z RV k q z'.s) (bG.mk (V.bool v) aM z' N' R (VR.bool v) h') r.symm) λ_ _ y=>bA.casesOn y λi a d aM z' N' R ea ed h'=>bA.mk i a d aM z' N' R ea ed h')
theorem Te.attr(SA:lz c S K)(H:bp c n hd E.e){o:aq}{nm:Str}{pos:Pos}(hs:oH o=false)(h:E.e o Y u (bh k λv u=>aH (DU S v nm u) λx=>k (.ok x) u)):Te c n hd Y u (.Attribute o nm pos) k:=λg z O=>by show av c.M g.A (eval (.Attribute o nm pos) g.ag) _ _ z.s;rw[Nv,Jh hs];refine aw (seq (.refl z) O (H o Y u _ h) λv aD au q _ bE aI kv az=>?_);obtain⟨x,hx,bl⟩:=cK az;refine aw (kC (aw (fT ?_)));exact Q6 SA hx aI.R kv λp tk hv=>aw (Nj (aP (aI.iF bE hv bl)))
theorem Te.sub(O':dh c)(H:bp c (n+1) hd E.e){o i:aq}{pos:Pos}(h:E.e o Y u (bh k λv u=>E.e i Y u (bh k λq u=>aH (kK v q u) λx=>k (.ok x) u))):Te c (n+1) hd Y u (.Subscript o i pos) k:=λg z O=>H_ (seq (.refl z) O (H o Y u _ h) λv aD au q _ bE aI kv az=>seq bE aI (H i Y aD _ az) λw b8 a9 Eg N' bN bJ kw bl=>by obtain⟨x,hx,ie⟩:=cK bl;obtain⟨T,id,hT,hl⟩:=Rb hx bJ.R (aI.R.vr N'.T kv);obtain⟨ops,hs⟩:=Q_ i q Eg;exact tail_any hT hl (Q9 O' hx bJ.U bJ.R (aI.R.vr N'.T kv) kw λp tk hv=>bJ.iF bN hv ie) hs)
theorem TV(H:bp c n hd E.e){o:Option aq}(h:AK E.e o Y u k):Tr c n hd Y u RV (λag=>evalPart o ag) k:=by cases o with|some x=>exact H x Y u k h|none=>exactλg z O=>aP (O.post (.refl z) .none h)
inductive Kn(h:a_)(al:List aj)(f:List V->Prop):aa->Prop|mk(x:aj)(l:List V)(items:Array aa)(hi:h.IsList x items)(vs:aQ h al l items.toList)(y:f l):Kn h al f (.ref x)
theorem af3{P:α->aa->Prop}(hd:P d w)(k:∀a,w=.ref a->P (f a) (.ref a)):P (AL w f d) w:=by
 unfold AL;by_cases q:w.ctorIdx=10;.rw[dif_pos q];exact wX (motive:=λw=>(∀a,w=.ref a->P (f a) (.ref a))->∀q,P (wX (motive:=λ_=>α) w q f) w) w q (λa k _=>k a rfl) k q
 .rw[dif_neg q];exact hd
theorem af4{P:aa->Prop}(h:AL w f False)(k:∀a,f a->P (.ref a)):P w:=af3 (P:=λp w=>p->P w) aW (λa _ y=>k a y) h
theorem af5(SL:D' c S){v:V}{q:aa}{f:List V->Prop}(h:Ki v S u f)(R:Sr c z u)(kv:VR z.s.heap z.al v q):Kn z.s.heap z.al f q:=VR.casesOn (motive_1:=λv q _=>Ki v S u f->Kn z.s.heap z.al f q) kv aW (λ_=>aW) (λ_ _=>aW) (λ_ _=>aW) (λ_ _=>aW) (λe h=>Kb.casesOn (nz h R e) λl items _ _ il _ vs _ h=>.mk _ l items il vs h) (λw h=>af4 h λa h=>(cK h).elim λl y=>(SL.ae _ _ y.1).elim λitems w=>.mk _ l items (IsList.ack w.1 R.base) (w.2.mono (λa o e _=>R.base a o e) Qv) y.2) h
inductive TY(l l':List V)(a b:V):Prop|mk(pa pb:Option Int)(ha:zY a=some pa)(hb:zY b=some pb)(le:l.length<=bk)(e:l'=(l.drop (pa.elim 0 (iS l.length))).take (pb.elim l.length (iS l.length)-pa.elim 0 (iS l.length))):TY l l' a b
theorem af6(h:Internal.cut l a b=some l'):TY l l' a b:=(bH h).elim λpa y=>(bH y.2).elim λpb w=>.mk pa pb y.1 w.1 (cI w.2).1 (aJ (cI w.2).2).symm
theorem af7(SL:D' c S){o:aq}{lo hi:Option aq}{p:Pos}{v a b:V}{q qa qb:aa}(N:Nx aN z)(O:Ok c n hd g Y z u)(h:Kj S v a b u k)(kv:VR z.s.heap z.al v q)(ka:VR z.s.heap z.al a qa)(kb:VR z.s.heap z.al b qb):av c.M g.A (subscriptTail o (.Slice lo hi none p) q (.ref z.s.heap.objs.size)) (bG c aN RV k) (bA c aN k) {z.s with heap:=z.s.heap.push {cls:=.type "slice",data:=.fields #[qa,qb,.none]}}:=by obtain⟨x,l,items,T_,vs,h⟩:=af5 SL h O.R kv;obtain⟨l',hc,hk⟩:=cK h;obtain⟨pa,pb,af8,af9,hlen,e⟩:=af6 hc;have Ua:l.length=items.size:=vs.length.trans eY;obtain⟨ops,hs⟩:=Q_ (.Slice lo hi none p) (.ref x) (.ref z.s.heap.objs.size);refine tail_any (ZP (s:={z.s with heap:=z.s.heap.push {cls:=.type "slice",data:=.fields #[qa,qb,.none]}}) (T_.push _)) Nq (wpAny_getItem_list_slice (T_.push _) (ZK ..) (part_of af8 ka) (part_of af9 kb) .none (by simp) ?_ (Ua▸hlen)) hs;refine O.push.list (N.trans .push) ?_ hk;rw[slicePick_plain,<-Ua,e];exact((O.R.w9 Nx.push.T vs).drop _).take _
theorem Te.slice(SL:D' c S)(H:bp c n hd E.e){o:aq}{lo hi:Option aq}{p pos:Pos}(h:E.e o Y u (bh k λv u=>AK E.e lo Y u (bh k λa u=>AK E.e hi Y u (bh k λb u=>Kj S v a b u k)))):Te c n hd Y u (.Subscript o (.Slice lo hi none p) pos) k:=λg z O=>H_ (seq (.refl z) O (H o Y u _ h) λv aD au q _ bE aI kv az=>wpAny_Slice (seq bE aI (TV H az) λa b8 a9 qa N' bN bJ ka bl=>seq bN bJ (TV H bl) λb oS iG qb nA iH fD kb ie=>aP (af7 SL iH fD ie (bJ.R.vr nA.T (aI.R.vr N'.T kv)) (bJ.R.vr nA.T ka) kb)))
theorem Te.tup(H:bp c n hd E.e){es:List aq}{aG:Nat}{pos:Pos}(h:oR E.e es Y u (bh k λvs u=>gd (vs.length<=bk) (k (.ok (.tup vs)) u))):Te c n hd Y u (.Tuple es aG pos) k:=λg z O=>by show av c.M g.A (eval (.Tuple es aG pos) g.ag) _ _ z.s;rw[arm_eval_Tuple];refine aw (kC (aw (seq (.refl z) O (Kd H pos es u _ h) λvs aD au q _ bE aI kv az=>si ((abY aI.R kv).post (aZ az).2|>.gK bE) ?_)));show(q.toArray).size<=bk;rw[CU,<-aQ.length kv];exact(aZ az).1
theorem Te.list(H:bp c n hd E.e){es:List aq}{pos:Pos}(h:oR E.e es Y u (bh k λvs u=>gd (vs.length<=bk) (k (.ok (.ref u.length)) (u++[.list vs])))):Te c n hd Y u (.List es pos) k:=λg z O=>by show av c.M g.A (eval (.List es pos) g.ag) _ _ z.s;rw[arm_eval_List];refine aw (kC (aw (seq (.refl z) O (Kd H pos es u _ h) λvs aD au q _ bE aI kv az=>si (aI.list bE (items:=q.toArray) kv (aZ az).2) ?_)));show(q.toArray).size<=bk;rw[CU,<-aQ.length kv];exact(aZ az).1
end
abbrev Lk(c:aR)(h:a_)(q:aa):Prop:=∃k,(k=wR\/k=wQ\/k=wO)/\jZ c.M h (lV q) k
def TC(c:aR)(n:Nat)(hd:Option Nat)(f:V)(args:List V)(u:List MO)(k:KT V):Prop:=∀(A:dR)(z:Z)(qf:aa)(qs:List aa),Cx c n hd A z.al z.fs->Sr c z u->VR z.s.heap z.al f qf->aQ z.s.heap z.al args qs->Lk c z.s.heap qf/\av c.M A (call qf qs) (bG c z RV k) (bA c z k) z.s
abbrev CZ:=V->List V->List MO->KT V->Prop
def ry(c:aR)(n:Nat)(hd:Option Nat)(ec:CZ):Prop:=∀f args u k,ec f args u k->TC c n hd f args u k
noncomputable def Et:List Nat:=[403,408,413,420,427,434,439,444,451,458,375,382,389,500,507,528,668,675,682,689,640,647]
def Ub(v:V):Bool:=v.zT (λw=>AL w Et.contains false) false
def cZ(ec tc:CZ)(f:V)(args:List V)(u:List MO)(k:KT V):Prop:=HP (motive:=λ_=>Prop) (ec f args u k) (tc f args u k) (Ub f)
theorem af_(H:ry c n hd ec){f:V}{args:List V}{u:List MO}{k:KT V}(h:cZ ec (TC c n hd) f args u k):TC c n hd f args u k:=HP (motive:=λb=>HP (motive:=λ_=>Prop) (ec f args u k) (TC c n hd f args u k) b->TC c n hd f args u k) (H _ _ _ _) id (Ub f) h
def E1(as:List aq)(f:aq->Prop):Prop:=sR (motive:=λ_=>Prop) as False λe r=>gd (dk e=false/\r.isEmpty=true) (f e)
def Uc(ev:EZ)(nm:Str)(i:Nat)(as:List aq)(Y:Loc)(u:List MO)(k:KT V):Prop:=if nm="append"then E1 as λe=>ev e Y u (bh k λx u=>dn u i λl=>gd (l.length<1000000) (k (.ok .none) (u.set i (.list (l++[x])))))else if nm="extend"then E1 as λe=>ev e Y u (bh k λx u=>i4 x λj=>dn u i λl=>dn u j λl'=>gd (i≠j/\l.length<1000000/\l'.length<1000000) (k (.ok .none) (u.set i (.list (l++l')))))else if nm="pop"then gd (as.isEmpty=true) (dn u i λl=>gd (l.length<1000000) (aH l.getLast? λx=>k (.ok x) (u.set i (.list l.dropLast))))else if nm="reverse"then gd (as.isEmpty=true) (dn u i λl=>gd (l.length<1000000) (k (.ok .none) (u.set i (.list l.reverse))))else False
def u6(u:List MO)(i:Nat)(f:List (Str×V)->Prop):Prop:=aH u[i]? λm=>m.j3 f False
def Ud(as:List aq)(f:aq->aq->Prop):Prop:=sR (motive:=λ_=>Prop) as False λe r=>gd (dk e=false) (E1 r (f e))
def Ue(ev:EZ)(nm:Str)(i:Nat)(as:List aq)(Y:Loc)(u:List MO)(k:KT V):Prop:=gd (nm="get") (Ud as λx y=>ev x Y u (bh k λv u=>ev y Y u (bh k λd u=>AH v λx=>u6 u i λkv=>k (.ok ((kv.lookup x).getD d)) u)))
def Ug(S:cJ)(ev:EZ)(cc:CZ)(nm:Str)(as:List aq)(i:Nat)(Y:Loc)(u:List MO)(k:KT V)(C d:Nat):Prop:=aH (S.mt C nm) λf=>u6 u d λkv=>gd ((kv.lookup nm).isNone=true) (oR ev as Y u (bh k λvs u=>cc (.st (.ref f)) (.ref i::vs) u k))
def Ko(S:cJ)(ev:EZ)(cc:CZ)(nm:Str)(as:List aq)(v:V)(Y:Loc)(u:List MO)(k:KT V):Prop:=i4 v λi=>aH u[i]? λm=>MO.casesOn (motive:=λ_=>Prop) m (λ_=>Uc ev nm i as Y u k) (λ_=>False) (λ_=>Ue ev nm i as Y u k) (λ_=>False) (Ug S ev cc nm as i Y u k) (λ_=>False) (λ_ _ _ _=>False) (λ_=>False) λ_=>False
section
variable{K:d0}
theorem Uh(H:bp c n hd ev){as:List aq}(hs:as.any dk=false){pos:Pos}{fv:V}{qf:aa}{E2:List V}{Kq:List aa}(N:Nx aN z)(O:Ok c n hd g Y z u)(kf:VR z.s.heap z.al fv qf)(k₀:aQ z.s.heap z.al E2 Kq){P:List V->List MO->Prop}(hP:∀vs u,P vs u->TC c n hd fv (E2++vs) u k)(h:oR ev as Y u (bh k P)):av c.M g.A (sx pos qf Kq (jT pos (iA as g.ag)) []) (bG c aN RV k) (bA c aN k) z.s:=Js hs (seq N O (Kd H pos as u _ h) λvs aD au qs N' bE aI kv az=>have y:=hP vs aD az g.A au qf (Kq++qs) aI.C aI.R (O.R.vr N'.T kf) ((O.R.w9 N'.T k₀).append kv);⟨y.1,gK bE y.2⟩)
theorem Te.call(H:bp c n hd ev){cc:CZ}(HC:ry c n hd cc){f:aq}(hf:DY f=none){as:List aq}(hs:as.any dk=false){pos:Pos}(h:ev f Y u (bh k λfv u=>oR ev as Y u (bh k λvs u=>cc fv vs u k))):Te c n hd Y u (.Call f as [] pos) k:=λg z O=>by show av c.M g.A (eval (.Call f as [] pos) g.ag) _ _ z.s;rw[Q1 (λo n p e=>by subst e;exact aE hf.symm)];exact aw (seq (.refl z) O (H f Y u _ h) λfv aD au q _ bE aI kf az=>Uh H hs (E2:=[]) bE aI kf .nil (λvs u y=>HC _ _ _ _ y) az)
inductive Ui(f:aq->Prop):List aq->Prop|mk(e:aq)(hs:dk e=false)(h:f e):Ui f [e]
theorem Kr(h:E1 as f):Ui f as:=by cases as with|nil=>exact h.elim|cons e r=>cases r with|nil=>exact⟨e,(aZ h).1.1,(aZ h).2⟩|cons=>exact bZ (aZ h).1.2
abbrev j'(c:aR)(g:G)(E:aa->SP)(nm:Str)(q:aa)(pos:Pos)(as:List aq)(Q:aa->SP)(s:aF):Prop:=∃f first,(∀(pl:Sem Bool)(Q':aa×List aa->SP),Q' (f,first) s->av c.M g.A (CG q nm pl) Q' E s)/\av c.M g.A (sx pos f first (jT pos (iA as g.ag)) []) Q E s
theorem j'.of{E:aa->SP}{Q:aa->SP}{T id:String}(pa:PlainAttrs T)(slot:Slot T nm id)(Ks:zb (.builtin id)=pure (.type "method_descriptor"))(hT:s.TypeIs q T)(hd:∀a,q=.ref a->∃ob,s.heap.get? a=some ob/\ob.dict=none)(h:av c.M g.A (sx pos (.builtin id) [q] (jT pos (iA as g.ag)) []) Q E s):j' c g E nm q pos as Q s:=⟨.builtin id,[q],λpl Q' h=>getMethod_builtin hT pa slot Ks hd h,h⟩
theorem j'.list{E:aa->SP}{Q:aa->SP}{id:String}(x:IsL s.heap a items n)(il:s.heap.IsList a items)(slot:Slot "list" nm id)(Ks:zb (.builtin id)=pure (.type "method_descriptor"))(h:av c.M g.A (sx pos (.builtin id) [.ref a] (jT pos (iA as g.ag)) []) Q E s):j' c g E nm (.ref a) pos as Q s:=.of PySem.F.plainAttrs_list slot Ks il.typeIs (λb q=>by cases q;exact⟨_,x,rfl⟩) h
theorem Ok.E3(O:Ok c n hd g Y z u)(N:Nx aN z){i:Nat}{a:aj}{l l':List V}{items:Array aa}{m:Nat}(ea:z.al[i]?=some a)(hl:u[i]?=some (.list l))(x:IsL z.s.heap a items m) f(vs:aQ z.s.heap z.al l' (f items).toList){v:V}{q:aa}(kv:VR z.s.heap z.al v q)(h:k (.ok v) (u.set i (.list l'))):bG c aN RV k q {z.s with heap:=z.s.heap.update a (jX f)}:=have U:=acD O.R ea hl x f vs;.mk v _ ⟨{z.s with heap:=z.s.heap.update a (jX f)},z.al,z.fs⟩ (N.trans ⟨U.2,⟨rfl,rfl,rfl⟩,rfl⟩) U.1 (O.R.vr U.2 kv) h
theorem AM(h:m<1000000):m<=sizeLine:=ax (fJ h) ai
theorem af'{l:List V}{items:Array aa}(h:items[items.size-1]?=some p)(len:items.size=l.length):items.toList.take (l.length-1)=(items.eraseIdxIfInBounds (items.size-1)).toList:=by have dz:items.size-1<items.size:=(Dh.mp h).1;rw[Array.eraseIdxIfInBounds,dif_pos dz,Array.toList_eraseIdx,List.eraseIdx_eq_take_drop_succ,Hs (bo (eY.trans (qF (bD (dC _) dz)).symm)),cG,len]
theorem aga(hx:x<1000000)(hy:y<1000000):x+y<=sizeLine:=ax (ou (fJ hx) (fJ hy)) ai
theorem agb(h:x<=bk):zy x=false:=decide_eq_false (mV.mpr h)
theorem agc(H:bp c n hd ev){e:aq}{i:Nat}{a:aj}{pos:Pos}{l:List V}(hs:dk e=false)(N:Nx aN z)(O:Ok c n hd g Y z u)(X:pL z.s.heap z.al a l)(ea:z.al[i]?=some a)(h:ev e Y u (bh k λx u=>dn u i λl=>gd (l.length<1000000) (k (.ok .none) (u.set i (.list (l++[x])))))):j' c g (bA c aN k) "append" (.ref a) pos [e] (bG c aN RV k) z.s:=by obtain⟨items,m,x,-⟩:=X;refine .list x (iX x) PySem.F.slot_list_append type_list_append ?_;rw[uU hs];refine PySem.P.append_list (seq N O (H e Y u _ h) λv aD au q N' bE aI kv az=>?_);obtain⟨l,items,m,hl,il,x,vs,len,bl⟩:=nz az aI.R (N'.T.at _ _ ea);exact⟨items,m,len▸AM (aZ bl).1,x,aI.E3 bE (N'.T.at _ _ ea) hl x (λxs=>xs.push q) (wG.symm▸vs.append (.cons kv .nil)) .none (aZ bl).2⟩
theorem agd(H:bp c n hd ev){e:aq}{i:Nat}{a:aj}{pos:Pos}{l:List V}(hs:dk e=false)(N:Nx aN z)(O:Ok c n hd g Y z u)(X:pL z.s.heap z.al a l)(ea:z.al[i]?=some a)(h:ev e Y u (bh k λx u=>i4 x λj=>dn u i λl=>dn u j λl'=>gd (i≠j/\l.length<1000000/\l'.length<1000000) (k (.ok .none) (u.set i (.list (l++l')))))):j' c g (bA c aN k) "extend" (.ref a) pos [e] (bG c aN RV k) z.s:=by obtain⟨items,m,x,-⟩:=X;refine .list x (iX x) PySem.F.slot_list_extend PySem.F.type_list_extend ?_;rw[uU hs];refine PySem.P.extend_list (seq N O (H e Y u _ h) λv aD au q N' bE aI kv az=>rv az kv λj b eb az=>?_);obtain⟨l,items,m,hl,il,x,vs,len,az⟩:=nz az aI.R (N'.T.at _ _ ea);obtain⟨l2,EY,m2,ave,afU,x2,Kl,Km,az⟩:=nz az aI.R eb;obtain⟨⟨-,hg,Ji⟩,bl⟩:=aZ az;have hz:=aga (len▸hg) (Km▸Ji);exact⟨b,items,EY,m,m2,AM (len▸hg),pz hz,by rw[agb hz,zu];exact l5,rfl,x,x2,aI.E3 bE (N'.T.at _ _ ea) hl x (λxs=>xs++EY) (HS.symm▸vs.append Kl) .none bl⟩
theorem age(N:Nx aN z)(O:Ok c n hd g Y z u)(X:pL z.s.heap z.al a l)(ea:z.al[i]?=some a)(h:dn u i λl=>gd (l.length<1000000) (aH l.getLast? λx=>k (.ok x) (u.set i (.list l.dropLast)))):j' c g (bA c aN k) "pop" (.ref a) pos [] (bG c aN RV k) z.s:=by obtain⟨l,items,m,hl,il,x,vs,len,h⟩:=nz h O.R ea;obtain⟨hg,h⟩:=aZ h;obtain⟨y,hy,h⟩:=cK h;rw[List.getLast?_eq_getElem?]at hy;obtain⟨p,hp,hv⟩:=vs.get hy;rw[len,jC]at hp;exact .list x il PySem.F.slot_list_pop PySem.F.type_list_pop (PySem.P.pop_list x hp (O.E3 N ea hl x (λxs=>xs.eraseIdxIfInBounds (items.size-1)) (by rw[<-af' hp len.symm,List.dropLast_eq_take];exact vs.take _) hv h) (len▸AM hg))
theorem agf(N:Nx aN z)(O:Ok c n hd g Y z u)(X:pL z.s.heap z.al a l)(ea:z.al[i]?=some a)(h:dn u i λl=>gd (l.length<1000000) (k (.ok .none) (u.set i (.list l.reverse)))):j' c g (bA c aN k) "reverse" (.ref a) pos [] (bG c aN RV k) z.s:=by obtain⟨l,items,m,hl,il,x,vs,len,h⟩:=nz h O.R ea;exact .list x il PySem.F.slot_list_reverse PySem.F.type_list_reverse (PySem.P.reverse_list x (O.E3 N ea hl x (λxs=>xs.reverse) (Array.toList_reverse.symm▸vs.reverse) .none (aZ h).2) (len▸AM (aZ h).1))
theorem rz[Decidable p]{a b R:Prop}(h:if p then a else b)(f:p->a->R)(g:¬p->b->R):R:=by
 by_cases q:p;.exact f q ((if_pos q).mp h)
 .exact g q ((if_neg q).mp h)
theorem xT{α:Type}{as:List α}{P:List α->Prop}(h:gd (as.isEmpty=true) q)(k:q->P []):P as:=(mY.mp (aZ h).1)▸k (aZ h).2
theorem agg(H:bp c n hd ev){nm:Str}{i:Nat}{a:aj}{as:List aq}{pos:Pos}{l:List V}(N:Nx aN z)(O:Ok c n hd g Y z u)(X:pL z.s.heap z.al a l)(ea:z.al[i]?=some a)(h:Uc ev nm i as Y u k):j' c g (bA c aN k) nm (.ref a) pos as (bG c aN RV k) z.s:=rz h (λe h=>e▸(Kr h).casesOn λ_ hs h=>agc H hs N O X ea h) λ_ h=>rz h (λe h=>e▸(Kr h).casesOn λ_ hs h=>agd H hs N O X ea h) λ_ h=>rz h (λe h=>e▸xT (P:=λas=>j' c g (bA c aN k) "pop" (.ref a) pos as (bG c aN RV k) z.s) h λh=>age N O X ea h) λ_ h=>rz h (λe h=>e▸xT (P:=λas=>j' c g (bA c aN k) "reverse" (.ref a) pos as (bG c aN RV k) z.s) h λh=>agf N O X ea h) λ_=>aW
inductive Uj(c:aR)(h:a_)(al:List aj)(u:List MO)(i:Nat)(a:aj)(f:List (Str×V)->Prop):Prop|mk(kv:List (Str×V))(kvs:List (Str×aa))(e:u[i]?=some (.aV kv))(d:h.DictOf (dQ c.prog c.w) a kvs)(p:c_ h al kv kvs)(y:f kv):Uj c h al u i a f
theorem agh{m:MO}(h:m.j3 f False):∃l,m=.aV l/\f l:=by cases m with|aV l=>exact⟨l,rfl,h⟩|_=>exact h.elim
theorem Kt(e:u6 u i f)(R:SR c h al u fs)(ea:al[i]?=some a):Uj c h al u i a f:=by obtain⟨m,hl,e⟩:=cK e;obtain⟨kv,q,e⟩:=agh e;obtain⟨kvs,d,p⟩:=R.obj _ _ _ (q▸hl) ea;exact⟨kv,kvs,q▸hl,d,p,e⟩
inductive Uk(f:aq->aq->Prop):List aq->Prop|mk(x y:aq)(hx:dk x=false)(hy:dk y=false)(h:f x y):Uk f [x,y]
theorem agi(h:Ud as f):Uk f as:=by cases as with|nil=>exact h.elim|cons x r=>exact(Kr (aZ h).2).casesOn λy hy w=>.mk x y (aZ h).1 hy w
theorem nj.getD(x:nj h al id v p)(k:VR h al d q):VR h al (v.getD d) (p.getD q):=by cases x with|no=>exact k|yes x=>exact x
theorem agj(O':dh c)(H:bp c n hd ev){i:Nat}{a:aj}{x y:aq}(hx:dk x=false)(hy:dk y=false){pos:Pos}{kv:List (Str×V)}(N:Nx aN z)(O:Ok c n hd g Y z u)(X:hZ (strKind c.prog c.w) z.s.heap z.al a kv)(ea:z.al[i]?=some a)(h:ev x Y u (bh k λv u=>ev y Y u (bh k λd u=>AH v λx=>u6 u i λkv=>k (.ok ((kv.lookup x).getD d)) u))):j' c g (bA c aN k) "get" (.ref a) pos [x,y] (bG c aN RV k) z.s:=by obtain⟨kvs,dd,-⟩:=X;obtain⟨o',es,ep,e',xo,-⟩:=id dd;refine .of OR PySem.F.slot_dict_get PySem.F.type_dict_get dd.typeIs (λb q=>⟨o',H9 q▸e',xo.2.1⟩) ?_;rw[uU hx,uU hy];refine wpAny_dict_get2 (knd:=dQ c.prog c.w) (ta O' O.R ea) (seq N O (H x Y u _ h) λv aD au q N' bE aI kv az=>seq bE aI (H y Y aD _ az) λd b8 a9 Eg nA bN bJ kd bl=>TO bl (aI.R.vr nA.T kv) λx t bl=>?_);obtain⟨pU,E4,xQ,agk,E5,bl⟩:=Kt bl bJ.R (nA.T.at _ _ (N'.T.at _ _ ea));exact⟨x,mW E4,beq_self_eq_true x,agk.mapOf,bJ.iF bN ((E5.lookup (k:=x)).getD kd) bl⟩
theorem agl(O':dh c)(H:bp c n hd ev){nm:Str}{i:Nat}{a:aj}{as:List aq}{pos:Pos}{kv:List (Str×V)}(N:Nx aN z)(O:Ok c n hd g Y z u)(X:hZ (strKind c.prog c.w) z.s.heap z.al a kv)(ea:z.al[i]?=some a)(h:Ue ev nm i as Y u k):j' c g (bA c aN k) nm (.ref a) pos as (bG c aN RV k) z.s:=(aZ h).1▸(agi (aZ h).2).casesOn λ_ _ hx hy h=>agj O' H hx hy N O X ea h
theorem nj.none(x:nj h al id v p)(e:v.isNone=true):p=none:=by cases x with|no=>rfl|yes=>exact bZ e
theorem agm(SM:z7 c S K)(KI:K.In c.B)(H:bp c n hd ev){cc:CZ}(HC:ry c n hd cc){nm:Str}{i d:Nat}{C a:aj}{as:List aq}{pos:Pos}(hs:as.any dk=false)(N:Nx aN z)(O:Ok c n hd g Y z u)(X:DH z.s.heap z.al a C d)(ea:z.al[i]?=some a)(h:Ug S ev cc nm as i Y u k C d):j' c g (bA c aN k) nm (.ref a) pos as (bG c aN RV k) z.s:=by obtain⟨f,agn,h⟩:=cK h;obtain⟨g1,g2,g3,g4⟩:=SM.mt _ _ _ agn;obtain⟨dx,j7,eo⟩:=X;obtain⟨kv,kvs,-,dd,pr,h⟩:=Kt h O.R j7;obtain⟨hn,h⟩:=aZ h;obtain⟨od,es,ep,uV,-⟩:=id dd;exact⟨.ref f,[.ref a],λavf Q' h=>method_fn (KI.keeps O.R.base) (⟨eo,rfl,rfl,uV⟩:InstAt z.s.heap a (zF C dx) C (some od)) g1 g2 g3 g4 (congrArg (wH _) (acI dd uV ((pr.lookup (k:=nm)).none hn))) h,Uh H hs (E2:=[.ref i]) N O (.st _) (.cons (.ref ea) .nil) (λvs u y=>HC _ _ _ _ y) h⟩
theorem ago(O':dh c)(SM:z7 c S K)(KI:K.In c.B)(H:bp c n hd ev){cc:CZ}(HC:ry c n hd cc){nm:Str}{pos:Pos}{as:List aq}(hs:as.any dk=false){v:V}{q:aa}(N:Nx aN z)(O:Ok c n hd g Y z u)(kv:VR z.s.heap z.al v q)(h:Ko S ev cc nm as v Y u k):j' c g (bA c aN k) nm q pos as (bG c aN RV k) z.s:=by refine rv h kv λi a ea h=>?_;obtain⟨m,hm,h⟩:=cK h;have X:=O.R.obj _ _ _ hm ea;cases m with|list l=>exact agg H N O X ea h|aV kv=>exact agl O' H N O X ea h|inst C d=>exact agm SM KI H HC hs N O X ea h|_=>exact h.elim
theorem Te.agp(O':dh c)(SM:z7 c S K)(KI:K.In c.B)(H:bp c n hd ev){cc:CZ}(HC:ry c n hd cc){o:aq}{nm:Str}{ap pos:Pos}{as:List aq}(hs:as.any dk=false)(agq:oH o=false)(Jr:(ap.endLine==pos.line)=true)(hlen:as.length<29)(h:ev o Y u (bh k λv u=>Ko S ev cc nm as v Y u k)):Te c n hd Y u (.Call (.Attribute o nm ap) as [] pos) k:=λg z O=>Ri agq hs hlen Jr (seq (.refl z) O (H o Y u _ h) λv aD au q _ bE aI kv az=>ago O' SM KI H HC hs bE aI kv az)
end
def bY(f:Nat->Nat)(v:V):V:=V.rec (motive_1:=λ_=>V) (motive_2:=λ_=>List V) .none .bool .int .str (λ_ l=>.tup l) (λi=>.ref (f i)) .st [] (λ_ _ v r=>v::r) v
def ba(f:Nat->Nat)(l:List V):List V:=V.rec_1 (motive_1:=λ_=>V) (motive_2:=λ_=>List V) .none .bool .int .str (λ_ l=>.tup l) (λi=>.ref (f i)) .st [] (λ_ _ v r=>v::r) l
def d9{K:Type}(f:Nat->Nat)(l:List (K×V)):List (K×V):=l.map λp=>(p.1,bY f p.2)
noncomputable def Ku(f:Nat->Nat)(l:List (Str×Nat)):List (Str×Nat):=l.map λp=>(p.1,f p.2)
def cL(f:Nat->Nat)(m:MO):MO:=MO.casesOn (motive:=λ_=>MO) m (λl=>.list (ba f l)) (λkv=>.bg (d9 f kv)) (λkv=>.aV (d9 f kv)) (λkv=>.ji (d9 f kv)) (λc d=>.inst c (f d)) (λv=>.cell (v.map (bY f))) (λpr b sc cs=>.jE pr b sc (Ku f cs)) (λd=>.exc (f d)) .tab
def Ul(f:Nat->Nat)(r:Rs V):Rs V:=Rs.casesOn (motive:=λ_=>Rs V) r (λa=>.ok (bY f a)) λi=>.de (f i)
theorem VR.atom(x:VR h al v q):V.casesOn (motive_1:=λ_=>Prop) v True (λ_=>True) (λ_=>True) (λ_=>True) (λ_=>False) (λ_=>False) (λ_=>True)->VR h aT v q:=VR.casesOn (motive_1:=λv q _=>V.casesOn (motive_1:=λ_=>Prop) v True (λ_=>True) (λ_=>True) (λ_=>True) (λ_=>False) (λ_=>False) (λ_=>True)->VR h aT v q) x (λ_=>.none) (λ_ _=>.bool _) (λ_ _ _=>.int _ _) (λ_ _ _=>.str _ _) (λ_ _=>aW) (λ_=>aW) λ_ _=>.st _
theorem VR.agr{P:aa->Prop}(x:VR h al (.tup l) q)(k:∀a(items:Array aa),fz h a items->aQ h al l items.toList->P (.ref a)):P q:=VR.casesOn (motive_1:=λv q _=>v.DN (λl=>(∀a(items:Array aa),fz h a items->aQ h al l items.toList->P (.ref a))->P q) True) x trivial (λ_=>trivial) (λ_ _=>trivial) (λ_ _=>trivial) (λt vs k=>k _ _ t vs) (λ_=>trivial) (λ_=>trivial) k
theorem VR.pull(ha:∀i a,al[r i]?=some a->aT[i]?=some a) v:∀{q:aa},VR h al (bY r v) q->VR h aT v q:=V.rec (motive_1:=λv=>∀{q:aa},VR h al (bY r v) q->VR h aT v q) (motive_2:=λl=>∀{qs:List aa},aQ h al (ba r l) qs->aQ h aT l qs) (λx=>x.atom trivial) (λ_ _ x=>x.atom trivial) (λ_ _ x=>x.atom trivial) (λ_ _ x=>x.atom trivial) (λl ih q x=>x.agr λa items t vs=>.tup t (ih vs)) (λi q x=>rv (P:=λ_ q=>VR h aT (.ref i) q) (show i4 (.ref (r i)) λj=>j=r i from rfl) x λj a e y=>.ref (ha i a (y▸e))) (λ_ _ x=>x.atom trivial) (λx=>x.jj .nil) (λv l ags agt qs x=>x.fA λp r' a t=>.cons (ags a) (agt t)) v
theorem aQ.pull(ha:∀i a,al[r i]?=some a->aT[i]?=some a) l:∀{qs:List aa},aQ h al (ba r l) qs->aQ h aT l qs:=by induction l with|nil=>exactλx=>x.jj .nil|cons v l ih=>exactλx=>x.fA λp r' a t=>.cons (a.pull ha) (ih t)
theorem VR.send(ha:∀i a,aT[i]?=some a->al[r i]?=some a){v:V}{q:aa}(x:VR h aT v q):VR h al (bY r v) q:=VR.rec (motive_1:=λv q _=>VR h al (bY r v) q) (motive_2:=λl qs _=>aQ h al (ba r l) qs) .none .bool .int .str (λt _ s=>.tup t s) (λe=>.ref (ha _ _ e)) .st .nil (λ_ _ a t=>.cons a t) x
theorem aQ.send(ha:∀i a,aT[i]?=some a->al[r i]?=some a){l:List V}{qs:List aa}(x:aQ h aT l qs):aQ h al (ba r l) qs:=aQ.rec (motive_1:=λv q _=>VR h al (bY r v) q) (motive_2:=λl qs _=>aQ h al (ba r l) qs) .none .bool .int .str (λt _ s=>.tup t s) (λe=>.ref (ha _ _ e)) .st .nil (λ_ _ a t=>.cons a t) x
theorem c_.pull{K:Type}(ha:∀i a,al[r i]?=some a->aT[i]?=some a)(l:List (K×V)):∀{p},c_ h al (d9 r l) p->c_ h aT l p:=by induction l with|nil=>exactλx=>x.nil_inv▸.nil|cons p l ih=>exactλx=>by obtain⟨q,r',e,a,t⟩:=x.cons_inv;exact e▸.cons (a.pull ha) (ih t)
theorem c_.send{K:Type}(ha:∀i a,aT[i]?=some a->al[r i]?=some a){l:List (K×V)}{p}(x:c_ h aT l p):c_ h al (d9 r l) p:=by induction x with|nil=>exact .nil|cons a t ih=>exact .cons (p:=(_,bY r _)) (a.send ha) ih
theorem eh.nil_inv{r:List (KV×aj×aa)}(x:eh h al [] r):r=[]:=by cases x;rfl
theorem eh.fA{r:List (KV×aj×aa)}{P:List (KV×aj×aa)->Prop}(x:eh h al (p::l) r)(k:∀b q r',VR h al p.2 q->eh h al l r'->P ((p.1,b,q)::r')):P r:=by cases x with|cons a t=>exact k _ _ _ a t
theorem dv.nil_inv{r:List (Str×aj)}(x:dv al [] r):r=[]:=by cases x;rfl
theorem dv.fA{r:List (Str×aj)}{P:List (Str×aj)->Prop}(x:dv al (p::l) r)(k:∀a r',al[p.2]?=some a->dv al l r'->P ((p.1,a)::r')):P r:=by cases x with|cons a t=>exact k _ _ a t
theorem eh.pull(ha:∀i a,al[r i]?=some a->aT[i]?=some a) l:∀{p},eh h al (d9 r l) p->eh h aT l p:=by induction l with|nil=>exactλx=>x.nil_inv▸.nil|cons p l ih=>exactλx=>x.fA λb q r' a t=>.cons (a.pull ha) (ih t)
theorem eh.send(ha:∀i a,aT[i]?=some a->al[r i]?=some a){l:List (KV×V)}{p}(x:eh h aT l p):eh h al (d9 r l) p:=by induction x with|nil=>exact .nil|cons a t ih=>exact .cons (p:=(_,bY r _)) (a.send ha) ih
theorem dv.pull(ha:∀i a,al[r i]?=some a->aT[i]?=some a) l:∀{p},dv al (Ku r l) p->dv aT l p:=by induction l with|nil=>exactλx=>x.nil_inv.symm▸dv.nil|cons p l ih=>exactλx=>x.fA λb r' a t=>.cons (ha _ _ a) (ih t)
theorem dv.send(ha:∀i a,aT[i]?=some a->al[r i]?=some a){l:List (Str×Nat)}{p}(x:dv aT l p):dv al (Ku r l) p:=by induction x with|nil=>exact .nil|cons a t ih=>exact .cons (p:=(_,r _)) (ha _ _ a) ih
theorem oE.at(k:oE c h al x)(hs:∀T o,h.get? T=some o->Tb o->T∉al->T∉aT):oE c h aT x:=by cases k with|no q=>exact .no q|has T oT q e t n b=>exact .has T oT q e t (hs T oT e t n) b
theorem eB.pull(ha:∀i a,al[r i]?=some a->aT[i]?=some a)(hs:∀a∈aT,a∈al){a:aj}{mo:MO}(x:eB c h al a (cL r mo)):eB c h aT a mo:=by cases mo with
 |list l=>obtain⟨items,n,e,y⟩:=x;exact⟨items,n,e,aQ.pull ha l y⟩|bg kv=>obtain⟨kvs,e,y⟩:=x;exact⟨kvs,e,c_.pull ha kv y⟩|aV kv=>obtain⟨kvs,e,y⟩:=x;exact⟨kvs,e,c_.pull ha kv y⟩|ji kv=>obtain⟨kvs,e,y⟩:=x;exact⟨kvs,e,eh.pull ha kv y⟩|inst C d=>obtain⟨dx,e,y⟩:=x;exact⟨dx,ha _ _ e,y⟩|cell v=>cases v with|none=>exact x|some v=>obtain⟨p,e,y⟩:=x;exact DI.mk p e (y.pull ha)
 |jE pr b sc cs=>obtain⟨o,fd,e,e2,e3,f1,f2,f3,f4,f5,f6,f7,f8,f9⟩:=x;exact⟨o,fd,e,e2,e3,f1,f2,f3,dv.pull ha cs f4,f5,f6,f7,f8,f9⟩|exc d=>obtain⟨o,dx,vs,e,e2,e3,e4,e5,e6,e7⟩:=x;exact⟨o,dx,vs,ha _ _ e,e2,e3,e4,e5,e6,e7.at λT _ _ _ n m=>n (hs T m)⟩|tab cs=>exact x
theorem eB.send(ha:∀i a,aT[i]?=some a->al[r i]?=some a)(hs:∀T o,h.get? T=some o->Tb o->T∉aT->T∉al){a:aj}{mo:MO}(x:eB c h aT a mo):eB c h al a (cL r mo):=by cases mo with
 |list l=>obtain⟨items,n,e,y⟩:=x;exact⟨items,n,e,y.send ha⟩|bg kv=>obtain⟨kvs,e,y⟩:=x;exact⟨kvs,e,y.send ha⟩|aV kv=>obtain⟨kvs,e,y⟩:=x;exact⟨kvs,e,y.send ha⟩|ji kv=>obtain⟨kvs,e,y⟩:=x;exact⟨kvs,e,y.send ha⟩|inst C d=>obtain⟨dx,e,y⟩:=x;exact⟨dx,ha _ _ e,y⟩|cell v=>cases v with|none=>exact x|some v=>obtain⟨p,e,y⟩:=x;exact DI.mk p e (y.send ha)
 |jE pr b sc cs=>obtain⟨o,fd,e,e2,e3,f1,f2,f3,f4,f5,f6,f7,f8,f9⟩:=x;exact⟨o,fd,e,e2,e3,f1,f2,f3,f4.send ha,f5,f6,f7,f8,f9⟩|exc d=>obtain⟨o,dx,vs,e,e2,e3,e4,e5,e6,e7⟩:=x;exact⟨o,dx,vs,ha _ _ e,e2,e3,e4,e5,e6,e7.at hs⟩|tab cs=>exact x
theorem VR.cl(hf:∀i,i<al.length->f i=i){v:V}{q:aa}(x:VR h al v q):bY f v=v:=VR.rec (motive_1:=λv q _=>bY f v=v) (motive_2:=λl qs _=>ba f l=l) rfl (λ_=>rfl) (λ_ _=>rfl) (λ_ _=>rfl) (λ_ _ e=>congrArg V.tup e) (λe=>congrArg V.ref (hf _ (cn.mp e).1)) (λ_=>rfl) rfl (@λv q l qs _ _ a t=>show bY f v::ba f l=v::l from congr (congrArg Ov a) t) x
def Um(m:Nat)(v:V):Prop:=∀f:Nat->Nat,(∀i,i<m->f i=i)->bY f v=v
theorem VR.low(x:VR h al v q)(k:Um m v)(ha:∀i a,i<m->al[i]?=some a->aT[i]?=some a):VR h aT v q:=by
 refine VR.pull (r:=λi=>if i<m then i else al.length) (λi a e=>?_) v (by rw[k _ λi hi=>if_pos hi];exact x);by_cases hi:i<m;.exact ha i a hi ((if_pos hi).subst (motive:=λj=>al[j]?=some a) e)
 .exact aE ((l0 (bo (if_neg hi).symm)).symm.trans e)
def Sb(m:Nat)(fs:Fs):Prop:=∀p∈fs,∀x v,p.2.lookup x=some v->Um m v
theorem SR.sb(R:SR c h al u fs){m:Nat}(hm:al.length<=m):Sb m fs:=λp hp x v e f hf=>by obtain⟨mm,_,k⟩:=R.fr p hp;obtain⟨q,_,hv⟩:=k x v e;exact hv.cl λi hi=>hf i (cw hi hm)
structure St(m:Nat)(h:a_)(al fa:List aj)(h':a_)(aT:List aj):Prop where
 live:∀b o,h.get? b=some o->∃o',h'.get? b=some o'
 keep:∀b o,h.get? b=some o->b∉al->b∉fa->∃o',h'.get? b=some o'/\(o'=o\/(Tb o/\Tb o'))p_:∀a∈aT,a∈al\/h.get? a=none
 pre:∀i a,i<m->al[i]?=some a->aT[i]?=some a
section
variable{al dM d1 fa:List aj}
theorem a8.st(x:a8 h al fa az dM):St m h al fa az dM:=⟨x.live,x.keep,by obtain⟨n,rfl,hn⟩:=x.ext;exactλa ha=>(cV.mp ha).imp id (hn a),λi a _ e=>x.at i a e⟩
theorem St.trans(x:St m h al fa az dM)(y:St m az dM fa bl d1):St m h al fa bl d1 where
 live b o e:=(x.live b o e).elim λo' e'=>y.live b o' e';keep b o e h1 h2:=by obtain⟨w8,jk,ck⟩:=x.keep b o e h1 h2;obtain⟨zS,uI,ia⟩:=y.keep b w8 jk (λq=>(x.p_ b q).elim h1 λq=>aE (q.symm.trans e)) h2;exact⟨zS,uI,ck.elim (λck=>ck▸ia) λck=>.inr ⟨ck.1,ia.elim (λia=>ia▸ck.2) DF⟩⟩
 p_ a ha:=(y.p_ a ha).elim (x.p_ a) λq=>.inr (by cases e:h.get? a with|none=>rfl|some o=>exact(x.live a o e).elim λo' e'=>aE (q.symm.trans e'));pre i a hi e:=y.pre i a hi (x.pre i a hi e)
theorem agu(h:∀(i:Nat)(a:aj),al[i]?=some a->d1[i]?=some a):∃n,d1=al++n:=by induction al generalizing d1 with|nil=>exact⟨d1,rfl⟩|cons x xs ih=>cases d1 with|nil=>exact aE (h 0 x rfl)|cons y ys=>obtain⟨n,rfl⟩:=ih (d1:=ys) λi a e=>h (i+1) a e;cases aJ (h 0 x rfl);exact⟨n,rfl⟩
theorem St.body(x:a8 h al fa az dM)(y:St m az dM (L::fa) bl d1)(hL:h.get? L=none)(hm:al.length<=m)(nd:d1.Nodup):a8 h al fa bl d1:=by have x':=x.st (m:=m);have t:St m h al (L::fa) bl d1:=St.trans ⟨x'.live,λb o e h1 h2=>x'.keep b o e h1 λq=>h2 (.tail _ q),x'.p_,x'.pre⟩ y;obtain⟨n,rfl⟩:=agu λi a e=>t.pre i a (cw (cn.mp e).1 hm) e;refine⟨t.live,λb o e h1 h2=>t.keep b o e h1 λq=>(bX.mp q).elim (λq=>aE ((q▸hL).symm.trans e)) h2,n,rfl,λa ha=>?_⟩;exact(t.p_ a (gi _ ha)).elim (λq=>absurd rfl ((gH.mp nd).2.2 a q a ha)) id
theorem St.refl:St m h al fa h al:=a8.st (.refl ..)
end
structure Nm(m:Nat)(z z':Z):Prop where
 T:St m z.s.heap z.al (z.fs.map (·.1)) z'.s.heap z'.al
 m:cW z.s z'.s
 f:z'.fs.map (·.1)=z.fs.map (·.1)
theorem Nx.nm{m:Nat}(N:Nx z z'):Nm m z z':=⟨N.T.st,N.m,by rw[N.f]⟩
theorem Nm.trans{m:Nat}(a:Nm m z z')(b:Nm m z' z''):Nm m z z'':=⟨a.T.trans (a.f▸b.T),a.m.trans b.m,b.f.trans a.f⟩
theorem Nm.nx{m:Nat}(a:Nm m z z')(b:Nx z' z''):Nm m z z'':=a.trans b.nm
theorem Nm.refl{m:Nat} z:Nm m z z:=(Nx.refl z).nm
abbrev KX:=Rs Fl->Loc->List MO->Prop
inductive PS(c:aR)(n:Nat)(hd:Option Nat)(g:G)(m:Nat)(z:Z)(k:KX)(q:lW):SP|mk(fl:Fl)(Y:Loc)(u:List MO)(z':Z)(N:Nm m z z')(O:Ok c n hd g Y z' u)(r:RF fl z'.al z'.s.heap q)(h:k (.ok fl) Y u):PS c n hd g m z k q z'.s
inductive ES(c:aR)(n:Nat)(hd:Option Nat)(g:G)(m:Nat)(z:Z)(k:KX):aa->SP|mk(i a d:Nat)(Y:Loc)(u:List MO)(z':Z)(N:Nm m z z')(O:Ok c n hd g Y z' u)(ea:z'.al[i]?=some a)(ed:u[i]?=some (.exc d))(h:k (.de i) Y u):ES c n hd g m z k (.ref a) z'.s
structure Bg(m:Nat)(g:G):Prop where
 b:Bx g.A g.ag g.outer g.L g.rest
 s:Sb m g.rest
def TX(c:aR)(n:Nat)(hd:Option Nat)(m:Nat)(Y:Loc)(u:List MO)(t:Env->Sem lW)(k:KX):Prop:=∀(g:G)(z:Z),Bg m g->Ok c n hd g Y z u->av c.M g.A (t g.ag) (PS c n hd g m z k) (ES c n hd g m z k) z.s
abbrev Ts(c:aR)(n:Nat)(hd:Option Nat)(m:Nat)(Y:Loc)(u:List MO)(st:bj)(k:KX):Prop:=TX c n hd m Y u (λag=>exec st ag) k
abbrev bb(c:aR)(n:Nat)(hd:Option Nat)(m:Nat)(Y:Loc)(u:List MO)(b:List bj)(k:KX):Prop:=TX c n hd m Y u (λag=>execs b ag) k
def bx(Y:Loc)(k:KX)(f:α->List MO->Prop):KT α:=λr u=>Rs.casesOn (motive:=λ_=>Prop) r (λa=>f a u) λi=>k (.de i) Y u
def rA(k:KX)(f:Fl->Loc->List MO->Prop):KX:=λr Y u=>Rs.casesOn (motive:=λ_=>Prop) r (λa=>f a Y u) λi=>k (.de i) Y u
def xU(fl:Fl)(p:Prop)(q:V->Prop):Prop:=Fl.casesOn (motive:=λ_=>Prop) fl p q
section
variable{K:d0}{Rel:AG α β}
theorem PS.gK(N:Nm m aN z)(y:PS c n hd g m z k q s'):PS c n hd g m aN k q s':=by obtain⟨fl,Y,u,z',N',O,r,h⟩:=y;exact .mk fl Y u z' (N.trans N') O r h
theorem ES.gK(N:Nm m aN z)(y:ES c n hd g m z k q s'):ES c n hd g m aN k q s':=by obtain⟨i,a,d,Y,u,z',N',O,ea,ed,h⟩:=y;exact .mk i a d Y u z' (N.trans N') O ea ed h
theorem E6(N:Nm m aN z)(h:av c.M A t (PS c n hd g m z k) (ES c n hd g m z k) s):av c.M A t (PS c n hd g m aN k) (ES c n hd g m aN k) s:=b_ h (λ_ _=>PS.gK N) λ_ _=>ES.gK N
theorem nE{Q:β->SP}(N:Nm m aN z)(O:Ok c n hd g Y z u)(h:Tr c n hd Y u Rel t (bx Y k f))(hk:∀a aD au q,Nx z au->Nm m aN au->Ok c n hd g Y au aD->Rel a au.al au.s.heap q->f a aD->Q q au.s):av c.M g.A (t g.ag) Q (ES c n hd g m aN k) z.s:=b_ (h g z O) (λq s' y=>by obtain⟨v,aD,au,N',R,r,h⟩:=y;exact hk v aD au q N' (N.nx N') (O.nx N' R) r h) λq s' y=>by obtain⟨i,a,d,aM,z',N',R,ea,ed,h⟩:=y;exact .mk i a d Y aM z' (N.nx N') (O.nx N' R) ea ed h
theorem Ok.vars(O:Ok c n hd g Y z u)(lq:d8 Y dF){s':aF}(T:a8 z.s.heap z.al (((g.L,Y.vars)::g.rest).map (·.1)) s'.heap z.al)(m':cW z.s s')(R:SR c s'.heap z.al aD ((g.L,dF.vars)::g.rest)):Nm m z ⟨s',z.al,(g.L,dF.vars)::g.rest⟩/\Ok c n hd g dF ⟨s',z.al,(g.L,dF.vars)::g.rest⟩ aD:=⟨⟨by rw[O.fs];exact T.st,m',by rw[O.fs];rfl⟩,rfl,(O.fs▸O.C).vars,O.E.D7 lq,R⟩
theorem E7(h:aH (fN Y u x v) f)(O:Ok c n hd g Y z u)(kv:VR z.s.heap z.al v q){Q:Unit->SP}{E:aa->SP}(hQ:∀p z',Nm m z z'->Ok c n hd g p.1 z' p.2->f p->Q () z'.s):av c.M g.A (y0 g.ag x q) Q E z.s:=by obtain⟨p,e,hf⟩:=cK h;exact xq e O.E O.R' kv λs' R T m' _=>have y:=O.vars (m:=m) (Jt e) T m' R;hQ p _ y.1 y.2 hf
theorem TX.nil(h:k (.ok .next) Y u):bb c n hd m Y u [] k:=λg z B O=>yS (.mk .next Y u z (.refl z) O rfl h)
theorem TX.cons{st:bj}(h:Ts c n hd m Y u st (rA k λfl Y u=>xU fl (bb c n hd m Y u b k) λv=>k (.ok (.ret v)) Y u)):bb c n hd m Y u (st::b) k:=λg z B O=>by
 show av c.M g.A (execs (st::b) g.ag) _ _ z.s;rw[Hk];refine aw (b_ (h g z B O) (λfl s' y=>?_) λq s' y=>?_);.obtain⟨fl,dF,aD,au,N,aI,r,h⟩:=y;cases fl with|next=>rw[show _=_ from r];exact E6 N (h g au B aI)|ret v=>obtain⟨q,e,kv⟩:=r;rw[e];exact aP (.mk (.ret v) dF aD au N aI ⟨q,rfl,kv⟩ h)
 .exact ES.casesOn y λi a d dF aD au N aI ea ed h=>.mk i a d dF aD au N aI ea ed h
theorem TX.expr(H:bp c n hd ev){e:aq}{pos:Pos}(hc:z0 e=false)(h:ev e Y u (bx Y k λ_ u=>k (.ok .next) Y u)):Ts c n hd m Y u (.Expr e pos) k:=λg z B O=>wpAny_Expr_any (nE (.refl z) O (H e Y u _ h) λa aD au q _ N aI _ az=>.mk .next Y aD au N aI rfl az) (ac7 O.E.kind) (JA hc)
theorem TX.ret(H:bp c n hd ev){e:aq}{pos:Pos}(h:ev e Y u (bx Y k λv u=>k (.ok (.ret v)) Y u)):Ts c n hd m Y u (.Return (some e) pos) k:=λg z B O=>wpAny_Return_some (nE (.refl z) O (H e Y u _ h) λa aD au q _ N aI kv az=>.mk (.ret a) Y aD au N aI ⟨q,rfl,kv⟩ az)
theorem TX.ite(HT:fq c n hd tv){t:aq}{b o:List bj}{pos:Pos}(h:tv t Y u (bx Y k λq u=>if q then bb c n hd m Y u b k else bb c n hd m Y u o k)):Ts c n hd m Y u (.If t b o pos) k:=λg z B O=>wpAny_If (nE (.refl z) O (HT t Y u _ h) λa aD au q _ N aI kv az=>rx kv az (λh=>E6 N (h g au B aI)) λh=>E6 N (h g au B aI))
def Un(S:cJ)(ev:EZ)(v:V)(Y:Loc)(u:List MO)(k:KX)(o:aq)(n:Str)(_:Pos):Prop:=ev o Y u (bx Y k λov u=>aH (Qh S ov n v u) λu=>k (.ok .next) Y u)
def Uo(ev:EZ)(v:V)(Y:Loc)(u:List MO)(k:KX)(o i:aq)(_:Pos):Prop:=ev o Y u (bx Y k λov u=>ev i Y u (bx Y k λiv u=>aH (kL ov iv v u) λu=>k (.ok .next) Y u))
def Kv(S:cJ)(ev:EZ)(t:aq)(v:V)(Y:Loc)(u:List MO)(k:KX):Prop:=pM t (Un S ev v Y u k) (w_ t (Uo ev v Y u k) (aH (cf t v Y u) λp=>k (.ok .next) p.1 p.2))
noncomputable def E8(e:aq):Bool:=qJ e.ctorIdx 25
def agv(c:aR)(n:Nat)(hd:Option Nat)(m:Nat)(g:G)(aN:Z)(q:aa)(k:KX)(s:aF)(t:aq):Prop:=(sq [t] g.ag).map (·.2)=[assign t g.ag]/\av c.M g.A (assign t g.ag q) (λ_=>PS c n hd g m aN k .next) (ES c n hd g m aN k) s
def TA(c:aR)(n:Nat)(hd:Option Nat)(m:Nat)(Y:Loc)(u:List MO)(v:V)(k:KX)(t:aq):Prop:=∀(g:G)(z aN:Z)(q:aa),Nm m aN z->Ok c n hd g Y z u->VR z.s.heap z.al v q->(E8 t=true->g.A.handled=none)->agv c n hd m g aN q k z.s t
theorem Ok.u7(O:Ok c n hd g Y z u){s':aF}(R:SR c s'.heap z.al aD z.fs)(T:a8 z.s.heap z.al (z.fs.map (·.1)) s'.heap z.al)(m':cW z.s s'):Nx z ⟨s',z.al,z.fs⟩/\Ok c n hd g Y ⟨s',z.al,z.fs⟩ aD:=have N:Nx z ⟨s',z.al,z.fs⟩:=⟨T,m',rfl⟩;⟨N,O.nx N R⟩
theorem agw{d:Prop}{P:aq->Prop}(h:pM e f d)(k:∀o x p,f o x p->P (.Attribute o x p))(kd:d->P e):P e:=by
 unfold pM at h;by_cases q:e.ctorIdx=20;.rw[dif_pos q]at h;exact zA (motive_1:=λe=>∀q,zA (motive_1:=λ_=>Prop) e q f->P e) e q (λ_ _ _ _ h=>k _ _ _ h) q h
 .rw[dif_neg q]at h;exact kd h
theorem agx{d:Prop}{P:aq->Prop}(h:w_ e f d)(k:∀o x p,f o x p->P (.Subscript o x p))(kd:d->P e):P e:=by
 unfold w_ at h;by_cases q:e.ctorIdx=21;.rw[dif_pos q]at h;exact zB (motive_1:=λe=>∀q,zB (motive_1:=λ_=>Prop) e q f->P e) e q (λ_ _ _ _ h=>k _ _ _ h) q h
 .rw[dif_neg q]at h;exact kd h
theorem TA.attr(SW:xy c S K)(H:bp c (n+1) hd ev){v:V}{o:aq}{nm:Str}{p:Pos}(h:Un S ev v Y u k o nm p):TA c (n+1) hd m Y u v k (.Attribute o nm p):=λg z aN q N O kv _=>by refine⟨rfl,?_⟩;rw[PySem.assign_Attribute];refine aw (fT (nE N O (H o Y u _ h) λov aD au agy N' bE aI ko az=>?_));obtain⟨b8,e,bl⟩:=cK az;exact aw (kC (aw (fT (ac3 SW e aI.R ko (O.R.vr N'.T kv) λs' R T m'=>wpAny_release (.mk .next Y b8 _ (bE.nx (aI.u7 R T m').1) (aI.u7 R T m').2 rfl bl)))))
theorem TA.sub(H:bp c (n+1) hd ev){v:V}{o i:aq}{p:Pos}(h:Uo ev v Y u k o i p):TA c (n+1) hd m Y u v k (.Subscript o i p):=λg z aN q N O kv _=>by refine⟨rfl,?_⟩;rw[arm_assign_Subscript];refine aw (fT (nE N O (H o Y u _ h) λov aD au agy N' bE aI ko az=>aw (fT (nE bE aI (H i Y aD _ az) λiv b8 a9 Eg nA bN bJ ki bl=>?_))));obtain⟨oS,e,ie⟩:=cK bl;exact aw (kC (aw (fT (ac6 e bJ.U bJ.R (aI.R.vr nA.T ko) ki (aI.R.vr nA.T (O.R.vr N'.T kv)) λs' R T m'=>wpAny_release (.mk .next Y oS _ (bN.nx (bJ.u7 R T m').1) (bJ.u7 R T m').2 rfl ie)))))
theorem TA.names(h:aH (cf t v Y u) λp=>k (.ok .next) p.1 p.2):TA c n hd m Y u v k t:=λg z aN q N O kv hh=>by obtain⟨p,e,hf⟩:=cK h;have y:∀s',SR c s'.heap z.al p.2 ((g.L,p.1.vars)::g.rest)->a8 z.s.heap z.al (((g.L,Y.vars)::g.rest).map (·.1)) s'.heap z.al->cW z.s s'->dm c g.ag z.al p.1 g.L->PS c n hd g m aN k .next s':=λs' R T m' _=>.mk .next p.1 p.2 _ (N.trans (O.vars (m:=m) (Ea e) T m' R).1) (O.vars (m:=m) (Ea e) T m' R).2 rfl hf;have z:(E8 t=true->g.A.handled=none)->(g.A.handled=none\/∃x p,t=.Name x p)->av c.M g.A (assign t g.ag q) (λ_=>PS c n hd g m aN k .next) (ES c n hd g m aN k) z.s:=λ_ hh=>Jy e hh O.E O.R' kv y;cases Jv e with|name x p=>exact⟨rfl,z hh (.inr ⟨x,p,rfl⟩)⟩|tup=>exact⟨rfl,z hh (.inl (hh rfl))⟩
theorem TA.of(SW:xy c S K)(H:bp c (n+1) hd ev){t:aq}{v:V}(h:Kv S ev t v Y u k):TA c (n+1) hd m Y u v k t:=agw h (λ_ _ _ h=>TA.attr SW H h) λh=>agx h (λ_ _ _ h=>TA.sub H h) TA.names
inductive Kw(hd:Option Nat)(e:aq):aq->Prop|one{t:aq}(h:E8 t=false)(w:∀ag,yW [t] e ag=pure none):Kw hd e t|tup(ts:List aq)(aG:Nat)(p:Pos)(xs:List Str)(h:hd=none)(ho:D0 e=true)(hx:Internal.namesOf ts=some xs):Kw hd e (.Tuple ts aG p)
theorem agz(h:IZ hd t e=true):Kw hd e t:=by cases t with|Name|Attribute|Subscript=>exact .one rfl λ_=>rfl|Tuple ts aG p=>have h:(hd.isNone&&D0 e&&(namesOf ts).isSome)=true:=h;rw[iV,iV]at h;obtain⟨xs,gu⟩:=HV.mp h.2;exact .tup ts aG p xs (uB.mp h.1.1) h.1.2 gu|_=>exact bZ h
theorem Ok.hh(O:Ok c n none g Y z u):g.A.handled=none:=O.C.handled
theorem Ok.hn(O:Ok c n hd g Y z u)(h:hd=none):g.A.handled=none:=by subst h;exact O.hh
inductive Up(Y:Loc)(u:List MO)(bs:List (Str×V))(r:Loc×List MO):Prop|mk(Kx:Loc)(e:ni bs.reverse Y u=some (Kx,u))(es:r.2=u)(l:d8 Y r.1)(v:∀y,r.1.vars.lookup y=Kx.vars.lookup y):Up Y u bs r
theorem agA{ag:Env}(nd:(bs.map (·.1)).Nodup)(hl:∀b∈bs,Y.sc.names.lookup b.1=some NameKind.local){r:Loc×List MO}(h:ni bs Y u=some r):Up Y u bs r:=by have e:=aJ ((Ro (ag:=ag) bs hl).symm.trans h);refine e▸.mk _ (Ro (ag:=ag) bs.reverse λb hb=>hl b (List.mem_reverse.mp hb)) rfl ⟨rfl,rfl,rfl⟩ λy=>?_;show wA y (bs.foldl _ _)=wA y (bs.reverse.foldl _ _);rw[Rq y bs _ nd,Rq y bs.reverse _ (by rw[HA];exact(List.reverse_perm _).nodup_iff.mpr nd),acM y nd]
theorem agB(h0:hd=none){ts:List aq}{aG:Nat}{p:Pos}{v:V}{q:aa}{xs:List Str}(gu:Internal.namesOf ts=some xs)(nd:xs.Nodup)(hl:∀x∈xs,Y.sc.names.lookup x=some NameKind.local)(h:aH (cf (.Tuple ts aG p) v Y u) λp=>k (.ok .next) p.1 p.2)(N:Nm m aN z)(O:Ok c n hd g Y z u)(kv:VR z.s.heap z.al v q):av c.M g.A (do rule "assign.swapped-stores"let items<-unpackItems q xs.length none;G' (xs.reverse.map λn=>sy g.ag n) items.reverse;pure Iu) (PS c n hd g m aN k) (ES c n hd g m aN k) z.s:=by
 obtain⟨r,e,hf⟩:=cK h;obtain⟨jm,hx,e⟩:=bH (show aU (namesOf ts) (λxs=>aU (DV v u) (λvs=>uL xs vs Y u) none) none=some r from e);obtain⟨vs,z9,e⟩:=bH e;rw[aJ (hx.symm.trans gu)]at e;obtain⟨hlen,hb⟩:=acN xs e;have hz:((xs.zip vs).map (·.1))=xs:=Oc (bo hlen);obtain⟨Kx,e,es,l,vv⟩:=agA (ag:=g.ag) (hz.symm▸nd) (λb hb=>hl _ (hz▸sN hb)) hb;refine aw (wg (aw ?_));rw[hlen];refine Rn z9 (O.hn h0) O.R' kv λqs h' kp kk=>aw ?_;have Ky:(xs.reverse.map λn=>sy g.ag n)=(xs.zip vs).reverse.map λb=>sy g.ag b.1:=by rw[<-hz,<-HA,jh,hz];rfl
 rw[Ky];refine acP (xs.zip vs).reverse (s:={z.s with heap:=h'}) e O.E (O.R'.keep kp) (by rw[HA,List.map_snd_zip (bo hlen.symm)];exact kk.reverse) λdD d7 j6 kM te=>aP ?_;have y:=O.vars (m:=m) l ((a8.of_keep kp ..).trans j6) ⟨kM.1,kM.2.1,kM.2.2⟩ (d7.acO vv);exact .mk .next _ _ _ (N.trans y.1) y.2 rfl (es▸hf)
theorem TX.assign(SW:xy c S K)(H:bp c (n+1) hd ev){t e:aq}{pos:Pos}(hc:z0 e=false)(ht:IZ hd t e=true)(h:ev e Y u (bx Y k λv u=>Kv S ev t v Y u k)):Ts c (n+1) hd m Y u (.Assign [t] e pos) k:=λg z B O=>by have st:(E8 t=true->g.A.handled=none)->yW [t] e g.ag=pure none->av c.M g.A (exec (.Assign [t] e pos) g.ag) (PS c (n+1) hd g m z k) (ES c (n+1) hd g m z k) z.s:=λhh hw=>wpAny_Assign_stores (nE (.refl z) O (H e Y u _ h) λv aD au q _ N aI kv az=>by have y:=TA.of (m:=m) SW H az g au z q N aI kv hh;rw[y.1];exact RA y.2) (JA hc) hw;cases agz ht with|one h0 hw=>exact st (λh=>bZ (h0.symm.trans h)) (hw _)|tup ts aG p xs h0 ho gu=>refine(acV (k:=aG) (p:=p) O.E gu ho).elim (λhw=>st (λ_=>O.hn h0) hw) λhw=>?_;show av c.M g.A (exec (.Assign [.Tuple ts aG p] e pos) g.ag) _ _ z.s;rw[NM];refine aw (kC ?_);rw[show swapsWithSole [.Tuple ts aG p] e pos.line g.ag=pure false from JA (ag:=g.ag) (t:=some (.Tuple ts aG p)) (l:=pos.line) hc];refine aw (aP ?_);rw[if_neg l5];refine aw (nE (.refl z) O (H e Y u _ h) λv aD au q _ N aI kv az=>?_);rw[hw.1];exact aw (aP (agB h0 gu hw.2.1 hw.2.2 az N aI kv))
end
def ik(k:KT V):KX:=λr _ u=>Rs.casesOn (motive:=λ_=>Prop) r (λf=>xU f (k (.ok .none) u) λv=>k (.ok v) u) λi=>k (.de i) u
def u9(c:aR)(z:Z)(k:KT V)(r:sH)(s':aF):Prop:=Except.casesOn (motive:=λ_=>Prop) r (λq=>bA c z k q s') λf=>Px (motive:=λ_=>Prop) f False False False λv=>bG c z RV k v s'
@[elab_as_elim]theorem u9.el{P:sH->Prop}(y:u9 c z k r s')(he:∀q,bA c z k q s'->P (.error q))(hv:∀v,bG c z RV k v s'->P (.ok (.ret v))):P r:=by cases r with|error q=>exact he q y|ok f=>cases f with|ret v=>exact hv v y|_=>exact y.elim
abbrev XZ:=List bj->Loc->List MO->KX->Prop
def mi(c:aR)(n:Nat)(hd:Option Nat)(ex:XZ):Prop:=∀b Y u k,ex b Y u k->∀m,bb c n hd m Y u b k
section
variable{c:aR}{n:Nat}{hd:Option Nat}{S:cJ}{K:d0}{g:G}{Y:Loc}{z aN au:Z}{u aD:List MO}{k:KT V}{ev:EZ}{ex:XZ}{A:dR}
structure agC(ps:iz)(sc:cz)(args:List V):Prop where
 co:sc.isCoroutine=false
 gen:sc.isGenerator=false
 pl:qX ps=true
 len:args.length=(ps.args.map (·.arg)).length
 nd:(ps.args.map (·.arg)).Nodup
theorem Kz(h:(!b)=true):b=false:=by cases b with|false=>rfl|true=>exact bZ h
theorem Uq{nest:Option Str}(h:enter ps sc cs nest args u=some p):agC ps sc args:=by obtain⟨⟨h1,h2⟩,h⟩:=cI h;obtain⟨bs,h,-⟩:=bH h;obtain⟨⟨h3,h4⟩,-⟩:=cI h;have h1:=eA.mp (eA.mp h1).1;exact⟨Kz h1.1,Kz h1.2,h2,h3,h4⟩
structure En(c:aR)(A:dR)(g:G)(z au:Z)(w:Nat):Prop where
 A:g.A=A.deeper g.ag
 B:Bg w g
 fs:g.rest=z.fs
 fr:g.ag.frame=some g.L
 T:a8 z.s.heap z.al (z.fs.map (·.1)) au.s.heap au.al
 m:cW z.s au.s
 L:z.s.heap.get? g.L=none
 len:z.al.length<=w
 f1:au.fs.map (·.1)=g.L::z.fs.map (·.1)
theorem Cx.room(C:Cx c (n+1) hd A z.al z.fs):A.depth<recursionLimit:=bD (cy _ (n+1)) C.depth
theorem Ur{nest:Option Str}(h:enter ps sc cs nest args u=some p){z:Z}(C:Cx c (n+1) hd A z.al z.fs)(R:Sr c z u){cl:List (Str×aj)}(kc:dv z.al cs cl){qs:List aa}(kv:aQ z.s.heap z.al args qs){qual:Str}{fn:aj}{code:aa}{A':dR}(hn:∀q,nest=some q->qual=q/\∃cd P,code=.ref cd/\z.al[0]?=some P/\zG c.B cd P){Q:Env->SP}{E:aa->SP}(hQ:∀g au,En c A g z au u.length->Ok c n hd g p.1 au p.2->Q g.ag au.s):av c.M A' (Cp sc fK cl ((ps.args.map (·.arg)).zip qs) qual (some fn) code none hV) Q E z.s:=by refine abU (Y:=p.1) (aD:=p.2) h R kc kv hn λag dM L cq oL hf _ hL gP iY uS=>?_;obtain⟨l,hl,oN⟩:=C.frames;exact hQ ⟨A.deeper ag,ag,L,z.fs,l⟩ ⟨cq,dM,(L,p.1.vars)::z.fs⟩ ⟨rfl,⟨⟨congrArg (wH (ag::·)) hl,hf,oL.kind,oN⟩,R.sb (bo R.len)⟩,rfl,hf,iY,uS,hL,bo R.len,rfl⟩ ⟨rfl,C.deeper iY.at hf oL.kind,oL,gP⟩
theorem En.nm{m:Nat}(X:En c A g z au m){a9:Z}(N:Nm m au a9)(nd:a9.al.Nodup):Nx z ⟨a9.s,a9.al,z.fs⟩:=⟨St.body X.T (X.f1▸N.T) X.L X.len nd,X.m.trans N.m,rfl⟩
theorem En.nx{m:Nat}(X:En c A g z au m){a9:Z}(N:Nx au a9):Nx z ⟨a9.s,a9.al,z.fs⟩:=⟨X.T.body (X.f1▸N.T) X.L,X.m.trans N.m,rfl⟩
theorem En.sr{m:Nat}(X:En c A g z au m){a9:Z}{qc:Loc}{b8:List MO}(O:Ok c n hd g qc a9 b8):Sr c ⟨a9.s,a9.al,z.fs⟩ b8:=X.fs▸O.R'.drop
theorem Ok.nd(O:Ok c n hd g Y z u):z.al.Nodup:=(gH.mp O.R.nd).1
theorem En.ret{m:Nat}(X:En c A g z au m){fl:lW}{s':aF}(y:PS c n hd g m au (ik k) fl s'):u9 c z k (.ok (.ret (match(generalizing:=false)fl with|.ret v=>v|_=>.none))) s':=by obtain⟨fl,qc,b8,a9,N,bJ,r,h⟩:=y;cases fl with|next=>rw[show _=_ from r];exact bG.mk (z:=z) V.none b8 ⟨a9.s,a9.al,z.fs⟩ (X.nm N bJ.nd) (X.sr bJ) VR.none h|ret v=>obtain⟨q,e,r⟩:=r;rw[e];exact bG.mk (z:=z) v b8 ⟨a9.s,a9.al,z.fs⟩ (X.nm N bJ.nd) (X.sr bJ) r h
theorem En.de{m:Nat}(X:En c A g z au m){i b d:Nat}{qc:Loc}{b8:List MO}{a9:Z}{E:aa->SP}(bJ:Ok c n hd g qc a9 b8)(eb:a9.al[i]?=some b)(ed:b8[i]?=some (.exc d))(h:k (.de i) b8)(hn:∀jG,a8 a9.s.heap a9.al (a9.fs.map (·.1)) jG.heap a9.al->cW a9.s jG->Nx z ⟨jG,a9.al,z.fs⟩):av c.M g.A (leaving g.ag (.ref b)) (λ_=>bA c z k (.ref b)) E a9.s:=abM bJ.R' eb ed X.B.b.frames (X.B.b.QS _) X.fr λjG G _=>bA.mk i b d b8 ⟨jG,a9.al,z.fs⟩ (hn jG (bJ.fs▸G.T) G.m) (X.fs▸G.R.drop) eb ed h
theorem E9(O':dh c){ps:iz}{body:List bj}{sc:cz}{cs:List (Str×Nat)}{nest:Option Str}{args:List V}(h:aH (enter ps sc cs nest args u) λp=>bb c n hd u.length p.1 p.2 body (ik k)){a:aj}{z:Z}(F:rg c z.s.heap z.al a ps (.stmts body) sc cs nest)(C:Cx c (n+1) hd A z.al z.fs)(R:Sr c z u){qs:List aa}(kv:aQ z.s.heap z.al args qs):je c.M A (.call (.ref a) ⟨qs,[]⟩) (u9 c z k) z.s:=by obtain⟨o,fd,ho,fh,f1,f2,f3,f4,f5,f6,f7,f8,f9⟩:=F;obtain⟨p,AN,hb⟩:=cK h;obtain⟨e1,e2,e3,e4,e5⟩:=Uq AN;subst f1 f3;refine Nh C.room ho fh e1 e2 f2 f8 (QV e3 (kv.length.symm.trans e4) e5 f7 ?_);rw[f5,f6];refine Ur AN C R f4 kv f9 λg au X aI=>⟨O'.nolimit.keeps aI.R.base,codeAny_func ?_⟩;rw[<-X.A];exact b_ (hb g au X.B aI) (λfl s' y=>X.ret y) λq s' y=>ES.casesOn y λi b d qc b8 a9 N bJ eb ed h=>X.de bJ eb ed h λjG T m=>X.nm (N.trans (z'':=⟨jG,a9.al,a9.fs⟩) ⟨T.st,m,rfl⟩) bJ.nd
theorem agD(O':dh c)(HE:bp c n hd ev){ps:iz}{body:aq}{sc:cz}{cs:List (Str×Nat)}{nest:Option Str}{args:List V}(h:aH (enter ps sc cs none args u) λp=>ev body p.1 p.2 k){a:aj}{z:Z}(F:rg c z.s.heap z.al a ps (.expr body) sc cs nest)(C:Cx c (n+1) hd A z.al z.fs)(R:Sr c z u){qs:List aa}(kv:aQ z.s.heap z.al args qs):av c.M A (call (.ref a) qs) (bG c z RV k) (bA c z k) z.s:=by obtain⟨o,fd,ho,fh,f1,f2,f3,f4,f5,f6,f7,f8,f9⟩:=F;obtain⟨p,AN,hb⟩:=cK h;obtain⟨e1,e2,e3,e4,e5⟩:=Uq AN;subst f1 f3;refine we (kla_callFunE C.room ho fh e1 e2 f2 f8 (QV e3 (kv.length.symm.trans e4) e5 f7 ?_));rw[f5,f6];refine Ur AN C R f4 kv (λq h=>aE h) λg au X aI=>⟨O'.nolimit.keeps aI.R.base,kla_codeExpr ?_⟩;rw[<-X.A];exact b_ (HE _ _ _ _ hb g au aI) (λfl s' y=>bG.casesOn y λv b8 a9 N d7 r h=>bG.mk (z:=z) v b8 ⟨a9.s,a9.al,z.fs⟩ (X.nx N) (X.sr (aI.nx N d7)) r h) λq s' y=>bA.casesOn y λi b d b8 a9 N d7 eb ed h=>X.de (aI.nx N d7) eb ed h λjG T m=>X.nx (N.trans (z'':=⟨jG,a9.al,a9.fs⟩) ⟨T,m,rfl⟩)
def Us(k:KT V)(i:Nat):KT V:=λr u=>Rs.casesOn (motive:=λ_=>Prop) r (λv=>V.casesOn (motive_1:=λ_=>Prop) v (k (.ok (.ref i)) u) (λ_=>False) (λ_=>False) (λ_=>False) (λ_=>False) (λ_=>False) λ_=>False) λj=>k (.de j) u
inductive Ut(c:aR)(z au:Z)(u:List MO)(C:aj):Prop|mk(N:Nx z au)(R:Sr c au (u++[MO.aV []]++[MO.inst C u.length]))(hx:au.al[u.length+1]?=some (z.s.heap.objs.size+1)):Ut c z au u C
noncomputable def KC(z:Z)(C:aj):Z:=⟨{z.s with heap:=(z.s.heap.push s6).push (zF C z.s.heap.objs.size)},z.al++[z.s.heap.objs.size]++[(z.s.heap.push s6).objs.size],z.fs⟩
theorem agE C(R:Sr c z u):Ut c z (KC z C) u C:=by
 obtain⟨gP,iY⟩:=QY R;have hi:(z.al++[z.s.heap.objs.size])[u.length]?=some z.s.heap.objs.size:=by rw[<-R.len,lX]
 have hl:(z.al++[z.s.heap.objs.size]).length=u.length+1:=by rw[aX,R.len];rfl
 obtain⟨d7,j6⟩:=gP.push (o:=zF C z.s.heap.objs.size) (mo:=.inst C u.length) rfl ⟨z.s.heap.objs.size,(ew (hl▸eR _)).trans hi,gj _ rfl⟩;exact⟨⟨iY.trans j6,⟨rfl,rfl,rfl⟩,rfl⟩,d7,by unfold KC;rw[<-hl,lX,C3]⟩
theorem agF(O':dh c){C fi:aj}(I:Jf c C fi){fn:Fn}(F:rg c c.B [c.tab] fi fn.ps (.stmts fn.body) fn.sc [] fn.nest){args:List V}(h:aH (enter fn.ps fn.sc [] fn.nest (.ref (u.length+1)::args) (u++[MO.aV []]++[MO.inst C u.length])) λp=>bb c n hd (u++[MO.aV []]++[MO.inst C u.length]).length p.1 p.2 fn.body (ik (Us k (u.length+1))))(Cc:Cx c (n+2) hd A z.al z.fs)(R:Sr c z u){qs:List aa}(kv:aQ z.s.heap z.al args qs):av c.M A (call (.ref C) qs) (bG c z RV k) (bA c z k) z.s:=by obtain⟨N,d7,hx⟩:=agE C R;refine we (make_core (h:=z.s.heap) (Internal.Makes.keeps I.makes R.base) (I.init.keeps R.base) (λself=>(I.bind self).keeps R.base) (.inl rfl) ?_);rw[QX];have C':=Cc.tc.at N.T.at;refine Cv (E9 (z:=KC z C) O' h (F.up d7.base C'.tab) C' d7 (.cons (.ref hx) (R.w9 N.T kv))) λres s' y=>u9.el y (λq y=>bA.casesOn y λi a d b8 a9 bN rf ea ed h=>bA.mk i a d b8 a9 (N.trans bN) rf ea ed h) λv y=>?_;obtain⟨v,b8,a9,bN,rf,r,h⟩:=y;cases v with|none=>cases r;exact⟨rfl,bG.mk (V.ref (u.length+1)) b8 a9 (N.trans bN) rf (VR.ref (bN.T.at _ _ hx)) h⟩|_=>exact h.elim
theorem KD(h:je c.M A (.call f ⟨qs,[]⟩) (u9 c z k) s):av c.M A (call f qs) (bG c z RV k) (bA c z k) s:=we (Cv h λres s' y=>u9.el y (λ_ y=>y) λ_ y=>y)
def E_(u:List MO)(k:KT V)(n:Nat):Prop:=gd (n<=bk) (k (.ok (.int n)) u)
def lenZ(v:V)(u:List MO)(k:KT V):Prop:=V.casesOn (motive_1:=λ_=>Prop) v False (λ_=>False) (λ_=>False) (λs=>E_ u k s.length) (λl=>E_ u k l.length) (λi=>dn u i λl=>E_ u k l.length) λ_=>False
def KG(hd:Option Nat)(id:String)(args:List V)(u:List MO)(k:KT V):Prop:=sR (motive:=λ_=>Prop) args False λv r=>if id="len"then gd (r.isEmpty=true) (lenZ v u k)else gT (lx hd id (v::r) u) k
def KH(ex:XZ)(ps:iz)(body:List bj)(sc:cz)(cs:List (Str×Nat))(mk:Option Str)(args:List V)(u:List MO)(k:KT V):Prop:=aH (enter ps sc cs mk args u) λp=>ex body p.1 p.2 (ik k)
def Uu(S:cJ)(ex:XZ)(a:aj)(args:List V)(u:List MO)(k:KT V):Prop:=if a=S.cx then gT (SQ args u) k else aH (S.s8 a) λfi=>aH (S.fn fi) λfn=>KH ex fn.ps fn.body fn.sc [] fn.nest (.ref (u.length+1)::args) (u++[.aV []]++[.inst a u.length]) (Us k (u.length+1))
def Uv(S:cJ)(ex:XZ)(a:aj)(args:List V)(u:List MO)(k:KT V):Prop:=aU (S.fn a) (λfn=>KH ex fn.ps fn.body fn.sc [] fn.nest args u k) (Uu S ex a args u k)
def Uw(ex:XZ)(ev:EZ)(i:Nat)(args:List V)(u:List MO)(k:KT V):Prop:=aH u[i]? λm=>MO.casesOn (motive:=λ_=>Prop) m (λ_=>False) (λ_=>False) (λ_=>False) (λ_=>False) (λ_ _=>False) (λ_=>False) (λpr b sc cs=>Pt (motive:=λ_=>Prop) b (λb=>KH ex pr b sc cs none args u k) λe=>aH (enter pr sc cs none args u) λp=>ev e p.1 p.2 k) (λ_=>False) λ_=>False
def Ux(S:cJ)(hd:Option Nat)(ex:XZ)(args:List V)(u:List MO)(k:KT V)(w:aa):Prop:=match w with|.ref a=>Uv S ex a args u k|.builtin id=>KG hd id args u k|.type T=>gT (Qr hd T args u) k|_=>False
def KJ(S:cJ)(hd:Option Nat)(ex:XZ)(ev:EZ)(f:V)(args:List V)(u:List MO)(k:KT V):Prop:=V.casesOn (motive_1:=λ_=>Prop) f False (λ_=>False) (λ_=>False) (λ_=>False) (λ_=>False) (λi=>Uw ex ev i args u k) (Ux S hd ex args u k)
theorem KN(h:E_ u k m):gT ((xf m).map λv=>(Rs.ok v,u)) k:=by unfold xf;rw[if_pos (aZ h).1];exact(aZ h).2
theorem agG:lenZ v u k->gT (lx hd "len" [v] u) k:=V.casesOn (motive_1:=λv=>lenZ v u k->gT ((IU v u).map λv=>(Rs.ok v,u)) k) v aW (λ_=>aW) (λ_=>aW) (λ_=>KN) (λ_=>KN) (λi h=>by obtain⟨m,e,h⟩:=cK h;obtain⟨l,q,h⟩:=Kc h;show gT ((aU u[i]? (λm=>m.lu (λl=>xf l.length) none) none).map _) k;rw[e,q];exact KN h) λ_=>aW
theorem agH{id:String}(h:KG hd id args u k):gT (lx hd id args u) k:=by cases args with|nil=>exact h.elim|cons v r=>exact rz h (λe h=>e▸xT (P:=λr=>gT (lx hd "len" (v::r) u) k) h agG) λ_ h=>h
theorem agI{id:String}(h:KG hd id args u k)(C:Cx c (n+10) hd A z.al z.fs)(R:Sr c z u){qs:List aa}(kv:aQ z.s.heap z.al args qs):av c.M A (call (.builtin id) qs) (bG c z RV k) (bA c z k) z.s:=ET (agH h) λr aM e=>acC (n:=n) e C R kv
theorem Cx.le(C:Cx c n hd A z.al z.fs)(h:m<=n):Cx c m hd A z.al z.fs:=C.less h
def AP(c:aR)(A:dR)(z:Z)(qs:List aa)(k:KT V)(q:aa):Prop:=Lk c z.s.heap q/\av c.M A (call q qs) (bG c z RV k) (bA c z k) z.s
theorem xV(h:aU x f d):(∃a,x=some a/\f a)\/d:=by cases x with|none=>exact .inr h|some a=>exact .inl ⟨a,rfl,h⟩
section
variable(O':dh c)(SF:JW c S)(HX:mi c (n+10) hd ex)(HE:bp c (n+10) hd ev){args:List V}{qs:List aa}(C:Cx c (n+12) hd A z.al z.fs)(R:Sr c z u)(kv:aQ z.s.heap z.al args qs)
include O' SF HX C R kv in theorem agJ{a:aj}(h:Uu S ex a args u k):AP c A z qs k (.ref a):=by
 refine rz h (λe h=>?_) λhn h=>?_;.obtain⟨D,F,fI,fd,X⟩:=SF.xc;exact(e.trans SF.cx)▸⟨⟨.machine,.inr (.inl rfl),SF.kx.keeps R.base⟩,ET h λr aM e=>aeg O' X e (bD (k_ (gf (dC _)) _) C.depth) R kv⟩
 .obtain⟨fi,Uy,h⟩:=cK h;obtain⟨fn,xC,h⟩:=cK h;obtain⟨p,e,h⟩:=cK h;exact⟨⟨.machine,.inr (.inl rfl),(SF.kp a fi Uy).keeps R.base⟩,agF O' (SF.s8 a fi Uy (SF.cx▸hn)) (SF.fn fi fn xC) (by rw[e];exact HX _ _ _ _ h _) C R kv⟩
include O' SF HX C R kv in theorem agK{a:aj}(h:Uv S ex a args u k):AP c A z qs k (.ref a):=by
 rcases xV h with⟨fn,xC,h⟩|h;.obtain⟨o,fd,ho,fh,_⟩:=SF.fn a fn xC;obtain⟨p,e,h⟩:=cK h;exact⟨⟨.frame,.inl rfl,JX (R.base _ _ ho) fh⟩,KD (E9 O' (by rw[e];exact HX _ _ _ _ h _) ((SF.fn a fn xC).up R.base C.tab) (C.le (dI _)) R kv)⟩
 .exact agJ O' SF HX C R kv h
include O' HX HE C R kv in theorem agL{i:Nat}{a:aj}(ea:z.al[i]?=some a)(h:Uw ex ev i args u k):AP c A z qs k (.ref a):=by obtain⟨m,hm,h⟩:=cK h;have X:=R.obj _ _ _ hm ea;cases m with
 |jE pr b sc cs=>obtain⟨o,fd,ho,_,fh,g1,g2,g3,g4,g5,g6,g7,g8,g9⟩:=X;refine⟨⟨.frame,.inl rfl,JX ho fh⟩,?_⟩;have C1:Cx c (n+11) hd A z.al z.fs:=C.le (dI _);cases b with|stmts b=>obtain⟨p,e,h⟩:=cK h;exact KD (E9 O' (by rw[e];exact HX _ _ _ _ h _) ⟨o,fd,ho,fh,g1,g2,g3,g4,g5,g6,g7,g9,λq h=>aE h⟩ C1 R kv)|expr b=>exact agD O' HE h ⟨o,fd,ho,fh,g1,g2,g3,g4,g5,g6,g7,g9,λq h=>aE h⟩ C1 R kv
 |_=>exact h.elim
include O' SF HX C R kv in theorem agM{w:aa}(h:Ux S hd ex args u k w):AP c A z qs k w:=by cases w with|ref a=>exact agK O' SF HX C R kv h|builtin id=>exact⟨JG,agI h (C.le (mT (cy n 2) 10)) R kv⟩|type T=>exact⟨uX,ET h λr aM e=>aeq O' e C R kv⟩|_=>exact h.elim
end
theorem agN(O':dh c)(SF:JW c S)(HX:mi c (n+10) hd ex)(HE:bp c (n+10) hd ev):ry c (n+12) hd (KJ S hd ex ev):=λf args u k h A z qf qs C R kf kv=>VR.casesOn (motive_1:=λf q _=>KJ S hd ex ev f args u k->AP c A z qs k q) kf aW (λ_=>aW) (λ_ _=>aW) (λ_ _=>aW) (λ_ _=>aW) (λea h=>agL O' HX HE C R kv ea h) (λw h=>agM O' SF HX C R kv h) h
end
def Uz(hd:Option Nat)(v:V)(u:List MO)(f:Nat->Prop):Prop:=i4 v λi=>aH u[i]? λm=>MO.casesOn (motive:=λ_=>Prop) m (λ_=>False) (λ_=>False) (λ_=>False) (λ_=>False) (λ_ _=>False) (λ_=>False) (λ_ _ _ _=>False) (λ_=>gd (hd=none\/hd=some i) (f i)) λ_=>False
def u_(k:KX)(f:Nat->Loc->List MO->Prop):KX:=λr Y u=>Rs.casesOn (motive:=λ_=>Prop) r (λfl=>k (.ok fl) Y u) λi=>f i Y u
def Fb(k:KX):KX:=λr Y u=>k r {Y with vars:=[]} u
section
variable{m i a d:Nat}
theorem Ok.q(O:Ok c n hd g Y z u){s':aF}(R:SR c s'.heap z.al u ((g.L,Y.vars)::g.rest))(T:a8 z.s.heap z.al (((g.L,Y.vars)::g.rest).map (·.1)) s'.heap z.al)(m':cW z.s s'):Nx z ⟨s',z.al,z.fs⟩/\Ok c n hd g Y ⟨s',z.al,z.fs⟩ u:=O.u7 (by rw[O.fs];exact R) (by rw[O.fs];exact T) m'
theorem AQ(O:Ok c n hd g Y z u)(B:Bg m g)(ea:z.al[i]?=some a)(ed:u[i]?=some (.exc d)){A:dR}(hA:A.frames=g.A.frames){Q:Unit->SP}{E:aa->SP}(hQ:∀z',Nx z z'->Ok c n hd g Y z' u->z'.al[i]?=some a->oM z'.s.heap a->Q () z'.s):av c.M A (CE (.ref a) g.ag) Q E z.s:=QQ O.R' ea ed (hA.trans B.b.frames) (B.b.QS _) B.b.frame λs' G n'=>hQ ⟨s',z.al,z.fs⟩ (O.q G.R G.T G.m).1 (O.q G.R G.T G.m).2 ea n'
theorem Fc(O:Ok c n hd g Y z u)(ea:z.al[i]?=some a)(ed:u[i]?=some (.exc d)){fr:Option aj}{Q:Unit->SP}{E:aa->SP}(hQ:∀z',Nx z z'->Ok c n hd g Y z' u->z'.al[i]?=some a->Q () z'.s):av c.M A (Hm (.ref a) fr) Q E z.s:=D6 O.R' ea ed λs' G n'=>hQ ⟨s',z.al,z.fs⟩ (O.q G.R G.T G.m).1 (O.q G.R G.T G.m).2 ea
theorem KO(N:Nm m aN z)(O:Ok c n hd g Y z u)(ea:z.al[i]?=some a)(ed:u[i]?=some (.exc d))(hn:oM z.s.heap a)(h:k (.de i) Y u){ag:Env}:Hl c.M A ag (ES c n hd g m aN k) (.ref a) z.s:=by obtain⟨o,vs,Tt,eo,fh,h1⟩:=id hn;refine aw (pE eo fh h1 ?_);rw[if_neg (show¬(jD Tt==l7)=true from l5)];exact Fc O ea ed λz' N' O' mj=>.mk i a d Y u z' (N.nx N') O' mj ed h
theorem Ok.mark(O:Ok c n none g Y z u)(ea:z.al[i]?=some a):Ok c n (some i) {g with A:=g.A.mark (some (.ref a))} Y z u:=⟨O.fs,O.C.mark ea,O.E,O.R⟩
theorem Ok.unmark(hh:g.A.handled=none)(O:Ok c n (some i) {g with A:=g.A.mark v} Y z u):Ok c n none g Y z u:=⟨O.fs,⟨O.C.depth,O.C.units,hh,O.C.frames,O.C.tab,O.C.guards⟩,O.E,O.R⟩
theorem UA(SG:fg c S)(X:tq c){x:Str}(hx:xh S Y x=true){p:Pos}(O:Ok c n hd g Y z u)(ea:z.al[i]?=some a)(ed:u[i]?=some (.exc d)){R':sH->SP}{pos:Pos}(h:R' (.ok .brk) z.s):je c.M A (.handlers (.ref a) [.ExceptHandler (some (.Name x p)) none [] pos] g.ag) R' z.s:=adF SG X hx O.E O.R' ea ed h
theorem UB(h:bb c n hd m Y u b (u_ k f))(B:Bg m g)(O:Ok c n hd g Y z u)(hh:∀i a d dF aD au,Nm m z au->Ok c n hd g dF au aD->au.al[i]?=some a->aD[i]?=some (.exc d)->f i dF aD->av c.M g.A (handleBy (.ref a) g.ag [hb]) (PS c n hd g m z k) (ES c n hd g m z k) au.s):av c.M g.A (exec (.Try b [hb] [] [] pos) g.ag) (PS c n hd g m z k) (ES c n hd g m z k) z.s:=by rw[arm_exec_Try];refine aw (kC ?_);show av c.M g.A (tryStmt false (execs b g.ag) [hb] (execs [] g.ag) [] g.ag) _ _ z.s;refine wpAny_tryStmt_except (b_ (h g z B O) (λfl s' y=>?_) λq s' y=>ES.casesOn y λi a d dF aD au N aI ea ed h=>AQ aI B ea ed rfl λa9 bN bJ ea _=>Fc bJ ea ed λiG iH fD ea=>hh i a d dF aD iG ((N.nx bN).nx iH) fD ea ed h);obtain⟨fl,dF,aD,au,N,aI,r,h⟩:=y;cases fl with|next=>rw[show _=_ from r];exact yS (.mk .next dF aD au N aI rfl h)|ret v=>obtain⟨q,e,kv⟩:=r;rw[e];exact .mk (.ret v) dF aD au N aI ⟨q,rfl,kv⟩ h
noncomputable abbrev G.hold(g:G)(a:aj):G:={g with A:=g.A.mark (some (.ref a))}
theorem Bg.hold(B:Bg m g) a:Bg m (g.hold a):=⟨B.b.mark,B.s⟩
theorem UC:(jD a)≠byPass:=λq=>by cases q
theorem agO(hh:g.A.handled=none)(N:Nm m aN z)(y:PS c n (some i) {g with A:=g.A.mark v} m z k q s'):PS c n none g m aN k q s':=PS.casesOn y λfl dF aD au N' aI r h=>.mk fl dF aD au (N.trans N') (aI.unmark hh) r h
theorem TX.agP(SG:fg c S)(X:tq c){b hb:List bj}{x:Str}{p hp pos:Pos}(gu:hb.isEmpty=false)(h:bb c n none m Y u b (u_ k λi dF aD=>xh S dF x=true/\bb c n (some i) m dF aD hb k)):Ts c n none m Y u (.Try b [.ExceptHandler (some (.Name x p)) none hb hp] [] [] pos) k:=λg z B O=>UB h B O λi a d dF aD au N aI ea ed h=>Nr (UA SG X h.1 aI ea ed (by cases hb with|nil=>exact bZ gu.symm|cons ml hb=>exact codeAny_handlers_suite (Fc aI ea ed λa9 bN bJ ea=>b_ (h.2 (g.hold a) a9 (B.hold a) (bJ.mark ea)) (λfl s' y=>agO O.hh (N.nx bN) y) λq s' y=>ES.casesOn y λj a' d' vb oS iG iH fD mj vd h=>AQ fD (B.hold a) mj vd rfl λUD AR AS mj agQ=>KO (((N.nx bN).trans iH).nx AR) (AS.unmark O.hh) mj vd agQ h))) UC
theorem UE(hk:g.ag.kindOf nm=some .local)(O:Ok c n hd g Y z u){Q:Unit->SP}{E:aa->SP}(hQ:∀z',Nm m z z'->Ok c n hd g {Y with vars:=[]} z' u->z'.al=z.al->(∀b,b≠g.L->z'.s.heap.get? b=z.s.heap.get? b)->dT z.s.heap z'.s.heap->Q () z'.s):av c.M A (do sy g.ag nm .none;Ci g.ag nm pos) Q E z.s:=adG hk O.E.kind O.E.loc O.R' λs' R T m' hb=>have y:=O.vars (m:=m) (dF:={Y with vars:=[]}) ⟨rfl,rfl,rfl⟩ T m' R;hQ _ y.1 y.2 rfl hb (O.R'.fix T)
theorem RF.mono(r:RF fl al h q)(fx:dT h h')(e:aT=al):RF fl aT h' q:=by cases fl with|next=>exact r|ret v=>exact r.elim λq r=>⟨q,r.1,e▸r.2.mono fx λ_ _ e=>e⟩
theorem agR{E:aa->SP}(hh:g.A.handled=none)(hk:g.ag.kindOf nm=some .local)(N:Nm m aN z)(y:PS c n (some i) {g with A:=g.A.mark v} m z (Fb k) q s'):av c.M A (do sy g.ag nm .none;Ci g.ag nm pos) (λ_=>PS c n none g m aN k q) E s':=PS.casesOn y λfl UG UH UD AR AS r h=>UE (m:=m) hk (AS.unmark hh) λxW KQ tF KR _ fx=>.mk fl {UG with vars:=[]} UH xW ((N.trans AR).trans KQ) tF (r.mono fx KR) h
theorem agS(hk:g.ag.kindOf nm=some .local)(O:Ok c n hd g Y z u)(ea:z.al[i]?=some a)(ed:u[i]?=some (.exc d))(hn:oM z.s.heap a){NE E:aa->SP}(hN:∀z',Nm m z z'->Ok c n hd g {Y with vars:=[]} z' u->z'.al[i]?=some a->NE (.ref a) z'.s):av c.M A (do sy g.ag nm .none;Ci g.ag nm pos) (λ_ s=>av c.M A (passOn QR (.ref a) g.ag:Sem lW) (λ_ _=>False) NE s) E z.s:=UE (m:=m) hk O λFd KU AU KR hb fx=>by obtain⟨o,vs,T,eo,r⟩:=hn;have UI:Fd.al[i]?=some a:=KR▸ea;exact abN AU.R' UI ed ⟨o,vs,T,(hb a λq=>(gH.mp O.R'.nd).2.2 a (ez ea) g.L (.head _) q).trans eo,r⟩ (Q:=λ_ _=>False) λagT G _=>hN ⟨agT,Fd.al,Fd.fs⟩ (KU.nx (AU.q G.R G.T G.m).1) (AU.q G.R G.T G.m).2 UI
theorem TX.agU(SG:fg c S)(X:tq c){b hb:List bj}{x nm:Str}{p hp pos:Pos}(gu:hb.isEmpty=false)(Ky:Y.sc.names.lookup nm=some .local)(h:bb c n none m Y u b (u_ k λi dF aD=>xh S dF x=true/\aH (fN dF aD nm (.ref i)) λp=>bb c n (some i) m p.1 p.2 hb (Fb k))):Ts c n none m Y u (.Try b [.ExceptHandler (some (.Name x p)) (some nm) hb hp] [] [] pos) k:=λg z B O=>have hk:g.ag.kindOf nm=some .local:=(congrArg (xi g.ag nm) Ky).mp (O.E.names nm);UB h B O λi a d dF aD au N aI ea ed h=>Nr (UA SG X h.1 aI ea ed (by cases hb with|nil=>exact bZ gu.symm|cons ml hb=>exact codeAny_handlers_suite_as (Fc aI ea ed λa9 bN bJ ea=>E7 (g:=g.hold a) (m:=m) h.2 (bJ.mark ea) (.ref ea) λp iG iH fD ie=>b_ (ie (g.hold a) iG (B.hold a) fD) (λfl s' y=>agR O.hh hk ((N.nx bN).trans iH) y) λq s' y=>ES.casesOn y λj a' d' UG UH UD AR AS mj vd h=>AQ AS (B.hold a) mj vd rfl λxW KQ tF mj agV=>agS (m:=m) hk (tF.unmark O.hh) mj vd agV λFd KU AU mj=>AQ (A:=g.A.mark (some (.ref a))) AU B mj vd rfl λavg agW agX mj KW=>KO (((((N.nx bN).trans iH).trans AR).nx KQ).trans (KU.nx agW)) agX mj vd KW h))) UC
end
section
variable{E:aa->SP}
inductive kP(c:aR)(h:a_)(a:aj):Prop|mk(o oC:Obj)(vs:Array aa)(he:h.get? a=some o)(hc:o.cls=.ref c.cx)(hd:o.data=.fields vs)(hC:h.get? c.cx=some oC)(cC:oC.cls=.type "type")(sub:∀{M:Model}{A:dR}{Q:Bool->SP}{E:aa->SP}{s:aF},s.heap=h->Q true s->av M A (Ho (.ref c.cx) (.type "BaseException")) Q E s):kP c h a
theorem UJ[Decidable p]{x y:Sem α}{Q:α->SP}(h:p)(k:av M A x Q E s):av M A (if p then x else y) Q E s:=by rw[if_pos h];exact k
theorem SR.agY(R:SR c h al u fs)(X:tq c){i d:Nat}(ea:al[i]?=some a)(ed:u[i]?=some (.exc d)):kP c h a:=by obtain⟨nm,q,N,bs,bm,JL,sn,sub,ab,col,dd,k0,k1,k2,k3,k5,newId,Ej,z8⟩:=X.obj;obtain⟨o,dx,vs,j7,he,hc,q_,fh,hz,-⟩:=R.exc ea ed;refine⟨o,_,vs,he,hc,fh,R.base _ _ Ej,rfl,λ{M A Q E s}e q=>?_⟩;obtain⟨h,g,d,t,os⟩:=s;exact Cj ((show h=_ from e)▸R.base _ _ Ej) (by rw[Hu,z8,Bool.or_true];exact q)
theorem kP.typ(X:kP c s.heap a){Q:aa->SP}(q:Q (.ref c.cx) s):av M A (zb (.ref a)) Q E s:=by obtain⟨o,oC,vs,he,hc,-⟩:=X;exact aw (yV he (aP (hc▸q)))
theorem kP.meta(X:kP c s.heap a){Q:aa->SP}(q:Q (.type "type") s):av M A (zb (.ref c.cx)) Q E s:=by obtain⟨o,oC,vs,-,-,-,hC,cC,-⟩:=X;exact aw (yV hC (aP (cC▸q)))
theorem kP.isType(X:kP c s.heap a){Q:Bool->SP}(q:Q false s):av M A (PySem.isType (.ref a)) Q E s:=by obtain⟨o,oC,vs,he,-,hd,-⟩:=X;refine aw (yV he (aP ?_));rw[hd];exact q
theorem kP.inst(X:kP c s.heap a){Q:Bool->SP}(q:Q true s):av M A (Hh (.ref a) (.type "BaseException")) Q E s:=aw (X.typ (kP.casesOn X λ_ _ _ _ _ _ _ _ sub=>sub rfl q))
theorem kP.exc(X:kP c s.heap a){w:String}{Q:aa->SP}(q:Q (.ref a) s):av M A (excFromValue (.ref a) w) Q E s:=aw (aw (X.isType (uT l5 (aP (uT l5 (aw (X.inst (UJ rfl (aP q)))))))))
theorem kP.raised(X:kP c s.heap a){Q:aa->SP}(q:Q (.ref a) s):av M A (raisedInstance (.ref a)) Q E s:=aw (X.typ (aw (X.meta (UJ ai (aP q)))))
end
section
variable{m i a d:Nat}
inductive KY(c:aR)(A:dR)(E:aa->SP):aa->SP|mk(i a d:Nat)(z:Z)(u:List MO)(R:Sr c z u)(ea:z.al[i]?=some a)(ed:u[i]?=some (.exc d))(hh:A.handled=none\/A.handled=some (.ref a))(hE:∀z',Nx z z'->Sr c z' u->E (.ref a) z'.s):KY c A E (.ref a) z.s
theorem agZ(X:tq c){x:Sem aa}{ag:Env}{E:aa->SP}{Q:lW->SP}{s:aF}(H:av c.M A x (KY c A E) E s):av c.M A (Hp ag (some x) none) Q E s:=by unfold Hp;refine aw (b_ H (λv cq az=>KY.casesOn az λi a d z u R ea ed hh hE=>?_) λ_ _ x=>x);have cD:=R.agY X ea ed;refine aw (aP (aw (fT (cD.exc ?_))));refine aw (cD.isType (uT l5 (aw (cD.raised ?_))));refine aw (D6 R ea ed λdD G _=>?_);refine aw (wpAny_handled ?_);have Fe:=hE ⟨dD,z.al,z.fs⟩ ⟨G.T,G.m,rfl⟩ G.R;refine hh.elim (λhh=>by rw[hh];exact Cw Fe) λhh=>?_;rw[hh];exact uT (p:=(jD a !=jD a)=true) (λq=>bZ ((bne_self_eq_false _).symm.trans q)) (Cw Fe)
theorem Ok.held(O:Ok c n hd g Y z u)(ea:z.al[i]?=some a)(h:hd=none\/hd=some i):g.A.handled=none\/g.A.handled=some (.ref a):=by
 rcases h with rfl|rfl;.exact .inl O.hh
 .obtain⟨b,h1,h2⟩:=O.C.handled;exact .inr ((aJ (ea.symm.trans h2))▸h1)
theorem TX.raise(X:tq c)(H:bp c n hd ev){e:aq}{pos:Pos}(h:ev e Y u (bx Y k λv u=>Uz hd v u λi=>k (.de i) Y u)):Ts c n hd m Y u (.Raise (some e) none pos) k:=λg z B O=>by show av c.M g.A (exec (.Raise (some e) none pos) g.ag) _ _ z.s;rw[arm_exec_Raise];refine aw (kC (?_:av c.M g.A (Hp g.ag (some (do let v<-eval e g.ag;standAt pos;pure v)) none) _ _ z.s));refine agZ X (aw (nE (.refl z) O (H e Y u _ h) λv aD au q _ N aI kv az=>aw (kC (aP (rv az kv λi a ea az=>?_)))));obtain⟨mo,hm,az⟩:=cK az;cases mo with|exc d=>exact .mk i a d au aD aI.R ea hm (aI.held ea (aZ az).1) λa9 bN d7=>.mk i a d Y aD a9 (N.nx bN) (aI.nx bN d7) (bN.T.at _ _ ea) hm (aZ az).2|_=>exact az.elim
theorem UK(TB:tw c){q:Str}{pos:Pos}{ps:iz}{body:sv}{sc:cz}(h:gT (qY Y u q pos ps body sc) kv)(O:Ok c n hd g Y z u){firstLine:Nat}:av c.M g.A (Hb q (g.ag.qual++q) ps body sc g.ag [] [] [] pos firstLine) (bG c z RV kv) (bA c z kv) z.s:=ET h λr aM e=>adO TB e O.C O.E O.R
theorem UL(h:gT (qY Y u q pos ps body sc) kv):qX ps=true:=by
 by_cases q:qX ps=true;.exact q
 .unfold qY at h;rw[if_neg q]at h;exact h.elim
theorem Te.lam(TB:tw c){ps:iz}{b:aq}{sc:cz}{pos:Pos}(h:gT (qY Y u "<lambda>" pos ps (.expr b) sc) kv):Te c n hd Y u (.Lambda ps b sc pos) kv:=λg z O=>kla_eval (R_ (ag:=g.ag) (UL h)).2.2.2 (UK TB h O)
theorem xi.not{k:Option qK}(h:xi ag x k)(hn:k≠some .globalExplicit)(e:ag.kindOf x=some .globalExplicit):False:=by cases k with|none=>exact aE ((show ag.kindOf x=none from h).symm.trans e)|some kd=>cases kd with|globalExplicit=>exact hn rfl|free=>exact h.elim (λh=>absurd (h.symm.trans e) ai) λh=>absurd (h.symm.trans e) ai|_=>exact absurd ((show ag.kindOf x=some _ from h).symm.trans e) ai
theorem TX.def_(TB:tw c){name:Str}{ps:iz}{b:List bj}{sc:cz}{pos:Pos}(ag0:Y.sc.names.lookup name≠some .globalExplicit)(h:gT (qY Y u name pos ps (.stmts b) sc) (bx Y k λv u=>aH (fN Y u name v) λp=>k (.ok .next) p.1 p.2)):Ts c n hd m Y u (.FunctionDef name ps b [] none [] sc none name pos) k:=λg z B O=>by have hp:=R_ (ag:=g.ag) (UL h);refine nestDef_K hp.1 hp.2.1 hp.2.2.1 ?_;rw[show qualnameIn g.ag name name=g.ag.qual++name from if_neg λh=>(O.E.names name).not ag0 (beq_iff_eq.mp h)];exact b_ (UK TB h O) (λq s' y=>bG.casesOn y λv aD au N R r h=>E7 (m:=m) h (O.nx N R) r λp a9 bN bJ h=>.mk .next p.1 p.2 a9 (N.nm.trans bN) bJ rfl h) λq s' y=>bA.casesOn y λi a d aD au N R ea ed h=>.mk i a d Y aD au N.nm (O.nx N R) ea ed h
def KZ(op:y8)(a b:V)(u:List MO)(k:KT V):Prop:=match op with|.Add=>AJ a b λx y=>k (.ok (.int (x+y))) u|_=>False
theorem ag1{a b:V}(h:KZ op a b u kv)(O:Ok c n hd g Y z u)(ka:VR z.s.heap z.al a qa)(kb:VR z.s.heap z.al b qb):av c.M g.A (inplaceOp op qa qb) (bG c z RV kv) (bA c z kv) z.s:=by cases op with|Add=>exact E0 h ka kb λx t y aG h=>PySem.P.iadd_int (O.iF (.refl z) (.int _ _) h)|_=>exact h.elim
theorem TX.aug(SG:fg c S)(H:bp c n hd ev){x:Str}{p pos:Pos}{op:y8}{e:aq}(hx:j4 x=true)(h:aH (eI S Y u x) λa=>ev e Y u (bx Y k λb u=>KZ op a b u (bx Y k λr u=>aH (fN Y u x r) λp=>k (.ok .next) p.1 p.2))):Ts c n hd m Y u (.AugAssign (.Name x p) op e pos) k:=λg z B O=>wpAny_AugAssign_Name (TS SG hx h O λa qa ka h=>nE (.refl z) O (H e Y u _ h) λb aD au qb N' N aI kb az=>b_ (ag1 az aI (O.R.vr N'.T ka) kb) (λq s' y=>bG.casesOn y λv b8 a9 bN R r h=>E7 (m:=m) h (aI.nx bN R) r λp iG iH fD h=>.mk .next p.1 p.2 iG ((N.nx bN).trans iH) fD rfl h) λq s' y=>bA.casesOn y λi a d b8 a9 bN R ea ed h=>.mk i a d Y b8 a9 (N.nx bN) (aI.nx bN R) ea ed h)
end
def ag2(ev:EZ)(ks:List (Option aq))(vs:List aq)(Y:Loc)(u:List MO)(k:KT V):Prop:=gd (ks.length=vs.length/\ks.length<=15) (aH (xg ks) λxs=>oR ev vs Y (u++[.aV []]) (bh k λws aM=>u6 aM u.length λkv=>gd (kv.isEmpty=true/\xs.Nodup/\xs.length=ws.length) (k (.ok (.ref u.length)) (aM.set u.length (.aV (xs.zip ws))))))
def UM(ev:EZ)(ks:List (Option aq))(vs:List aq)(Y:Loc)(u:List MO)(k:KT V):Prop:=sR (motive:=λ_=>Prop) ks (gd (vs.isEmpty=true) (k (.ok (.ref u.length)) (u++[.bg []]))) λ_ _=>ag2 ev ks vs Y u k
inductive KeysOf(xs:List Str)(ks:List (Option aq)):Option aq->Prop|mk(x:Str)(aG:Nat)(p:Pos)(jm:List Str)(h:xg ks=some jm)(e:xs=x::jm):KeysOf xs ks (some (.Constant (.str x) aG p))
theorem ag3(h:xg (o::ks)=some xs):KeysOf xs ks o:=by obtain⟨e,he,h⟩:=bH h;obtain⟨cc,aG,p,hc,h⟩:=Qa h;rw[he,hc];cases cc with|str x=>obtain⟨jm,jn,h⟩:=map_some h;exact .mk x aG p jm jn h.symm|_=>exact aE h
theorem RP.cons(k:VR h al a q)(y:RP c xs ws al h qs):RP c (x::xs) (a::ws) al h ((.str x t,q)::qs):=λhlen=>by obtain⟨kvs,c1,c2,c3⟩:=y (zO hlen);exact⟨(x,q)::kvs,⟨strKind_is _ _ _ _,rfl,c1⟩,.cons (p:=(x,a)) k c2,congrArg (x::·) c3⟩
theorem Ok.tick(O:Ok c n hd g Y z u):Nx z ⟨{z.s with toks:=z.s.toks+1},z.al,z.fs⟩/\Ok c n hd g Y ⟨{z.s with toks:=z.s.toks+1},z.al,z.fs⟩ u:=have N:Nx z ⟨{z.s with toks:=z.s.toks+1},z.al,z.fs⟩:=⟨.refl ..,⟨rfl,rfl,rfl⟩,rfl⟩;⟨N,O.nx N O.R⟩
theorem ag4(H:bp c n hd ev) pos ks:∀(vs:List aq)(xs:List Str)(u:List MO)(k:KT (List V)),xg ks=some xs->ks.length=vs.length->oR ev vs Y u k->Tr c n hd Y u (RP c xs) (λag=>evalPairs (pairTrees ks vs ag pos)) k:=by induction ks with
 |nil=>intro vs xs u k hk hl h g z O;cases vs with|cons=>exact nomatch hl|nil=>exact aJ hk▸pairTrees_nil_walk (O.post (.refl z) (λ_=>⟨[],trivial,.nil,rfl⟩) h)
 |cons o ks ih=>intro vs xs u k hk hl h g z O;cases vs with|nil=>exact nomatch hl|cons v vs=>have fj:dk v=false:=De.mpr λq=>(if_pos q).mp h;have h:=(if_neg (De.mp fj)).mp h;obtain⟨x,aG,p,jm,jn,e⟩:=ag3 hk;exact e▸pairTrees_cons_walk (Nw (seq (z:=⟨{z.s with toks:=z.s.toks+1},z.al,z.fs⟩) O.tick.1 O.tick.2 (H v Y u _ h) λa aD au q _ bE aI ck az=>seq bE aI (ih vs jm aD _ jn (zO hl) az) λb b8 a9 qs N bN bJ ia bl=>bJ.post bN (RP.cons (aI.R.vr N.T ck) ia) bl))
theorem ag5(O:Ok c n hd g Y z u)(h:k (.ok (.ref u.length)) (u++[.bg []])):bG c z RV k (.ref z.s.heap.objs.size) {z.s with heap:=z.s.heap.push s6}:=by have P:=O.R.push (o:=s6) (mo:=.bg []) rfl ⟨[],⟨_,#[],0,gj _ rfl,⟨rfl,rfl,rfl⟩,rfl,λ_ he=>absurd he (HR _),.nil,wy⟩,.nil⟩;exact .mk _ _ ⟨{z.s with heap:=z.s.heap.push _},_,z.fs⟩ ⟨P.2,⟨rfl,rfl,rfl⟩,rfl⟩ P.1 (.ref (by rw[<-O.R.len];exact lX)) h
theorem ag6(N:Nx aN z)(O:Ok c n hd g Y z u)(ea:z.al[i]?=some a)(kp:RP c xs ws z.al z.s.heap ps)(h:u6 u i λkv=>gd (kv.isEmpty=true/\xs.Nodup/\xs.length=ws.length) (k (.ok (.ref i)) (u.set i (.aV (xs.zip ws))))){tk:Nat}:∃kvs,Carries (dQ c.prog c.w) ps kvs/\z.s.heap.DictOf (dQ c.prog c.w) a []/\∀h',h'.DictOf (dQ c.prog c.w) a (merged [] kvs)->mZ a z.s.heap h'->bG c aN RV k (.ref a) {z.s with heap:=h',toks:=tk}:=by obtain⟨kv,kvs,iZ,d,pr,h⟩:=Kt h O.R ea;obtain⟨⟨h0,hn,hlen⟩,ie⟩:=aZ h;rw[mY.mp h0]at pr iZ;obtain⟨E4,c1,c2,c3⟩:=kp hlen.symm;refine⟨E4,c1,pr.nil_inv▸d,λh' jo eD=>?_⟩;rw[merged_nil_of_nodup _ (c3.symm▸hn)]at jo;have mh:∀b o,z.s.heap.get? b=some o->b≠a->h'.get? b=some o:=λb o e ne=>(eD.2 b ne).trans e;have U:=O.R.set (mo':=.aV (xs.zip ws)) iZ ea mh ⟨E4,jo,c2.mono (λb o e t=>mh b o e λq=>(O.R.kH e t).1 (q▸ez ea)) λ_ _ e=>e⟩;exact .mk _ _ ⟨{z.s with heap:=h',toks:=_},z.al,z.fs⟩ (N.trans ⟨U.2,⟨rfl,rfl,rfl⟩,rfl⟩) U.1 (.ref ea) ie
theorem Te.dict(H:bp c n hd ev){ks:List (Option aq)}{vs:List aq}{pos:Pos}(h:UM ev ks vs Y u k):Te c n hd Y u (.Dict ks vs pos) k:=λg z O=>by cases ks with|nil=>exact(mY.mp (aZ h).1)▸wpAny_Dict_empty (ag5 O (aZ h).2)|cons o ks=>obtain⟨hl,h⟩:=aZ h;obtain⟨xs,jn,h⟩:=cK h;have P:=QY (s:=z.s) O.R;have N:Nx z ⟨{z.s with heap:=z.s.heap.push s6},z.al++[z.s.heap.objs.size],z.fs⟩:=⟨P.2,⟨rfl,rfl,rfl⟩,rfl⟩;refine wpAny_Dict_walk (knd:=dQ c.prog c.w) (aen _ jn).1 hl.1 (uw _ _) hl.2 ?_;exact seq (z:=⟨{z.s with heap:=z.s.heap.push s6},z.al++[z.s.heap.objs.size],z.fs⟩) N (O.nx N P.1) (ag4 H pos (o::ks) vs xs _ _ jn hl.1 h) λws b8 a9 ps N' bN bJ kp bl=>ag6 bN bJ (N'.T.at _ _ (by rw[<-O.R.len];exact lX)) kp bl
def sortedZ(S:cJ)(ev:EZ)(e:aq)(Y:Loc)(u:List MO)(k:KT V):Prop:=gd (ib (eI S Y u "sorted") (.builtin "sorted")=true/\ib (eI S Y u "set") (.type "set")=true) (ev e Y u (bh k λv u=>i4 v λi=>dn u i λl=>aH (qZ l) λns=>gd (oK ns=true) (k (.ok (.ref u.length)) (u++[.list ((eC ns).map .int)]))))
def ag7(S:cJ)(ev:EZ)(e:aq)(Y:Loc)(u:List MO)(k:KT V):Prop:=gd (ib (eI S Y u "len") (.builtin "len")=true/\ib (eI S Y u "set") (.type "set")=true) (ev e Y u (bh k λv u=>i4 v λi=>dn u i λl=>aH (oJ l) λxs=>gd (xs.length<1000) (k (.ok (.int (dW xs).length)) u)))
def UN(S:cJ)(hd:Option Nat)(ev:EZ)(f g:Str)(e:aq)(Y:Loc)(u:List MO)(k:KT V):Prop:=gd (dk e=false/\hd=none) (if f="sorted"/\g="set"then sortedZ S ev e Y u k else gd (f="len"/\g="set") (ag7 S ev e Y u k))
theorem K0(SG:fg c S)(H:bp c n hd ev){f g:Str}{fp gp q p:Pos}{e:aq}{F T:aa}{P:V->List MO->Prop}{gg:G}(hs:dk e=false)(hf:j4 f=true)(hg:j4 g=true)(h1:ib (eI S Y u f) F=true)(h2:ib (eI S Y u g) T=true)(kF:∀h,Lk c h F)(kT:∀h,Lk c h T)(O:Ok c n hd gg Y z u)(h:ev e Y u (bh k P))(hQ:∀v aD au q,Nx z au->Ok c n hd gg Y au aD->VR au.s.heap au.al v q->P v aD->av c.M gg.A (call T [q]) (λw dD=>av c.M gg.A (call F [w]) (bG c z RV k) (bA c z k) dD) (bA c z k) au.s):av c.M gg.A (eval (.Call (.Name f fp) [.Call (.Name g gp) [e] [] q] [] p) gg.ag) (bG c z RV k) (bA c z k) z.s:=call_one rfl kF (λQ' hq=>JU SG h1 (tE hf).2 (tE hf).1 O.E O.R' hq) (call_one hs kT (λQ' hq=>JU SG h2 (tE hg).2 (tE hg).1 O.E O.R' hq) (seq (.refl z) O (H e Y u _ h) λv aD au q N _ aI kv az=>hQ v aD au q N aI kv az))
theorem Te.spec(SO:Ey c)(SG:fg c S)(H:bp c n hd ev){f g:Str}{fp gp q p:Pos}{e:aq}(h:UN S hd ev f g e Y u k):Te c n hd Y u (.Call (.Name f fp) [.Call (.Name g gp) [e] [] q] [] p) k:=λgg z O=>by
 obtain⟨⟨hs,UO⟩,h⟩:=aZ h;refine rz h (λe h=>?_) λ_ h=>?_;.obtain⟨⟨h1,h2⟩,h⟩:=aZ h;rw[e.1,e.2];refine K0 SG H hs (by decide+kernel) (by decide+kernel) h1 h2 (λ_=>JG) (λ_=>uX) O h λv aD au q N aI kv az=>rv az kv λi a ea az=>?_;obtain⟨l,items,m,hl,il,_,vs,_,az⟩:=nz az aI.R ea;obtain⟨ns,ic,az⟩:=cK az;exact b_ (SO.sorted gg.A (bA c z k) au.s au.al aD au.fs a items l ns (aI.hn UO) aI.R il vs ic (aZ az).1) (λv dD y=>b_ y (λv jG y=>(y.post (aZ az).2).gK N) λ_ _ y=>y) λ_ _ y=>y
 .obtain⟨e,h⟩:=aZ h;obtain⟨⟨h1,h2⟩,h⟩:=aZ h;rw[e.1,e.2];refine K0 SG H hs (by decide+kernel) (by decide+kernel) h1 h2 (λ_=>JG) (λ_=>uX) O h λv aD au q N aI kv az=>rv az kv λi a ea az=>?_;obtain⟨l,items,m,hl,il,_,vs,_,az⟩:=nz az aI.R ea;obtain⟨xs,ic,az⟩:=cK az;exact b_ (SO.len gg.A (bA c z k) au.s au.al aD au.fs a items l xs (aI.hn UO) aI.R il vs ic (aZ az).1) (λv dD y=>b_ y (λv jG y=>(y.post (aZ az).2).gK N) λ_ _ y=>y) λ_ _ y=>y
abbrev Sk:=eZ×List (Int×V)
def rB(v:V)(u:List MO)(k:KT Sk):Prop:=V.casesOn (motive_1:=λ_=>Prop) v False (λ_=>False) (λ_=>False) (λ_=>False) (λl=>k (.ok (.tup l,[])) u) (λi=>aH u[i]? λm=>MO.casesOn (motive:=λ_=>Prop) m (λ_=>k (.ok (.list i,[])) u) (λkv=>k (.ok (.keys i,kv)) u) (λ_=>False) (λ_=>False) (λ_ _=>False) (λ_=>False) (λ_ _ _ _=>False) (λ_=>False) λ_=>False) λ_=>False
def Ff(u:List MO)(i:Nat)(f:List (Int×V)->Prop):Prop:=aH u[i]? λm=>m.DO f False
def UP(it:aq):Option Expr:=xb it (λf as ks p=>aU (DY f) (λq=>if(q.2.1=="values"&&as.isEmpty&&ks.isEmpty&&!oH q.1&&(q.2.2.endLine==p.line))=true then some q.1 else none) none) none
def AV(ev:EZ)(it:aq)(Y:Loc)(u:List MO)(k:KT Sk):Prop:=ev it Y u (bh k λv u=>rB v u k)
def UQ(S:cJ)(ev:EZ)(f:Str)(e:aq)(Y:Loc)(u:List MO)(k:KT Sk):Prop:=gd (dk e=false/\ib (eI S Y u f) (.type "range")=true) (ev e Y u (bh k λv u=>ij v λn=>gd (-1000000<n/\n<1000000) (k (.ok (.range n,[])) u)))
def UR(S:cJ)(ev:EZ)(f:Str)(e:aq)(Y:Loc)(u:List MO)(k:KT Sk):Prop:=gd (dk e=false/\ib (eI S Y u f) (.type "enumerate")=true) (ev e Y u (bh k λv u=>i4 v λi=>dn u i λ_=>k (.ok (.enum i,[])) u))
def US(ev:EZ)(o:aq)(Y:Loc)(u:List MO)(k:KT Sk):Prop:=ev o Y u (bh k λv u=>i4 v λi=>Ff u i λkv=>gd (kv.isEmpty=true) (k (.ok (.vals i,[])) u))
def fW(S:cJ)(ev:EZ)(it:aq)(Y:Loc)(u:List MO)(k:KT Sk):Prop:=aU (IX it) (λq=>if q.1="range"then UQ S ev q.1 q.2 Y u k else if q.1="enumerate"then UR S ev q.1 q.2 Y u k else AV ev it Y u k) (aU (UP it) (λo=>US ev o Y u k) (AV ev it Y u k))
inductive Fg(c:aR)(al:List aj)(h:a_)(i:Nat)(kv:List (Int×V))(I:aj)(W:List aj):Prop|mk(w:W=[I])(a:aj)(kvs:List (Int×aa))(ep:Nat)(ea:al[i]?=some a)(p:c_ h al kv kvs)(d:h.DictAt (jd c.prog c.w) a kvs ep)(y:h.IsKeyIter I a 0 kvs.length ep):Fg c al h i kv I W
def Fh(c:aR)(al:List aj)(h:a_)(src:Sk)(I:aj)(W:List aj):Prop:=eZ.casesOn (motive:=λ_=>Prop) src.1 (λi=>dE c h al (.list i) 0 I W) (λl=>dE c h al (.tup l) 0 I W) (λn=>dE c h al (.range n) 0 I W) (λi=>dE c h al (.enum i) 0 I W) (λi=>Fg c al h i src.2 I W) λi=>dE c h al (.vals i) 0 I W
inductive RJ(c:aR)(bF:a_)(fs:Fs)(src:Sk)(al:List aj)(h:a_):aa->Prop|mk(I:aj)(W:List aj)(o:gR c bF al fs W)(x:Fh c al h src I W):RJ c bF fs src al h (.ref I)
section
variable{k:KT Sk}
inductive UT(o:aq):aq->Prop|mk(ap p:Pos)(hs:oH o=false)(hl:(ap.endLine==p.line)=true):UT o (.Call (.Attribute o "values" ap) [] [] p)
theorem ag8(h:UP it=some o):UT o it:=by obtain⟨f,as,ks,p,e,h⟩:=P_ h;obtain⟨q,hq,h⟩:=bH h;obtain⟨hc,h⟩:=cI h;rw[iV,iV,iV,iV]at hc;obtain⟨⟨⟨⟨h1,h2⟩,h3⟩,h4⟩,h5⟩:=hc;rw[e,SY hq,eq_of_beq h1,mY.mp h2,mY.mp h3,aJ h];exact .mk _ _ (aJ h▸Kz h4) h5
theorem K1(R:Sr c z u)(N:Nx aN z){I:aj}(hI:z.s.heap.objs.size<=I):gR c aN.s.heap z.al aN.fs [I]:=λw hw=>bM.mp hw▸JF (N.f▸(show SR c z.s.heap z.al u z.fs from R)) N.T hI
theorem RJ.post(O:Ok c n hd g Y z u)(N:Nx aN z)(h:k (.ok src) u)(x:Fh c z.al (z.s.heap.push o) src z.s.heap.objs.size [z.s.heap.objs.size]):bG c aN (RJ c aN.s.heap aN.fs) k (.ref z.s.heap.objs.size) {z.s with heap:=z.s.heap.push o}:=.mk src u ⟨{z.s with heap:=z.s.heap.push o},z.al,z.fs⟩ (N.trans .push) O.push.R ⟨_,_,K1 O.R N (br _),x⟩ h
abbrev AW(c:aR)(g:G)(aN:Z)(k:KT Sk)(x:aa)(s:aF):Prop:=av c.M g.A (wq x) (bG c aN (RJ c aN.s.heap aN.fs) k) (bA c aN k) s
theorem ag9(O':dh c){i:Nat}{a:aj}{m:MO}(hm:u[i]?=some m)(ea:z.al[i]?=some a)(O:Ok c n hd g Y z u)(N:Nx aN z)(h:MO.casesOn (motive:=λ_=>Prop) m (λ_=>k (.ok (.list i,[])) u) (λkv=>k (.ok (.keys i,kv)) u) (λ_=>False) (λ_=>False) (λ_ _=>False) (λ_=>False) (λ_ _ _ _=>False) (λ_=>False) λ_=>False):AW c g aN k (.ref a) z.s:=by have X:=O.R.obj _ _ _ hm ea;cases m with|list l=>obtain⟨items,n,il,-⟩:=X;exact G2 (iX il) (RJ.post O N h (Ac.mk rfl _ ea ⟨_,gj _ rfl,rfl,rfl⟩))|bg kv=>obtain⟨kvs,d,pr⟩:=X;obtain⟨ep,d'⟩:=d.dictAt;exact NC (ta O' O.R ea) d' (RJ.post O N h (Fg.mk rfl _ kvs ep ea (pr.mono (λa o e _=>xA a o e) (λ_ _ e=>e)) (d'.push _) ⟨_,gj _ rfl,rfl,rfl⟩))|_=>exact h.elim
theorem ag_(O':dh c){v:V}{q:aa}(h:rB v u k)(O:Ok c n hd g Y z u)(N:Nx aN z)(kv:VR z.s.heap z.al v q):AW c g aN k q z.s:=VR.casesOn (motive_1:=λv q _=>rB v u k->AW c g aN k q z.s) kv aW (λ_=>aW) (λ_ _=>aW) (λ_ _=>aW) (λt vs h=>iter_tuple t (RJ.post O N h (Ed.mk rfl _ _ (t.push _) (vs.mono (λa o e _=>xA a o e) λ_ _ e=>e) ⟨_,gj _ rfl,rfl,rfl⟩))) (λea h=>(cK h).elim λm h=>ag9 O' h.1 ea O N h.2) (λ_=>aW) h
theorem UU(SG:fg c S)(H:bp c n hd ev){f:Str}{fp pos:Pos}{e:aq}{T:aa}{P:V->List MO->Prop}(fj:dk e=false)(hl:ib (eI S Y u f) T=true)(hf:j4 f=true)(hk:∀h,Lk c h T)(h:ev e Y u (bh k P))(O:Ok c n hd g Y z u){Q:aa->SP}(hQ:∀v aD au q,Nx z au->Ok c n hd g Y au aD->VR au.s.heap au.al v q->P v aD->av c.M g.A (call T [q]) Q (bA c z k) au.s):av c.M g.A (eval (.Call (.Name f fp) [e] [] pos) g.ag) Q (bA c z k) z.s:=call_one fj hk (λQ' hq=>JU SG hl (tE hf).2 (tE hf).1 O.E O.R' hq) (seq (.refl z) O (H e Y u _ h) λv aD au q N _ aI kv az=>hQ v aD au q N aI kv az)
theorem Ok.UW(O:Ok c n hd g Y z u){o:Obj}{tk:Nat}:Nx z ⟨{z.s with heap:=z.s.heap.push o,toks:=tk},z.al,z.fs⟩/\Ok c n hd g Y ⟨{z.s with heap:=z.s.heap.push o,toks:=tk},z.al,z.fs⟩ u:=have N:Nx z ⟨{z.s with heap:=z.s.heap.push o,toks:=tk},z.al,z.fs⟩:=⟨.of_keep xA ..,⟨rfl,rfl,rfl⟩,rfl⟩;⟨N,O.nx N (O.R.keep xA)⟩
theorem ag'{h:a_}:Hg (h.push {cls:=.type "range_iterator",data:=.fields #[gG 0,gG (sV 0 j 1),gG 1]}) h.objs.size (0:Nat) (sV 0 j 1-(0:Nat)) 1:=by show Hg _ _ 0 (sV 0 j 1-0) 1;rw[OE];exact gj _ rfl
theorem UX(h:-1000000<j/\j<1000000):YX 0 j 1=true:=small_one ai ai (qP (C8 ai h.1)) (C8 h.2 ai)
abbrev AX(c:aR)(g:G)(z:Z)(k:KT Sk)(it:aq):Prop:=av c.M g.A (eval it g.ag) (λx cq=>AW c g z k x cq) (bA c z k) z.s
theorem UY(O':dh c)(H:bp c n hd ev){it:aq}(h:AV ev it Y u k)(O:Ok c n hd g Y z u):AX c g z k it:=seq (.refl z) O (H _ Y u _ h) λv aD au q _ bE aI kv az=>ag_ O' az aI bE kv
theorem aha(SG:fg c S)(H:bp c n hd ev){e:aq}{fp p:Pos}(h:UQ S ev "range" e Y u k)(O:Ok c n hd g Y z u):AX c g z k (.Call (.Name "range" fp) [e] [] p):=UU SG H (aZ h).1.1 (aZ h).1.2 (by decide+kernel) (λ_=>uX) (aZ h).2 O λv aD au q N aI kv az=>ru az kv λj t az=>call_range_1 (wpAny_pyIter_range (PD _ _ _ _ _ _ _) (UX (aZ az).1) (RJ.post (z:=⟨{au.s with heap:=au.s.heap.push _,toks:=_},au.al,au.fs⟩) aI.UW.2 (N.trans aI.UW.1) (aZ az).2 (Ad.mk rfl (aZ az).1.1 (aZ az).1.2 ag')))
theorem ahb(SG:fg c S)(H:bp c n hd ev){e:aq}{fp p:Pos}(h:UR S ev "enumerate" e Y u k)(O:Ok c n hd g Y z u):AX c g z k (.Call (.Name "enumerate" fp) [e] [] p):=UU SG H (aZ h).1.1 (aZ h).1.2 (by decide+kernel) (λ_=>uX) (aZ h).2 O λv aD au q N aI kv az=>rv az kv λi a ea az=>Kb.casesOn (nz az aI.R ea) λl items m hl il _ vs _ az=>call_enumerate_list il λh' he hit hz kp=>Nz he (.mk ((eZ.enum i,[]):Sk) aD ⟨{au.s with heap:=h'},au.al,au.fs⟩ (N.trans ⟨.of_keep kp ..,⟨rfl,rfl,rfl⟩,rfl⟩) (aI.R.keep kp) ⟨_,_,λw hw=>(bX.mp hw).elim (λq=>q▸K1 aI.R N (dI _) _ (.head _)) (K1 aI.R N (br _) w),Ae.mk au.s.heap.objs.size a .none rfl (GR _) ea hit he⟩ az)
theorem UZ{m:MO}(h:m.DO f False):∃l,m=.bg l/\f l:=by cases m with|bg l=>exact⟨l,rfl,h⟩|_=>exact h.elim
theorem ahc(O':dh c){i:Nat}{a:aj}{p:Pos}(ea:z.al[i]?=some a)(N:Nx aN z)(O:Ok c n hd g Y z u)(h:Ff u i λkv=>gd (kv.isEmpty=true) (k (.ok (.vals i,[])) u)):j' c g (bA c aN k) "values" (.ref a) p [] (AW c g aN k) z.s:=by obtain⟨m,hm,h⟩:=cK h;obtain⟨kv,e,h⟩:=UZ h;obtain⟨h0,h⟩:=aZ h;rw[e,mY.mp h0]at hm;obtain⟨kvs,d,pr⟩:=O.R.obj _ _ _ hm ea;rw[pr.nil_inv]at d;obtain⟨ep,d'⟩:=d.dictAt;obtain⟨o',es,xx,e',x,-⟩:=id d;refine .of OR OP PySem.F.type_dict_values d.typeIs (λb q=>⟨o',H9 q▸e',x.2.1⟩) ?_;refine method_meetsIn OP PySem.F.entry_dict_values rfl (evalArgs_nil3 ⟨rfl,d.typeIs,PySem.F.args_dict_values_1 _,_,meets_dict_values (jd c.prog c.w) a (ta O' O.R ea),⟨[],d⟩,?_⟩);exact wpAny_pyIter_values (kvs:=[]) (ep:=ep) ⟨_,gj _ rfl,rfl,rfl⟩ (d'.push _) (RJ.post (z:=⟨{z.s with heap:=z.s.heap.push _},z.al,z.fs⟩) O.push (N.trans .push) h (JB.mk rfl rfl a ep ea ((d'.push _).push _) ⟨_,gj _ rfl,rfl,rfl⟩))
theorem ahe(O':dh c)(H:bp c n hd ev){o:aq}{ap p:Pos}(hs:oH o=false)(hl:(ap.endLine==p.line)=true)(h:US ev o Y u k)(O:Ok c n hd g Y z u):AX c g z k (.Call (.Attribute o "values" ap) [] [] p):=Ri hs rfl ai hl (seq (.refl z) O (H o Y u _ h) λv aD au q _ N aI kv az=>rv az kv λi a ea az=>ahc O' ea N aI az)
theorem U0(O':dh c)(SG:fg c S)(H:bp c n hd ev){it:aq}(h:fW S ev it Y u k)(O:Ok c n hd g Y z u):AX c g z k it:=by
 rcases xV h with⟨q,hc,h⟩|h;.obtain⟨fp,p,e⟩:=S2 hc;exact rz h (λe' h=>by rw[e,e'];exact aha SG H (e'▸h) O) λ_ h=>rz h (λe' h=>by rw[e,e'];exact ahb SG H (e'▸h) O) λ_ h=>UY O' H h O
 .rcases xV h with⟨o,hv,h⟩|h;.exact(ag8 hv).casesOn λap p hs hl=>ahe O' H hs hl h O
  .exact UY O' H h O
end
def ve(m:Nat)(src:eZ):Prop:=eZ.casesOn (motive:=λ_=>Prop) src (λi=>i<m) (λ_=>False) (λ_=>True) (λi=>i<m) (λ_=>False) λ_=>False
def iJ(k:KX)(aA:Loc->List MO->Prop):KX:=λr Y u=>Rs.casesOn (motive:=λ_=>Prop) r (λf=>xU f (aA Y u) λv=>k (.ok (.ret v)) Y u) λi=>k (.de i) Y u
def rC(src:eZ)(u:List MO)(i:Nat)(fin:Prop)(f:V->Prop):Prop:=aH (rd src u i) λo=>aU o f fin
def Fj(P:SP)(Q:lW->SP):lW->SP:=λf s=>Px (motive:=λ_=>Prop) f (P s) (Q .next s) (P s) λv=>Q (.ret v) s
def NB(c:aR)(g:G)(E:aa->SP):aa->SP:=notedBy c.M g.A g.ag (Hl c.M g.A g.ag E)
theorem U1(B:Bg m g)(y:ES c n hd g m aN k q s'):NB c g (ES c n hd g m aN k) q s':=ES.casesOn y λi a d Y u z N O ea ed h=>AQ O B ea ed rfl λz' N' O' ea n'=>KO (N.nx N') O' ea ed n' h
theorem ahf(y:ES c n hd g m aN (iJ k aA) q s'):ES c n hd g m aN k q s':=ES.casesOn y λi a d Y u z N O ea ed h=>.mk i a d Y u z N O ea ed h
inductive WI(c:aR)(n:Nat)(hd:Option Nat)(g:G)(m:Nat)(z:Z)(aA:Loc->List MO->Prop):SP|mk(Y:Loc)(u:List MO)(z':Z)(N:Nm m z z')(O:Ok c n hd g Y z' u)(h:aA Y u):WI c n hd g m z aA z'.s
theorem U2(B:Bg m g)(N:Nm m aN z)(O:Ok c n hd g Y z u){b:List bj}{aA:Loc->List MO->Prop}(h:bb c n hd m Y u b (iJ k aA)){P:SP}(hP:∀qc b8 a9,Nm m z a9->Ok c n hd g qc a9 b8->aA qc b8->P a9.s):av c.M g.A (execs b g.ag) (Fj P (PS c n hd g m aN k)) (NB c g (ES c n hd g m aN k)) z.s:=by refine b_ (h g z B O) (λfl jG y=>?_) λq jG y=>U1 B (ahf (ES.gK N y));obtain⟨fl,vb,oS,iG,iH,fD,r,h⟩:=y;cases fl with|next=>rw[show _=_ from r];exact hP vb oS iG iH fD h|ret v=>obtain⟨q,e,kv⟩:=r;rw[e];exact .mk (.ret v) vb oS iG (N.trans iH) fD ⟨q,rfl,kv⟩ h
theorem ahg(I:Nat->SP)(turn:∀n s,I n s->av c.M g.A (za t g.ag (eval t g.ag)) (λq dD=>if q then av c.M g.A (execs b g.ag) (Fj (λs=>∃m,m<n/\I m s) Q) (NB c g E) dD else Q .next dD) (NB c g E) s) n(h:I n s):av c.M g.A (exec (.While t b [] pos) g.ag) Q E s:=wpAny_While (codeAny_whileLoop I (λn s h=>b_ (turn n s h) (λq dD y=>rx rfl y (λy=>b_ y (λf s y=>by cases f<;>exact y) λ_ _ y=>y) λy=>yS y) λ_ _ y=>y) n h)
theorem TX.AY(HT:fq c n hd tv){t:aq}{b:List bj}{pos:Pos}(aA:Nat->Loc->List MO->Prop){f:Nat}(h0:aA f Y u)(hJ:∀f Y u,aA f Y u->tv t Y u (bx Y k λq u=>if q then bb c n hd m Y u b (iJ k λY u=>∃f',f'<f/\aA f' Y u)else k (.ok .next) Y u)):Ts c n hd m Y u (.While t b [] pos) k:=λg z B O=>ahg (λf=>WI c n hd g m z (aA f)) (λf s' y=>WI.casesOn y λdF aD au N aI hj=>b_ (nE N aI (HT t dF aD _ (hJ f dF aD hj)) λq b8 a9 qb _ bN bJ kb bl=>rx kb bl (λh=>U2 B bN bJ h λvb oS iG iH fD h=>h.elim λf' h=>⟨f',h.1,.mk vb oS iG (bN.trans iH) fD h.2⟩) λh=>.mk .next dF b8 a9 bN bJ rfl h) (λ_ _ y=>y) λ_ _ y=>U1 B y) f (.mk Y u z (.refl z) O h0)
theorem St.but(T:St m bF gQ fa h al)(hW:∀w∈W,bF.get? w=none)(k:dG W h h'):St m bF gQ fa h' al:=⟨λb o e=>(T.live b o e).elim λo' e'=>⟨o',k b o' (λm=>aE ((hW b m).symm.trans e)) e'⟩,λb o e h1 h2=>(T.keep b o e h1 h2).elim λo' e'=>⟨o',k b o' (λm=>aE ((hW b m).symm.trans e)) e'.1,e'.2⟩,T.p_,T.pre⟩
theorem gR.AZ(O:gR c bF al fs W)(T:St m h al fa h' aT)(hp:∀w∈W,gn h w true):gR c bF aT fs W:=λw hw=>⟨λq=>(T.p_ w q).elim (O w hw).1 λq=>(hp w hw).there.elim λo e=>aE (q.symm.trans e),(O w hw).2⟩
theorem dE.AZ(x:dE c h al src i I W)(hs:ve m src)(O:gR c bF al fs W)(T:St m h al (fs.map (·.1)) h' aT):dE c h' aT src i I W:=by
 have kw:∀w∈W,∀o,h.get? w=some o->h'.get? w=some o:=λw hw o e=>by obtain⟨o',e',kk⟩:=T.keep w o e (O w hw).1 (O w hw).2.1;exact kk.elim (λq=>q▸e') λt=>((x.plain w hw).tb e t.1).elim
 cases src with|list i=>obtain⟨w,a,ea,y⟩:=x;exact Ac.mk w a (T.pre _ _ hs ea) (IsListIter.map y (kw _ (nr w)))|range n=>obtain⟨w,y,y',e⟩:=x;exact Ad.mk w y y' (kw _ (nr w) _ e)|enum i=>obtain⟨aA,a,old,w,ne,ea,hl,e⟩:=x;exact Ae.mk aA a old w ne (T.pre _ _ hs ea) (IsListIter.map hl (kw _ (w▸.tail _ (.head _)))) (kw _ (w▸.head _) _ e)|_=>exact hs.elim
inductive FI(c:aR)(n:Nat)(hd:Option Nat)(g:G)(m:Nat)(z:Z)(src:eZ)(I:aj)(W:List aj)(aA:Nat->Loc->List MO->Prop):SP|mk(i:Nat)(Y:Loc)(u:List MO)(z':Z)(N:Nm m z z')(O:Ok c n hd g Y z' u)(it:dE c z'.s.heap z'.al src i I W)(J:gR c z.s.heap z'.al z'.fs W)(h:aA i Y u):FI c n hd g m z src I W aA z'.s
def U3(c:aR)(n:Nat)(hd:Option Nat)(m:Nat)(tgt:aq)(b:List bj)(k:KX)(Y:Loc)(src:Sk)(u:List MO):Prop:=nh tgt src.1=true/\ve m src.1/\∃(aA:Nat->Nat->Loc->List MO->Prop)(f:Nat),aA f 0 Y u/\∀f i Y u,aA f i Y u->rC src.1 u i (k (.ok .next) Y u) λv=>aH (cf tgt v Y u) λp=>bb c n hd m p.1 p.2 b (iJ k λY u=>∃f',f'<f/\aA f' (i+1) Y u)
def U4(c:aR)(g:G)(tgt:aq)(b:List bj)(I:aj)(P:SP)(Q:lW->SP)(E:aa->SP)(v:aa)(s:aF):Prop:=av c.M g.A (v_ tgt (.ref I) v) (λ_ s=>av c.M g.A (assign tgt g.ag v) (λ_ s=>av c.M g.A (execs b g.ag) (Fj P Q) (NB c g E) s) (NB c g E) s) (NB c g E) s
theorem ahh(aA:Nat->SP)(turn:∀n s,aA n s->av c.M g.A (jU (.ref I)) (λr s=>aU r (λv=>U4 c g tgt b I (λs=>∃m,m<n/\aA m s) Q E v s) (Q .next s)) (NB c g E) s) n(h:aA n s):je c.M g.A (.forLoop tgt (.ref I) b [] g.ag) (λr s'=>match r with|.ok f=>Q f s'|.error e=>Hl c.M g.A g.ag E e s') s:=codeAny_forLoop_any aA (λn s h=>b_ (turn n s h) (λr cq y=>by cases r with|none=>exact yS y|some v=>exact b_ y (λ_ s y=>b_ y (λ_ s y=>b_ y (λf s y=>by cases f<;>exact y) λ_ _ y=>y) λ_ _ y=>y) λ_ _ y=>y) λ_ _ y=>y) n h
theorem gR.fs{fs Fm:Fs}(O:gR c bF al fs W)(e:Fm.map (·.1)=fs.map (·.1)):gR c bF al Fm W:=λw m=>⟨(O w m).1,e▸(O w m).2.1,(O w m).2.2⟩
section
variable{E:aa->SP}
theorem ahi(gr:ve m src)(hh:g.A.handled=none){v:V}{q:aa}{aA:Nat->Nat->Loc->List MO->Prop}{f:Nat}(B:Bg m g)(N:Nm m aN z)(O:Ok c n hd g Y z u)(it:dE c z.s.heap z.al src (i+1) I W)(J:gR c aN.s.heap z.al z.fs W)(kq:VR z.s.heap z.al v q)(h:aH (cf tgt v Y u) λp=>bb c n hd m p.1 p.2 b (iJ k λY u=>∃f',f'<f/\aA f' (i+1) Y u)):av c.M g.A (assign tgt g.ag q) (λ_ s=>av c.M g.A (execs b g.ag) (Fj (λs=>∃f',f'<f/\FI c n hd g m aN src I W (aA f') s) (PS c n hd g m aN k)) (NB c g (ES c n hd g m aN k)) s) E z.s:=by obtain⟨p,e,hf⟩:=cK h;refine Jy e (.inl hh) O.E O.R' kq λs' R T m' _=>?_;have y:=O.vars (m:=m) (Ea e) T m' R;have U6:=it.AZ gr J y.1.T;have tG:=(J.AZ y.1.T it.plain).fs y.1.f;exact U2 B (N.trans y.1) y.2 hf λvb oS iG iH fD h=>h.elim λf' h=>⟨f',h.1,.mk (i+1) vb oS iG ((N.trans y.1).trans iH) fD (U6.AZ gr tG iH.T) ((tG.AZ iH.T U6.plain).fs iH.f) h.2⟩
theorem ahj(hf:nh tgt src=true)(gr:ve m src){aA:Nat->Nat->Loc->List MO->Prop}{f:Nat}(B:Bg m g)(N:Nm m aN z)(O:Ok c n none g Y z u)(hb:∀b o,c.B.get? b=some o->aN.s.heap.get? b=some o)(it:dE c z.s.heap z.al src i I W)(J:gR c aN.s.heap z.al z.fs W)(h:rC src u i (k (.ok .next) Y u) λv=>aH (cf tgt v Y u) λp=>bb c n none m p.1 p.2 b (iJ k λY u=>∃f',f'<f/\aA f' (i+1) Y u)):av c.M g.A (jU (.ref I)) (λr s=>aU r (λv=>U4 c g tgt b I (λs=>∃f',f'<f/\FI c n none g m aN src I W (aA f') s) (PS c n none g m aN k) (ES c n none g m aN k) v s) (PS c n none g m aN k .next s)) (NB c g (ES c n none g m aN k)) z.s:=by obtain⟨ov,Fo,h⟩:=cK h;have nm:∀h' tk,dG W z.s.heap h'->Nm m aN ⟨{z.s with heap:=h',toks:=tk},z.al,z.fs⟩:=λh' tk bt=>⟨N.T.but (λw m=>(J w m).2.2) bt,N.m.trans ⟨rfl,rfl,rfl⟩,N.f⟩;refine RK O.hh hf Fo it J hb O.R ?_;cases ov with|none=>exactλh' R' bt=>.mk .next Y u ⟨{z.s with heap:=h'},z.al,z.fs⟩ (nm h' _ bt) ⟨O.fs,O.C,O.E,R'⟩ rfl h|some v=>exactλq az tk xX=>xX λh' R' bt kq xY=>ahi (z:=⟨{z.s with heap:=h',toks:=tk},z.al,z.fs⟩) gr O.hh B (nm h' tk bt) ⟨O.fs,O.C,O.E,R'⟩ xY J kq h
end
theorem Fh.it(x:Fh c al h src I W)(hs:ve m src.1):dE c h al src.1 0 I W:=by obtain⟨src,kv⟩:=src;cases src with|keys=>exact hs.elim|_=>exact x
theorem TX.U7(O':dh c)(SG:fg c S)(H:bp c n none ev){tgt it:aq}{b:List bj}{pos:Pos}(A_:DW it=false)(h:fW S ev it Y u (bx Y k (U3 c n none m tgt b k Y))):Ts c n none m Y u (.For tgt it b [] pos) k:=λg z B O=>by have es:∀{q s'},bA c z (bx Y k (U3 c n none m tgt b k Y)) q s'->ES c n none g m z k q s':=λy=>bA.casesOn y λi a d aM z' N' R ea ed h=>.mk i a d Y aM z' N'.nm (O.nx N' R) ea ed h;refine wpAny_For (b_ (U0 O' SG H h O) (λx cq y=>b_ y (λq dD y=>?_) λ_ _=>es) λ_ _=>es) (λx=>R2 A_ x g.ag);obtain⟨src,aD,au,bE,gP,r,fC,gr,aA,f,h0,hJ⟩:=y;obtain⟨I,W,J,x⟩:=r;exact ahh (λf=>FI c n none g m z src.1 I W (aA f)) (λf s' y=>FI.casesOn y λi qc b8 a9 bN bJ ahk ahl hj=>ahj fC gr B bN bJ O.R.base ahk ahl (hJ f i qc b8 hj)) f (.mk 0 Y aD au bE.nm (O.nx bE gP) (x.it gr) (bE.f▸J) h0)
def nF(f:α->List MO->Prop):KT α:=λr u=>Rs.casesOn (motive:=λ_=>Prop) r (λa=>f a u) λ_=>False
def ahm(tv:TZ)(ifs:List aq)(Y:Loc)(u:List MO)(f:Bool->List MO->Prop):Prop:=sR (motive:=λ_=>Prop) ifs (f true u) λt r=>gd (r.isEmpty=true) (tv t Y u (nF f))
def i5(ev:EZ)(tv:TZ)(ifs:List aq)(elt:aq)(acc:Nat)(Y:Loc)(u:List MO)(f:List MO->Prop):Prop:=ahm tv ifs Y u λb u=>if b then ev elt Y u (nF λx u=>dn u acc λl=>gd (l.length<1000000) (f (u.set acc (.list (l++[x])))))else f u
def tH(ev:EZ)(tv:TZ)(tgt:aq)(ifs:List aq)(elt:aq)(sc:cz)(cl:List (Str×Nat))(k:KT V)(src:eZ)(u:List MO):Prop:=nh tgt src=true/\∃(aA:Nat->Nat->List MO->Prop)(f:Nat),aA f 0 (u++[.list []])/\∀f i aM,aA f i aM->rC src aM i (k (.ok (.ref u.length)) aM) λv=>aH (cf tgt v ⟨sc,[],cl,none⟩ aM) λp=>i5 ev tv ifs elt u.length p.1 p.2 λu=>∃f',f'<f/\aA f' (i+1) u
section
variable{I C D:aj}{Rel:AG α β}
theorem U8{Q:β->SP}(O:Ok c n hd g Y z u)(h:Tr c n hd Y u Rel t (nF f))(hk:∀a aD au q,Nx z au->Ok c n hd g Y au aD->Rel a au.al au.s.heap q->f a aD->Q q au.s):av c.M g.A (t g.ag) Q ff z.s:=b_ (h g z O) (λq s' y=>bG.casesOn y λv aD au N' R r h=>hk v aD au q N' (O.nx N' R) r h) λq s' y=>bA.casesOn y λi a d aM z' N' R ea ed h=>h.elim
structure CS(c:aR)(n:Nat)(hd:Option Nat)(g:G)(z:Z)(src:eZ)(I:aj)(W:List aj)(acc:Nat)(D:aj)(i:Nat)(Y:Loc)(z':Z)(u:List MO):Prop where
 T:a8 z.s.heap z.al (z.fs.map (·.1)) z'.s.heap z'.al
 m:cW z.s z'.s
 O:Ok c n hd g Y z' u
 it:dE c z'.s.heap z'.al src i I W
 J:gR c z.s.heap z'.al ((g.L,Y.vars)::g.rest) W
 D:z'.al[acc]?=some D
theorem Nx.fs{fs:Fs}(N:Nx z z')(e:z.fs=fs):a8 z.s.heap z.al (fs.map (·.1)) z'.s.heap z'.al:=e▸N.T
theorem CS.nx(X:CS c n hd g z src I W acc D i Y au u)(hv:∀j,src≠.vals j)(hC:z.s.heap.get? g.L=none)(hr:g.rest=z.fs){a9:Z}(N:Nx au a9)(bJ:Ok c n hd g Y a9 aM):CS c n hd g z src I W acc D i Y a9 aM where T:=X.T.body (N.fs (X.O.fs.trans (hr▸rfl):au.fs=(g.L,Y.vars)::z.fs)) hC;m:=X.m.trans N.m;O:=bJ;it:=X.it.step hv X.J X.O.R' (N.fs X.O.fs);J:=X.J.step (N.fs X.O.fs) λw m=>(X.it.plain w m).there;D:=N.T.at _ _ X.D
section
variable{f:List MO->Prop}{Q:SP}
theorem ahn(H:bp c n hd ev)(X:CS c n hd g z src I W acc D i Y au u)(hv:∀j,src≠.vals j)(hC:z.s.heap.get? g.L=none)(hr:g.rest=z.fs)(h:ev elt Y u (nF λx u=>dn u acc λl=>gd (l.length<1000000) (f (u.set acc (.list (l++[x]))))))(hQ:∀a9 b8,CS c n hd g z src I W acc D i Y a9 b8->f b8->Q a9.s):av c.M g.A (eval elt g.ag) (RL c.M g.A (.ref D) Q) ff au.s:=by refine U8 X.O (H elt Y u _ h) λx oS iG q N fD kv ie=>?_;have cD:=X.nx hv hC hr N fD;obtain⟨l,items,m,hl,il,x',vs,len,ie⟩:=nz ie fD.R cD.D;refine Nd ⟨m,x'⟩ (λK2 aho ahp=>?_) (len▸AM (aZ ie).1);obtain⟨KW,ahq⟩:=aho;have Fp:=Ec (mo':=.list (l++[x])) fD.R cD.D hl ahp λkf=>⟨items.push q,KW,ahq,wG.symm▸(vs.mono kf λ_ _ e=>e).append (.cons (kv.mono kf λ_ _ e=>e) .nil)⟩;exact hQ ⟨{iG.s with heap:=K2},iG.al,iG.fs⟩ _ (cD.nx hv hC hr (fD.u7 (s':={iG.s with heap:=K2}) Fp.1 Fp.2 ⟨rfl,rfl,rfl⟩).1 (fD.u7 (s':={iG.s with heap:=K2}) Fp.1 Fp.2 ⟨rfl,rfl,rfl⟩).2) (aZ ie).2
theorem U9(H:bp c n hd ev){b:Bool}(h:if b=true then ev elt Y u (nF λx u=>dn u acc λl=>gd (l.length<1000000) (f (u.set acc (.list (l++[x])))))else f u)(X:CS c n hd g z src I W acc D i Y au u)(hv:∀j,src≠.vals j)(hC:z.s.heap.get? g.L=none)(hr:g.rest=z.fs)(hQ:∀a9 b8,CS c n hd g z src I W acc D i Y a9 b8->f b8->Q a9.s):RM c.M g.A g.ag elt (.ref D) Q b au.s:=by cases b with|false=>exact hQ au u X h|true=>exact ahn H X hv hC hr h hQ
theorem ahr(H:bp c n hd ev)(HT:fq c n hd tv){ifs:List aq}(h:i5 ev tv ifs elt acc Y u f)(X:CS c n hd g z src I W acc D i Y au u)(hv:∀j,src≠.vals j)(hC:z.s.heap.get? g.L=none)(hr:g.rest=z.fs)(hQ:∀a9 b8,CS c n hd g z src I W acc D i Y a9 b8->f b8->Q a9.s):Ag c.M g.A g.ag ifs elt (.ref D) Q au.s:=by cases ifs with|nil=>exact NK (U9 (b:=true) H h X hv hC hr hQ)|cons t r=>exact xT (P:=λr=>Ag c.M g.A g.ag (t::r) elt (.ref D) Q au.s) h λh=>wpAny_tests_one (U8 X.O (HT t Y u _ h) λb b8 a9 q N bJ kb bl=>(show b=q from kb)▸U9 H bl (X.nx hv hC hr N bJ) hv hC hr hQ)
end
inductive CI(c:aR)(n:Nat)(hd:Option Nat)(g:G)(z:Z)(src:eZ)(I:aj)(W:List aj)(acc:Nat)(D:aj)(sc:cz)(cl:List (Str×Nat))(aA:Nat->List MO->Prop):SP|mk(i:Nat)(v:bI)(u:List MO)(z':Z)(X:CS c n hd g z src I W acc D i ⟨sc,v,cl,none⟩ z' u)(h:aA i u):CI c n hd g z src I W acc D sc cl aA z'.s
theorem Ok.ahs(O:Ok c n hd g ⟨sc,v,cl,none⟩ z u):Ok c n hd g ⟨sc,[],cl,none⟩ ⟨z.s,z.al,(g.L,[])::g.rest⟩ u:=have R:=O.R';⟨rfl,(O.fs▸O.C).vars,O.E.D7 ⟨rfl,rfl,rfl⟩,⟨R.base,R.off,R.len,R.nd,R.obj,λp hp=>(bX.mp hp).elim (λq=>by rw[q];exact(R.fr _ (.head _)).elim λm hm=>⟨m,hm.1,λx v q=>aE q⟩) λhp=>R.fr p (.tail _ hp)⟩⟩
theorem d8.vars(l:d8 Y bR):bR=⟨Y.sc,bR.vars,Y.cells,Y.nest⟩:=by obtain⟨a,b,d,e⟩:=bR;rw[<-l.sc,<-l.cells,<-l.nest]
section
variable{aA:Nat->Nat->List MO->Prop}
theorem aht(H:bp c n none ev)(HT:fq c n none tv){v:bI}{x:V}{q:aa}{h':a_}{tk:Nat}(hv:∀j,src≠.vals j)(hC:z.s.heap.get? g.L=none)(hr:g.rest=z.fs)(X:CS c n none g z src I W acc D i ⟨sc,v,cl,none⟩ au u)(R':SR c h' au.al u ((g.L,v)::g.rest))(bt:dG W au.s.heap h')(kq:VR h' au.al x q)(xY:dE c h' au.al src (i+1) I W)(hj:aH (cf tgt x ⟨sc,[],cl,none⟩ u) λp=>i5 ev tv ifs elt acc p.1 p.2 λu=>∃f',f'<f/\aA f' (i+1) u):av c.M g.A (assign tgt g.ag q) (λ_=>Ag c.M g.A g.ag ifs elt (.ref D) λs=>∃f',f'<f/\CI c n none g z src I W acc D sc cl (aA f') s) ff {au.s with heap:=h',toks:=tk}:=by obtain⟨p,e,hj⟩:=cK hj;have fD:Ok c n none g ⟨sc,[],cl,none⟩ ⟨{au.s with heap:=h',toks:=tk},au.al,(g.L,[])::g.rest⟩ u:=Ok.ahs (z:=⟨{au.s with heap:=h',toks:=tk},au.al,au.fs⟩) (v:=v) ⟨X.O.fs,X.O.C,X.O.E,X.O.fs▸R'⟩;refine Jy (s:={au.s with heap:=h',toks:=tk}) e (.inl X.O.hh) fD.E fD.R kq λAh ahu K3 ahv ahw=>?_;have lq:=Ea e;have ahx:a8 h' au.al (((g.L,([]:bI))::z.fs).map (·.1)) Ah.heap au.al:=hr▸K3;have cD:CS c n none g z src I W acc D (i+1) p.1 ⟨Ah,au.al,(g.L,p.1.vars)::g.rest⟩ p.2:=⟨(X.T.but (λw m=>(X.J w m).2.2) bt).body ahx hC,(X.m.trans ⟨rfl,rfl,rfl⟩).trans ahv,⟨rfl,fD.C.vars,ahw,ahu⟩,xY.step (fs:=(g.L,[])::g.rest) hv X.J fD.R K3,gR.step (c:=c) (fs:=(g.L,[])::g.rest) X.J K3 λw m=>(xY.plain w m).there,X.D⟩;exact ahr H HT hj cD hv hC hr λxW K4 ahy h=>h.elim λf' h=>⟨f',h.1,.mk (i+1) p.1.vars K4 xW (lq.vars▸ahy) h.2⟩
theorem ahz(H:bp c n none ev)(HT:fq c n none tv){k':List MO->Prop}{v:bI}(fC:nh tgt src=true)(hj:rC src u i (k' u) λv=>aH (cf tgt v ⟨sc,[],cl,none⟩ u) λp=>i5 ev tv ifs elt acc p.1 p.2 λu=>∃f',f'<f/\aA f' (i+1) u)(hC:z.s.heap.get? g.L=none)(hr:g.rest=z.fs)(B:∀b o,c.B.get? b=some o->z.s.heap.get? b=some o)(X:CS c n none g z src I W acc D i ⟨sc,v,cl,none⟩ au u){R:SP}(hR:∀a9 v b8,a8 z.s.heap z.al (z.fs.map (·.1)) a9.s.heap a9.al->cW z.s a9.s->Ok c n none g ⟨sc,v,cl,none⟩ a9 b8->a9.al[acc]?=some D->k' b8->R a9.s):av c.M g.A (jU (.ref I)) (JH c.M g.A g.ag tgt ifs elt (.ref I) (.ref D) (λs=>∃f',f'<f/\CI c n none g z src I W acc D sc cl (aA f') s) R) ff au.s:=by obtain⟨ov,Fo,hj⟩:=cK hj;refine RK (bF:=z.s.heap) X.O.hh fC Fo X.it X.J B X.O.R' ?_;cases ov with|none=>exactλh' R' bt=>hR ⟨{au.s with heap:=h'},au.al,au.fs⟩ v u (X.T.but (λw m=>(X.J w m).2.2) bt) (X.m.trans ⟨rfl,rfl,rfl⟩) ⟨X.O.fs,X.O.C,X.O.E,X.O.fs▸R'⟩ X.D hj|some x=>exactλq az tk xX=>xX λh' R' bt kq xY=>aht H HT (adk Fo) hC hr X R' bt kq xY hj
end
theorem ahA(H:bp c n none ev)(HT:fq c n none tv){elt tgt it:aq}{ifs:List aq}{sc:cz}{cl:List (Str×Nat)}{pos:Pos}{g:G}{k':List MO->Prop}(fC:nh tgt src=true)(aA:Nat->Nat->List MO->Prop)(hJ:∀f i aM,aA f i aM->rC src aM i (k' aM) λv=>aH (cf tgt v ⟨sc,[],cl,none⟩ aM) λp=>i5 ev tv ifs elt acc p.1 p.2 λu=>∃f',f'<f/\aA f' (i+1) u)(hC:z.s.heap.get? g.L=none)(hr:g.rest=z.fs)(B:∀b o,c.B.get? b=some o->z.s.heap.get? b=some o){f:Nat}(X:CS c n none g z src I W acc D 0 ⟨sc,[],cl,none⟩ au aD)(h0:aA f 0 aD){R:sH->SP}(hR:∀a9 v b8,a8 z.s.heap z.al (z.fs.map (·.1)) a9.s.heap a9.al->cW z.s a9.s->Ok c n none g ⟨sc,v,cl,none⟩ a9 b8->a9.al[acc]?=some D->k' b8->R (.ok .next) a9.s):je c.M g.A (.compLoop (.ListComp elt [⟨tgt,it,ifs,0⟩] sc pos) 0 (.ref I) (.ref D) g.ag) R au.s:=RO (λf=>CI c n none g z src I W acc D sc cl (aA f)) (λf s' y=>CI.casesOn y λi v b8 a9 X hj=>ahz H HT fC (hJ f i b8 hj) hC hr B X hR) f (.mk 0 [] aD au X h0)
end
def K5(S:cJ)(tgt:aq)(ifs:List aq)(elt:aq)(sc:cz)(cl:List (Str×Nat))(k:KT V)(kv:List (Int×V))(u:List MO):Prop:=aH (uN tgt) λx=>gd (ifs.isEmpty=true/\kv.length<1000000/\sc.names.lookup x=some .local) (aH (uM S elt x sc cl u kv) λvs=>k (.ok (.ref u.length)) (u++[.list vs]))
def ahB(S:cJ)(ev:EZ)(tv:TZ)(tgt:aq)(ifs:List aq)(elt:aq)(sc:cz)(cl:List (Str×Nat))(k:KT V)(src:Sk)(u:List MO):Prop:=eZ.casesOn (motive:=λ_=>Prop) src.1 (λi=>tH ev tv tgt ifs elt sc cl k (.list i) u) (λl=>tH ev tv tgt ifs elt sc cl k (.tup l) u) (λn=>tH ev tv tgt ifs elt sc cl k (.range n) u) (λi=>tH ev tv tgt ifs elt sc cl k (.enum i) u) (λ_=>K5 S tgt ifs elt sc cl k src.2 u) λi=>tH ev tv tgt ifs elt sc cl k (.vals i) u
section
variable{c:aR}{K:d0}{g:G}{z aN au:Z}
abbrev Ba(c:aR)(A:dR)(E:aa->SP)(use:Option (aa->Sem Unit))(Q:aa->SP)(z:Z)(k:KT V):Prop:=∀(C D:aj)(i:Nat)(z':Z)(aM:List MO)(v:bI),z'.fs=(C,v)::z.fs->a8 z.s.heap z.al (z.fs.map (·.1)) z'.s.heap z'.al->cW z.s z'.s->Sr c z' aM->z.s.heap.get? C=none->z'.al[i]?=some D->k (.ok (.ref i)) aM->y9 c.M A E use Q (.ref D) C (.ok .next) z'.s
structure Bb(c:aR)(z au:Z)(aD:List MO)(er:a_)(L C:aj):Prop where
 kp:∀b o,au.s.heap.get? b=some o->er.get? b=some o
 pl:er.PlainList L #[]ns:er.Ns C λx=>none
 nL:L∉au.al/\L∉z.fs.map (·.1)/\c.B.get? L=none
 nC:C∉au.al/\C∉z.fs.map (·.1)/\c.B.get? C=none
 zL:z.s.heap.get? L=none
 zC:z.s.heap.get? C=none
 ne:C≠L
 R:SR c er au.al aD z.fs
 T:a8 z.s.heap z.al (z.fs.map (·.1)) er au.al
 lt:∀w o,au.s.heap.get? w=some o->w≠L/\w≠C
theorem K6(h:∀b o,c.B.get? b=some o->z.s.heap.get? b=some o){w:aj}(e:z.s.heap.get? w=none):c.B.get? w=none:=by cases q:c.B.get? w with|none=>rfl|some o=>exact aE (e.symm.trans (h _ o q))
theorem ahC(B:∀b o,c.B.get? b=some o->z.s.heap.get? b=some o)(N:Nx z au)(R:Sr c au aD){er:a_}(hn:er.Ns (au.s.heap.push {cls:=.type "list",data:=.seq #[]}).objs.size λx=>none){o:Obj}(hs:mZ (au.s.heap.push {cls:=.type "list",data:=.seq #[]}).objs.size ((au.s.heap.push {cls:=.type "list",data:=.seq #[]}).push o) er):Bb c z au aD er au.s.heap.objs.size (au.s.heap.push {cls:=.type "list",data:=.seq #[]}).objs.size:=by have kp:∀b o',(au.s.heap.push {cls:=.type "list",data:=.seq #[]}).get? b=some o'->er.get? b=some o':=λb o' eb=>hs.extBut b o' (gh (eW eb)) (d6 _ eb);have K7:∀b o',au.s.heap.get? b=some o'->er.get? b=some o':=λb o' eb=>kp b o' (xA b o' eb);have Rf:SR c au.s.heap au.al aD z.fs:=N.f▸(show SR c au.s.heap au.al aD au.fs from R);have sz:(au.s.heap.push {cls:=.type "list",data:=.seq #[]}).objs.size=au.s.heap.objs.size+1:=C3 _ _;have nL:=JF (I:=au.s.heap.objs.size) Rf N.T (br _);have nC:=JF (I:=(au.s.heap.push {cls:=.type "list",data:=.seq #[]}).objs.size) Rf N.T (sz▸dI _);exact⟨K7,⟨0,kp _ _ (gj _ rfl)⟩,hn,⟨nL.1,nL.2.1,K6 B nL.2.2⟩,⟨nC.1,nC.2.1,K6 B nC.2.2⟩,nL.2.2,nC.2.2,sz▸GR _,Rf.keep K7,N.T.trans (.of_keep K7 au.al _),λw o e=>⟨gh (eW e),sz▸gh (se (eW e))⟩⟩
def ahD(c:aR)(g:G)(elt tgt it:aq)(ifs:List aq)(sc:cz)(pos:Pos)(eJ:List (Str×aj))(I:aj)(E:aa->SP)(use:Option (aa->Sem Unit))(Q:aa->SP)(L C:aj)(s:aF):Prop:=je c.M g.A (.compLoop (.ListComp elt [⟨tgt,it,ifs,0⟩] sc pos) 0 (.ref I) (.ref L) (wj sc eJ C g.ag)) (y9 c.M g.A E use Q (.ref L) C) s
def Fq(c:aR)(g:G)(elt tgt it:aq)(ifs:List aq)(sc:cz)(pos:Pos)(eJ:List (Str×aj))(E:aa->SP)(use:Option (aa->Sem Unit))(Q:aa->SP)(q:aa)(s:aF):Prop:=av c.M g.A (G6 []) (λacc jG=>av c.M g.A (Cp sc g.ag.globals eJ [] g.ag.qual none .none (some g.ag)) (λnt Ah=>je c.M g.A (.compStart (.ListComp elt [⟨tgt,it,ifs,0⟩] sc pos) 0 q acc {nt with scope:=relabel sc g.ag}) (y9 c.M g.A E use Q acc nt.locals) Ah) E jG) E s
theorem U_(hk:sc.kind=.function)(tI:∀x∈sc.names,x.2≠.cell)(B:∀b o,c.B.get? b=some o->z.s.heap.get? b=some o)(N:Nx z au)(R:Sr c au aD)(hI:∀s,(∀b o,au.s.heap.get? b=some o->s.heap.get? b=some o)->∀{P E':aa->SP},P (.ref I) s->av c.M g.A (wq (.ref I)) P E' s)(H:∀er tk L C,Bb c z au aD er L C->ahD c g elt tgt it ifs sc pos eJ I E use Q L C {au.s with heap:=er,toks:=tk}):Fq c g elt tgt it ifs sc pos eJ E use Q (.ref I) au.s:=by refine si ?_ (by size_fits);refine Nk tI (λy hy=>absurd hy eH) (λer ahE ahF=>?_) hk;have F:=ahC B N R ahE ahF;have L:=H er (au.s.toks+([]:List (Str×aa)).length) _ _ F;exact codeAny_compStart_list L (hI _ F.kp L)
theorem Bb.sr(F:Bb c z au aD er L C):SR c er (au.al++[L]) (aD++[.list []]) ((C,[])::z.fs):=by obtain⟨m,e⟩:=id F.pl;exact(F.R.adopt (mo:=.list []) F.nL.1 F.nL.2.1 F.nL.2.2 (λo eo=>(xB F.pl).tb eo) ⟨#[],m,e,.nil⟩).JK (v:=[]) (λq=>(cV.mp q).elim F.nC.1 λq=>F.ne (bM.mp q)) F.nC.2.1 F.nC.2.2 ⟨_,F.ns,λx v q=>aE q⟩
theorem ahG(H:bp c n none ev)(HT:fq c n none tv){src:eZ}(hk:sc.kind=.function)(tI:∀x∈sc.names,x.2≠.cell)(xZ:Ok c n none g Y z u)(N:Nx z au)(O:Ok c n none g Y au aD)(kN:dv au.al cl eJ)(J:gR c z.s.heap au.al z.fs W)(pT:dE c au.s.heap au.al src 0 I W)(hp:tH ev tv tgt ifs elt sc cl k src aD)(tJ:Ba c g.A E use Q z k):Fq c g elt tgt it ifs sc pos eJ E use Q (.ref I) au.s:=by
 obtain⟨fC,aA,f,h0,hJ⟩:=hp;refine U_ hk tI xZ.R.base N O.R (λs kp P E' h=>dE.self (s:=s) (pT.RD kp λ_ _ e=>e) h) λer tk L C F=>?_;have tF:Ok c n none ⟨g.A,wj sc eJ C g.ag,C,z.fs,g.outer⟩ ⟨sc,[],cl,none⟩ ⟨{au.s with heap:=er,toks:=tk},au.al++[L],(C,[])::z.fs⟩ (aD++[.list []]):=⟨rfl,(xZ.C.at λi a e=>kJ i a (N.T.at i a e)).under,RR (O.E.at kJ) (kN.mono kJ) hk _,F.sr⟩;have ahH:gR c z.s.heap (au.al++[L]) ((C,([]:bI))::z.fs) W:=λw m=>by obtain⟨o,eo⟩:=(dE.plain pT w m).there;have y:=F.lt w o eo;exact⟨λq=>(cV.mp q).elim (J w m).1 λq=>y.1 (bM.mp q),λq=>(bX.mp q).elim y.2 (J w m).2.1,(J w m).2.2⟩
 have X:CS c n none ⟨g.A,wj sc eJ C g.ag,C,z.fs,g.outer⟩ z src I W aD.length L 0 ⟨sc,[],cl,none⟩ ⟨{au.s with heap:=er,toks:=tk},au.al++[L],(C,[])::z.fs⟩ (aD++[.list []]):=⟨F.T.grow F.zL,N.m.trans ⟨rfl,rfl,rfl⟩,tF,pT.RD F.kp kJ,ahH,O.R.len▸lX⟩;exact ahA (it:=it) (pos:=pos) (g:=⟨g.A,wj sc eJ C g.ag,C,z.fs,g.outer⟩) (R:=y9 c.M g.A E use Q (.ref L) C) H HT fC aA hJ F.zC rfl xZ.R.base X h0 λxW v K4 T m tF ahI dX=>tJ _ _ _ xW K4 v tF.fs T m tF.R F.zC ahI dX
theorem ahJ(F:Bb c z au aD er L C)(N:Nx z au)(R:Sr c au aD){tk:Nat}(X:Sd c au.al z.fs I C L)(zI:z.s.heap.get? I=none)(lI:gn er I true)(bt:dG [I,C,L] er s'.heap)(ms:cW {au.s with heap:=er,toks:=tk} s')(ic:s'.heap.Ns C m)(j8:s'.heap.PlainList L ys)(K8:aQ s'.heap au.al vs ys.toList)(tJ:Ba c g.A E use Q z k)(hk:k (.ok (.ref aD.length)) (aD++[.list vs])):y9 c.M g.A E use Q (.ref L) C (.ok .next) s':=by have Rs:=(F.R.but (X.away lI (RT F.ns) (xB F.pl)) bt).1;obtain⟨ahK,ahL⟩:=id j8;have Ra:=Rs.adopt (mo:=.list vs) F.nL.1 F.nL.2.1 F.nL.2.2 (λo eo=>(xB j8).tb eo) ⟨ys,ahK,ahL,K8.mono (λ_ _ e _=>e) kJ⟩;have Rz:=Ra.JK (v:=[]) (λq=>(cV.mp q).elim F.nC.1 λq=>F.ne (bM.mp q)) F.nC.2.1 F.nC.2.2 ⟨_,ic,λx v q=>aE q⟩;exact tJ C L aD.length ⟨s',au.al++[L],(C,[])::z.fs⟩ _ [] rfl ((F.T.but (λw m=>(bX.mp m).elim (λq=>q▸zI) λm=>(bX.mp m).elim (λq=>q▸F.zC) λm=>bM.mp m▸F.zL) bt).grow F.zL) ((N.m.trans ⟨rfl,rfl,rfl⟩).trans ms) Rz F.zC (R.len▸lX) hk
theorem ahM(O':dh c)(SG:fg c S)(SA:lz c S K){i:Nat}{kv:List (Int×V)}(hk:sc.kind=.function)(tI:∀x∈sc.names,x.2≠.cell)(xZ:Ok c (n+1) none g Y z u)(N:Nx z au)(O:Ok c (n+1) none g Y au aD)(kN:dv au.al cl eJ)(J:gR c z.s.heap au.al z.fs W)(x:Fg c au.al au.s.heap i kv I W)(hp:K5 S tgt ifs elt sc cl k kv aD)(tJ:Ba c g.A E use Q z k):Fq c g elt tgt it ifs sc pos eJ E use Q (.ref I) au.s:=by obtain⟨w,a,kvs,ep,ea,pr,dd,hit⟩:=x;obtain⟨x,hx,hp⟩:=cK hp;obtain⟨⟨ahN,hlen,ahO⟩,hp⟩:=aZ hp;obtain⟨vs,z9,hp⟩:=cK hp;obtain⟨px,e⟩:=xJ hx;rw[e,mY.mp ahN];have oI:=J I (w▸.head _);obtain⟨oo,eo,ro⟩:=id hit;refine U_ hk tI xZ.R.base N O.R (λs kp P E' h=>wpAny_pyIter_keyiter (s:=s) ⟨oo,kp _ _ eo,ro⟩ h) λer tk L C F=>?_;have U':er.IsKeyIter I a 0 kvs.length ep:=⟨oo,F.kp _ _ eo,ro⟩;have X:Sd c au.al z.fs I C L:=⟨⟨oI.1,oI.2.1,K6 xZ.R.base oI.2.2⟩,F.nC,F.nL,(F.lt _ _ eo).2,(F.lt _ _ eo).1,F.ne⟩;exact adC (s:={au.s with heap:=er,toks:=tk}) (fs:=z.fs) O' SG SA O.U O.hh z9 hlen ahO (RR O.E kN hk _) F.R (pr.mono (λb o eb _=>F.kp b o eb) λ_ _ e=>e) (dd.keep F.kp) (ez ea) X U' F.ns F.pl λs' m ys bt ms ic j8 K8=>ahJ F N O.R X oI.2.2 (RU U') bt ms ic j8 K8 tJ hp
def Ft(S:cJ)(hd:Option Nat)(ev:EZ)(tv:TZ)(elt tgt it:aq)(ifs:List aq)(sc:cz)(Y:Loc)(u:List MO)(k:KT V):Prop:=gd (hd=none/\IS sc it=true) (aH (pP Y.cells sc.names []) λcl=>fW S ev it Y u (bh k λsrc u=>ahB S ev tv tgt ifs elt sc cl k src u))
theorem Va(O':dh c)(SG:fg c S)(SA:lz c S K)(H:bp c (n+1) none ev)(HT:fq c (n+1) none tv){elt tgt it:aq}{ifs:List aq}{sc:cz}{pos pos':Pos}(h:Ft S hd ev tv elt tgt it ifs sc Y u k)(O:Ok c (n+1) none g Y z u){E:aa->SP}{use:Option (aa->Sem Unit)}{Q:aa->SP}(hE:∀q s'(k':KT Sk),(∀i u,k' (.de i) u->k (.de i) u)->bA c z k' q s'->E q s')(tJ:Ba c g.A E use Q z k):av c.M g.A (comprehension (.ListComp elt [⟨tgt,it,ifs,0⟩] sc pos) sc g.ag pos' (G6 []) false (eval it g.ag) use) Q E z.s:=by obtain⟨⟨-,ahP⟩,h⟩:=aZ h;obtain⟨hk,tI,ahQ,A_⟩:=adE ahP;obtain⟨cl,rj,h⟩:=cK h;obtain⟨eJ,kN,tx⟩:=RQ rj O.E;refine wpAny_comprehension_free rfl (λx=>A_ x g.ag) tx hk ahQ (b_ (U0 O' SG H h O) (λx cq y=>b_ y (λq dD y=>?_) λq s'=>hE q s' _ λi u y=>y) λq s'=>hE q s' _ λi u y=>y);obtain⟨src,aD,au,N,gP,r,hp⟩:=y;obtain⟨I,W,J,x⟩:=r;have gen:∀{src:eZ}(_:dE c au.s.heap au.al src 0 I W)(_:tH ev tv tgt ifs elt sc cl k src aD),Fq c g elt tgt it ifs sc pos eJ E use Q (.ref I) au.s:=λpT hp=>ahG H HT hk tI O N (O.nx N gP) (kN.mono N.T.at) J pT hp tJ;obtain⟨src,kv⟩:=src;cases src with|keys i=>exact ahM O' SG SA hk tI O N (O.nx N gP) (kN.mono N.T.at) J x hp tJ|list i=>exact gen (src:=.list i) x hp|tup l=>exact gen (src:=.tup l) x hp|range m=>exact gen (src:=.range m) x hp|enum i=>exact gen (src:=.enum i) x hp|vals i=>exact gen (src:=.vals i) x hp
theorem Te.comp(O':dh c)(SG:fg c S)(SA:lz c S K)(H:bp c (n+1) hd ev)(HT:fq c (n+1) hd tv){elt tgt it:aq}{ifs:List aq}{sc:cz}{pos:Pos}(h:Ft S hd ev tv elt tgt it ifs sc Y u k):Te c (n+1) hd Y u (.ListComp elt [⟨tgt,it,ifs,0⟩] sc pos) k:=by have e:=(aZ h).1.1;subst e;intro g z O;show av c.M g.A (eval (.ListComp elt [⟨tgt,it,ifs,0⟩] sc pos) g.ag) _ _ z.s;rw[eval_ListComp];refine Va O' SG SA H HT h O (λ_ _ _ hk y=>bA.casesOn y λi a d aM z' N' R ea ed h=>.mk i a d aM z' N' R ea ed (hk i aM h)) λC D i z' aM v hf T m R hC hD hk=>?_;have R':SR c z'.s.heap z'.al aM ((C,v)::z.fs):=hf▸(show SR c z'.s.heap z'.al aM z'.fs from R);obtain⟨mm,hm,_⟩:=R'.fr _ (.head _);exact⟨mm,hm,λh' hs=>.mk (.ref i) aM ⟨{z'.s with heap:=h'},z'.al,z.fs⟩ ⟨T.but (W:=[C]) (λw m=>bM.mp m▸hC) (dG.one (.head _) hs),m.trans ⟨rfl,rfl,rfl⟩,rfl⟩ (R'.R3 hs).1 (.ref hD) hk⟩
theorem a8.perm(T:a8 h al (a::b::fa) h' aT):a8 h al (b::a::fa) h' aT:=⟨T.live,λx o e h1 h2=>T.keep x o e h1 λq=>h2 ((DA b a fa).mem_iff.mp q),T.ext⟩
theorem ahS(O:Ok c n hd g Y z u):Ba c g.A (ES c n hd g m z k) (some λv=>CJ v ((sq [.Name x px] g.ag).map (·.2))) (λ_=>PS c n hd g m z k .next) z (bx Y k λv u=>aH (fN Y u x v) λp=>k (.ok .next) p.1 p.2):=λC D i z' aM v hf T mm R hC hD hk=>by have R':SR c z'.s.heap z'.al aM ((C,v)::(g.L,Y.vars)::g.rest):=O.fs▸hf▸(show SR c z'.s.heap z'.al aM z'.fs from R);obtain⟨p,e,hk⟩:=cK hk;show av c.M g.A (Ny (.Name x px) g.ag (.ref D)) _ _ z'.s;refine assign_Name (xq e (O.E.at T.at) R'.swap (.ref hD) λdD d7 j6 kM Fe=>?_);obtain⟨ahT,hm,_⟩:=d7.swap.fr _ (.head _);refine⟨ahT,hm,λh' hs=>?_⟩;have ahU:a8 z.s.heap z.al (z.fs.map (·.1)) dD.heap z'.al:=a8.side (C:=C) (O.fs▸a8.perm j6) hC T;have Jd:=ahU.but (W:=[C]) (λw m=>bM.mp m▸hC) (dG.one (.head _) hs);exact .mk .next p.1 p.2 ⟨{dD with heap:=h'},z'.al,(g.L,p.1.vars)::g.rest⟩ ⟨Jd.st,(mm.trans kM).trans ⟨rfl,rfl,rfl⟩,O.fs▸rfl⟩ ⟨rfl,((O.fs▸O.C).at T.at).vars,Fe,(d7.swap.R3 hs).1⟩ rfl hk
theorem TX.comp(O':dh c)(SG:fg c S)(SA:lz c S K)(H:bp c (n+1) hd ev)(HT:fq c (n+1) hd tv)(h:Ft S hd ev tv elt tgt it ifs sc Y u (bx Y k λv u=>aH (fN Y u x v) λp=>k (.ok .next) p.1 p.2)):Ts c (n+1) hd m Y u (.Assign [.Name x px] (.ListComp elt [⟨tgt,it,ifs,0⟩] sc lp) pos) k:=by
 have e:=(aZ h).1.1;subst e;intro g z B O;show av c.M g.A (exec (.Assign [.Name x px] (.ListComp elt [⟨tgt,it,ifs,0⟩] sc lp) pos) g.ag) _ _ z.s;rw[NM];refine aw (kC ?_);rw[show swapsWithSole [.Name x px] (.ListComp elt [⟨tgt,it,ifs,0⟩] sc lp) pos.line g.ag=pure (g.ag.blockKind==.function&&g.ag.kindOf x==some .local&&px.line==lp.line&&!(sc.names.any λ(n,k)=>n==x&&(k==.local||k==.cell)))from rfl];refine aw (aP (lb (λ_=>?_) λ_=>?_));.rw[arm_evalThenUse_ListComp];exact aw (aw (b_ (Va (Q:=λ_=>PS c (n+1) none g m z k .next) (use:=some λv=>CJ v ((sq [.Name x px] g.ag).map (·.2))) O' SG SA H HT h O (λ_ _ _ hk y=>bA.casesOn y λi a d aM z' N' R ea ed h=>ES.mk i a d Y aM z' N'.nm (O.nx N' R) ea ed (hk i aM h)) (ahS O)) (λ_ _ y=>aP (aP y)) λ_ _ y=>y))
 .refine aw (nE (.refl z) O (Te.comp O' SG SA H HT h) λv aD au q _ N aI kv az=>?_);rw[show yW [.Name x px] (.ListComp elt [⟨tgt,it,ifs,0⟩] sc lp) g.ag=pure none from rfl];refine aw (aP ?_);show av c.M g.A (do CJ q [Ny (.Name x px) g.ag];pure Iu) _ _ au.s;exact aw (RA (assign_Name (E7 (m:=m) az aI kv λp a9 bN bJ h=>aP (.mk .next p.1 p.2 a9 (N.trans bN) bJ rfl h))))
end
def cnt(src:eZ)(u:List MO):Nat:=eZ.casesOn (motive:=λ_=>Nat) src (λi=>aU u[i]? (λm=>m.lu wB 0) 0) wB zt (λi=>aU u[i]? (λm=>m.lu wB 0) 0) (λ_=>0) λ_=>0
def lC(ev:EZ)(tv:TZ)(tgt:aq)(ifs:List aq)(elt:aq)(sc:cz)(cl:List (Str×Nat))(src:eZ)(acc:Nat)(k:KT V)(f:Nat):Nat->List MO->Prop:=GX (motive:=λ_=>Nat->List MO->Prop) (λ_ _=>False) (λ_ ih i u=>rC src u i (k (.ok (.ref acc)) u) λv=>aH (cf tgt v ⟨sc,[],cl,none⟩ u) λp=>i5 ev tv ifs elt acc p.1 p.2 (ih (i+1))) f
def x4(ev:EZ)(tv:TZ)(tgt:aq)(ifs:List aq)(elt:aq)(sc:cz)(cl:List (Str×Nat))(k:KT V)(s:eZ)(u:List MO):Prop:=gd (nh tgt s=true) (lC ev tv tgt ifs elt sc cl s u.length k (cnt s u+1) 0 (u++[.list []]))
def ahV(S:cJ)(ev:EZ)(tv:TZ)(tgt:aq)(ifs:List aq)(elt:aq)(sc:cz)(cl:List (Str×Nat))(k:KT V)(src:Sk)(u:List MO):Prop:=eZ.casesOn (motive:=λ_=>Prop) src.1 (λi=>x4 ev tv tgt ifs elt sc cl k (.list i) u) (λl=>x4 ev tv tgt ifs elt sc cl k (.tup l) u) (λn=>x4 ev tv tgt ifs elt sc cl k (.range n) u) (λi=>x4 ev tv tgt ifs elt sc cl k (.enum i) u) (λ_=>K5 S tgt ifs elt sc cl k src.2 u) λi=>x4 ev tv tgt ifs elt sc cl k (.vals i) u
def Fu(S:cJ)(hd:Option Nat)(ev:EZ)(tv:TZ)(elt tgt it:aq)(ifs:List aq)(sc:cz)(Y:Loc)(u:List MO)(k:KT V):Prop:=gd (hd=none/\IS sc it=true) (aH (pP Y.cells sc.names []) λcl=>fW S ev it Y u (bh k λsrc u=>ahV S ev tv tgt ifs elt sc cl k src u))
def Vb(S:cJ)(hd:Option Nat)(ev:EZ)(cc:CZ)(f:aq)(as:List aq)(p:Pos)(Y:Loc)(u:List MO)(k:KT V):Prop:=aU (specOf f as) (λq=>UN S hd ev q.1 q.2.1 q.2.2 Y u k) (aU (DY f) (λq=>gd (as.any dk=false/\oH q.1=false/\(q.2.2.endLine==p.line)=true/\as.length<29) (ev q.1 Y u (bh k λv u=>Ko S ev cc q.2.1 as v Y u k))) (gd (as.any dk=false) (ev f Y u (bh k λfv u=>oR ev as Y u (bh k λvs u=>cc fv vs u k)))))
def Vc(S:cJ)(ev:EZ)(o i:aq)(Y:Loc)(u:List MO)(k:KT V):Prop:=aU (Qt i) (λq=>ev o Y u (bh k λv u=>AK ev q.1 Y u (bh k λa u=>AK ev q.2 Y u (bh k λb u=>Kj S v a b u k)))) (ev o Y u (bh k λv u=>ev i Y u (bh k λq u=>aH (kK v q u) λx=>k (.ok x) u)))
def K9(S:cJ)(hd:Option Nat)(E:eE)(cc:CZ)(ex:aq)(Y:Loc)(u:List MO)(k:KT V):Prop:=DD (motive_1:=λ_=>Prop) ex (λop vs _=>TM E.e op vs Y u k) (λ_ _ _=>False) (λl op r _=>E.e l Y u (bh k λa u=>E.e r Y u (bh k λb u=>Kg op a b u k))) (λop x _=>E.e x Y u (bh k λa u=>Kh op a u k)) (λps b sc pos=>gT (qY Y u "<lambda>" pos ps (.expr b) sc) k) (λt b o _=>E.t t Y u (bh k λq u=>if q then E.e b Y u k else E.e o Y u k)) (λks vs _=>UM E.e ks vs Y u k) (λ_ _ _=>False) (λelt gs sc _=>aH (DZ gs) λq=>Fu S hd E.e E.t elt q.1 q.2.1 q.2.2 sc Y u k) (λ_ _ _ _=>False) (λ_ _ _ _ _=>False) (λ_ _ _ _=>False) (λ_ _=>False) (λ_ _=>False) (λ_ _=>False) (λl ops rs _=>gd (wi ops rs=false) (E.e l Y u (bh k λa u=>AI E.e ops rs a Y u (bh k λb u=>k (.ok (.bool b)) u)))) (λf as ks p=>gd (ks.isEmpty=true) (Vb S hd E.e cc f as p Y u k)) (λ_ _ _ _=>False) (λ_ _=>False) (λx _ _=>aH (Qs x) λv=>k (.ok v) u) (λo n _=>gd (oH o=false) (E.e o Y u (bh k λv u=>aH (DU S v n u) λx=>k (.ok x) u))) (λo i _=>Vc S E.e o i Y u k) (λ_ _=>False) (λx _=>gd (j4 x=true) (aH (eI S Y u x) λv=>k (.ok v) u)) (λes _=>oR E.e es Y u (bh k λvs u=>gd (vs.length<=bk) (k (.ok (.ref u.length)) (u++[.list vs])))) (λes _ _=>oR E.e es Y u (bh k λvs u=>gd (vs.length<=bk) (k (.ok (.tup vs)) u))) (λ_ _ _ _=>False)
def Vd(k:KT Bool):KT V:=bh k λv u=>pZ v λb=>k (.ok b) u
noncomputable def Ve(op:CP):Bool:=qJ op.ctorIdx 1
def Fv(E:eE)(ex:aq)(Y:Loc)(u:List MO)(k:KT Bool):Prop:=E.e ex Y u (Vd k)
def K_(E:eE)(ex:aq)(Y:Loc)(u:List MO)(k:KT Bool):Prop:=DD (motive_1:=λ_=>Prop) ex (λop vs _=>TN E.t op vs Y u k) (λ_ _ _=>False) (λ_ _ _ _=>False) (λop x _=>gd (Ve op=true) (E.t x Y u (bh k λb u=>k (.ok (!b)) u))) (λ_ _ _ _=>False) (λ_ _ _ _=>False) (λ_ _ _=>False) (λ_ _ _=>False) (λ_ _ _ _=>False) (λ_ _ _ _=>False) (λ_ _ _ _ _=>False) (λ_ _ _ _=>False) (λ_ _=>False) (λ_ _=>False) (λ_ _=>False) (λl ops rs _=>gd (wi ops rs=false) (E.e l Y u (bh k λa u=>AI E.e ops rs a Y u k))) (λ_ _ _ _=>Fv E ex Y u k) (λ_ _ _ _=>False) (λ_ _=>False) (λ_ _ _=>False) (λ_ _ _=>Fv E ex Y u k) (λ_ _ _=>Fv E ex Y u k) (λ_ _=>False) (λ_ _=>Fv E ex Y u k) (λ_ _=>False) (λ_ _ _=>False) (λ_ _ _ _=>False)
def La(E:eE)(t:aq)(b:List bj)(k:KX)(f:Nat):Loc->List MO->Prop:=GX (motive:=λ_=>Loc->List MO->Prop) (λ_ _=>False) (λ_ ih Y u=>E.t t Y u (bx Y k λq u=>if q then E.x b Y u (iJ k ih)else k (.ok .next) Y u)) f
def Vf(S:cJ)(hd:Option Nat)(E:eE)(t e:aq)(Y:Loc)(u:List MO)(k:KX):Prop:=aU (IY e) (λq=>aH (uN t) λx=>Fu S hd E.e E.t q.1 q.2.1 q.2.2.1 q.2.2.2.1 q.2.2.2.2 Y u (bx Y k λv u=>aH (fN Y u x v) λp=>k (.ok .next) p.1 p.2)) (gd (z0 e=false/\IZ hd t e=true) (E.e e Y u (bx Y k λv u=>Kv S E.e t v Y u k)))
def Lb(S:cJ)(Eh:Nat->eE)(E:eE)(b:List bj)(x:Str)(n:Option Str)(h:List bj)(Y:Loc)(u:List MO)(k:KX):Prop:=aU n (λn=>gd (Y.sc.names.lookup n=some .local) (E.x b Y u (u_ k λi Y u=>gd (xh S Y x=true) (aH (fN Y u n (.ref i)) λp=>(Eh i).x h p.1 p.2 (Fb k))))) (E.x b Y u (u_ k λi Y u=>gd (xh S Y x=true) ((Eh i).x h Y u k)))
def Lc(S:cJ)(hd:Option Nat)(Eh:Nat->eE)(E:eE)(st:bj)(Y:Loc)(u:List MO)(k:KX):Prop:=PG (motive_2:=λ_=>Prop) st (λname ps b ds rt tp sc cd bd pos=>gd (ds.isEmpty/\rt.isNone/\tp.isEmpty/\cd.isNone/\name=bd/\Y.sc.names.lookup name≠some .globalExplicit) (gT (qY Y u name pos ps (.stmts b) sc) (bx Y k λv u=>aH (fN Y u name v) λp=>k (.ok .next) p.1 p.2))) (λ_ _ _ _ _ _ _ _ _ _=>False) (λ_ _ _ _ _ _ _ _ _ _ _=>False) (λv _=>aH v λe=>E.e e Y u (bx Y k λv u=>k (.ok (.ret v)) Y u)) (λ_ _=>False) (λts e _=>aH (Qu ts) λt=>Vf S hd E t e Y u k) (λ_ _ _ _ _ _ _=>False) (λt op e _=>aH (uN t) λx=>gd (j4 x=true) (aH (eI S Y u x) λa=>E.e e Y u (bx Y k λb u=>KZ op a b u (bx Y k λr u=>aH (fN Y u x r) λp=>k (.ok .next) p.1 p.2)))) (λ_ _ _ _ _=>False) (λ_ _ _ _ _=>False) (λ_ _ _ _ _=>False) (λt b o _=>gd (o.isEmpty=true) (La E t b k 2000 Y u)) (λt b o _=>E.t t Y u (bx Y k λq u=>if q then E.x b Y u k else E.x o Y u k)) (λ_ _ _=>False) (λ_ _ _=>False) (λ_ _ _=>False) (λe x _=>aH e λe=>gd (x.isNone=true) (E.e e Y u (bx Y k λv u=>Uz hd v u λi=>k (.de i) Y u))) (λb hs o f _=>aH (D1 hs) λq=>gd (o.isEmpty/\f.isEmpty/\hd=none/\q.2.2.isEmpty=false) (Lb S Eh E b q.1 q.2.1 q.2.2 Y u k)) (λ_ _ _ _ _=>False) (λ_ _ _=>False) (λ_ _=>False) (λ_ _ _ _=>False) (λ_ _=>False) (λ_ _=>False) (λe _=>gd (z0 e=false) (E.e e Y u (bx Y k λ_ u=>k (.ok .next) Y u))) (λ_=>False) (λ_=>False) (λ_=>False)
def Vg(S:cJ)(hd:Option Nat)(Eh:Nat->eE)(E:eE)(b:List bj):Loc->List MO->KX->Prop:=qN (motive:=λ_=>Loc->List MO->KX->Prop) (λY u k=>k (.ok .next) Y u) (λst _ ih Y u k=>Lc S hd Eh E st Y u (rA k λfl Y u=>xU fl (ih Y u k) λv=>k (.ok (.ret v)) Y u)) b
noncomputable def x5(c:aR)(S:cJ)(n:Nat):Option Nat->eE:=GX (motive:=λ_=>Option Nat->eE) (λ_=>⟨λ_ _ _ _=>False,λ_ _ _ _=>False,λ_ _ _ _=>False,λ_ _ _ _=>False⟩) (λn ih hd=>⟨K9 S hd (ih hd) (cZ (ih hd).c (TC c (2*n+10) hd)),K_ (ih hd),Vg S hd (λi=>ih (some i)) (ih hd),KJ S hd (ih hd).x (ih hd).e⟩) n
section
variable{c:aR}{K:d0}
theorem bG.mono(y:bG c z Rel k q s')(h:∀r u,k r u->k' r u):bG c z Rel k' q s':=bG.casesOn y λv u z' N R r x=>.mk v u z' N R r (h _ _ x)
theorem bA.mono{q:aa}{s':aF}(y:bA c z k q s')(h:∀r u,k r u->k' r u):bA c z k' q s':=bA.casesOn y λi a d u z' N R ea ed x=>.mk i a d u z' N R ea ed (h _ _ x)
theorem Tr.mono(y:Tr c n hd Y u Rel t k)(h:∀r u,k r u->k' r u):Tr c n hd Y u Rel t k':=λg z O=>b_ (y g z O) (λ_ _ y=>y.mono h) λ_ _ y=>y.mono h
theorem TX.mono(y:TX c n hd m Y u t k)(h:∀r Y u,k r Y u->k' r Y u):TX c n hd m Y u t k':=λg z B O=>b_ (y g z B O) (λ_ _ y=>PS.casesOn y λfl Y u z' N O r x=>.mk fl Y u z' N O r (h _ _ _ x)) λ_ _ y=>ES.casesOn y λi a d Y u z' N O ea ed x=>.mk i a d Y u z' N O ea ed (h _ _ _ x)
abbrev ke(c:aR)(n:Nat)(hd:Option Nat):EZ:=λe Y u k=>Te c n hd Y u e k
abbrev nG(c:aR)(n:Nat)(hd:Option Nat):TZ:=λe Y u k=>Tt c n hd Y u e k
theorem ke.sn:bp c n hd (ke c n hd):=λ_ _ _ _ h=>h
theorem nG.sn:fq c n hd (nG c n hd):=λ_ _ _ _ h=>h
theorem Bc{k k':KT γ}{f f':α->List MO->Prop}(h:∀i u,k (.de i) u->k' (.de i) u)(hf:∀a u,f a u->f' a u):∀r u,bh k f r u->bh k' f' r u:=λr u y=>by cases r with|ok a=>exact hf a u y|de i=>exact h i u y
theorem ahW{f f':α->List MO->Prop}(hf:∀a u,f a u->f' a u):∀r u,bh k f r u->bh k f' r u:=Bc (λ_ _ h=>h) hf
theorem Vh(hf:∀a u,f a u->f' a u):∀r u,nF f r u->nF f' r u:=λr u y=>by cases r with|ok a=>exact hf a u y|de i=>exact y
theorem Fw{f g:α->Prop}(h:aU x f d)(k:∀a,f a->g a)(kd:d->e):aU x g e:=HY (motive:=λx=>aU x f d->aU x g e) x kd k h
theorem rD{f g:α->Prop}(h:aH x f)(k:∀a,f a->g a):aH x g:=Fw h k id
theorem vf[Decidable p](h:gd p q)(k:q->r):gd p r:=bz (aZ h).1 (k (aZ h).2)
theorem Bd{p a b a' b':Prop}[Decidable p](h:if p then a else b)(f:a->a')(g:b->b'):if p then a' else b':=by
 by_cases q:p;.exact(if_pos q).mpr (f ((if_pos q).mp h))
 .exact(if_neg q).mpr (g ((if_neg q).mp h))
theorem ahX{f g:Int->Prop}(h:ij v f)(k:∀a,f a->g a):ij v g:=V.casesOn (motive_1:=λv=>ij v f->ij v g) v id (λ_=>id) k (λ_=>id) (λ_=>id) (λ_=>id) (λ_=>id) h
theorem Vi{f g:Nat->Prop}(h:i4 v f)(k:∀a,f a->g a):i4 v g:=V.casesOn (motive_1:=λv=>i4 v f->i4 v g) v id (λ_=>id) (λ_=>id) (λ_=>id) (λ_=>id) k (λ_=>id) h
theorem Vj{f g:List V->Prop}(h:dn u i f)(k:∀l,f l->g l):dn u i g:=rD h λm h=>(Kc h).elim λl y=>y.1▸k l y.2
theorem ahY{f g:List (Int×V)->Prop}(h:Ff u i f)(k:∀l,f l->g l):Ff u i g:=rD h λm h=>(UZ h).elim λl y=>y.1▸k l y.2
theorem ahZ(H:bp c n hd ev)(HT:fq c n hd tv){ifs:List aq}{elt:aq}{acc:Nat}{f f':List MO->Prop}(h:i5 ev tv ifs elt acc Y u f)(hf:∀u,f u->f' u):i5 (ke c n hd) (nG c n hd) ifs elt acc Y u f':=by have core:∀(b:Bool)u,(if b=true then ev elt Y u (nF λx u=>dn u acc λl=>gd (l.length<1000000) (f (u.set acc (.list (l++[x])))))else f u)->if b=true then ke c n hd elt Y u (nF λx u=>dn u acc λl=>gd (l.length<1000000) (f' (u.set acc (.list (l++[x])))))else f' u:=λb u h=>Bd h (λh=>Tr.mono (H _ _ _ _ h) (Vh λx u y=>Vj y λl y=>vf y (hf _))) (hf u);cases ifs with|nil=>exact core true u h|cons t r=>exact vf h λh=>Tr.mono (HT _ _ _ _ h) (Vh core)
theorem ah0(h:rB v u k)(hk:∀r u,k r u->k' r u):rB v u k':=V.casesOn (motive_1:=λv=>rB v u k->rB v u k') v id (λ_=>id) (λ_=>id) (λ_=>id) (λ_=>hk _ _) (λ_ h=>rD h λm h=>by cases m with|list l=>exact hk _ _ h|bg kv=>exact hk _ _ h|_=>exact h) (λ_=>id) h
theorem Vk(H:bp c n hd ev){it:aq}{k k':KT Sk}(hk:∀r u,k r u->k' r u)(h:AV ev it Y u k):AV (ke c n hd) it Y u k':=Tr.mono (H _ _ _ _ h) (Bc (λi u=>hk _ _) λv u y=>ah0 y hk)
theorem ah1(H:bp c n hd ev){it:aq}{k k':KT Sk}(h:fW S ev it Y u k)(hk:∀r u,k r u->k' r u):fW S (ke c n hd) it Y u k':=have he:∀i u,k (.de i) u->k' (.de i) u:=λi u=>hk _ _;Fw h (λq h=>Bd h (λh=>vf h λh=>Tr.mono (H _ _ _ _ h) (Bc he λv u y=>ahX y λn y=>vf y (hk _ _))) λh=>Bd h (λh=>vf h λh=>Tr.mono (H _ _ _ _ h) (Bc he λv u y=>Vi y λi y=>Vj y λ_=>hk _ _)) (Vk H hk)) λh=>Fw h (λo h=>Tr.mono (H _ _ _ _ h) (Bc he λv u y=>Vi y λi y=>ahY y λl y=>vf y (hk _ _))) (Vk H hk)
theorem ah2(H:bp c n hd ev)(HT:fq c n hd tv){tgt elt:aq}{ifs:List aq}{sc:cz}{cl:List (Str×Nat)}{src:eZ}{k:KT V}{acc f i:Nat}{u:List MO}(h:lC ev tv tgt ifs elt sc cl src acc k f i u):rC src u i (k (.ok (.ref acc)) u) λv=>aH (cf tgt v ⟨sc,[],cl,none⟩ u) λp=>i5 (ke c n hd) (nG c n hd) ifs elt acc p.1 p.2 λu=>∃f',f'<f/\lC ev tv tgt ifs elt sc cl src acc k f' (i+1) u:=by cases f with|zero=>exact h.elim|succ f=>exact rD h λo h=>Fw h (λv h=>rD h λp h=>ahZ H HT h λu y=>⟨f,eR f,y⟩) id
theorem Be(H:bp c n hd ev)(HT:fq c n hd tv){tgt elt:aq}{ifs:List aq}{sc:cz}{cl:List (Str×Nat)}{s:eZ}{k:KT V}{u:List MO}(y:x4 ev tv tgt ifs elt sc cl k s u):tH (ke c n hd) (nG c n hd) tgt ifs elt sc cl k s u:=⟨(aZ y).1,λf i aM=>lC ev tv tgt ifs elt sc cl _ u.length k f i aM,_,(aZ y).2,λf i aM y=>ah2 H HT y⟩
theorem Vl(H:bp c n hd ev)(HT:fq c n hd tv){elt tgt it:aq}{ifs:List aq}{sc:cz}{k:KT V}(h:Fu S hd ev tv elt tgt it ifs sc Y u k):Ft S hd (ke c n hd) (nG c n hd) elt tgt it ifs sc Y u k:=vf h λh=>rD h λcl h=>ah1 H h (ahW λsrc u y=>by obtain⟨src,kv⟩:=src;cases src with|keys i=>exact y|list i=>exact Be H HT y|tup l=>exact Be H HT y|range i=>exact Be H HT y|enum i=>exact Be H HT y|vals i=>exact Be H HT y)
theorem ah3(h:aU x f d):(∃a,x=some a/\f a)\/(x=none/\d):=by cases x with|none=>exact .inr ⟨rfl,h⟩|some a=>exact .inl ⟨a,rfl,h⟩
theorem ah4(Z:kO c S K){ev:EZ}{cc:CZ}(H:bp c (n+1) hd ev)(HC:ry c (n+1) hd cc){f:aq}{as:List aq}{p:Pos}{k:KT V}(h:Vb S hd ev cc f as p Y u k):Te c (n+1) hd Y u (.Call f as [] p) k:=by
 rcases xV h with⟨q,hq,h⟩|h;.obtain⟨fp,gp,p',e1,e2⟩:=aet hq;rw[e1,e2];exact Te.spec Z.SO Z.G H h
 .rcases ah3 h with⟨q,hq,h⟩|⟨hq,h⟩;.obtain⟨⟨h1,h2,h3,h4⟩,h⟩:=aZ h;rw[SY hq];exact Te.agp Z.O Z.SM Z.KI H HC h1 h2 h3 h4 h
  .exact Te.call H HC hq (aZ h).1 (aZ h).2
theorem ah5(Z:kO c S K){ev:EZ}{E:eE}(e:E.e=ev)(H:bp c (n+1) hd E.e){o i:aq}{p:Pos}{k:KT V}(h:Vc S E.e o i Y u k):Te c (n+1) hd Y u (.Subscript o i p) k:=by
 rcases xV h with⟨q,hq,h⟩|h;.obtain⟨p',e⟩:=aes hq;rw[e];exact Te.slice Z.SL H h
 .exact Te.sub Z.O H h
theorem ah6(Z:kO c S K){E:eE}(H:bp c (n+1) hd E.e)(HT:fq c (n+1) hd E.t){elt:aq}{gs:List Cq}{sc:cz}{p:Pos}{k:KT V}(h:aH (DZ gs) λq=>Fu S hd E.e E.t elt q.1 q.2.1 q.2.2 sc Y u k):Te c (n+1) hd Y u (.ListComp elt gs sc p) k:=by obtain⟨q,e,h⟩:=cK h;rw[S3 e];exact Te.comp Z.O Z.G Z.SA ke.sn nG.sn (Vl H HT h)
theorem ah7(Z:kO c S K){E:eE}{cc:CZ}(H:bp c (n+1) hd E.e)(HT:fq c (n+1) hd E.t)(HC:ry c (n+1) hd cc):bp c (n+1) hd (K9 S hd E cc):=λex Y u k=>DD (motive_1:=λex=>K9 S hd E cc ex Y u k->Te c (n+1) hd Y u ex k) ex (λop vs p h=>TQ H op p vs u k h) (λ_ _ _=>aW) (λl op r p h=>Te.bin H h) (λop x p h=>Te.un H h) (λps b sc p h=>Te.lam Z.TB h) (λt b o p h=>Te.af2 H HT h) (λks vs p h=>Te.dict H h) (λ_ _ _=>aW) (λelt gs sc p h=>ah6 Z H HT h) (λ_ _ _ _=>aW) (λ_ _ _ _ _=>aW) (λ_ _ _ _=>aW) (λ_ _=>aW) (λ_ _=>aW) (λ_ _=>aW) (λl ops rs p h=>Te.cmp Z.O H (aZ h).1 (aZ h).2) (λf as ks p h=>xT (P:=λks=>Te c (n+1) hd Y u (.Call f as ks p) k) h λh=>ah4 Z H HC h) (λ_ _ _ _=>aW) (λ_ _=>aW) (λx aG p h=>(cK h).elim λv y=>Te.const y.1 y.2) (λo nm p h=>Te.attr Z.SA H (aZ h).1 (aZ h).2) (λo i p h=>ah5 Z rfl H h) (λ_ _=>aW) (λx p h=>Te.name Z.G (aZ h).1 (aZ h).2) (λes p h=>Te.list H h) (λes aG p h=>Te.tup H h) (λ_ _ _ _=>aW)
theorem Fx(hp:∀(ag:Env)(w:Sem aa),PySem.isTrue e ag w=(do let v<-w;standAt e.pos;holding [v] (truthy v)))(h:Te c n hd Y u e (Vd k)):Tt c n hd Y u e k:=λg z O=>isTrue_plain (seq (.refl z) O h λv aD au q _ N aI kv az=>EU az kv λb az=>pD (aI.post N rfl az)) (hp _ _)
theorem ah8(Z:kO c S K){E:eE}(H:bp c (n+1) hd E.e){l:aq}{ops:List sJ}{rs:List aq}{p:Pos}{k:KT Bool}(e:wi ops rs=false)(h:E.e l Y u (bh k λa u=>AI E.e ops rs a Y u k)):Tt c (n+1) hd Y u (.Compare l ops rs p) k:=λg z O=>by show av c.M g.A (za (.Compare l ops rs p) g.ag (eval (.Compare l ops rs p) g.ag)) _ _ z.s;rw[arm_isTrue_Compare,O4 _ _ _ e];exact aw (seq (.refl z) O (H l Y u _ h) λa aD au q _ bE aI ka az=>(TR Z.O H p ops rs a aD k az g au z q bE aI ka).2)
theorem ah9{E:eE}(HT:fq c n hd E.t){op:CP}{x:aq}{p:Pos}{k:KT Bool}(e:Ve op=true)(h:E.t x Y u (bh k λb u=>k (.ok (!b)) u)):Tt c n hd Y u (.UnaryOp op x p) k:=by cases op with|Not=>exactλg z O=>isTrue_not (seq (.refl z) O (HT x Y u _ h) λa aD au q _ bE aI ka az=>(show a=q from ka)▸aI.post bE rfl az)|_=>exact bZ e
theorem ah_(Z:kO c S K){E:eE}(H:bp c (n+1) hd E.e)(HT:fq c (n+1) hd E.t):fq c (n+1) hd (K_ E):=λex Y u k=>DD (motive_1:=λex=>K_ E ex Y u k->Tt c (n+1) hd Y u ex k) ex (λop vs p h=>afQ HT op p _ vs u k h) (λ_ _ _=>aW) (λ_ _ _ _=>aW) (λop x p h=>ah9 HT (aZ h).1 (aZ h).2) (λ_ _ _ _=>aW) (λ_ _ _ _=>aW) (λ_ _ _=>aW) (λ_ _ _=>aW) (λ_ _ _ _=>aW) (λ_ _ _ _=>aW) (λ_ _ _ _ _=>aW) (λ_ _ _ _=>aW) (λ_ _=>aW) (λ_ _=>aW) (λ_ _=>aW) (λl ops rs p h=>ah8 Z H (aZ h).1 (aZ h).2) (λ_ _ _ _ h=>Fx (λ_ _=>rfl) (H _ _ _ _ h)) (λ_ _ _ _=>aW) (λ_ _=>aW) (λ_ _ _=>aW) (λ_ _ _ h=>Fx (λ_ _=>rfl) (H _ _ _ _ h)) (λ_ _ _ h=>Fx (λ_ _=>rfl) (H _ _ _ _ h)) (λ_ _=>aW) (λ_ _ h=>Fx (λ_ _=>rfl) (H _ _ _ _ h)) (λ_ _=>aW) (λ_ _ _=>aW) (λ_ _ _ _=>aW)
theorem Vm{f f':α->List MO->Prop}(hf:∀a u,f a u->f' a u):∀r u,bx Y k f r u->bx Y k f' r u:=λr u y=>by cases r with|ok a=>exact hf a u y|de i=>exact y
theorem Ld(h:∀Y u,aA Y u->J' Y u):∀r Y u,iJ k aA r Y u->iJ k J' r Y u:=λr Y u y=>by cases r with
 |ok f=>cases f with|next=>exact h Y u y|ret v=>exact y
 |de i=>exact y
theorem ah'(HT:fq c n hd E.t)(HX:mi c n hd E.x){t:aq}{b:List bj}{pos:Pos}{k:KX}{f:Nat}(h:La E t b k f Y u):Ts c n hd m Y u (.While t b [] pos) k:=TX.AY (tv:=nG c n hd) nG.sn (λf Y u=>La E t b k f Y u) h λf Y u h=>by cases f with|zero=>exact h.elim|succ f=>exact Tr.mono (HT _ _ _ _ h) (Vm λq u y=>Bd y (λy=>TX.mono (HX _ _ _ _ y m) (Ld λY u y=>⟨f,eR f,y⟩)) id)
theorem aia(h:IY e=some q):∃p,e=.ListComp q.1 [⟨q.2.1,q.2.2.1,q.2.2.2.1,0⟩] q.2.2.2.2 p:=by obtain⟨elt,gs,sc,p,e,h⟩:=aa2 h;obtain⟨q',h,e'⟩:=map_some h;exact⟨p,by rw[e,S3 h,<-e']⟩
theorem aib(Z:kO c S K){E:eE}(H:bp c (n+1) hd E.e)(HT:fq c (n+1) hd E.t){t e:aq}{pos:Pos}{k:KX}(h:Vf S hd E t e Y u k):Ts c (n+1) hd m Y u (.Assign [t] e pos) k:=by
 rcases xV h with⟨q,hq,h⟩|h;.obtain⟨x,hx,h⟩:=cK h;obtain⟨px,e1⟩:=xJ hx;obtain⟨lp,e2⟩:=aia hq;rw[e1,e2];exact TX.comp Z.O Z.G Z.SA ke.sn nG.sn (Vl H HT h)
 .exact TX.assign Z.SW H (aZ h).1.1 (aZ h).1.2 (aZ h).2
theorem Vn(h:∀i Y u,f i Y u->f' i Y u):∀r Y u,u_ k f r Y u->u_ k f' r Y u:=λr Y u y=>by cases r with|ok f=>exact y|de i=>exact h i Y u y
theorem aic(Z:kO c S K){E:eE}{Eh:Nat->eE}(HX:mi c n none E.x)(HH:∀i,mi c n (some i) (Eh i).x){b hb:List bj}{x:Str}{nm:Option Str}{p hp pos:Pos}{k:KX}(gu:hb.isEmpty=false)(h:Lb S Eh E b x nm hb Y u k):Ts c n none m Y u (.Try b [.ExceptHandler (some (.Name x p)) nm hb hp] [] [] pos) k:=by cases nm with|none=>exact TX.agP Z.G Z.X gu (TX.mono (HX _ _ _ _ h m) (Vn λi Y u y=>⟨(aZ y).1,HH i _ _ _ _ (aZ y).2 m⟩))|some nm=>exact TX.agU Z.G Z.X gu (aZ h).1 (TX.mono (HX _ _ _ _ (aZ h).2 m) (Vn λi Y u y=>⟨(aZ y).1,rD (aZ y).2 λq y=>HH i _ _ _ _ y m⟩))
theorem aid(Z:kO c S K){name bd:Str}{ps:iz}{b:List bj}{ds:List aq}{rt:Option aq}{tp:List TypeParam}{sc:cz}{cd:Option cz}{pos:Pos}{k:KX}(h:gd (ds.isEmpty/\rt.isNone/\tp.isEmpty/\cd.isNone/\name=bd/\Y.sc.names.lookup name≠some .globalExplicit) (gT (qY Y u name pos ps (.stmts b) sc) (bx Y k λv u=>aH (fN Y u name v) λp=>k (.ok .next) p.1 p.2))):Ts c (n+1) hd m Y u (.FunctionDef name ps b ds rt tp sc cd bd pos) k:=by obtain⟨⟨h1,h2,h3,h4,h5,h6⟩,h⟩:=aZ h;rw[mY.mp h1,uB.mp h2,mY.mp h3,uB.mp h4,<-h5];exact TX.def_ Z.TB h6 h
theorem aie(Z:kO c S K){E:eE}{Eh:Nat->eE}(HX:mi c n hd E.x)(HH:∀i,mi c n (some i) (Eh i).x){b o f:List bj}{hs:List ExceptHandler}{pos:Pos}{k:KX}(h:aH (D1 hs) λq=>gd (o.isEmpty/\f.isEmpty/\hd=none/\q.2.2.isEmpty=false) (Lb S Eh E b q.1 q.2.1 q.2.2 Y u k)):Ts c n hd m Y u (.Try b hs o f pos) k:=by obtain⟨q,hq,h⟩:=cK h;obtain⟨⟨h1,h2,h3,h4⟩,y⟩:=aZ h;obtain⟨xp,hp,e⟩:=aev hq;rw[mY.mp h1,mY.mp h2,e];clear h;subst h3;exact aic Z HX HH h4 y
theorem aif(Z:kO c S K){E:eE}{Eh:Nat->eE}(H:bp c (n+1) hd E.e)(HT:fq c (n+1) hd E.t)(HX:mi c (n+1) hd E.x)(HH:∀i,mi c (n+1) (some i) (Eh i).x){st:bj}{k:KX}:Lc S hd Eh E st Y u k->Ts c (n+1) hd m Y u st k:=PG (motive_2:=λst=>Lc S hd Eh E st Y u k->Ts c (n+1) hd m Y u st k) st (λname ps b ds rt tp sc cd bd pos h=>aid Z h) (λ_ _ _ _ _ _ _ _ _ _=>aW) (λ_ _ _ _ _ _ _ _ _ _ _=>aW) (λv p h=>(cK h).elim λe y=>y.1▸TX.ret H y.2) (λ_ _=>aW) (λts e p h=>(cK h).elim λt y=>aeu y.1▸aib Z H HT y.2) (λ_ _ _ _ _ _ _=>aW) (λt op e p h=>(cK h).elim λx y=>(xJ y.1).elim λpx e1=>e1▸TX.aug Z.G H (aZ y.2).1 (aZ y.2).2) (λ_ _ _ _ _=>aW) (λ_ _ _ _ _=>aW) (λ_ _ _ _ _=>aW) (λt b o p h=>xT (P:=λo=>Ts c (n+1) hd m Y u (.While t b o p) k) h λh=>ah' HT HX h) (λt b o p h=>TX.ite (tv:=nG c (n+1) hd) nG.sn (Tr.mono (HT _ _ _ _ h) (Vm λq u y=>Bd y (λy=>HX _ _ _ _ y m) λy=>HX _ _ _ _ y m))) (λ_ _ _=>aW) (λ_ _ _=>aW) (λ_ _ _=>aW) (λe x p h=>(cK h).elim λe y=>y.1▸uB.mp (aZ y.2).1▸TX.raise Z.X H (aZ y.2).2) (λb hs o f p h=>aie Z HX HH h) (λ_ _ _ _ _=>aW) (λ_ _ _=>aW) (λ_ _=>aW) (λ_ _ _ _=>aW) (λ_ _=>aW) (λ_ _=>aW) (λe p h=>TX.expr H (aZ h).1 (aZ h).2) (λ_=>aW) (λ_=>aW) (λ_=>aW)
theorem aih(h:∀a Y u,f a Y u->f' a Y u):∀r Y u,rA k f r Y u->rA k f' r Y u:=λr Y u y=>by cases r with|ok f=>exact h f Y u y|de i=>exact y
theorem aii(Z:kO c S K){E:eE}{Eh:Nat->eE}(H:bp c (n+1) hd E.e)(HT:fq c (n+1) hd E.t)(HX:mi c (n+1) hd E.x)(HH:∀i,mi c (n+1) (some i) (Eh i).x):mi c (n+1) hd (Vg S hd Eh E):=by intro b;induction b with|nil=>exactλY u k h m=>TX.nil h|cons st b ih=>exactλY u k h m=>TX.cons (TX.mono (aif Z H HT HX HH h) (aih λfl Y u y=>by cases fl with|next=>exact ih Y u k y m|ret v=>exact y))
structure Vo(c:aR)(n:Nat)(hd:Option Nat)(E:eE):Prop where
 e:bp c n hd E.e
 t:fq c n hd E.t
 x:mi c n hd E.x
 c:ry c n hd E.c
theorem Tr.le(y:Tr c n hd Y u Rel t k):Tr c (n+1) hd Y u Rel t k:=λg z O=>y g z O.less
theorem TX.le(y:TX c n hd m Y u t k):TX c (n+1) hd m Y u t k:=λg z B O=>have up:∀{bR z' aM},Ok c n hd g bR z' aM->Ok c (n+1) hd g bR z' aM:=λO'=>⟨O'.fs,⟨O.C.depth,O.C.units,O'.C.handled,O'.C.frames,O'.C.tab,O'.C.guards⟩,O'.E,O'.R⟩;b_ (y g z B O.less) (λ_ _ y=>PS.casesOn y λfl Y u z' N O r x=>.mk fl Y u z' N (up O) r x) λ_ _ y=>ES.casesOn y λi a d Y u z' N O ea ed x=>.mk i a d Y u z' N (up O) ea ed x
theorem aij(Z:kO c S K):∀(n:Nat)(hd:Option Nat),Vo c (2*n+10) hd (x5 c S n hd):=by intro n;induction n with|zero=>exactλhd=>⟨λ_ _ _ _ h=>h.elim,λ_ _ _ _ h=>h.elim,λ_ _ _ _ h=>h.elim,λ_ _ _ _ h=>h.elim⟩|succ n ih=>intro hd;have I:=ih hd;exact⟨λe Y u k h=>(ah7 Z I.e I.t (λf args u k h=>af_ I.c h) e Y u k h).le.le,λe Y u k h=>(ah_ Z I.e I.t e Y u k h).le.le,λb Y u k h m=>(aii Z I.e I.t I.x (λi=>(ih (some i)).x) b Y u k h m).le.le,agN Z.O Z.SF I.x I.e⟩
end
noncomputable def pk(js:List Nat)(N:Nat):Nat->Nat:=λi=>if i<js.length then js.getD i 0 else N+(i-js.length)
structure Pk(js:List Nat)(u a7:List MO):Prop where
 nd:js.Nodup
 eq:a7.map (λm=>some (cL (pk js u.length) m))=js.map (λj=>u[j]?)
noncomputable abbrev eF(js:List Nat)(al:List aj):List Addr:=js.map λj=>al.getD j 0
section
variable{u a7 nw:List MO}
theorem Pk.len(P:Pk js u a7):a7.length=js.length:=by have :=congrArg wB P.eq;rw[bw,bw]at this;exact this
theorem oU hi:pk js N i=js[i]:=by unfold pk;rw[if_pos hi,jA,cp hi];rfl
theorem Fy(hi:js.length<=i):pk js N i=N+(i-js.length):=if_neg (mV.mpr hi)
theorem Pk.get(P:Pk js u a7){i:Nat}{mo:MO}(e:a7[i]?=some mo):u[pk js u.length i]?=some (cL (pk js u.length) mo):=by
 have hi:i<js.length:=P.len▸(cn.mp e).1;have h1:(a7.map (λm=>some (cL (pk js u.length) m)))[i]?=(js.map (λj=>u[j]?))[i]?:=by rw[P.eq]
 rw[cQ,e,cQ,cp hi]at h1;rw[oU hi];exact(aJ h1).symm
theorem Pk.inr(P:Pk js u a7){i:Nat} hi:js[i]<u.length:=by have :a7[i]?=some (a7[i]'(P.len▸hi)):=cp _;have :=P.get this;rw[oU hi]at this;exact(cn.mp this).1
theorem Pk.at(P:Pk js u a7)(hl:al.length=u.length){i:Nat} hi:(eF js al)[i]?=al[js[i]]?:=by rw[cQ,cp hi,cp (hl▸P.inr hi)];exact congrArg some (by show al.getD js[i] 0=_;rw[jA,cp (hl▸P.inr hi)];rfl)
theorem Pk.to(P:Pk js u a7)(hl:al.length=u.length) i a:(al++new)[pk js u.length i]?=some a↔(eF js al++new)[i]?=some a:=by
 have ll:(eF js al).length=js.length:=bw _;by_cases hi:i<js.length;.rw[oU hi,ew (hl▸P.inr hi),ew (ll▸hi),P.at hl hi]
 .have hi:=jc hi;rw[Fy hi,<-hl,eS (cy _ _),eS (ll▸hi),ll,jb]
theorem Pk.Bf(P:Pk js u a7)(hl:al.length=u.length) i a:al[pk js u.length i]?=some a↔(eF js al)[i]?=some a:=by have :=P.to (new:=[]) hl i a;rwa[cG,cG]at this
theorem Pk.sub(P:Pk js u a7)(hl:al.length=u.length){a:aj}(m:a∈eF js al):a∈al:=by obtain⟨i,e⟩:=lZ.mp m;exact ez ((P.Bf hl i a).mpr e)
theorem Pk.aik(P:Pk js u a7)(hl:al.length=u.length)(nd:al.Nodup):(eF js al).Nodup:=by refine zi.mpr (P.nd.imp_of_mem λ{x y}hx hy ne q=>ne ?_);obtain⟨i,hi,rfl⟩:=N5 hx;obtain⟨j,hj,rfl⟩:=N5 hy;have li:=P.inr hi;have lj:=P.inr hj;rw[<-hl]at li lj;rw[jA,jA,cp li,cp lj]at q;exact DK nd (cp li) ((cp lj).trans (congrArg some q.symm))
theorem SR.pick(R:SR c h al u fs)(P:Pk js u a7)(hf:i6.map (·.1)=fs.map (·.1))(fr:∀p∈i6,h_ h (eF js al) p):SR c h (eF js al) a7 i6 where
 base:=R.base;off a m:=R.off a (by rw[hf]at m;exact(cV.mp m).elim (λm=>eG _ (P.sub R.len m)) (gi _));len:=by rw[bw,P.len]
 nd:=by obtain⟨n1,n2,n3⟩:=gH.mp R.nd;rw[hf];exact gH.mpr ⟨P.aik R.len n1,n2,λa ha b hb=>n3 a (P.sub R.len ha) b hb⟩
 obj i mo a e ea:=eB.pull (λi a e=>(P.Bf R.len i a).mp e) (λa m=>P.sub R.len m) (R.obj _ _ _ (P.get e) ((P.Bf R.len i a).mpr ea));fr:=fr
noncomputable def Bh(m:Str->Option aa)(v:bI):bI:=v.map λp=>(p.1,.st ((m p.1).getD .none))
theorem Vp m x v:(Bh m v).lookup x=(v.lookup x).map λ_=>V.st ((m x).getD .none):=by induction v with|nil=>rfl|cons p r ih=>
 show wA x ((p.1,V.st ((m p.1).getD .none))::Bh m r)=_;rw[gN,gN,ih];by_cases q:p.1=x;.rw[if_pos q,if_pos q,q];rfl
 .rw[if_neg q,if_neg q]
inductive Vq(h:a_)(al gQ:List aj)(p:aj×bI):Prop|mk(v:bI)(f:h_ h gQ (p.1,v))(b:∀h' dM d1,(∀v q,VR h al v q->VR h' d1 v q)->h_ h' dM (p.1,v)->h_ h' d1 p):Vq h al gQ p
theorem Vr(x:VR h al (.st w) q):q=w:=by cases x;rfl
theorem h_.Bh(x:h_ h al p) gQ:Vq h al gQ p:=by
 obtain⟨m,hm,kv⟩:=x;refine⟨Internal.Bh m p.2,⟨m,hm,λx v ex=>?_⟩,λh' dM d1 up fr=>?_⟩;.rw[Vp]at ex;obtain⟨w,hw,e⟩:=map_some ex;obtain⟨y,hy,-⟩:=kv x w hw;exact⟨y,hy,e▸hy▸.st y⟩
 .obtain⟨m',jo,pU⟩:=fr;refine⟨m',jo,λx v ex=>?_⟩;obtain⟨y,hy,hv⟩:=kv x v ex;obtain⟨y',ail,Le⟩:=pU x (.st y) (by rw[Vp,ex,hy];rfl);exact⟨y,(Vr Le)▸ail,up _ _ hv⟩
inductive Vs(h:a_)(al gQ:List aj)(fs:Fs):Prop|mk(i6:Fs)(e:i6.map (·.1)=fs.map (·.1))(f:∀p∈i6,h_ h gQ p)(b:∀h' dM d1,(∀v q,VR h al v q->VR h' d1 v q)->(∀p∈i6,h_ h' dM p)->∀p∈fs,h_ h' d1 p):Vs h al gQ fs
theorem all_cons{α:Type}{P:α->Prop}{a:α}{l:List α}(x:P a)(y:∀b∈l,P b):∀b∈a::l,P b:=λb m=>(bX.mp m).elim (λq=>q▸x) (y b)
theorem aim gQ fs:(∀p∈fs,h_ h al p)->Vs h al gQ fs:=by induction fs with|nil=>exactλ_=>⟨[],rfl,λ_ m=>absurd m eH,λ_ _ _ _ _ _ m=>absurd m eH⟩|cons p fs ih=>intro k;obtain⟨i6,e,a,b⟩:=ih λp m=>k p (.tail _ m);obtain⟨v,f,b'⟩:=(k p (.head _)).Bh gQ;exact⟨(p.1,v)::i6,congrArg (p.1::·) e,all_cons f a,λh' dM d1 up fr=>all_cons (b' h' dM d1 up (fr _ (.head _))) (b h' dM d1 up λp m=>fr p (.tail _ m))⟩
theorem a8.kept(T:a8 h gQ fa h' aT){a:aj}{o:Obj}(e:h.get? a=some o)(h1:a∉gQ)(h2:a∉fa)(t:¬Tb o):h'.get? a=some o:=by obtain⟨o',e',k⟩:=T.keep a o e h1 h2;exact k.elim (λq=>q▸e') λk=>absurd k.1 t
theorem ain(hx:u.all p=true){i:Nat}{mo:MO}(e:u[i]?=some mo):p mo=true:=jV.mp hx mo (ez e)
structure Mv(js:List Nat)(u aM aD:List MO):Prop where
 P:Pk js aM aD
 len:aM.length=u.length
 off:∀i,i∉js->aM[i]?=u[i]?
theorem Mv.refl(P:Pk js u a7):Mv js u u a7:=⟨P,rfl,λ_ _=>rfl⟩
theorem SR.join(R:SR c h al u fs)(P:Pk js u a7)(M:Mv js u aM aD)(qd:SR c h (eF js al) a7 i6)(T:a8 h (eF js al) (fs.map (·.1)) h' (eF js al++new))(R':SR c h' (eF js al++new) (aD++nw) i6)(hf:i6.map (·.1)=fs.map (·.1))(hn:∀a∈new,h.get? a=none)(hx:u.all fM=true)(back:∀d1,(∀v q,VR h al v q->VR h' d1 v q)->∀p∈fs,h_ h' d1 p):SR c h' (al++new) (aM++nw.map (cL (pk js u.length))) fs/\a8 h al (fs.map (·.1)) h' (al++new):=by
 have l1:aD.length=a7.length:=M.P.len.trans P.len.symm;have l2:=M.len;obtain⟨n1,n2,n3⟩:=gH.mp R.nd;obtain⟨m1,m2,m3⟩:=gH.mp R'.nd;rw[hf]at m3;have ll:(eF js al).length=a7.length:=qd.len;have fx:dT h h':=qd.fix (by rw[hf];exact T);have up:∀(i:Nat)(a:aj),al[i]?=some a->(al++new)[i]?=some a:=λi a e=>by rw[ew (cn.mp e).1];exact e
 have Vt:∀a∈al,∀o,h.get? a=some o->¬Tb o:=λa ha o e t=>by obtain⟨i,mo,em,-,x⟩:=R.at ha;exact x.aaW (ain hx em) e t
 have kp:∀a∈al,a∉eF js al->∀o,h.get? a=some o->h'.get? a=some o:=λa ha h1 o e=>T.kept e h1 (λq=>n3 a ha a q rfl) (Vt a ha o e);have hs:∀Tt o,h'.get? Tt=some o->Tb o->Tt∉eF js al++new->Tt∉al++new:=λTt o e t xE m=>by
  rcases cV.mp m with m|m;.obtain⟨_,mo,-,-,x⟩:=R.at m;obtain⟨o',eo⟩:=x.there;have :=kp Tt m (λq=>xE (eG _ q)) o' eo;cases aJ (e.symm.trans this);exact Vt Tt m _ eo t
  .exact xE (gi _ m)
 have send:∀{a mo},eB c h' (eF js al++new) a mo->eB c h' (al++new) a (cL (pk js u.length) mo):=λx=>x.send (λi a e=>(P.to R.len i a).mpr e) hs;have tb:∀b o,h.get? b=some o->Tb o->b∉al->∃o',h'.get? b=some o'/\Tb o':=λb o e t m=>by obtain⟨o',e',k⟩:=T.keep b o e (λq=>m (P.sub R.len q)) (R.QJ e t);exact⟨o',e',k.elim (λq=>q▸t) λk=>k.2⟩
 have KP:Kp h al h' (al++new):=⟨fx,tb,up,λa m=>(cV.mp m).imp id λm o e _=>aE ((hn a m).symm.trans e)⟩;have fj:a8 h al (fs.map (·.1)) h' (al++new):=⟨T.live,λb o e h1 h2=>T.keep b o e (λq=>h1 (P.sub R.len q)) h2,new,rfl,hn⟩;refine⟨⟨R'.base,λa m=>?_,?_,?_,λi mo a e ea=>?_,back _ λv q x=>x.mono fx up⟩,fj⟩
 .rcases cV.mp m with m|m
  .rcases cV.mp m with m|m;.exact R.off a (eG _ m)
   .exact R'.off a (eG _ (gi _ m))
  .exact R.off a (gi _ m)
 .have :=R'.len;rw[aX,aX,ll,l1]at this;rw[aX,aX,bw,R.len,l2,yN this]
 .refine gH.mpr ⟨gH.mpr ⟨n1,(gH.mp m1).2.1,λa ha b hb q=>?_⟩,n2,λa ha b hb=>?_⟩;.obtain⟨_,mo,-,-,x⟩:=R.at ha;obtain⟨o,eo⟩:=x.there;exact aE ((q▸hn b hb).symm.trans eo)
  .exact(cV.mp ha).elim (λha=>n3 a ha b hb) λha=>m3 a (gi _ ha) b hb
 .by_cases hi:i<aM.length
  .rw[ew hi]at e;rw[l2]at hi;rw[ew (R.len▸hi)]at ea;by_cases q:i∈js
   .obtain⟨k,ek⟩:=lZ.mp q;obtain⟨hk,ek⟩:=cn.mp ek;have qe:k<aD.length:=M.P.len▸hk;have e2:=M.P.get (cp qe);rw[oU hk,ek,l2]at e2;cases aJ (e.symm.trans e2);refine send (R'.obj k _ a ?_ ?_);.rw[ew qe];exact cp qe
    .rw[ew (by rw[ll,P.len];exact hk),P.at R.len hk,ek];exact ea
   .have q':a∉eF js al:=λm=>by
     obtain⟨j,hj,ej⟩:=dS.mp m;obtain⟨k,ek⟩:=lZ.mp hj;obtain⟨hk,ek⟩:=cn.mp ek;have Bi:j<al.length:=by rw[R.len,<-ek];exact P.inr hk
     rw[jA,cp Bi]at ej;exact q (DK n1 ea ((cp Bi).trans (congrArg some ej))▸hj)
    rw[M.off i q]at e;exact(R.obj i mo a e ea).keep (kp a (ez ea) q') KP
  .have hi:=jc hi;rw[eS hi,cQ]at e;rw[l2]at hi e;rw[eS (R.len▸hi),R.len]at ea;obtain⟨mo',em,rfl⟩:=sW.mp e;refine send (R'.obj (aD.length+(i-u.length)) mo' a ?_ ?_);.rw[eS (cy _ _),jb];exact em
   .rw[eS (ll▸l1▸cy _ _),ll,l1,jb];exact ea
theorem Pk.send(P:Pk js u a7){i:Nat}{mo:MO}(e:(a7++nw)[i]?=some mo):(u++nw.map (cL (pk js u.length)))[pk js u.length i]?=some (cL (pk js u.length) mo):=by
 by_cases hi:i<a7.length;.rw[ew hi]at e;have :=P.get e;rw[ew (cn.mp this).1];exact this
 .have hi:=jc hi;rw[eS hi]at e;rw[Fy (P.len▸hi),eS (cy _ _),jb,cQ,<-P.len,e];rfl
inductive Lf(js:List Nat)(u:List MO)(k:KT V)(r:Rs V):List MO->Prop|mk(aD aM nw:List MO)(M:Mv js u aM aD)(h:k (Ul (pk js u.length) r) (aM++nw.map (cL (pk js u.length)))):Lf js u k r (aD++nw)
inductive Fz(js:List Nat)(u a7:List MO)(k:KT V)(r:Rs V):List MO->Prop|mk(nw:List MO)(h:k (Ul (pk js u.length) r) (u++nw.map (cL (pk js u.length)))):Fz js u a7 k r (a7++nw)
inductive Jn(c:aR)(z z':Z)(js:List Nat)(u:List MO)(aM nw:List MO):Prop|mk(new:List aj)(e:z'.al=eF js z.al++new)(N:Nx z ⟨z'.s,z.al++new,z.fs⟩)(R:Sr c ⟨z'.s,z.al++new,z.fs⟩ (aM++nw.map (cL (pk js u.length)))):Jn c z z' js u aM nw
theorem Vu(P:Pk js u a7)(hx:u.all fM=true)(R:Sr c z u)(qd:SR c z.s.heap (eF js z.al) a7 i6)(hf:i6.map (·.1)=z.fs.map (·.1))(back:∀h' dM d1,(∀v q,VR z.s.heap z.al v q->VR h' d1 v q)->(∀p∈i6,h_ h' dM p)->∀p∈z.fs,h_ h' d1 p){z':Z}(N:Nx ⟨z.s,eF js z.al,i6⟩ z'){aD aM:List MO}(M:Mv js u aM aD)(R':Sr c z' (aD++nw)):Jn c z z' js u aM nw:=by obtain⟨new,e,hn⟩:=N.T.ext;have T:a8 z.s.heap (eF js z.al) (z.fs.map (·.1)) z'.s.heap (eF js z.al++new):=e▸hf▸N.T;have gP:SR c z'.s.heap (eF js z.al++new) (aD++nw) i6:=e▸(show z'.fs=i6 from N.f)▸(show SR c z'.s.heap z'.al (aD++nw) z'.fs from R');have y:=SR.join R P M qd T gP hf hn hx λd1 up=>back _ _ d1 up gP.fr;exact⟨new,e,⟨y.2,N.m,rfl⟩,y.1⟩
theorem TC.Vv(P:Pk js u a7)(h0:js[0]?=some 0)(hx:u.all fM=true)(hc:TC c n none f args a7 (Lf js u k)):TC c n none (bY (pk js u.length) f) (ba (pk js u.length) args) u k:=by
 intro A z qf qs C R kf kv;obtain⟨i6,hf,fr,back⟩:=aim (eF js z.al) z.fs R.fr;have qd:=SR.pick R P hf fr;have ha:∀i a,z.al[pk js u.length i]?=some a->(eF js z.al)[i]?=some a:=λi a=>(P.Bf R.len i a).mp;have tab:(eF js z.al)[0]?=some c.tab:=by have :=(cn.mp h0);rw[P.at R.len this.1,this.2];exact C.tab
 have w:=hc A ⟨z.s,eF js z.al,i6⟩ qf qs ⟨C.depth,C.units,C.handled,hf▸C.frames,tab,C.guards⟩ qd (VR.pull ha f kf) (aQ.pull ha args kv);refine⟨w.1,b_ w.2 (λq s' y=>bG.casesOn y λv τ z' N R' r y=>?_) λq s' y=>bA.casesOn y λi a d τ z' N R' ea ed y=>?_⟩;.obtain⟨aD,aM,nw,M,hk⟩:=y;obtain⟨new,e,bN,d7⟩:=Vu P hx R qd hf back N M R';exact .mk _ _ ⟨z'.s,z.al++new,z.fs⟩ bN d7 (VR.send (λi a e'=>(P.to R.len i a).mpr (e▸e')) r) hk
 .obtain⟨aD,aM,nw,M,hk⟩:=y;obtain⟨new,e,bN,d7⟩:=Vu P hx R qd hf back N M R';exact .mk _ a (pk js u.length d) _ ⟨z'.s,z.al++new,z.fs⟩ bN d7 ((P.to R.len i a).mpr (e▸ea)) (M.len▸M.P.send ed) hk
theorem TC.frame(P:Pk js u a7)(h0:js[0]?=some 0)(hx:u.all fM=true)(hc:TC c n none f args a7 (Fz js u a7 k)):TC c n none (bY (pk js u.length) f) (ba (pk js u.length) args) u k:=have up:∀r τ,Fz js u a7 k r τ->Lf js u k r τ:=λr τ y=>Fz.casesOn y λnw h=>.mk a7 u nw (.refl P) h;TC.Vv P h0 hx λA z qf qs C R kf kv=>⟨(hc A z qf qs C R kf kv).1,b_ (hc A z qf qs C R kf kv).2 (λ_ _ y=>y.mono up) λ_ _ y=>y.mono up⟩
structure rE(m:Nat)(Y:Loc)(u:List MO)(cg:Loc)(a7:List MO)(js:List Nat):Prop where
 P:Pk js u a7
 low:∀i,i<m->js[i]?=some i
 sc:Y.sc=cg.sc
 ne:Y.nest=cg.nest
 ce:Y.cells=cg.cells
 Lg:∀x i,Y.cells.lookup x=some i->i<m
 v:∀x v,cg.vars.lookup x=some v->Y.vars.lookup x=some (bY (pk js u.length) v)
inductive Vw(c:aR)(n m:Nat)(g:G)(js:List Nat)(cg:Loc)(u a7:List MO)(z:Z):Prop|mk(z':Z)(e:z'.s=z.s)(N:Nm m z z')(O:Ok c n none g cg z' a7)(up:∀v q,VR z.s.heap z.al (bY (pk js u.length) v) q->VR z.s.heap z'.al v q):Vw c n m g js cg u a7 z
theorem Ok.pick(O:Ok c n none g Y z u)(K:rE m Y u cg a7 js)(h1:0<m)(hs:Sb m g.rest):Vw c n m g js cg u a7 z:=by
 have ha:∀i a,z.al[pk js u.length i]?=some a->(eF js z.al)[i]?=some a:=λi a=>(K.P.Bf O.R.len i a).mp;have pre:∀(i:Nat)(a:aj),i<m->z.al[i]?=some a->(eF js z.al)[i]?=some a:=λi a hi e=>by obtain⟨h1,h2⟩:=cn.mp (K.low i hi);rw[K.P.at O.R.len h1,h2];exact e
 have fm:((g.L,cg.vars)::g.rest).map (·.1)=z.fs.map (·.1):=O.fs▸rfl;have qd:SR c z.s.heap (eF js z.al) a7 ((g.L,cg.vars)::g.rest):=O.R.pick K.P fm (all_cons ((O.R'.fr _ (.head _)).elim λmm y=>⟨mm,y.1,λx v e=>(y.2 x _ (K.v x v e)).elim λq w=>⟨q,w.1,VR.pull ha v w.2⟩⟩) λp hp=>(O.R'.fr p (.tail _ hp)).elim λmm y=>⟨mm,y.1,λx v e=>(y.2 x v e).elim λq w=>⟨q,w.1,w.2.low (hs p hp x v e) pre⟩⟩);have E:=O.E;refine⟨⟨z.s,eF js z.al,(g.L,cg.vars)::g.rest⟩,rfl,⟨⟨λb o e=>⟨o,e⟩,λb o e _ _=>⟨o,e,.inl rfl⟩,λa m=>.inl (K.P.sub O.R.len m),pre⟩,.refl _,fm⟩,⟨rfl,⟨O.C.depth,O.C.units,O.C.handled,fm▸O.C.frames,pre _ _ h1 O.C.tab,O.C.guards⟩,⟨E.kind,E.loc,E.gl,E.bi,K.sc▸E.names,λx i e=>?_,λq e=>?_⟩,qd⟩,λv q=>VR.pull ha v⟩;.rw[<-K.ce]at e;obtain⟨a,e1,e2⟩:=E.cells x i e;exact⟨a,e1,pre _ _ (K.Lg x i e) e2⟩
 .rw[<-K.ne]at e;obtain⟨a,cd,Pp,b,d,f⟩:=E.nest q e;exact⟨a,cd,Pp,b,pre _ _ h1 d,f⟩
inductive Lh(m:Nat)(k:KX)(Y:Loc)(u:List MO):Prop|mk(js:List Nat)(cg:Loc)(a7:List MO)(p:rE m Y u cg a7 js)(h:k (.ok .next) cg a7):Lh m k Y u
inductive Li(m:Nat)(k:KX)(Y:Loc)(u:List MO)(v:V):Prop|mk(js:List Nat)(cg:Loc)(a7:List MO)(cT:V)(p:rE m Y u cg a7 js)(e:v=bY (pk js u.length) cT)(h:k (.ok (.ret cT)) cg a7):Li m k Y u v
def cM(m:Nat)(k:KX):KX:=λr Y u=>Rs.casesOn (motive:=λ_=>Prop) r (λf=>xU f (Lh m k Y u) (Li m k Y u)) λi=>k (.de i) Y u
theorem aio(h1:0<m)(B:Bg m g){fl:lW}{s':aF}(y:PS c n none g m z (cM m k) fl s'):PS c n none g m z k fl s':=by obtain⟨fl,dF,aD,au,N,aI,r,h⟩:=y;cases fl with|next=>obtain⟨js,cg,a7,K,h⟩:=h;obtain⟨z',e,N',O',-⟩:=aI.pick K h1 B.s;exact e▸.mk .next cg a7 z' (N.trans N') O' r h|ret v=>obtain⟨js,cg,a7,cT,K,e,h⟩:=h;obtain⟨q,e',kv⟩:=r;obtain⟨z',es,N',O',up⟩:=aI.pick K h1 B.s;exact es▸.mk (.ret cT) cg a7 z' (N.trans N') O' ⟨q,e',es▸up _ _ (e▸kv)⟩ h
theorem TX.pickK(h1:0<m)(h:TX c n none m Y u t (cM m k)):TX c n none m Y u t k:=λg z B O=>b_ (h g z B O) (λfl s' y=>aio h1 B y) λq s' y=>ES.casesOn y λi a d Y u z' N O ea ed h=>.mk i a d Y u z' N O ea ed h
end
end
noncomputable section
open PyProof.Rows PySem PySem.Calls PySem.W
open PySem.PyData(keyHash)
noncomputable def bd:List Stmt:=behindTheImports cB
noncomputable def st(i:Nat):Stmt:=cB.main.body.getD i (.Pass default)
noncomputable def aip(s:bj):List Stmt:=if h:s.ctorIdx=2 then ZL (motive_2:=λ_=>List bj) s h (λ_ _ _ b _ _ _ _ _ _ _=>b)else[]
def d_(i j:Nat):Stmt:=(aip (st i)).getD j (.Pass default)
noncomputable def FA{α:Type}(s:bj)(f:Str->iz->List bj->cz->α)(d:α):α:=if h:s.ctorIdx=0 then Dr (motive_2:=λ_=>α) s h (λn a b _ _ _ c _ _ _=>f n a b c)else d
noncomputable def Lj(s:bj):Str:=FA s (λn _ _ _=>n) default
noncomputable def Vx(s:bj):Arguments:=FA s (λ_ a _ _=>a) default
noncomputable def Vy(s:bj):List Stmt:=FA s (λ_ _ b _=>b) default
noncomputable def Vz(s:bj):Scope:=FA s (λ_ _ _ c=>c) default
def fd(s:bj)(qual:Str)(cl:List (Str×aj))(dV kV doc pm:aa)(an:Option aj)(aiq ct:aa)(gl bi:aj):FuncData:={name:=Lj s,qualname:=qual,params:=Vx s,body:=.stmts (Vy s),scope:=Vz s,globals:=gl,closure:=cl,defaults:=dV,kwdefaults:=kV,doc,pyModule:=pm,annotations:=an,code:=aiq,closureTuple:=ct,builtins:=bi}
abbrev mq:=YZ
abbrev e8:=Y0
noncomputable abbrev N:=BT.node
noncomputable abbrev E:=BT.nil
noncomputable def kv(P:aL)(k:Str)(n:Nat)(v:aa):DictEntry:=⟨keyHash P k,.str k n,v⟩
def kr(P:aL)(k:Str)(n r:Nat):DictEntry:=kv P k n (.ref r)
noncomputable def dl(P:aL)(l:List lU)(n:Nat):Obj:=⟨.type "dict",none,.dict l.toArray n,#[]⟩
noncomputable def tu(l:List aa):Obj:=⟨.type "tuple",none,.seq l.toArray 0,#[]⟩
def t0:Obj:=tu []
def ts(n:Nat)(l:List Str):Obj:=tu (qN (motive:=λ_=>Nat->List aa) (λ_=>[]) (λx _ ih n=>.str x n::ih (n+1)) l n)
noncomputable def VA(l:List aa):Obj:=⟨.none,none,.fields l.toArray,#[]⟩
def e0:Obj:=VA []
def lt(l:List (Int×Int×Nat)):Obj:=VA (qN [] (λx _ ih=>.int x.1 0::.int x.2.1 0::.ref x.2.2::ih) l)
noncomputable def LT:List (Int×Int×Nat):=[(4,0,21),(10,0,43),(14,0,50),(20,0,57),(30,0,64),(45,0,71),(51,0,78),(53,0,85),(60,0,92),(64,0,99),(68,0,106),(72,0,113),(74,0,120),(79,0,128),(81,0,135),(84,0,142),(87,0,149),(89,0,156),(91,0,163),(93,0,170),(101,0,177),(104,0,184),(118,0,191),(121,0,198),(125,0,205),(127,0,212),(131,0,219),(136,0,226),(138,0,233),(144,0,240),(150,0,247),(155,0,254),(170,0,261),(172,0,268),(178,0,275),(180,0,282),(192,0,291),(194,0,298),(200,0,305),(206,0,310),(217,0,317),(221,0,324),(228,0,332),(233,0,353),(238,0,360),(258,0,367),(265,0,374),(279,0,381),(286,0,388),(294,0,395),(301,0,402),(309,0,407),(316,0,412),(332,0,419),(346,0,426),(352,0,433),(359,0,438),(370,0,443),(382,0,450),(393,0,457),(397,0,464),(406,0,485),(409,0,492),(419,0,499),(425,0,506),(447,0,513),(452,0,520),(456,0,527),(466,0,534),(496,0,590),(504,0,611),(583,0,667),(588,0,674),(601,0,681),(612,0,688),(623,0,693)]
noncomputable def cx(k q:Str)(n:Nat)(l a f:Int)(r:Nat)(t:Nat)(b:Bool)(A B C:aa):Obj:=⟨.type "code",none,.fields #[.str k n,.str q (n+1),.str "/claim/cut.py" (n+2),.int l 0,.int a 0,.int 0 0,.int 0 0,.int f 0,.ref r,.bool b,.int 181 0,.ref (r+1),.none,A,B,C,.int t 0,.int l 0,.str "/claim/cut.py" (t+1)],#[]⟩
def jI(k q:Str)(n:Nat)(l a:Int)(r t:Nat):Obj:=cx k q n l a 3 r t true (.ref (r+2)) (.ref (r+3)) (.ref (r+4))
def air(k q:Str)(n:Nat)(l a:Int)(r t:Nat):Obj:=cx k q n l a 3 r t true .none .none (.ref (r+2))
def ais(k q:Str)(n:Nat)(l a:Int)(r t:Nat):Obj:=cx k q n l a 0 r t false .none .none .none
def bK k:=jI k k
def x6 k:=air k k
def vg k:=ais k k
def f0(s:bj)(q:Str):Obj:=⟨.none,none,.func (fd s q [] (.none) (.none) (.none) (.none) none (.none) (.none) 0 0),#[]⟩
def f1(s:bj)(q:Str)(m:aa)(r:Nat):Obj:=⟨.type "function",none,.func (fd s q [] (.none) (.none) (.none) m none (.ref r) (.none) 3 0),#[]⟩
def bB(i:Nat):Obj:=f0 (st i) (Lj (st i))
def bC(i:Nat):aa->Nat->Obj:=f1 (st i) (Lj (st i))
noncomputable def su(r:Nat):Obj:=⟨.type "super",none,.fields #[.ref r,.ref r,.ref r],#[]⟩
noncomputable def bu(l:List aa):Obj:=⟨.type "builtin_function_or_method",none,.fields l.toArray,#[]⟩
noncomputable def ge(l:List aa):Obj:=⟨.type "getset_descriptor",none,.fields l.toArray,#[]⟩
noncomputable def fr(a b c:Nat)(x:Str)(n:Nat):Obj:=⟨.type "frame",none,.plain,#[some (.ref a),some (.ref b),some (.ref c),none,some (.str x n),none,some (.ref 0)]⟩
noncomputable def cl(x:Str)(r n i j:Nat):Obj:=⟨.type "type",none,.cls {name:=x,bases:=[.type "object"],mro:=[.ref r,.type "object"],ns:=n,qualname:=x,hasDict:=true,slotNames:=[],subclasses:=[],abstract:=false,collection:=none,hasDel:=false},#[none,none,some (.str x i),some (.str x j),some (.builtin "object.__new__"),some (.bool true)]⟩
def GD(P:aL):List DictEntry:=[kv P "__name__" 165 (.str "law_pq0151_01" 1169),kv P "__doc__" 166 .none,kv P "__package__" 167 .none,kv P "__loader__" 168 (.builtin "__main__.__loader__#opaque"),kv P "__spec__" 169 .none,kr P "__annotations__" 170 6,kr P "__builtins__" 171 4,kv P "__file__" 173 (.str "/claim/cut.py" 172),kv P "__cached__" 174 .none,kv P "MOST_TEXT" 190 (.int (255) 189),kv P "MOST_EXPONENT" 192 (.int (99) 191),kr P "BasicError" 226 34,kr P "kind_of" 233 44,kr P "figures_of" 242 51,kr P "rounded_by" 253 58,kr P "made" 265 65,kr P "whole_near" 275 72,kr P "fits" 283 79,kr P "whole_of" 292 86,kr P "decimal_of" 300 93,kr P "checked_text" 307 100,kr P "is_nought" 314 107,kr P "is_true" 321 114,kr P "truth" 328 121,kr P "ONE" 333 122,kv P "MOST_POWER" 335 (.int (9999) 334),kr P "d_negated" 342 129,kr P "alike" 351 136,kr P "d_add" 363 143,kr P "d_sub" 372 150,kr P "d_mul" 381 157,kr P "with_rest" 390 164,kr P "d_div" 404 171,kr P "d_compare" 415 178,kr P "d_power" 427 185,kr P "square_or_end" 435 192,kr P "is_whole" 444 199,kr P "settled" 453 206,kr P "whole_reckoned" 464 213,kr P "cut_quotient" 473 220,kr P "cut_rest" 481 227,kr P "exponent_of" 488 234,kr P "whole_power" 498 241,kr P "raised" 509 248,kr P "reckoned" 525 255,kr P "negated" 534 262,kr P "order_of" 542 269,kr P "inverted" 550 276,kr P "logic" 562 283,kr P "LOGIC" 570 284,kr P "COMPARISONS" 577 285,kr P "order_of_texts" 585 292,kr P "compared" 593 299,kr P "worth_of_texts" 602 306,kr P "worth_of_two" 608 311,kr P "worth_of_one" 618 318,kr P "worth_of_leaf" 629 325,kr P "LEAVES" 635 326,kr P "RowCode" 666 343,kr P "leaf_order" 675 354,kr P "expression_orders" 688 361,kr P "target_orders" 700 368,kr P "row_orders" 713 375,kr P "led_to" 724 382,kr P "compile_rows" 737 389,kr P "folded" 749 396,kr P "goals_of" 759 403,kr P "moved_orders" 765 408,kr P "fold_values" 771 413,kr P "known_tests" 785 420,kr P "last_goal" 794 427,kr P "thread_jumps" 803 434,kr P "rows_left" 809 439,kr P "drop_rows" 815 444,kr P "pooled" 827 451,kr P "improved" 837 458,kr P "Flat" 872 475,kr P "put_row_of" 881 486,kr P "put_if" 892 493,kr P "put_all" 902 500,kr P "gather" 918 507,kr P "join_rows" 928 514,kr P "end_loops" 939 521,kr P "flatten" 949 528,kr P "PlainHooks" 1031 580,kr P "RowWays" 1070 601,kr P "RowRun" 1168 657,kr P "_law_number" 1178 668,kr P "_law_tree" 1187 675,kr P "_law_row" 1198 682,kr P "_law_gone" 1210 689,kr P "law" 1216 694]
noncomputable def vh:Value:=.str "basicplus.rowrun" 1032
noncomputable def Bj:Value:=.str "law_pq0151_01" 1169
noncomputable def nH:Value:=.str "basicplus.values" 187
noncomputable def qg:Value:=.str "basicplus.decimals" 329
noncomputable def mr:Value:=.str "basicplus.arith" 436
noncomputable def x7:Value:=.str "basicplus.worth" 563
noncomputable def vi:Value:=.str "basicplus.rowcode" 630
noncomputable def oV:Value:=.str "basicplus.passes" 738
noncomputable def tK:Value:=.str "basicplus.flatten" 838
noncomputable def x8:Value:=.str "basicplus.hooks" 950
def a0(P:aL):Obj:=t0
def a1(P:aL):Obj:=e0
noncomputable def a2(P:aL):Obj:=vg "<module>" 182 1 0 11 185
def a3(P:aL):Obj:=fr 13 3 3 "__main__" 164
def a4(P:aL):Obj:=⟨.none,none,.dict #[kv P "type.__subclasses__.Exception.0" 223 (.int (34) 0),kv P "type.__subclasses__.Exception.n" 224 (.int (1) 0)] 2,#[]⟩
def a5(P:aL):Obj:=dl P (kv P "__name__" 165 (.str "basicplus.values" 187)::((GD P).take 15).drop 1) 15
def a6(P:aL):Obj:=lt (LT.take 4)
def ait(P:aL):Obj:=dl P (kv P "__name__" 165 (.str "basicplus.decimals" 329)::((GD P).take 29).drop 1) 29
def aiu(P:aL):Obj:=lt (LT.take 16)
def aiv(P:aL):Obj:=dl P (kv P "__name__" 165 (.str "basicplus.arith" 436)::((GD P).take 41).drop 1) 41
def aiw(P:aL):Obj:=lt (LT.take 28)
def aix(P:aL):Obj:=dl P (kv P "__name__" 165 (.str "basicplus.worth" 563)::((GD P).take 54).drop 1) 54
def aiy(P:aL):Obj:=lt (LT.take 39)
def aiz(P:aL):Obj:=dl P (kv P "__name__" 165 (.str "basicplus.rowcode" 630)::((GD P).take 60).drop 1) 60
def aiA(P:aL):Obj:=lt (LT.take 44)
def aiB(P:aL):Obj:=dl P (kv P "__name__" 165 (.str "basicplus.passes" 738)::((GD P).take 72).drop 1) 72
def aiC(P:aL):Obj:=lt (LT.take 56)
def aiD(P:aL):Obj:=dl P (kv P "__name__" 165 (.str "basicplus.flatten" 838)::((GD P).take 78).drop 1) 78
def aiE(P:aL):Obj:=lt (LT.take 62)
def aiF(P:aL):Obj:=dl P (kv P "__name__" 165 (.str "basicplus.hooks" 950)::((GD P).take 84).drop 1) 84
def aiG(P:aL):Obj:=lt (LT.take 68)
def aiH(P:aL):Obj:=dl P (kv P "__name__" 165 (.str "basicplus.hooks" 950)::((GD P).take 85).drop 1) 85
def aiI(P:aL):Obj:=lt (LT.take 69)
def aiJ(P:aL):Obj:=dl P (kv P "__name__" 165 (.str "basicplus.rowrun" 1032)::((GD P).take 86).drop 1) 86
def aiK(P:aL):Obj:=lt (LT.take 70)
def aiL(P:aL):Obj:=dl P (kv P "__name__" 165 (.str "basicplus.rowrun" 1032)::((GD P).take 87).drop 1) 87
def aiM(P:aL):Obj:=lt (LT.take 71)
def VB(P:aL):Obj:=dl P ((GD P).take 92) 92
def VC(P:aL):Obj:=lt (LT.take 76)
def iL(t:BT)(i:Nat)(l:List Obj):BT:=qN (motive:=λ_=>BT->Nat->BT) (λt _=>t) (λo _ ih t i=>ih (t.ins i o) (i+1)) l t i
def T0(P:aL):BT:=(N (boot_o_0 P) (N (boot_o_1 P) (N (boot_o_3 P) (N (boot_o_7 P) E E) (N (a0 P) E E)) (N (boot_o_5 P) (N (boot_o_9 P) E E) (N (a2 P) E E))) (N (boot_o_2 P) (N (boot_o_4 P) (N (boot_o_8 P) E E) (N (a1 P) E E)) (N (boot_o_6 P) (N (boot_o_10 P) E E) (N (a3 P) E E))))
def A1(P:aL):List Obj:=[tu [.type "Exception"],bu [.builtin "type.__prepare__",.type "type"],dl P [kv P "__module__" 200 (.str "basicplus.values" 187),kv P "__qualname__" 202 (.str "BasicError" 201),kv P "__firstlineno__" 204 (.int (4) 203),kr P "__init__" 215 31,kr P "__static_attributes__" 218 32,kr P "__classcell__" 219 18] 6,⟨.type "cell",none,.cell (some (.ref 34)),#[]⟩,t0,lt [(6,4,30)],vg "BasicError" 195 4 0 19 198,fr 21 3 17 "basicplus.values" 187,ts 205 [""],tu [.ref 18],ts 209 ["__class__"],e0,ts 210 ["self","code","told"],t0,f0 (d_ 3 0) "BasicError.__init__",jI "__init__" "BasicError.__init__" 206 6 3 25 213,⟨.type "function",none,.func (fd (d_ 3 0) "BasicError.__init__" [("__class__",18)] (.ref 23) (.none) (.none) (.str "basicplus.values" 187) none (.ref 30) (.ref 24) 3 0),#[]⟩,ts 216 ["code","told"],dl P [kv P "__module__" 200 (.str "basicplus.values" 187),kv P "__firstlineno__" 204 (.int (4) 203),kr P "__init__" 215 31,kr P "__static_attributes__" 218 32,kr P "__weakref__" 221 35,kv P "__doc__" 222 .none] 4,⟨.type "type",none,.cls ({name:="BasicError",bases:=[.type "Exception"],mro:=[.ref 34,.type "Exception",.type "BaseException",.type "object"],ns:=33,qualname:="BasicError",hasDict:=true,slotNames:=[],subclasses:=[],abstract:=false,collection:=none,hasDel:=false}),#[(some (.ref 15)),none,(some (.str "BasicError" 193)),(some (.str "BasicError" 201)),(some (.builtin "Exception.__new__")),(some (.bool true))]⟩,ge [.str "__weakref__" 220,.ref 34,.builtin "ExceptionGroup.__weakref__",.none],su 34,bu [.builtin "object.__init_subclass__",.ref 34],t0,e0,ts 230 ["value"],t0,bB 4,bK "kind_of" 227 10 1 38 231,bC 4 nH 43,t0,e0,ts 237 ["number","many","bound"],t0,bB 5,bK "figures_of" 234 14 1 45 240,bC 5 nH 50,t0,e0,ts 246 ["number","places","unit","found","rest"],t0,bB 6,bK "rounded_by" 243 20 2 52 251,bC 6 nH 57]
def T1(P:aL):BT:=(iL (iL (iL (T0 P) 2 [a4 P,a5 P]) 12 [a6 P]) 15 (A1 P))
def A2(P:aL):List Obj:=[t0,e0,ts 257 ["coefficient","exponent","digits","size","more","first"],t0,bB 7,bK "made" 254 30 3 59 263,bC 7 nH 64,t0,e0,ts 269 ["value","coefficient","exponent","size"],t0,bB 8,bK "whole_near" 266 45 1 66 273,bC 8 nH 71,t0,e0,ts 279 ["number","bits"],t0,bB 9,bK "fits" 276 51 2 73 281,bC 9 nH 78,t0,e0,ts 287 ["value","bits","number"],t0,bB 10,bK "whole_of" 284 53 2 80 290,bC 10 nH 85,t0,e0,ts 296 ["value","digits"],t0,bB 11,bK "decimal_of" 293 60 2 87 298,bC 11 nH 92,t0,e0,ts 304 ["text"],t0,bB 12,bK "checked_text" 301 64 1 94 305,bC 12 nH 99,t0,e0,ts 311 ["value"],t0,bB 13,bK "is_nought" 308 68 1 101 312,bC 13 nH 106,t0,e0,ts 318 ["value"],t0,bB 14,bK "is_true" 315 72 1 108 319,bC 14 nH 113,t0,e0,ts 325 ["is_so"],t0,bB 15,bK "truth" 322 74 1 115 326,bC 15 nH 120,tu [.int (1) 331,.int (0) 332],t0,e0,ts 339 ["a"],t0,bB 19,bK "d_negated" 336 79 1 123 340,bC 19 qg 128,t0,e0,ts 346 ["a","b","least"],t0,bB 20,bK "alike" 343 81 2 130 349,bC 20 qg 135,t0,e0,ts 355 ["a","b","digits","one","other","exponent"],t0,bB 21,bK "d_add" 352 84 3 137 361,bC 21 qg 142]
def T2(P:aL):BT:=(iL (iL (iL (T1 P) 3 [ait P]) 12 [aiu P]) 59 (A2 P))
def A3(P:aL):List Obj:=[t0,e0,ts 367 ["a","b","digits"],t0,bB 22,bK "d_sub" 364 87 3 144 370,bC 22 qg 149,t0,e0,ts 376 ["a","b","digits"],t0,bB 23,bK "d_mul" 373 89 3 151 379,bC 23 qg 156,t0,e0,ts 385 ["whole","rest","exponent"],t0,bB 24,bK "with_rest" 382 91 3 158 388,bC 24 qg 163,t0,e0,ts 394 ["a","b","digits","size","below","places","whole","exponent"],t0,bB 25,bK "d_div" 391 93 3 165 402,bC 25 qg 170,t0,e0,ts 408 ["a","b","one","other","exponent"],t0,bB 26,bK "d_compare" 405 101 2 172 413,bC 26 qg 177,t0,e0,ts 419 ["a","n","digits","work","found","left"],t0,bB 27,bK "d_power" 416 104 3 179 425,bC 27 qg 184,t0,e0,ts 431 ["a","work"],t0,bB 28,bK "square_or_end" 428 118 2 186 433,bC 28 qg 191,t0,e0,ts 441 ["value"],t0,bB 30,bK "is_whole" 438 121 1 193 442,bC 30 mr 198,t0,e0,ts 448 ["number","bits","digits"],t0,bB 31,bK "settled" 445 125 3 200 451,bC 31 mr 205,t0,e0,ts 457 ["op","a","b","bits","digits"],t0,bB 32,bK "whole_reckoned" 454 127 5 207 462,bC 32 mr 212,t0,e0,ts 468 ["a","b","found"],t0,bB 33,bK "cut_quotient" 465 131 2 214 471,bC 33 mr 219,t0,e0,ts 477 ["a","b"],t0,bB 34,bK "cut_rest" 474 136 2 221 479,bC 34 mr 226]
def T3(P:aL):BT:=(iL (iL (iL (T2 P) 3 [aiv P]) 12 [aiw P]) 144 (A3 P))
def A4(P:aL):List Obj:=[t0,e0,ts 485 ["value"],t0,bB 35,bK "exponent_of" 482 138 1 228 486,bC 35 mr 233,t0,e0,ts 492 ["a","n","bits","digits"],t0,bB 36,bK "whole_power" 489 144 4 235 496,bC 36 mr 240,t0,e0,ts 502 ["a","b","bits","digits","n"],t0,bB 37,bK "raised" 499 150 4 242 507,bC 37 mr 247,t0,e0,ts 513 ["op","a","b","bits","digits","is_first","is_second","work","one","other"],t0,bB 38,bK "reckoned" 510 155 5 249 523,bC 38 mr 254,t0,e0,ts 529 ["a","bits","digits"],t0,bB 39,bK "negated" 526 170 3 256 532,bC 39 mr 261,t0,e0,ts 538 ["a","b"],t0,bB 40,bK "order_of" 535 172 2 263 540,bC 40 mr 268,t0,e0,ts 546 ["a","bits"],t0,bB 41,bK "inverted" 543 178 2 270 548,bC 41 mr 275,t0,e0,ts 554 ["op","a","b","bits","one","other"],t0,bB 42,bK "logic" 551 180 4 277 560,bC 42 mr 282,ts 565 ["AND","OR","XOR","EQV","IMP"],ts 571 ["=","<>","<",">","<=",">="],t0,e0,ts 581 ["one","other"],t0,bB 46,bK "order_of_texts" 578 192 2 286 583,bC 46 x7 291,t0,e0,ts 589 ["op","order"],t0,bB 47,bK "compared" 586 194 2 293 591,bC 47 x7 298,t0,e0,ts 597 ["op","one","other"],t0,bB 48,bK "worth_of_texts" 594 200 3 300 600,bC 48 x7 305]
def T4(P:aL):BT:=(iL (iL (iL (T3 P) 3 [aix P]) 12 [aiy P]) 228 (A4 P))
def A5(P:aL):List Obj:=[t0,e0,bB 49,x6 "worth_of_two" 603 206 5 307 606,bC 49 x7 310,t0,e0,ts 612 ["op","value","bits","digits"],t0,bB 50,bK "worth_of_one" 609 217 4 312 616,bC 50 x7 317,t0,e0,ts 622 ["tree","bits","digits","kind","value"],t0,bB 51,bK "worth_of_leaf" 619 221 3 319 627,bC 51 x7 324,ts 632 ["whole","decimal","text"],t0,bu [.builtin "type.__prepare__",.type "type"],dl P [kv P "__module__" 643 (.str "basicplus.rowcode" 630),kv P "__qualname__" 645 (.str "RowCode" 644),kv P "__firstlineno__" 647 (.int (228) 646),kr P "__init__" 656 340,kr P "__static_attributes__" 659 341] 5,t0,lt [(230,4,339)],vg "RowCode" 638 228 0 330 641,fr 332 3 329 "basicplus.rowcode" 630,t0,e0,ts 651 ["self","orders","starts"],t0,f0 (d_ 54 0) "RowCode.__init__",jI "__init__" "RowCode.__init__" 648 230 3 334 654,f1 (d_ 54 0) "RowCode.__init__" vi 339,ts 657 ["orders","starts"],dl P [kv P "__module__" 643 (.str "basicplus.rowcode" 630),kv P "__firstlineno__" 647 (.int (228) 646),kr P "__init__" 656 340,kr P "__static_attributes__" 659 341,kr P "__dict__" 661 344,kr P "__weakref__" 663 345,kv P "__doc__" 664 .none] 4,cl "RowCode" 343 342 636 644,ge [.str "__dict__" 660,.ref 343,.builtin "function.__dict__",.builtin "function.__dict__#set"],ge [.str "__weakref__" 662,.ref 343,.builtin "ExceptionGroup.__weakref__",.none],su 343,bu [.builtin "object.__init_subclass__",.ref 343],t0,e0,ts 670 ["tree","bits","digits"],t0,bB 55,bK "leaf_order" 667 233 3 348 673,bC 55 vi 353]
def T5(P:aL):BT:=(iL (iL (iL (T4 P) 3 [aiz P]) 12 [aiA P]) 307 (A5 P))
def A6(P:aL):List Obj:=[t0,e0,ts 679 ["tree","bits","digits","found","waiting","part","kind"],t0,bB 56,bK "expression_orders" 676 238 3 355 686,bC 56 vi 360,t0,e0,ts 692 ["target","value","bits","digits","found","sub"],t0,bB 57,bK "target_orders" 689 258 4 362 698,bC 57 vi 367,t0,e0,ts 704 ["flat","at","bits","digits","line","statement","word"],t0,bB 58,bK "row_orders" 701 265 4 369 711,bC 58 vi 374,t0,e0,ts 717 ["orders","starts","end","found","order"],t0,bB 59,bK "led_to" 714 279 3 376 722,bC 59 vi 381,t0,e0,ts 728 ["flat","bits","digits","orders","starts","at","end"],t0,bB 60,bK "compile_rows" 725 286 3 383 735,bC 60 vi 388,t0,e0,ts 743 ["order","parts","bits","digits"],t0,bB 62,bK "folded" 740 294 4 390 747,bC 62 oV 395,t0,e0,ts 753 ["code","found","place","order"],t0,bB 63,bK "goals_of" 750 301 1 397 757,bC 63 oV 402,t0,e0,bB 64,x6 "moved_orders" 760 309 3 404 763,bC 64 oV 407,t0,e0,bB 65,x6 "fold_values" 766 316 3 409 769,bC 65 oV 412,t0,e0,ts 775 ["code","goals","found","lead","place","order","ahead","is_known"],t0,bB 66,bK "known_tests" 772 332 1 414 783,bC 66 oV 419,t0,e0,ts 789 ["orders","place","seen"],t0,bB 67,bK "last_goal" 786 346 2 421 792,bC 67 oV 426,t0,e0,ts 798 ["code","found","order"],t0,bB 68,bK "thread_jumps" 795 352 1 428 801,bC 68 oV 433]
def T6(P:aL):BT:=(iL (iL (iL (T5 P) 3 [aiB P]) 12 [aiC P]) 355 (A6 P))
def A7(P:aL):List Obj:=[t0,e0,bB 69,x6 "rows_left" 804 359 2 435 807,bC 69 oV 438,t0,e0,bB 70,x6 "drop_rows" 810 370 2 440 813,bC 70 oV 443,t0,e0,ts 819 ["code","found","values","known","order","key"],t0,bB 71,bK "pooled" 816 382 1 445 825,bC 71 oV 450,t0,e0,ts 831 ["flat","code","bits","digits"],t0,bB 72,bK "improved" 828 393 4 452 835,bC 72 oV 457,t0,bu [.builtin "type.__prepare__",.type "type"],dl P [kv P "__module__" 847 (.str "basicplus.flatten" 838),kv P "__qualname__" 849 (.str "Flat" 848),kv P "__firstlineno__" 851 (.int (397) 850),kr P "__init__" 858 472,kr P "__static_attributes__" 865 473] 5,t0,lt [(399,4,471)],vg "Flat" 842 397 0 462 845,fr 464 3 461 "basicplus.flatten" 838,t0,e0,ts 855 ["self"],t0,f0 (d_ 74 0) "Flat.__init__",jI "__init__" "Flat.__init__" 852 399 1 466 856,f1 (d_ 74 0) "Flat.__init__" tK 471,ts 859 ["data","fns","loops","pairs","places","rows"],dl P [kv P "__module__" 847 (.str "basicplus.flatten" 838),kv P "__firstlineno__" 851 (.int (397) 850),kr P "__init__" 858 472,kr P "__static_attributes__" 865 473,kr P "__dict__" 867 476,kr P "__weakref__" 869 477,kv P "__doc__" 870 .none] 4,cl "Flat" 475 474 840 848,ge [.str "__dict__" 866,.ref 475,.builtin "function.__dict__",.builtin "function.__dict__#set"],ge [.str "__weakref__" 868,.ref 475,.builtin "ExceptionGroup.__weakref__",.none],su 475,bu [.builtin "object.__init_subclass__",.ref 475],t0,e0,ts 876 ["flat","line","statement"],t0,bB 75,bK "put_row_of" 873 406 3 480 879,bC 75 tK 485]
def T7(P:aL):BT:=(iL (iL (iL (T6 P) 3 [aiD P]) 12 [aiE P]) 435 (A7 P))
def A8(P:aL):List Obj:=[t0,e0,ts 885 ["flat","line","statement","test","skip"],t0,bB 76,bK "put_if" 882 409 3 487 890,bC 76 tK 492,t0,e0,ts 896 ["flat","line","statements","statement"],t0,bB 77,bK "put_all" 893 419 3 494 900,bC 77 tK 499,t0,e0,ts 906 ["flat","whiles","fors","heads","at","pair","line","statement","word","text"],t0,bB 78,bK "gather" 903 425 1 501 916,bC 78 tK 506,t0,e0,ts 922 ["flat","open_rows","at","begin"],t0,bB 79,bK "join_rows" 919 447 3 508 926,bC 79 tK 513,t0,e0,ts 932 ["flat","fors","at","many","which"],t0,bB 80,bK "end_loops" 929 452 4 515 937,bC 80 tK 520,t0,e0,ts 943 ["parsed","flat","line","statements"],t0,bB 81,bK "flatten" 940 456 1 522 947,bC 81 tK 527]
def T8(P:aL):BT:=(iL (iL (iL (T7 P) 3 [aiF P]) 12 [aiG P]) 487 (A8 P))
def A9(P:aL):List Obj:=[t0,bu [.builtin "type.__prepare__",.type "type"],dl P [kv P "__module__" 959 (.str "basicplus.hooks" 950),kv P "__qualname__" 961 (.str "PlainHooks" 960),kv P "__firstlineno__" 963 (.int (466) 962),kr P "__init__" 973 542,kr P "value_of_name" 981 549,kr P "told" 992 556,kr P "item_of" 1001 563,kr P "call" 1010 570,kr P "fn" 1019 577,kr P "__static_attributes__" 1024 578] 10,t0,lt [(468,4,541),(474,4,548),(480,4,555),(487,4,562),(490,4,569),(493,4,576)],vg "PlainHooks" 954 466 0 532 957,fr 534 3 531 "basicplus.hooks" 950,t0,e0,ts 967 ["self","values","bits","digits"],t0,f0 (d_ 83 0) "PlainHooks.__init__",jI "__init__" "PlainHooks.__init__" 964 468 4 536 971,f1 (d_ 83 0) "PlainHooks.__init__" x8 541,t0,e0,ts 977 ["self","word"],t0,f0 (d_ 83 1) "PlainHooks.value_of_name",jI "value_of_name" "PlainHooks.value_of_name" 974 474 2 543 979,f1 (d_ 83 1) "PlainHooks.value_of_name" x8 548,t0,e0,ts 985 ["self","word","args","code","key"],t0,f0 (d_ 83 2) "PlainHooks.told",jI "told" "PlainHooks.told" 982 480 4 550 990,f1 (d_ 83 2) "PlainHooks.told" x8 555,t0,e0,ts 996 ["self","word","subs"],t0,f0 (d_ 83 3) "PlainHooks.item_of",jI "item_of" "PlainHooks.item_of" 993 487 3 557 999,f1 (d_ 83 3) "PlainHooks.item_of" x8 562,t0,e0,ts 1005 ["self","word","args"],t0,f0 (d_ 83 4) "PlainHooks.call",jI "call" "PlainHooks.call" 1002 490 3 564 1008,f1 (d_ 83 4) "PlainHooks.call" x8 569,t0,e0,ts 1014 ["self","word","args"],t0,f0 (d_ 83 5) "PlainHooks.fn",jI "fn" "PlainHooks.fn" 1011 493 3 571 1017,f1 (d_ 83 5) "PlainHooks.fn" x8 576,ts 1020 ["asked","bits","digits","values"],dl P [kv P "__module__" 959 (.str "basicplus.hooks" 950),kv P "__firstlineno__" 963 (.int (466) 962),kr P "__init__" 973 542,kr P "value_of_name" 981 549,kr P "told" 992 556,kr P "item_of" 1001 563,kr P "call" 1010 570,kr P "fn" 1019 577,kr P "__static_attributes__" 1024 578,kr P "__dict__" 1026 581,kr P "__weakref__" 1028 582,kv P "__doc__" 1029 .none] 4,cl "PlainHooks" 580 579 952 960,ge [.str "__dict__" 1025,.ref 580,.builtin "function.__dict__",.builtin "function.__dict__#set"],ge [.str "__weakref__" 1027,.ref 580,.builtin "ExceptionGroup.__weakref__",.none],su 580,bu [.builtin "object.__init_subclass__",.ref 580]]
def T9(P:aL):BT:=(iL (iL (iL (T8 P) 3 [aiH P]) 12 [aiI P]) 529 (A9 P))
def VD(P:aL):List Obj:=[t0,bu [.builtin "type.__prepare__",.type "type"],dl P [kv P "__module__" 1041 (.str "basicplus.rowrun" 1032),kv P "__qualname__" 1043 (.str "RowWays" 1042),kv P "__firstlineno__" 1045 (.int (496) 1044),kr P "__init__" 1057 598,kr P "__static_attributes__" 1063 599] 5,t0,lt [(498,4,597)],vg "RowWays" 1036 496 0 588 1039,fr 590 3 587 "basicplus.rowrun" 1032,t0,e0,ts 1049 ["self","begin","store","put","do","led"],t0,f0 (d_ 85 0) "RowWays.__init__",jI "__init__" "RowWays.__init__" 1046 498 6 592 1055,f1 (d_ 85 0) "RowWays.__init__" vh 597,ts 1058 ["begin","do","led","put","store"],dl P [kv P "__module__" 1041 (.str "basicplus.rowrun" 1032),kv P "__firstlineno__" 1045 (.int (496) 1044),kr P "__init__" 1057 598,kr P "__static_attributes__" 1063 599,kr P "__dict__" 1065 602,kr P "__weakref__" 1067 603,kv P "__doc__" 1068 .none] 4,cl "RowWays" 601 600 1034 1042,ge [.str "__dict__" 1064,.ref 601,.builtin "function.__dict__",.builtin "function.__dict__#set"],ge [.str "__weakref__" 1066,.ref 601,.builtin "ExceptionGroup.__weakref__",.none],su 601,bu [.builtin "object.__init_subclass__",.ref 601]]
def x9(P:aL):BT:=(iL (iL (iL (T9 P) 3 [aiJ P]) 12 [aiK P]) 585 (VD P))
def VE(P:aL):List Obj:=[t0,bu [.builtin "type.__prepare__",.type "type"],dl P [kv P "__module__" 1078 (.str "basicplus.rowrun" 1032),kv P "__qualname__" 1080 (.str "RowRun" 1079),kv P "__firstlineno__" 1082 (.int (504) 1081),kr P "__init__" 1095 619,kr P "place_of" 1104 626,kr P "taken" 1114 633,kr P "go_from" 1125 640,kr P "done" 1140 647,kr P "value_of" 1152 654,kr P "__static_attributes__" 1161 655] 10,t0,lt [(506,4,618),(516,4,625),(520,4,632),(526,4,639),(536,4,646),(562,4,653)],vg "RowRun" 1073 504 0 609 1076,fr 611 3 608 "basicplus.rowrun" 1032,t0,e0,ts 1086 ["self","code","values","bits","digits","hooks","ways"],t0,f0 (d_ 86 0) "RowRun.__init__",jI "__init__" "RowRun.__init__" 1083 506 7 613 1093,f1 (d_ 86 0) "RowRun.__init__" vh 618,t0,e0,ts 1099 ["self","row","starts"],t0,f0 (d_ 86 1) "RowRun.place_of",jI "place_of" "RowRun.place_of" 1096 516 2 620 1102,f1 (d_ 86 1) "RowRun.place_of" vh 625,t0,e0,ts 1108 ["self","many","left","found"],t0,f0 (d_ 86 2) "RowRun.taken",jI "taken" "RowRun.taken" 1105 520 2 627 1112,f1 (d_ 86 2) "RowRun.taken" vh 632,t0,e0,ts 1118 ["self","row","place","wrong","led"],t0,f0 (d_ 86 3) "RowRun.go_from",jI "go_from" "RowRun.go_from" 1115 526 2 634 1123,f1 (d_ 86 3) "RowRun.go_from" vh 639,t0,e0,ts 1129 ["self","order","place","word","begin","do","store","value","put"],t0,f0 (d_ 86 4) "RowRun.done",jI "done" "RowRun.done" 1126 536 3 641 1138,f1 (d_ 86 4) "RowRun.done" vh 646,t0,e0,ts 1144 ["self","order","word","hooks","one","other"],t0,f0 (d_ 86 5) "RowRun.value_of",jI "value_of" "RowRun.value_of" 1141 562 2 648 1150,f1 (d_ 86 5) "RowRun.value_of" vh 653,ts 1153 ["bits","code","digits","hooks","pile","row","values","ways"],dl P [kv P "__module__" 1078 (.str "basicplus.rowrun" 1032),kv P "__firstlineno__" 1082 (.int (504) 1081),kr P "__init__" 1095 619,kr P "place_of" 1104 626,kr P "taken" 1114 633,kr P "go_from" 1125 640,kr P "done" 1140 647,kr P "value_of" 1152 654,kr P "__static_attributes__" 1161 655,kr P "__dict__" 1163 658,kr P "__weakref__" 1165 659,kv P "__doc__" 1166 .none] 4,cl "RowRun" 657 656 1071 1079,ge [.str "__dict__" 1162,.ref 657,.builtin "function.__dict__",.builtin "function.__dict__#set"],ge [.str "__weakref__" 1164,.ref 657,.builtin "ExceptionGroup.__weakref__",.none],su 657,bu [.builtin "object.__init_subclass__",.ref 657]]
def x_(P:aL):BT:=(iL (iL (iL (x9 P) 3 [aiL P]) 12 [aiM P]) 606 (VE P))
def VF(P:aL):List Obj:=[t0,e0,ts 1174 ["case","limit"],t0,bB 88,bK "_law_number" 1171 583 2 662 1176,bC 88 Bj 667,t0,e0,ts 1182 ["case","form","number"],t0,bB 89,bK "_law_tree" 1179 588 1 669 1185,bC 89 Bj 674,t0,e0,ts 1191 ["case","at","many","form","goal"],t0,bB 90,bK "_law_row" 1188 601 3 676 1196,bC 90 Bj 681,t0,e0,ts 1202 ["code","values","led","ways","wrong"],ts 1207 ["told"],bB 91,bK "_law_gone" 1199 612 2 683 1208,bC 91 Bj 688,t0,e0,bB 92,x6 "law" 1211 623 1 690 1214,bC 92 Bj 693]
def Ll(P:aL):BT:=(iL (iL (iL (x_ P) 3 [VB P]) 12 [VC P]) 662 (VF P))
noncomputable def fE:Env:={scope:=cB.main.scope,locals:=mainNs,globals:=mainNs,cells:=[],code:=.ref 13,frame:=some 14}
def cE:Code:=.body bd fE
noncomputable def B1:List Frame:=[topFrame default]
noncomputable def dr:Drawn:={}
def r0:List Stmt:=bd
def r1:List Stmt:=r0.drop 7
theorem p1 w os:mq e8 cB w 11 (some (.ref 6)) 1 369 ⟨T0 w.params,15,{},#[],dr,187,os⟩ (nf (r0.take 7) fE cE ⟨0,0,0,0⟩ B1)=some (.next,⟨T1 w.params,59,{},#[],dr,254,os⟩,cE,⟨20,0,29,16⟩):=ak
def r2:List Stmt:=r1.drop 15
theorem p2 w os:mq e8 cB w 11 (some (.ref 6)) 1 398 ⟨T1 w.params,59,{},#[],dr,254,os⟩ (nf (r1.take 15) fE cE ⟨20,0,29,16⟩ B1)=some (.next,⟨T2 w.params,144,{},#[],dr,364,os⟩,cE,⟨84,0,86,46⟩):=ak
def r3:List Stmt:=r2.drop 13
theorem p3 w os:mq e8 cB w 11 (some (.ref 6)) 1 390 ⟨T2 w.params,144,{},#[],dr,364,os⟩ (nf (r2.take 13) fE cE ⟨84,0,86,46⟩ B1)=some (.next,⟨T3 w.params,228,{},#[],dr,482,os⟩,cE,⟨136,0,137,37⟩):=ak
def r4:List Stmt:=r3.drop 14
theorem p4 w os:mq e8 cB w 11 (some (.ref 6)) 1 389 ⟨T3 w.params,228,{},#[],dr,482,os⟩ (nf (r3.take 14) fE cE ⟨136,0,137,37⟩ B1)=some (.next,⟨T4 w.params,307,{},#[],dr,603,os⟩,cE,⟨200,0,205,36⟩):=ak
def r5:List Stmt:=r4.drop 7
theorem p5 w os:mq e8 cB w 11 (some (.ref 6)) 1 369 ⟨T4 w.params,307,{},#[],dr,603,os⟩ (nf (r4.take 7) fE cE ⟨200,0,205,36⟩ B1)=some (.next,⟨T5 w.params,355,{},#[],dr,676,os⟩,cE,⟨233,0,237,29⟩):=ak
def r6:List Stmt:=r5.drop 13
theorem p6 w os:mq e8 cB w 11 (some (.ref 6)) 1 396 ⟨T5 w.params,355,{},#[],dr,676,os⟩ (nf (r5.take 13) fE cE ⟨233,0,237,29⟩ B1)=some (.next,⟨T6 w.params,435,{},#[],dr,804,os⟩,cE,⟨352,0,358,38⟩):=ak
def r7:List Stmt:=r6.drop 7
theorem p7 w os:mq e8 cB w 11 (some (.ref 6)) 1 385 ⟨T6 w.params,435,{},#[],dr,804,os⟩ (nf (r6.take 7) fE cE ⟨352,0,358,38⟩ B1)=some (.next,⟨T7 w.params,487,{},#[],dr,882,os⟩,cE,⟨406,0,408,29⟩):=ak
def r8:List Stmt:=r7.drop 7
theorem p8 w os:mq e8 cB w 11 (some (.ref 6)) 1 210 ⟨T7 w.params,487,{},#[],dr,882,os⟩ (nf (r7.take 7) fE cE ⟨406,0,408,29⟩ B1)=some (.next,⟨T8 w.params,529,{},#[],dr,952,os⟩,cE,⟨465,0,465,8⟩):=ak
def r9:List Stmt:=r8.drop 1
theorem p9 w os:mq e8 cB w 11 (some (.ref 6)) 1 394 ⟨T8 w.params,529,{},#[],dr,952,os⟩ (nf (r8.take 1) fE cE ⟨465,0,465,8⟩ B1)=some (.next,⟨T9 w.params,585,{},#[],dr,1032,os⟩,cE,⟨466,0,494,42⟩):=ak
def Bk:List Stmt:=r9.drop 2
theorem aiN w os:mq e8 cB w 11 (some (.ref 6)) 1 240 ⟨T9 w.params,585,{},#[],dr,1032,os⟩ (nf (r9.take 2) fE cE ⟨466,0,494,42⟩ B1)=some (.next,⟨x9 w.params,606,{},#[],dr,1071,os⟩,cE,⟨496,0,503,22⟩):=ak
def Bl:List Stmt:=Bk.drop 1
theorem aiO w os:mq e8 cB w 11 (some (.ref 6)) 1 412 ⟨x9 w.params,606,{},#[],dr,1071,os⟩ (nf (Bk.take 1) fE cE ⟨496,0,503,22⟩ B1)=some (.next,⟨x_ w.params,662,{},#[],dr,1169,os⟩,cE,⟨504,0,581,73⟩):=ak
def aiP:List Stmt:=Bl.drop 6
theorem aiQ w os:mq e8 cB w 11 (some (.ref 6)) 1 164 ⟨x_ w.params,662,{},#[],dr,1169,os⟩ (nf (Bl.take 6) fE cE ⟨504,0,581,73⟩ B1)=some (.next,⟨Ll w.params,695,{},#[],dr,1217,os⟩,cE,⟨623,0,649,119⟩):=ak
def HL(P:aL):List Obj:=[boot_o_0 P,boot_o_1 P,a4 P,VB P,boot_o_4 P,boot_o_5 P,boot_o_6 P,boot_o_7 P,boot_o_8 P,boot_o_9 P,boot_o_10 P,a0 P,VC P,a2 P,a3 P]++(A1 P++(A2 P++(A3 P++(A4 P++(A5 P++(A6 P++(A7 P++(A8 P++(A9 P++(VD P++(VE P++(VF P))))))))))))
def H1(P:aL):Heap:=⟨⟨HL P⟩,{}⟩
def SS(T:BT)(n t:Nat)(os:sE):SharedT:=⟨T,n,{},#[],dr,t,os⟩
theorem aiR w os:topGo e8 cB w 11 (some (.ref 6)) 12 ⟨oB w.params,zx [],Ds,Du,os⟩ (topStub cB)=some ((SS (T0 w.params) 15 187 os).abs,⟨denote e8 cE,cE,⟨0,0,0,0⟩,B1⟩):=ak
theorem aiS w os:segRun e8 cB w 11 (some (.ref 6)) 1 1 (SS (T0 w.params) 15 187 os).abs (blockOf bd fE cE ⟨0,0,0,0⟩ B1)=some (.next,(SS (T0 w.params) 15 187 os).abs,cE,⟨0,0,0,0⟩):=ak
theorem Lm w os:lh e8 cB w 11 (some (.ref 6)) 2 (SS (Ll w.params) 695 1217 os).abs (l8 aiP fE cE ⟨623,0,649,119⟩ B1)=some ⟨H1 w.params,#[],dr,1217,os⟩:=ak
theorem nJ:segRunT=mq:=Y1
theorem aiT:Hq=e8:=Y2
theorem aiU w os:lh e8 cB w 11 (some (.ref 6)) (164+2) (SS (x_ w.params) 662 1169 os).abs (l8 Bl fE cE ⟨504,0,581,73⟩ B1)=some ⟨H1 w.params,#[],dr,1217,os⟩:=by have h:=m_ (l:=Bl.take 6) (rest:=Bl.drop 6) (q:=default) (nc (s:=SS (x_ w.params) 662 1169 os) (s':=SS (Ll w.params) 695 1217 os) (by rw[nJ];exact aiQ w os)) (Lm w os);rw[jB]at h;exact h
theorem aiV w os:lh e8 cB w 11 (some (.ref 6)) (412+166) (SS (x9 w.params) 606 1071 os).abs (l8 Bk fE cE ⟨496,0,503,22⟩ B1)=some ⟨H1 w.params,#[],dr,1217,os⟩:=by have h:=m_ (l:=Bk.take 1) (rest:=Bk.drop 1) (q:=default) (nc (s:=SS (x9 w.params) 606 1071 os) (s':=SS (x_ w.params) 662 1169 os) (by rw[nJ];exact aiO w os)) (aiU w os);rw[jB]at h;exact h
theorem aiW w os:lh e8 cB w 11 (some (.ref 6)) (240+578) (SS (T9 w.params) 585 1032 os).abs (l8 r9 fE cE ⟨466,0,494,42⟩ B1)=some ⟨H1 w.params,#[],dr,1217,os⟩:=by have h:=m_ (l:=r9.take 2) (rest:=r9.drop 2) (q:=default) (nc (s:=SS (T9 w.params) 585 1032 os) (s':=SS (x9 w.params) 606 1071 os) (by rw[nJ];exact aiN w os)) (aiV w os);rw[jB]at h;exact h
theorem c9 w os:lh e8 cB w 11 (some (.ref 6)) (394+818) (SS (T8 w.params) 529 952 os).abs (l8 r8 fE cE ⟨465,0,465,8⟩ B1)=some ⟨H1 w.params,#[],dr,1217,os⟩:=by have h:=m_ (l:=r8.take 1) (rest:=r8.drop 1) (q:=default) (nc (s:=SS (T8 w.params) 529 952 os) (s':=SS (T9 w.params) 585 1032 os) (by rw[nJ];exact p9 w os)) (aiW w os);rw[jB]at h;exact h
theorem c8 w os:lh e8 cB w 11 (some (.ref 6)) (210+1212) (SS (T7 w.params) 487 882 os).abs (l8 r7 fE cE ⟨406,0,408,29⟩ B1)=some ⟨H1 w.params,#[],dr,1217,os⟩:=by have h:=m_ (l:=r7.take 7) (rest:=r7.drop 7) (q:=default) (nc (s:=SS (T7 w.params) 487 882 os) (s':=SS (T8 w.params) 529 952 os) (by rw[nJ];exact p8 w os)) (c9 w os);rw[jB]at h;exact h
theorem c7 w os:lh e8 cB w 11 (some (.ref 6)) (385+1422) (SS (T6 w.params) 435 804 os).abs (l8 r6 fE cE ⟨352,0,358,38⟩ B1)=some ⟨H1 w.params,#[],dr,1217,os⟩:=by have h:=m_ (l:=r6.take 7) (rest:=r6.drop 7) (q:=default) (nc (s:=SS (T6 w.params) 435 804 os) (s':=SS (T7 w.params) 487 882 os) (by rw[nJ];exact p7 w os)) (c8 w os);rw[jB]at h;exact h
theorem c6 w os:lh e8 cB w 11 (some (.ref 6)) (396+1807) (SS (T5 w.params) 355 676 os).abs (l8 r5 fE cE ⟨233,0,237,29⟩ B1)=some ⟨H1 w.params,#[],dr,1217,os⟩:=by have h:=m_ (l:=r5.take 13) (rest:=r5.drop 13) (q:=default) (nc (s:=SS (T5 w.params) 355 676 os) (s':=SS (T6 w.params) 435 804 os) (by rw[nJ];exact p6 w os)) (c7 w os);rw[jB]at h;exact h
theorem c5 w os:lh e8 cB w 11 (some (.ref 6)) (369+2203) (SS (T4 w.params) 307 603 os).abs (l8 r4 fE cE ⟨200,0,205,36⟩ B1)=some ⟨H1 w.params,#[],dr,1217,os⟩:=by have h:=m_ (l:=r4.take 7) (rest:=r4.drop 7) (q:=default) (nc (s:=SS (T4 w.params) 307 603 os) (s':=SS (T5 w.params) 355 676 os) (by rw[nJ];exact p5 w os)) (c6 w os);rw[jB]at h;exact h
theorem c4 w os:lh e8 cB w 11 (some (.ref 6)) (389+2572) (SS (T3 w.params) 228 482 os).abs (l8 r3 fE cE ⟨136,0,137,37⟩ B1)=some ⟨H1 w.params,#[],dr,1217,os⟩:=by have h:=m_ (l:=r3.take 14) (rest:=r3.drop 14) (q:=default) (nc (s:=SS (T3 w.params) 228 482 os) (s':=SS (T4 w.params) 307 603 os) (by rw[nJ];exact p4 w os)) (c5 w os);rw[jB]at h;exact h
theorem c3 w os:lh e8 cB w 11 (some (.ref 6)) (390+2961) (SS (T2 w.params) 144 364 os).abs (l8 r2 fE cE ⟨84,0,86,46⟩ B1)=some ⟨H1 w.params,#[],dr,1217,os⟩:=by have h:=m_ (l:=r2.take 13) (rest:=r2.drop 13) (q:=default) (nc (s:=SS (T2 w.params) 144 364 os) (s':=SS (T3 w.params) 228 482 os) (by rw[nJ];exact p3 w os)) (c4 w os);rw[jB]at h;exact h
theorem c2 w os:lh e8 cB w 11 (some (.ref 6)) (398+3351) (SS (T1 w.params) 59 254 os).abs (l8 r1 fE cE ⟨20,0,29,16⟩ B1)=some ⟨H1 w.params,#[],dr,1217,os⟩:=by have h:=m_ (l:=r1.take 15) (rest:=r1.drop 15) (q:=default) (nc (s:=SS (T1 w.params) 59 254 os) (s':=SS (T2 w.params) 144 364 os) (by rw[nJ];exact p2 w os)) (c3 w os);rw[jB]at h;exact h
theorem c1 w os:lh e8 cB w 11 (some (.ref 6)) (369+3749) (SS (T0 w.params) 15 187 os).abs (l8 r0 fE cE ⟨0,0,0,0⟩ B1)=some ⟨H1 w.params,#[],dr,1217,os⟩:=by have h:=m_ (l:=r0.take 7) (rest:=r0.drop 7) (q:=default) (nc (s:=SS (T0 w.params) 15 187 os) (s':=SS (T1 w.params) 59 254 os) (by rw[nJ];exact p1 w os)) (c2 w os);rw[jB]at h;exact h
theorem run w os:lh Hq cB w 11 (some (.ref 6)) 4131 ⟨oB w.params,zx [],Ds,Du,os⟩ (topStub cB)=some ⟨H1 w.params,#[],dr,1217,os⟩:=by rw[aiT];exact go_top (n:=12) (N:=1+4118) (aiR w os) (piece_block (q:=default) (aiS w os) (c1 w os))
def view:Program:={cB with main:={cB.main with body:=[st 1,st 2,st 3,st 4,st 5,st 6,st 7,st 8,st 9,st 10,st 11,st 12,st 13,st 14,st 15,st 17,st 18,st 19,st 20,st 21,st 22,st 23,st 24,st 25,st 26,st 27,st 28,st 30,st 31,st 32,st 33,st 34,st 35,st 36,st 37,st 38,st 39,st 40,st 41,st 42,st 44,st 45,st 46,st 47,st 48,st 49,st 50,st 51,st 53,st 54,st 55,st 56,st 57,st 58,st 59,st 60,st 62,st 63,st 64,st 65,st 66,st 67,st 68,st 69,st 70,st 71,st 72,st 74,st 75,st 76,st 77,st 78,st 79,st 80,st 81,st 83,st 85,st 86,st 88,st 89,st 90,st 91,st 92]}}
noncomputable def KA:List Nat:=[1,2,3,15,18,23,24,25,27,28,30,31,32,33,34,35,38,40,41,43,44,45,47,48,50,51,52,54,55,57,58,59,61,62,64,65,66,68,69,71,72,73,75,76,78,79,80,82,83,85,86,87,89,90,92,93,94,96,97,99,100,101,103,104,106,107,108,110,111,113,114,115,117,118,120,121,122,123,125,126,128,129,130,132,133,135,136,137,139,140,142,143,144,146,147,149,150,151,153,154,156,157,158,160,161,163,164,165,167,168,170,171,172,174,175,177,178,179,181,182,184,185,186,188,189,191,192,193,195,196,198,199,200,202,203,205,206,207,209,210,212,213,214,216,217,219,220,221,223,224,226,227,228,230,231,233,234,235,237,238,240,241,242,244,245,247,248,249,251,252,254,255,256,258,259,261,262,263,265,266,268,269,270,272,273,275,276,277,279,280,282,283,284,285,286,288,289,291,292,293,295,296,298,299,300,302,303,305,306,307,310,311,312,314,315,317,318,319,321,322,324,325,326,334,336,337,339,340,341,342,343,344,345,348,350,351,353,354,355,357,358,360,361,362,364,365,367,368,369,371,372,374,375,376,378,379,381,382,383,385,386,388,389,390,392,393,395,396,397,399,400,402,403,404,407,408,409,412,413,414,416,417,419,420,421,423,424,426,427,428,430,431,433,434,435,438,439,440,443,444,445,447,448,450,451,452,454,455,457,458,466,468,469,471,472,473,474,475,476,477,480,482,483,485,486,487,489,490,492,493,494,496,497,499,500,501,503,504,506,507,508,510,511,513,514,515,517,518,520,521,522,524,525,527,528,536,538,539,541,542,543,545,546,548,549,550,552,553,555,556,557,559,560,562,563,564,566,567,569,570,571,573,574,576,577,578,579,580,581,582,592,594,595,597,598,599,600,601,602,603,613,615,616,618,619,620,622,623,625,626,627,629,630,632,633,634,636,637,639,640,641,643,644,646,647,648,650,651,653,654,655,656,657,658,659,662,664,665,667,668,669,671,672,674,675,676,678,679,681,682,683,685,686,688,689,690,693,694]
def KF(P:aL):Frag:=KA.map λi=>(i,(HL P).getD i default)
theorem aiX P:KA=(KF P).map (·.1):=ak
abbrev HK:Hook:=kmHook KF KA aiX [684]
theorem aiY:∀w:d5,(fencedOpening Hq cB w 8334).map (λs=>(s.heap,s.gens,s.drawn,s.toks))=some (oB w.params,zx [],Ds,Du):=boot_open ak ai (λs=>by kernel_rfl)
theorem aiZ:∀w:d5,((oB w.params).isNs fK&&(zx []:Array GenState).size==0,(oB w.params).objs.size,(oB w.params).nsMap fK "__annotations__")=(true,11,some (.ref 6)):=λw=>by kernel_rfl
open PySem.PyData(keyHash)
noncomputable def kQ(w:d5)(h:a_):aR:=⟨cB,w,hideAll h [684],34,684⟩
def ip:FuncData:=Internal.fd (d_ 3 0) "BasicError.__init__" [("__class__",18)] (.ref 23) (.none) (.none) (.str "basicplus.values" 187) none (.ref 30) (.ref 24) 3 0
theorem ai0 P:(KF P).lookup 684=none:=ak
theorem k1 P:((KF P).lookup 1).isSome=true:=ak
theorem ya{K:d0}{α:Type}{f:Array lU->α}{x:α}(e:(tC K a).map f=some x):∃es,tC K a=some es/\f es=x:=sW.mp e
theorem k2 P:(tC (KF P) cStatics).map (λes=>(hX es "sys.recursionlimit",hX es "thirdparty.any"))=some (none,none):=ak
theorem k3 P:(tC (KF P) fK).map (λes=>(hX es "super",hX es "__builtins__"))=some (none,some (.ref 4)):=ak
theorem VG P:(tC (KF P) 33).map (λes=>(hX es "__getattribute__",hX es "__getattr__",hX es "code",hX es "told",hX es "__init__",hX es "__setattr__"))=some (none,none,none,none,some (.ref 31),none):=ak
theorem FC P:(KF P).lookup 34=some (Hf "BasicError" "BasicError" 34 33 [.type "Exception"] rh true [] [] false none none (some (.ref 15)) none (some (.str "BasicError" 193)) (some (.str "BasicError" 201)) (some (.bool true)) "Exception.__new__"):=ak
theorem ai1 P:(KF P).lookup 31=some ⟨.type "function",none,.func ip,#[]⟩:=ak
theorem VH P:(KF P).lookup 23=some ⟨.type "tuple",none,.seq #[.str "" 205] 0,#[]⟩:=ak
theorem VI:jz (.type "Exception") "code"=pure none:=by rw[wa,v8];kernel_rfl
theorem ai2:jz (.type "Exception") "told"=pure none:=by rw[wa,v8];kernel_rfl
theorem ai3 x v:∃k:Option (Array aa)->Sem (List (Str×aa)),y7 ip ⟨[x,v],[]⟩=seqItems? ip.defaults>>=k/\k (some #[.str "" 205])=pure [(("self":Str),x),("code",v),("told",.str "" 205)]:=⟨_,rfl,by kernel_rfl⟩
theorem ai4 x v w:∃k:Option (Array aa)->Sem (List (Str×aa)),y7 ip ⟨[x,v,w],[]⟩=seqItems? ip.defaults>>=k/\k (some #[.str "" 205])=pure [(("self":Str),x),("code",v),("told",w)]:=⟨_,rfl,by kernel_rfl⟩
theorem ai5 P:J0 (KF P) ip.code ip.qualname=true:=ak
theorem ai6:(ip.scope.names.all λx=>x.2 !=.cell)=true:=ak
theorem ai7:(ip.scope.names.lookup ("self":Str),ip.scope.names.lookup ("code":Str),ip.scope.names.lookup ("told":Str),ip.scope.names.lookup ("super":Str),ip.scope.names.lookup ("__class__":Str))=(some .local,some .local,some .local,some .globalImplicit,some .free):=ak
theorem ai8:(ip.scope.isCoroutine,ip.scope.isGenerator,ip.scope.kind)=(false,false,.function):=ak
theorem ai9:(cB.main.scope.names.lookup ("super":Str)).isSome=false:=ak
theorem ai_ P:(KF P).lookup 18=some ⟨.type "cell",none,.cell (some (.ref 34)),#[]⟩:=ak
theorem ai' P:nsIn (KF P) cStatics "thirdparty.any"=some none:=ak
theorem aja:((ip.params.posonlyargs++ip.params.args).head?).map (·.arg)=some ("self":Str):=ak
noncomputable def VJ(K:d0)(c:aj)(f:Str):Option Unit:=aU (K.lookup c) (λo=>EA o.data (λvs=>aU vs[2]? (λv=>vStr v (λf' _=>if(f==f')=true then some ()else none) none) none) none) none
theorem ajb P:VJ (KF P) 30 cB.main.file=some ():=ak
theorem ajc{K:d0}(X:K.In h){c:aj}{f:Str}(e:VJ K c f=some ()):∃oc vs fl tf,h.get? c=some oc/\oc.data=.fields vs/\vs[2]?=some (.str fl tf)/\(f==fl)=true:=by obtain⟨o,ho,e⟩:=bH e;obtain⟨vs,hd,e⟩:=S5 e;obtain⟨v,hv,e⟩:=bH e;obtain⟨fl,t,rfl,e⟩:=(EB e).resolve_right aE;exact⟨_,vs,fl,t,X _ _ ho,hd,hv,(cI e).1⟩
theorem ajd:∃p:Nat->Pos,ip.body=.stmts [Er p,uZ p "code" 7,uZ p "told" 11]/\((p 3).endLine==(p 5).line)=true:=⟨λi=>List.getD [default,_,_,_,_,_,_,_,_,_,_,_,_,_,_] i default,rfl,by kernel_rfl⟩
theorem aje(KI:(KF w.params).In (kQ w h).B){mb:Str->Option aa}(hb:(kQ w h).B.Ns hV mb)(FD:mb "super"=some (.type "super")):∃D F,oO (kQ w h) D F 31 ip:=by obtain⟨es,e1,e2⟩:=ya (VG w.params);simp only[wL]at e2;obtain⟨eg,g1,g2⟩:=ya (k3 w.params);simp only[wL]at g2;have nm:=ai7;simp only[wL]at nm;have kd:=ai8;simp only[wL]at kd;obtain⟨ar,h1,h2⟩:=sW.mp aja;obtain⟨oc,vs,fl,tf,q1,q2,q3,q4⟩:=ajc KI (ajb w.params);obtain⟨pp,y1,y2⟩:=ajd;exact⟨⟨_,_,_,_,_,_,_,_,_,_,_,_,_,_,hX es⟩,⟨_,18,ar,30,oc,vs,fl,tf,_,mb,pp⟩,{
 hC:=KI _ _ (FC _),hN:=EH KI e1,s8:=e2.2.2.2.2.1,sa:=e2.2.2.2.2.2,Si:=e2.2.2.1,Sj:=e2.2.2.2.1
 Et:=looks_opaque KI (ai' _),Sl:=VI,Sm:=ai2,hF:=KI _ _ (ai1 _),Sn:=rfl,JQ:=rfl,So:=J2 KI (ai5 _)
 b1:=λs x v k=>(ai3 x v).elim λkk h=>⟨205,Pq (T:=23) rfl (k _ _ (KI _ _ (VH _))) rfl h.1 h.2⟩
 b2:=λs x v w' k=>(ai4 x v w').elim λkk h=>Pq (T:=23) rfl (k _ _ (KI _ _ (VH _))) rfl h.1 h.2
 Sp:=λx hx=>bne_iff_ne.mp (jV.mp ai6 x hx)
 self:=nm.1,code:=nm.2.1,aB:=nm.2.2.1,sup:=nm.2.2.2.1,cl:=nm.2.2.2.2,co:=kd.1,gen:=kd.2.1,kind:=kd.2.2,gl:=rfl,bi:=rfl
 jE:=rfl,cell:=⟨_,KI _ _ (ai_ _),rfl⟩,head:=h1,arg:=h2,Sq:=rfl,Ss:=q1,Su:=q2,Sv:=q3,file:=q4
 top:=ai9,Sx:=EH KI g1,Sy:=hb,Sz:=g2.1,SD:=FD,body:=y1,line:=y2}⟩
theorem ajf(cD:(KF w.params).In h){mg mb:Str->Option aa}(hg:h.Ns fK mg)(hb:h.Ns hV mb)(FD:∀x:Str,x≠"__name__"->mb x=yZ x)(hm:∃bm ob,mg "__builtins__"=some (.ref bm)/\bm≠hV/\h.get? bm=some ob/\ob.cls=.type "module"/\ob.dict=some hV/\ob.data=.plain)(ajg:h.get? 684=some (wV #[])){ae:aj->Option (List V)}(hl:∀a l,ae a=some l->∃items,(kQ w h).B.IsList a items/\aQ (kQ w h).B [] l items.toList)(SO:Ey (kQ w h)):kO (kQ w h) (xM (KF w.params) Ay 684 34 "_law_gone" ae) (KF w.params):=by
 have hide:∀{b o},b≠684->h.get? b=some o->(kQ w h).B.get? b=some o:=λhb e=>hideAll_get [684] e (by simpa using hb);have KI:(KF w.params).In (kQ w h).B:=λa o e=>hide (λq=>by rw[q,ai0]at e;cases e) (cD a o e);have hN:∀{a:aj}{m:Str->Option aa},a≠684->h.Ns a m->(kQ w h).B.Ns a m:=by intro a m n x;obtain⟨o,es,ep,e,r⟩:=x;exact⟨o,es,ep,hide n e,r⟩
 have hB:=hN ai hb;have hG:=hN ai hg;obtain⟨es,e1,e2⟩:=ya (VG w.params);simp only[wL]at e2;obtain⟨f1,f2,f3,f4,f5,f6⟩:=e2;obtain⟨eg,g1,g2⟩:=ya (k3 w.params);obtain⟨ajh,c1,c2⟩:=ya (k2 w.params);simp only[wL]at c2;obtain⟨D,F,XC⟩:=aje KI hB (by rw[FD _ (by decide+kernel)];decide+kernel);obtain⟨o1,aji⟩:=HV.mp (k1 w.params);obtain⟨og,ajj,u1,u2,u3⟩:=J3 g1;exact{
  O:=⟨⟨o1,KI _ _ aji⟩,⟨hX ajh,EH KI c1,c2.1⟩⟩
  KI:=KI
  G:=aeF KI ⟨og,eg,ajj,u1,u2,u3⟩ hB (aeR FD)
  SA:=aeM KI ⟨⟨_,_,_,_,_,_,_,_,_,_,_,_,_,_,hX es⟩,KI _ _ (FC _),EH KI e1,f1,f2,f3,VI⟩
  SM:=aeJ KI
  SW:=aeN KI
  SL:=⟨hl⟩
  SF:=⟨rfl,λa f e=>aeH KI e,λa fi e _=>S_ KI e,λa fi e=>aeI KI e,λA Q E s k q=>by obtain⟨hh,g',d',t',pY⟩:=s;exact wpAny_keeperOf_exc (k _ _ (KI _ _ (FC _))) q,⟨D,F,31,ip,XC⟩⟩
  X:=⟨⟨_,_,_,_,_,_,_,_,_,_,_,_,_,_,_,_,_,KI _ _ (FC _),by decide⟩⟩
  TB:=by obtain⟨bm,ob,b1,b2,b3,b4,b5,b6⟩:=hm;exact⟨mg,bm,ob,hG,b1,b2,hide (λq=>by rw[q,ajg]at b3;cases b3;cases b4) b3,b4,b5,b6⟩
  SO:=SO}
abbrev cb(P:aL)(ae:aj->Option (List V)):cJ:=xM (KF P) Ay 684 34 "_law_gone" ae
abbrev AO(c:aR)(P:aL)(ae:aj->Option (List V)):Prop:=kO c (cb P ae) (KF P)
@[irreducible]def bc(P:aL)(a:aj):Fn:=(fnIn (KF P) 684 "_law_gone" a).getD ⟨⟨[],[],none,[],[],none,[]⟩,[],⟨.module,[],false,false,[]⟩,none⟩
abbrev bO(P:aL)(a:aj):List Stmt:=(bc P a).body
abbrev cO(P:aL)(a:aj):Scope:=(bc P a).sc
noncomputable def FE{α:Type}(st:bj)(f:aq->aq->List bj->List bj->Pos->α)(d:α):α:=if h:st.ctorIdx=9 then DB (motive_2:=λ_=>α) st h f else d
noncomputable def Ln{α:Type}(st:bj)(f:aq->List bj->List bj->Pos->α)(d:α):α:=if h:st.ctorIdx=11 then Pr (motive_2:=λ_=>α) st h f else d
def bP(st:bj):List Stmt:=FE st (λ_ _ b _ _=>b) (Ln st (λ_ b _ _=>b) [])
def d2(st:bj):Expr:=FE st (λt _ _ _ _=>t) (Ln st (λt _ _ _=>t) (.Name "" default))
def iq(st:bj):Expr:=FE st (λ_ i _ _ _=>i) (.Name "" default)
def Bm(st:bj):Pos:=FE st (λ_ _ _ _ p=>p) (Ln st (λ_ _ _ p=>p) default)
abbrev sO(P:aL)(a:aj)(i:Nat):Stmt:=(bO P a).getD i (.Pass default)
def i7(st:bj):Prop:=st=.For (d2 st) (iq st) (bP st) [] (Bm st)/\DW (iq st)=false/\(∀i,nh (d2 st) (.list i)=true)
@[irreducible]def aC(c:aR)(P:aL)(ae:aj->Option (List V))(n:Nat):eE:=x5 c (cb P ae) n none
section
variable{k:KX}
theorem TC.up{k:KT V}(h:TC c n hd f args u k)(hl:n<=n':=by decide):TC c n' hd f args u k:=λA z qf qs C=>h A z qf qs (C.le hl)
theorem aC.sn(Z:AO c P ae) n:Vo c (2*n+10) none (aC c P ae n):=by unfold aC;exact aij Z n none
theorem TX.ask(Z:AO c P ae){b:List bj}(h:(aC c P ae n).x b Y u k):bb c (2*n+10) none m Y u b k:=(aC.sn Z n).x b Y u k h m
theorem ajk ag b' b:execs (b++b') ag=(execs b ag>>=λfl=>match fl with|.next=>execs b' ag|f=>pure f):=by induction b with|nil=>show execs b' ag=(pure Iu>>=_);rw[pure_bind]|cons st b ih=>rw[HB,Hk,Hk,bind_assoc];refine congrArg (exec st ag>>=·) (funext λfl=>?_);cases fl with|next=>exact ih|_=>rw[pure_bind]
theorem TX.app(h:bb c n hd m Y u b (rA k λfl Y u=>xU fl (bb c n hd m Y u b' k) λv=>k (.ok (.ret v)) Y u)):bb c n hd m Y u (b++b') k:=λg z B O=>by show av c.M g.A (execs (b++b') g.ag) _ _ z.s;rw[ajk];refine aw (b_ (h g z B O) (λfl s' y=>?_) λq s' y=>ES.casesOn y λi a d dF aD au N aI ea ed h=>.mk i a d dF aD au N aI ea ed h);obtain⟨fl,dF,aD,au,N,aI,r,h⟩:=y;cases fl with|next=>rw[show _=_ from r];exact E6 N (h g au B aI)|ret v=>obtain⟨q,e,kv⟩:=r;rw[e];exact aP (.mk (.ret v) dF aD au N aI ⟨q,rfl,kv⟩ h)
theorem TC.fn(Z:AO c P ae){a:aj}{p:Loc×List MO}{k:KT V}(hf:(cb P ae).fn a=some (bc P a))(he:enter (bc P a).ps (bc P a).sc [] (bc P a).nest args u=some p)(h:bb c n none u.length p.1 p.2 (bO P a) (ik k)):TC c (n+1) none (.st (.ref a)) args u k:=λA z qf qs C R kf kv=>by rw[Vr kf];have F:=Z.SF.fn a _ hf;obtain⟨o,fd,ho,fh,-⟩:=id F;exact⟨⟨.frame,.inl rfl,JX (R.base _ _ ho) fh⟩,KD (E9 Z.O (by rw[he];exact h) (F.up R.base C.tab) C R kv)⟩
inductive VK(c:aR)(n m:Nat)(hd:Option Nat)(g:G)(cg:Loc)(u:List MO)(z:Z):Prop|mk(z':Z)(e:z'.s=z.s)(N:Nm m z z')(O:Ok c n hd g cg z' u)(a:z'.al=z.al):VK c n m hd g cg u z
theorem Ok.forget(O:Ok c n hd g Y z u)(lq:d8 Y cg)(hv:∀x v,cg.vars.lookup x=some v->Y.vars.lookup x=some v):VK c n m hd g cg u z:=have R:=O.R';⟨⟨z.s,z.al,(g.L,cg.vars)::g.rest⟩,rfl,⟨St.refl,.refl _,O.fs▸rfl⟩,⟨rfl,(O.fs▸O.C).vars,O.E.D7 lq,R.base,R.off,R.len,R.nd,R.obj,all_cons ((R.fr _ (.head _)).elim λmm y=>⟨mm,y.1,λx v e=>y.2 x v (hv x v e)⟩) λp hp=>R.fr p (.tail _ hp)⟩,rfl⟩
inductive VL(aA:Loc->List MO->Prop)(Y:Loc)(u:List MO):Prop|mk(cg:Loc)(l:d8 Y cg)(v:∀x v,cg.vars.lookup x=some v->Y.vars.lookup x=some v)(h:aA cg u):VL aA Y u
theorem TX.forget(h:TX c n hd m Y u t (iJ k (VL aA))):TX c n hd m Y u t (iJ k aA):=λg z B O=>b_ (h g z B O) (λfl s' y=>by obtain⟨fl,dF,aD,au,N,aI,r,h⟩:=y;cases fl with|next=>obtain⟨cg,lq,hv,h⟩:=h;obtain⟨z',e,N',O',-⟩:=aI.forget (m:=m) lq hv;exact e▸.mk .next cg aD z' (N.trans N') O' r h|ret v=>exact .mk (.ret v) dF aD au N aI r h) λq s' y=>ES.casesOn y λi a d Y u z' N O ea ed h=>.mk i a d Y u z' N O ea ed h
structure ajl{α:Type}(l:List α)(T:Nat->List MO)(Y:Loc)(f j:Nat)(bR:Loc)(aM:List MO):Prop where
 f:f=l.length-j
 le:j<=l.length
 Y:bR=Y
 u:aM=T j
theorem TX.forL(Z:AO c P ae){st:bj}(fj:i7 st){α:Type}(l:List α) fv(T:Nat->List MO) i(hi:i<m)(h0:T 0=u)(hit:∀K:KT Sk,fW (cb P ae) (aC c P ae n).e (iq st) Y u K=K (.ok (.list i,[])) u)(hl:∀j,(T j)[i]?=some (.list (l.map fv)))(hb:∀j(hj:j<l.length),aH (cf (d2 st) (fv l[j]) Y (T j)) λp=>bb c (2*n+10) none m p.1 p.2 (bP st) (iJ k λbR aM=>d8 bR Y/\(∀x v,Y.vars.lookup x=some v->bR.vars.lookup x=some v)/\aM=T (j+1)))(hk:k (.ok .next) Y (T l.length)):Ts c (2*n+10) none m Y u st k:=by
 rw[fj.1];refine TX.U7 Z.O Z.G (aC.sn Z n).e fj.2.1 ?_;rw[hit];refine⟨fj.2.2 i,hi,ajl l T Y,l.length,⟨rfl,dC _,rfl,h0.symm⟩,λf j bR aM aA=>?_⟩;obtain⟨f1,hj,r1,s1⟩:=aA;rw[r1,s1];have rd:rd (.list i) (T j) j=some (l[j]?.map fv):=by show aU (T j)[i]? (λm=>m.lu (λl=>some l[j]?) none) none=_;rw[hl j];exact congrArg some cQ
 unfold rC;rw[rd];by_cases dz:j<l.length;.rw[cp dz];show aH (cf (d2 st) (fv l[j]) Y (T j)) _;exact rD (hb j dz) λp h=>TX.forget (TX.mono h (Ld λY u y=>⟨_,y.1,y.2.1,l.length-(j+1),f1▸Cg dz (eR j),rfl,dz,rfl,y.2.2⟩))
 .rw[l0 (jc dz),ot hj (jc dz)];exact hk
end
inductive Od where|row(a:Int)|push(v:KV)|var|two(op:Str)|one|store(x:Str)|go(p:Int)|bf(p:Int)|kept(i:Int)|fin
noncomputable def FF(v:KV):Int:=KV.casesOn (motive:=λ_=>Int) v (λn=>n) (λ_=>0) λ_ _=>0
noncomputable def VM(v:KV):Str:=KV.casesOn (motive:=λ_=>Str) v (λ_=>"") (λx=>x) λ_ _=>""
noncomputable def Od.cd(o:Od):Nat×KV:=Od.casesOn (motive:=λ_=>Nat×KV) o (λa=>(0,.i a)) (λv=>(1,v)) (2,.i 0) (λx=>(3,.s x)) (4,.i 0) (λx=>(5,.s x)) (λp=>(6,.i p)) (λp=>(7,.i p)) (λi=>(8,.i i)) (9,.i 0)
noncomputable def Od.dc(p:Nat×KV):Od:=if p.1=0 then .row (FF p.2)else if p.1=1 then .push p.2 else if p.1=2 then .var else if p.1=3 then .two (VM p.2)else if p.1=4 then .one else if p.1=5 then .store (VM p.2)else if p.1=6 then .go (FF p.2)else if p.1=7 then .bf (FF p.2)else if p.1=8 then .kept (FF p.2)else .fin
theorem Od.Bn o:Od.dc o.cd=o:=Od.casesOn (motive:=λo=>Od.dc o.cd=o) o (λ_=>rfl) (λ_=>rfl) rfl (λ_=>rfl) rfl (λ_=>rfl) (λ_=>rfl) (λ_=>rfl) (λ_=>rfl) rfl
noncomputable instance:DecidableEq Od:=λa b=>if h:a.cd=b.cd then .isTrue ((Od.Bn a).symm.trans ((congrArg Od.dc h).trans (Od.Bn b)))else .isFalse λe=>h (congrArg Od.cd e)
noncomputable def dw(v:KV):V:=KV.casesOn (motive:=λ_=>V) v (λn=>.int n) (λx=>.str x) λa b=>.tup [.int a,.int b]
def Od.v(o:Od):V:=Od.casesOn (motive:=λ_=>V) o (λa=>.tup [.str "ROW",.int a]) (λv=>.tup [.str "PUSH",dw v]) (.tup [.str "VAR",.str "N"]) (λop=>.tup [.str "TWO",.str op]) (.tup [.str "ONE",.str "neg"]) (λx=>.tup [.str "STORE",.str x]) (λp=>.tup [.str "GO",.int p]) (λp=>.tup [.str "FALSE",.int p]) (λi=>.tup [.str "KEPT",.int i]) (.tup [.str "END"])
def ao(l:List Od):List V:=l.map Od.v
noncomputable def ay(l:List Nat):List V:=l.map λ(n:Nat)=>V.int n
noncomputable def sC(cs:List ((Nat×Nat)×Str))(os ss:List V):List MO:=[.tab cs,.inst 343 2,.aV [("orders",.ref 3),("starts",.ref 4)],.list os,.list ss]
noncomputable def fX(o:Od):Option Int:=Od.casesOn (motive:=λ_=>Option Int) o (λ_=>none) (λ_=>none) none (λ_=>none) none (λ_=>none) some some (λ_=>none) none
def gA(kv:List (Int×V))(p:Int):List (Int×V):=dU p (.bool true) kv
def gO(kv:List (Int×V))(o:Od):List (Int×V):=aU (fX o) (gA kv) kv
def gS(kv:List (Int×V))(ss:List Nat):List (Int×V):=ss.foldl (λkv(p:Nat)=>gA kv p) kv
def cX(kv:List (Int×V))(os:List Od):List (Int×V):=os.foldl gO kv
section
variable{os ss:List V}{kv:List (Int×V)}{k:KX}
def jJ(P:aL)(q:bI):Loc:=⟨cO P 403,("code",.ref 1)::("found",.ref 5)::q,[],none⟩
theorem ajm:enter (bc P 403).ps (bc P 403).sc [] (bc P 403).nest [.ref 1] (sC cs os ss)=some (⟨cO P 403,[("code",.ref 1)],[],none⟩,sC cs os ss):=ak
theorem ajn:(cb P ae).fn 403=some (bc P 403):=ak
theorem ajo:bO P 403=(bO P 403).take 1++sO P 403 1::sO P 403 2::(bO P 403).drop 3:=ak
theorem ajp:i7 (sO P 403 1):=⟨by kernel_rfl,by kernel_rfl,λ_=>rfl⟩
theorem ajq:i7 (sO P 403 2):=⟨by kernel_rfl,by kernel_rfl,λ_=>rfl⟩
theorem ajr:(aC c P ae 40).x ((bO P 403).take 1) ⟨cO P 403,[("code",.ref 1)],[],none⟩ (sC cs os ss) k=k (.ok .next) (jJ P []) (sC cs os ss++[.bg []]):=ak
theorem ajs K:fW (cb P ae) (aC c P ae 40).e (iq (sO P 403 1)) (jJ P []) (sC cs os ss++[.bg kv]) K=K (.ok (.list 4,[])) (sC cs os ss++[.bg kv]):=ak
theorem ajt K:fW (cb P ae) (aC c P ae 40).e (iq (sO P 403 2)) (jJ P []) (sC cs os ss++[.bg kv]) K=K (.ok (.list 3,[])) (sC cs os ss++[.bg kv]):=ak
theorem aju v:cf (d2 (sO P 403 1)) v (jJ P []) (sC cs os ss++[.bg kv])=some (jJ P [("place",v)],sC cs os ss++[.bg kv]):=ak
theorem ajv v:cf (d2 (sO P 403 2)) v (jJ P []) (sC cs os ss++[.bg kv])=some (jJ P [("order",v)],sC cs os ss++[.bg kv]):=ak
theorem ajw p:(aC c P ae 40).x (bP (sO P 403 1)) (jJ P [("place",.int p)]) (sC cs os ss++[.bg kv]) k=aH (kL (.ref 5) (.int p) (.bool true) (sC cs os ss++[.bg kv])) λu=>k (.ok .next) (jJ P [("place",.int p)]) u:=ak
def Lo(u:List MO)(o:Od)(k:List MO->Prop):Prop:=aU (fX o) (λp=>aH (kL (.ref 5) (.int p) (.bool true) u) k) (k u)
theorem ajx o:(aC c P ae 40).x (bP (sO P 403 2)) (jJ P [("order",o.v)]) (sC cs os ss++[.bg kv]) k=Lo (sC cs os ss++[.bg kv]) o λu=>k (.ok .next) (jJ P [("order",o.v)]) u:=by cases o<;>kernel_rfl
theorem ajy:(aC c P ae 40).x ((bO P 403).drop 3) (jJ P []) (sC cs os ss++[.bg kv]) k=k (.ok (.ret (.ref 5))) (jJ P []) (sC cs os ss++[.bg kv]):=ak
theorem VN p(h:kv.length<=2000):kL (.ref 5) (.int p) (.bool true) (sC cs os ss++[.bg kv])=some (sC cs os ss++[.bg (gA kv p)]):=by show((if kv.length<=bk then some (MO.bg (gA kv p))else none).map _)=_;rw[if_pos (ax h ai)];rfl
theorem Lp k v(l:List (Int×V)):(dU k v l).length<=l.length+1:=by induction l with|nil=>exact br _|cons p r ih=>
 show(if p.1=k then(p.1,v)::r else p::dU k v r).length<=_;by_cases h:p.1=k;.rw[if_pos h];exact dI _
 .rw[if_neg h];exact gf ih
theorem VO(h:a<=b+m)(h2:b<=n+1):a<=n+(m+1):=ax h (lT n m 1▸mT h2 m:b+m<=n+m+1)
theorem VP ss:∀kv,(gS kv ss).length<=kv.length+ss.length:=by induction ss with|nil=>exactλkv=>br _|cons p r ih=>exactλkv=>VO (ih (gA kv p)) (Lp (p:Int) (.bool true) kv)
theorem ajz o kv:(gO kv o).length<=kv.length+1:=by unfold gO;cases fX o with|none=>exact dI _|some p=>exact Lp p _ kv
theorem VQ os:∀kv,(cX kv os).length<=kv.length+os.length:=by induction os with|nil=>exactλkv=>br _|cons o r ih=>exactλkv=>VO (ih (gO kv o)) (ajz o kv)
theorem Lq{vars:bI}(e:vars.lookup y=some w):(vars++[(x,v)]).lookup y=some w:=by induction vars with|nil=>exact aE e|cons p r ih=>
 rw[HB,gN];rw[gN]at e;by_cases q:p.1=y;.rw[if_pos q]at e⊢;exact e
 .rw[if_neg q]at e⊢;exact ih e
theorem ajA(h1:a<=b)(h2:b<=0+d)(h:d<=1000):a<=2000:=ax h1 (ax h2 (ax (bo (eu d)) (ax h ai)))
theorem ajB{o:Od}{u aM:List MO}(e:u=aM):d8 (jJ P [(x,o.v)]) (jJ P [])/\(∀x' v,(jJ P []).vars.lookup x'=some v->(jJ P [(x,o.v)]).vars.lookup x'=some v)/\u=aM:=⟨⟨rfl,rfl,rfl⟩,λ_ _=>Lq,e⟩
theorem ajC(h:kv.length<=2000){k:List MO->Prop}(hk:k (sC cs os ss++[.bg (gO kv o)])):Lo (sC cs os ss++[.bg kv]) o k:=by unfold Lo;unfold gO at hk;cases e:fX o with|none=>rw[e]at hk;exact hk|some p=>rw[e]at hk;show aH (kL (.ref 5) (.int p) (.bool true) _) k;rw[VN p h];exact hk
theorem ajD{os:List Od} hj:cX kv (os.take (j+1))=gO (cX kv (os.take j)) os[j]:=by rw[jf hj];unfold cX;rw[qL];rfl
theorem ajE{ss:List Nat} hj:gS kv (ss.take (j+1))=gA (gS kv (ss.take j)) ss[j]:=by rw[jf hj];unfold gS;rw[qL];rfl
theorem FG{α:Type}(l:List α) j:(l.take j).length<=l.length:=iT▸pA _ _
theorem VS(Z:AO c P ae){os:List Od}{ss:List Nat}{k:KT V}(ho:os.length<=1000)(hs:ss.length<=1000)(hk:k (.ok (.ref 5)) (sC cs (ao os) (ay ss)++[.bg (cX (gS [] ss) os)])):TC c 91 none (.st (.ref 403)) [.ref 1] (sC cs (ao os) (ay ss)) k:=by
 refine TC.fn Z ajn ajm ?_;rw[ajo];refine TX.app (TX.ask (n:=40) Z ?_);rw[ajr];refine TX.cons (TX.forL (n:=40) Z ajp ss (λ(n:Nat)=>V.int n) (λj=>sC cs (ao os) (ay ss)++[.bg (gS [] (ss.take j))]) 4 (show 4<5 by decide) rfl ajs (λ_=>rfl) (λj hj=>?_) ?_);.rw[aju];refine TX.ask (n:=40) Z ?_;rw[ajw,VN _ (ajA (VP (ss.take j) []) (k_ (FG ss j) 0) hs),<-ajE hj];exact⟨⟨rfl,rfl,rfl⟩,λ_ _=>Lq,rfl⟩
 refine TX.cons (TX.forL (n:=40) Z ajq os Od.v (λj=>sC cs (ao os) (ay ss)++[.bg (cX (gS [] ss) (os.take j))]) 3 (show 3<5 by decide) (by rw[eV];rfl) ajt (λ_=>rfl) (λj hj=>?_) ?_);.rw[ajv];refine TX.ask (n:=40) Z ?_;rw[ajx];exact ajC (ax (VQ (os.take j) (gS [] ss)) (ou (ax (VP ss []) (ax (bo (eu _)) hs)) (ax (FG os j) ho))) (ajB (congrArg (λkv=>sC cs (ao os) (ay ss)++[MO.bg kv]) (ajD hj).symm))
 rw[eV];refine TX.ask (n:=40) Z ?_;rw[ajy];exact hk
end
theorem FH l(i:Nat):(ay l)[i]?=l[i]?.map λ(n:Nat)=>V.int n:=by unfold ay;rw[cQ]
theorem kg l:(ay l).length=l.length:=by unfold ay;rw[bw]
theorem dO l:(ao l).length=l.length:=by unfold ao;rw[bw]
theorem qh l(i:Nat):(ao l)[i]?=l[i]?.map Od.v:=by unfold ao;rw[cQ]
theorem jK l r:ao (l++r)=ao l++ao r:=by unfold ao;rw[cH]
theorem yc l r:ay (l++r)=ay l++ay r:=by unfold ay;rw[cH]
theorem nK(h0:0<=p)(h1:p<l.length)(h2:l.length<=100000):df l p=l[p.toNat]?:=by have h3:p<100000:=sT h1 (gI.mpr h2);unfold df;rw[if_pos ⟨uz ai h0,C8 h3 ai⟩];unfold CB;dsimp only;rw[if_neg (uA.mpr h0),if_pos (by rw[decide_eq_true h0,decide_eq_true h1];rfl)];rfl
theorem toNat_lt{p:Int}{n:Nat}(h:0<=p)(h1:p<n):p.toNat<n:=eX.mp ((zr h).symm▸h1)
noncomputable def ldI(le:List Nat)(p:Int):Int:=((le.getD p.toNat 0:Nat):Int)
theorem FJ(h0:0<=p)(h1:p<le.length)(h2:le.length<=1000):df (ay le) p=some (.int (ldI le p)):=by rw[nK h0 (by rw[kg];exact h1) (by rw[kg];exact ax h2 ai),FH];unfold ldI;rw[jA,cp (toNat_lt h0 h1)];rfl
noncomputable def ajF{α:Type}(st:bj)(f:Option aq->Pos->α)(d:α):α:=if h:st.ctorIdx=3 then Pn (motive_2:=λ_=>α) st h f else d
noncomputable def ajG{α:Type}(st:bj)(f:List aq->aq->Pos->α)(d:α):α:=if h:st.ctorIdx=5 then Ii (motive_2:=λ_=>α) st h f else d
noncomputable def ajH{α:Type}(st:bj)(f:aq->Pos->α)(d:α):α:=if h:st.ctorIdx=24 then Stmt.Expr.elim (motive_2:=λ_=>α) st h f else d
def lD(st:bj):Expr:=ajF st (λe _=>e.getD (.Name "" default)) (ajG st (λ_ e _=>e) (ajH st (λe _=>e) (.Name "" default)))
def nM(e:aq)(i:Nat):Expr:=xb e (λ_ as _ _=>as.getD i (.Name "" default)) (.Name "" default)
def qj(e:aq):aq×aq×aq×List aq×Scope:=(IY e).getD (.Name "" default,.Name "" default,.Name "" default,[],⟨.module,[],false,false,[]⟩)
abbrev nN(Y:Loc)(k:KX):KT V:=bx Y k λv u=>k (.ok (.ret v)) Y u
theorem rF{cl:List (Str×Nat)}{α:Type}(l:List α) fv(T:Nat->List MO)(hl:∀j,rd src (T j) j=some (l[j]?.map fv))(hb:∀j(hj:j<l.length)(f:List MO->Prop),f (T (j+1))->aH (cf tgt (fv l[j]) ⟨sc,[],cl,none⟩ (T j)) λp=>i5 ev tv ifs elt acc p.1 p.2 f)(hk:k (.ok (.ref acc)) (T l.length)):∀d j,j+d=l.length->lC ev tv tgt ifs elt sc cl src acc k (d+1) j (T j):=by intro d;induction d with|zero=>intro j h;rw[show j=l.length from h];show aH (rd src (T l.length) l.length) _;rw[hl,l0 (br _)];exact hk|succ d ih=>intro j h;have hj:j<l.length:=h▸Nat.lt_add_of_pos_right (sg d);show aH (rd src (T j) j) _;rw[hl,cp hj];exact hb j hj _ (ih (j+1) ((lT j 1 d).trans h))
theorem FK{f:α->List MO->Prop}{v:α}{u:List MO}(h:f v u):bh k f (.ok v) u:=h
theorem dH(e:x=some a)(h:f a):aH x f:=by rw[e];exact h
section
variable{os fo ss le q r:List V}{k:KX}
noncomputable def tL(cs:List ((Nat×Nat)×Str))(os fo ss le:List V):List MO:=[.tab cs,.inst 343 2,.aV [("orders",.ref 3),("starts",.ref 4)],.list os,.list ss,.list fo,.list le]
def oW(P:aL)(q:bI):Loc:=⟨cO P 408,("code",.ref 1)::("orders",.ref 5)::q,[("lead",7)],none⟩
abbrev tM P:=qj (nM (lD (sO P 408 2)) 1)
abbrev rG(cs:List ((Nat×Nat)×Str))(os fo ss le q:List V):List MO:=tL cs os fo ss le++[.cell (some (.ref 6)),.list q]
abbrev tN(cs:List ((Nat×Nat)×Str))(os fo ss le q r:List V):List MO:=tL cs os fo ss le++[.cell (some (.ref 6)),.list q,.list r]
theorem ajI:enter (bc P 408).ps (bc P 408).sc [] (bc P 408).nest [.ref 1,.ref 5,.ref 6] (tL cs os fo ss le)=some (oW P [],tL cs os fo ss le++[.cell (some (.ref 6))]):=ak
theorem ajJ:(cb P ae).fn 408=some (bc P 408):=ak
theorem ajK:bO P 408=(bO P 408).take 1++sO P 408 1::(bO P 408).drop 2:=ak
theorem ajL:i7 (sO P 408 1):=⟨by kernel_rfl,by kernel_rfl,λ_=>rfl⟩
theorem ajM:(aC c P ae 40).x ((bO P 408).take 1) (oW P []) (tL cs os fo ss le++[.cell (some (.ref 6))]) k=k (.ok .next) (oW P [("found",.ref 8)]) (rG cs os fo ss le []):=ak
theorem ajN K:fW (cb P ae) (aC c P ae 40).e (iq (sO P 408 1)) (oW P [("found",.ref 8)]) (rG cs os fo ss le q) K=K (.ok (.list 5,[])) (rG cs os fo ss le q):=ak
theorem ajO v:cf (d2 (sO P 408 1)) v (oW P [("found",.ref 8)]) (rG cs os fo ss le q)=some (oW P [("found",.ref 8),("order",v)],rG cs os fo ss le q):=ak
noncomputable def Od.Lr{α:Type}(o:Od)(f g:Int->α)(d:α):α:=Od.casesOn (motive:=λ_=>α) o (λ_=>d) (λ_=>d) d (λ_=>d) d (λ_=>d) f g (λ_=>d) d
def VT(le:List V)(o:Od)(k:V->Prop):Prop:=o.Lr (λp=>aH (df le p) λx=>k (.tup [.str "GO",x])) (λp=>aH (df le p) λx=>k (.tup [.str "FALSE",x])) (k o.v)
theorem ajP o:(aC c P ae 40).x (bP (sO P 408 1)) (oW P [("found",.ref 8),("order",o.v)]) (rG cs os fo ss le q) k=VT le o λv=>gd (q.length<1000000) (k (.ok .next) (oW P [("found",.ref 8),("order",v)]) (rG cs os fo ss le (q++[v]))):=by cases o<;>kernel_rfl
theorem ajQ:(aC c P ae 40).x ((bO P 408).drop 2) (oW P [("found",.ref 8)]) (rG cs os fo ss le q) k=lC (aC c P ae 37).e (aC c P ae 37).t (tM P).2.1 (tM P).2.2.2.1 (tM P).1 (tM P).2.2.2.2 [("lead",7)] (.list 4) 9 (bh (nN (oW P [("found",.ref 8)]) k) λv u=>(aC c P ae 38).c (.st (.ref 343)) [.ref 8,v] u (nN (oW P [("found",.ref 8)]) k)) (ss.length+1) 0 (tN cs os fo ss le q []):=ak
theorem ajR{k:KT V}:(aC c P ae 38).c (.st (.ref 343)) [.ref 8,.ref 9] (tN cs os fo ss le q r) k↔k (.ok (.ref 11)) (tN cs os fo ss le q r++[.aV [("orders",.ref 8),("starts",.ref 9)],.inst 343 10]):=.of_eq ak
theorem ajS p f:(aH (cf (tM P).2.1 (.int p) ⟨(tM P).2.2.2.2,[],[("lead",7)],none⟩ (tN cs os fo ss le q r)) λp=>i5 (aC c P ae 37).e (aC c P ae 37).t (tM P).2.2.2.1 (tM P).1 9 p.1 p.2 f)=if decide (0<=p)=true then aH (df le p) λx=>gd (r.length<1000000) (f (tN cs os fo ss le q (r++[x])))else gd (r.length<1000000) (f (tN cs os fo ss le q (r++[.int (-1)]))):=ak
def bU(le:List Nat)(o:Od):Od:=o.Lr (λp=>.go (ldI le p)) (λp=>.bf (ldI le p)) o
def ft(n:Nat)(o:Od):Prop:=o.Lr (λp=>0<=p/\p<n) (λp=>0<=p/\p<n) True
noncomputable def gv(le:List Nat)(p:Nat):Nat:=le.getD p 0
theorem ajT{le:List Nat}{k:V->Prop}(hl:le.length<=1000)(ht:ft le.length o)(h:k (bU le o).v):VT (ay le) o k:=by cases o with|go p=>show aH _ _;rw[FJ ht.1 ht.2 hl];exact h|bf p=>show aH _ _;rw[FJ ht.1 ht.2 hl];exact h|_=>exact h
end
section
variable{os:List V}
theorem VU(Z:AO c P ae)(hs:ss.length<=1000)(hl:le.length<=1000)(hf:fo.length<=1000)(ht:∀o,o∈fo->ft le.length o)(hp:∀p,p∈ss->p<le.length)(hk:k (.ok (.ref 11)) (tN cs os (ao fo) (ay ss) (ay le) (ao (fo.map (bU le))) (ay (ss.map (gv le)))++[.aV [("orders",.ref 8),("starts",.ref 9)],.inst 343 10])):TC c 91 none (.st (.ref 408)) [.ref 1,.ref 5,.ref 6] (tL cs os (ao fo) (ay ss) (ay le)) k:=by
 refine TC.fn Z ajJ ajI ?_;rw[ajK];refine TX.app (TX.ask (n:=40) Z ?_);rw[ajM];refine TX.cons (TX.forL (n:=40) Z ajL fo Od.v (λj=>rG cs os (ao fo) (ay ss) (ay le) (ao ((fo.take j).map (bU le)))) 5 (show 5<7 by decide) rfl ajN (λ_=>rfl) (λj hj=>?_) ?_);.rw[ajO];refine TX.ask (n:=40) Z ?_;rw[ajP];refine ajT hl (ht _ (oz hj)) (bz (by rw[dO,bw];exact bD (ax (FG fo j) hf) ai) ⟨⟨rfl,rfl,rfl⟩,λ_ _=>Lq,?_⟩);rw[jf hj,cH,jK];rfl
 rw[eV];refine TX.ask (n:=40) Z ?_;rw[ajQ,kg];refine rF ss (λ(n:Nat)=>V.int n) (λj=>tN cs os (ao fo) (ay ss) (ay le) (ao (fo.map (bU le))) (ay ((ss.take j).map (gv le)))) (λj=>by exact congrArg some (FH ss j)) (λj hj f hf=>?_) ?_ ss.length 0 (eu _);.rw[ajS,if_pos (decide_eq_true (dK _)),FJ (dK _) (eX.mpr (hp _ (oz hj))) hl];refine bz (by rw[kg,bw];exact bD (ax (FG ss j) hs) ai) ?_;rw[jf hj,cH,yc]at hf;exact hf
 .rw[eV];exact FK (ajR.mpr hk)
end
def fF{α:Type}(p:α->Prop)(l:List α):Prop:=qN (motive:=λ_=>Prop) True (λa _ ih=>p a/\ih) l
theorem fF.get{α:Type}{p:α->Prop}{a:α}:∀{l:List α},fF p l->a∈l->p a:=by intro l;induction l with|nil=>exactλ_ m=>absurd m eH|cons b r ih=>exactλh m=>(bX.mp m).elim (λe=>e▸h.1) (ih h.2)
inductive cN{α β:Type}(R:Nat->α->β->β->Prop):Nat->List α->β->β->Prop|nil(j:Nat)(b:β):cN R j [] b b|cons{j:Nat}{a:α}{l:List α}{b b' qk:β}(h:R j a b b')(t:cN R (j+1) l b' qk):cN R j (a::l) b qk
theorem cN.inv{l:List α}{b qk:β}(h:cN R j (a::l) b qk):∃b',R j a b b'/\cN R (j+1) l b' qk:=by cases h with|cons h t=>exact⟨_,h,t⟩
theorem cN.VV{R:Nat->α->β->β->Prop}(h:cN R j [] b b'):b'=b:=by cases h;rfl
theorem nO{K:Type}[BEq K]{vars ex:List (K×V)}{y:K}{w:V}(e:vars.lookup y=some w):(vars++ex).lookup y=some w:=by induction vars with|nil=>exact aE e|cons p r ih=>rw[HB];obtain⟨q,aG⟩:=p;rw[fL]at e⊢;cases h:y==q with|true=>rw[h]at e;exact e|false=>rw[h]at e;exact ih e
theorem nP f:∀l,ba f l=l.map (bY f):=by intro l;induction l with|nil=>rfl|cons v r ih=>exact congrArg (bY f v::·) ih
theorem ajU{K:Type}[BEq K] f k(l:List (K×V)):(d9 f l).lookup k=(l.lookup k).map (bY f):=by induction l with|nil=>rfl|cons p r ih=>obtain⟨x,v⟩:=p;show((x,bY f v)::d9 f r).lookup k=_;rw[fL,fL];cases k==x with|true=>rfl|false=>exact ih
section
variable{Y cg:Loc}
structure ajV{α β:Type}(l:List α)(f:Nat->α->β->β->Prop)(I:Nat->β->Prop)(G:β->Loc)(T:β->List MO)(me:β)(aG j:Nat)(bR:Loc)(aM:List MO)(b:β):Prop where
 aG:aG=l.length-j
 le:j<=l.length
 r:cN f j (l.drop j) b me
 i:I j b
 Y:bR=G b
 u:aM=T b
theorem TX.FL(Z:AO c P ae){st:bj}(fj:i7 st){α β:Type} l(fv:Nat->α->V)(G:β->Loc)(T:β->List MO) f(I:Nat->β->Prop){ml me:β}{src:eZ}(hs:ve m src)(ht:nh (d2 st) src=true)(hit:∀K:KT Sk,fW (cb P ae) (aC c P ae n).e (iq st) (G ml) (T ml) K=K (.ok (src,[])) (T ml))(hl:∀j b,rd src (T b) j=some (l[j]?.map (fv j)))(hr:cN f 0 l ml me)(h0:I 0 ml)(hb:∀j a b b',l[j]?=some a->I j b->f j a b b'->I (j+1) b'/\aH (cf (d2 st) (fv j a) (G b) (T b)) λp=>bb c (2*n+10) none m p.1 p.2 (bP st) (iJ k λbR aM=>d8 bR (G b')/\(∀x v,(G b').vars.lookup x=some v->bR.vars.lookup x=some v)/\aM=T b'))(hk:I l.length me->k (.ok .next) (G me) (T me)):Ts c (2*n+10) none m (G ml) (T ml) st k:=by
 rw[fj.1];refine TX.U7 Z.O Z.G (aC.sn Z n).e fj.2.1 ?_;rw[hit];refine⟨ht,hs,λaG j bR aM=>∃b,ajV l f I G T me aG j bR aM b,l.length,⟨ml,rfl,dC _,hr,h0,rfl,rfl⟩,λaG j bR aM hj=>?_⟩;obtain⟨b,u1,hj,hr,hi,r1,s1⟩:=hj;rw[r1,s1];unfold rC;rw[hl];by_cases dz:j<l.length;.rw[CR dz]at hr;obtain⟨b',e,ql⟩:=hr.inv;rw[cp dz];have y:=hb j l[j] b b' (cp dz) hi e;show aH (cf (d2 st) (fv j l[j]) (G b) (T b)) _;exact rD y.2 λp h=>TX.forget (TX.mono h (Ld λY u z=>⟨G b',z.1,z.2.1,l.length-(j+1),u1▸Cg dz (eR j),b',rfl,dz,ql,y.1,rfl,z.2.2⟩))
 .have e:j=l.length:=ot hj (jc dz);rw[e,HD]at hr;rw[e]at hi⊢;rw[l0 (br _)];exact hr.VV▸hk (hr.VV.symm▸hi)
theorem Pk.of(nd:js.Nodup)(h1:a7.map (cL (pk js u.length))=a7)(h2:a7.map some=js.map λj=>u[j]?):Pk js u a7:=⟨nd,h2▸(jh (g:=some)).symm.trans (congrArg (zp some) h1)⟩
theorem rE.of(P:Pk js u a7)(low:∀i,i<m->js[i]?=some i) ex(sc:Y.sc=cg.sc:=by rfl)(ne:Y.nest=cg.nest:=by rfl)(ce:Y.cells=cg.cells:=by rfl)(Lg:∀x i,Y.cells.lookup x=some i->i<m)(hv:Y.vars=d9 (pk js u.length) cg.vars++ex):rE m Y u cg a7 js:=⟨P,low,sc,ne,ce,Lg,λx v e=>by rw[hv];have :(d9 (pk js u.length) cg.vars).lookup x=some (bY (pk js u.length) v):=(ajU _ x _).trans (congrArg (wH _) e);exact nO this⟩
theorem cM.next(p:rE m Y u cg a7 js)(h:k (.ok .next) cg a7):cM m k (.ok .next) Y u:=Lh.mk js cg a7 p h
theorem cM.ret(p:rE m Y u cg a7 js)(h:k (.ok (.ret cT)) cg a7):cM m k (.ok (.ret (bY (pk js u.length) cT))) Y u:=Li.mk js cg a7 cT p rfl h
end
theorem yd f v:bY f (dw v)=dw v:=by cases v<;>rfl
theorem ajW f(o:Od):bY f o.v=o.v:=by cases o<;>first|rfl|(rename_i v;exact congrArg (λq=>V.tup [V.str "PUSH",q]) (yd f v))
theorem kR f l:ba f (ao l)=ao l:=by rw[nP];unfold ao;rw[jh];exact kE λo _=>ajW f o
theorem qm f l:ba f (ay l)=ay l:=by rw[nP];unfold ay;rw[jh];rfl
theorem VW f p v(hv:bY f v=v)(kv:List (Int×V)):d9 f kv=kv->d9 f (dU p v kv)=dU p v kv:=by induction kv with|nil=>exactλ_=>congrArg (λq=>[(p,q)]) hv|cons a r ih=>
 intro h;obtain⟨h1,h2⟩:=qQ (show(a.1,bY f a.2)::d9 f r=a::r from h);show d9 f (if a.1=p then(a.1,v)::r else a::dU p v r)=if a.1=p then(a.1,v)::r else a::dU p v r;by_cases q:a.1=p;.rw[if_pos q];show(_,bY f v)::d9 f r=_;rw[hv,h2]
 .rw[if_neg q];show(a.1,bY f a.2)::d9 f (dU p v r)=_;rw[ih h2,h1]
theorem ajX f ss:∀kv,d9 f kv=kv->d9 f (gS kv ss)=gS kv ss:=by induction ss with|nil=>intro kv h;exact h|cons p r ih=>intro kv h;exact ih (gA kv p) (VW f p _ rfl kv h)
theorem VX f os:∀kv,d9 f kv=kv->d9 f (cX kv os)=cX kv os:=by induction os with|nil=>intro kv h;exact h|cons o r ih=>intro kv h;refine ih (gO kv o) ?_;unfold gO;cases fX o with|none=>exact h|some p=>exact VW f p _ rfl kv h
noncomputable def fO:List (Str×KV×KV×Option KV):=[("+",.i 2,.i 0,some (.i 2)),("+",.i 2,.i 1,some (.i 3)),("+",.i 2,.i 2,some (.i 4)),("+",.i 2,.i 3,some (.i 5)),("-",.i 2,.i 1,some (.i 1)),("-",.i 3,.i 1,some (.i 2)),("-",.i 4,.i 1,some (.i 3)),("-",.i 5,.i 1,some (.i 4)),("+",.s "A",.s "",some (.s "A")),("+",.s "A",.s "B",some (.s "AB")),("+",.s "A",.s "BB",some (.s "ABB")),("+",.s "A",.s "BBB",some (.s "ABBB")),("+",.i 0,.s "A",none),("+",.i 1,.s "A",none),("+",.i 2,.s "A",none),("+",.i 3,.s "A",none),("-",.i 1,.i 0,some (.i 1)),("-",.i 1,.i 1,some (.i 0))]
noncomputable def jq:Od->Nat|.one=>1|.two _=>2|_=>0
noncomputable def i8:KV->Bool|.s _=>true|_=>false
section
variable{os ss fo le:List V}{kv:List (Int×V)}{k:KX}
abbrev iK P:=bP (sO P 413 2)
noncomputable def gw(cs:List ((Nat×Nat)×Str))(os ss fo le:List V)(kv:List (Int×V)):List MO:=[.tab cs,.inst 343 2,.aV [("orders",.ref 3),("starts",.ref 4)],.list os,.list ss,.bg kv,.list fo,.list le]
def VY(P:aL)(f:Nat)(fi:Int)(q:bI):Loc:=⟨cO P 413,("code",.ref 1)::("bits",.int 16)::("digits",.int 9)::("goals",.ref 5)::("found",.ref f)::("lead",.ref 7)::("first",.int fi)::q,[],none⟩
abbrev e9(P:aL)(fi:Int)(q:bI):Loc:=VY P 6 fi q
theorem ajY:enter (bc P 413).ps (bc P 413).sc [] (bc P 413).nest [.ref 1,.int 16,.int 9] (sC cs os ss)=some (⟨cO P 413,[("code",.ref 1),("bits",.int 16),("digits",.int 9)],[],none⟩,sC cs os ss):=ak
theorem ajZ:(cb P ae).fn 413=some (bc P 413):=ak
theorem aj0:bO P 413=(bO P 413).take 1++(((bO P 413).drop 1).take 1++sO P 413 2::(bO P 413).drop 3):=ak
theorem aj1:i7 (sO P 413 2):=⟨by kernel_rfl,by kernel_rfl,λ_=>rfl⟩
abbrev Bo(P:aL)(q:bI):Loc:=⟨cO P 413,("code",.ref 1)::("bits",.int 16)::("digits",.int 9)::q,[],none⟩
theorem aj2:(aC c P ae 60).x ((bO P 413).take 1) (Bo P []) (sC cs os ss) k=TC c 124 none (.st (.ref 403)) [.ref 1] (sC cs os ss) (bx (Bo P []) k λv u=>k (.ok .next) (Bo P [("goals",v),("found",.ref u.length),("lead",.ref (u++[MO.list []]).length)]) (u++[MO.list []]++[MO.list []])):=ak
theorem aj3:(aC c P ae 60).x (((bO P 413).drop 1).take 1) (Bo P [("goals",.ref 5),("found",.ref 6),("lead",.ref 7)]) (gw cs os ss fo le kv) k=k (.ok .next) (e9 P 0 []) (gw cs os ss fo le kv):=ak
theorem aj4 K:fW (cb P ae) (aC c P ae 60).e (iq (sO P 413 2)) (e9 P fi []) (gw cs os ss fo le kv) K=K (.ok (.enum 3,[])) (gw cs os ss fo le kv):=ak
theorem aj5 v:cf (d2 (sO P 413 2)) (.tup [.int p,v]) (e9 P fi []) (gw cs os ss fo le kv)=some (e9 P fi [("place",.int p),("order",v)],gw cs os ss fo le kv):=ak
theorem aj6:iK P=(iK P).take 1++(((iK P).drop 1).take 2++(iK P).drop 3):=ak
theorem aj7 v:(aC c P ae 60).x ((iK P).take 1) (e9 P fi [("place",.int p),("order",v)]) (gw cs os ss fo le kv) k=if(kv.lookup p).isSome=true then gd (fo.length<=bk) (k (.ok .next) (e9 P fo.length [("place",.int p),("order",v)]) (gw cs os ss fo le kv))else k (.ok .next) (e9 P fi [("place",.int p),("order",v)]) (gw cs os ss fo le kv):=ak
def oX(P:aL)(f:Nat)(fi p:Int)(o:Od)(q:bI):Loc:=VY P f fi (("place",.int p)::("order",o.v)::q)
noncomputable abbrev mp(n:Int)(q:bI):bI:=("many",.int n)::("parts",.ref 9)::q
noncomputable def nQ(cs:List ((Nat×Nat)×Str))(os ss fo le:List V)(kv:List (Int×V))(l:List V)(aA:List MO):List MO:=gw cs os ss fo le kv++.aV [("ONE",.int 1),("TWO",.int 2)]::.list l::aA
theorem aj8 o:(aC c P ae 60).x (((iK P).drop 1).take 2) (e9 P fi [("place",.int p),("order",o.v)]) (gw cs os ss fo le kv) k=gd (fo.length<=bk) (aH (cut fo (.int (fo.length-(jq o:Nat))) .none) λl=>k (.ok .next) (oX P 6 fi p o (mp (jq o) [])) (nQ cs os ss fo le kv l [])):=by cases o<;>kernel_rfl
def lE(le l:List V)(o:Od)(k:List V->List V->Prop):Prop:=gd (l.length<=bk) (gd (le.length<1000000) (gd (l.length<1000000) (k (l++[o.v]) (le++[.int l.length]))))
@[irreducible]def nR(c:aR)(P:aL)(ae:aj->Option (List V))(cs:List ((Nat×Nat)×Str))(os ss fo le:List V)(kv:List (Int×V))(k:KX)(fi p:Int)(l:List V)(o:Od)(n:Int):Prop:=(aC c P ae 60).x ((iK P).drop 3) (oX P 6 fi p o (mp n [])) (nQ cs os ss fo le kv l []) k
theorem aj9 l o:nR c P ae cs os ss fo le kv k fi p l o 0=lE le fo o λfo le=>k (.ok .next) (oX P 6 fi p o (mp 0 [])) (nQ cs os ss fo le kv l []):=ak
def yf(P:aL)(cs:List ((Nat×Nat)×Str))(os ss fo le:List V)(kv:List (Int×V))(k:KX)(fi p:Int)(t:Str×KV×KV×Option KV):Prop:=gd (fo.length<=bk) (if decide (fi<=fo.length-2)=true then(match t.2.2.2 with|some v=>gd (fo.length<=bk) (aH (cut fo .none (.int (fo.length-2))) λl=>lE le l (.push v) λl le=>k (.ok .next) (oX P 13 fi p (.push v) (mp 2 [("value",dw v)])) (nQ cs os ss fo le kv [(Od.push t.2.1).v,(Od.push t.2.2.1).v] [.list [.bool true,.bool true],.list [dw t.2.1,dw t.2.2.1],.list [.bool (i8 t.2.1),.bool (i8 t.2.2.1)],.list l]))|none=>lE le fo (.two t.1) λfo le=>k (.ok .next) (oX P 6 fi p (.two t.1) (mp 2 [("value",.none)])) (nQ cs os ss fo le kv [(Od.push t.2.1).v,(Od.push t.2.2.1).v] [.list [.bool true,.bool true],.list [dw t.2.1,dw t.2.2.1],.list [.bool false,.bool true],.aV [("code",.str "TM"),("told",.str t.1)],.exc 13]))else lE le fo (.two t.1) λfo le=>k (.ok .next) (oX P 6 fi p (.two t.1) (mp 2 [])) (nQ cs os ss fo le kv [(Od.push t.2.1).v,(Od.push t.2.2.1).v] []))
abbrev Ls(c:aR)(P:aL)(ae:aj->Option (List V))(cs:List ((Nat×Nat)×Str))(os ss fo le:List V)(kv:List (Int×V))(k:KX)(fi p:Int)(t:Str×KV×KV×Option KV):Prop:=nR c P ae cs os ss fo le kv k fi p [(Od.push t.2.1).v,(Od.push t.2.2.1).v] (.two t.1) 2
theorem aj_:fF (λt=>Ls c P ae cs os ss fo le kv k fi p t=yf P cs os ss fo le kv k fi p t) fO:=by refine⟨?_,?_,?_,?_,?_,?_,?_,?_,?_,?_,?_,?_,?_,?_,?_,?_,?_,?_,trivial⟩<;>kernel_rfl
theorem aj'(hm:t∈fO)(h:yf P cs os ss fo le kv k fi p t):Ls c P ae cs os ss fo le kv k fi p t:=du (@fF.get _ (λt=>Ls c P ae cs os ss fo le kv k fi p t=yf P cs os ss fo le kv k fi p t) t fO aj_ hm) h
end
theorem Lu(h:k<=n):iS n (k:Int)=k:=by unfold iS;rw[if_neg (uA.mpr (dK k)),OC (gI.mpr h),C7 (dK k),fU]
theorem VZ{k:Nat}(h:(l++r).length<=1000)(hk:k=l.length):cut (l++r) (.int k) .none=some r:=by subst hk;show(if(l++r).length<=bk then some (((l++r).drop (iS (l++r).length l.length)).take ((l++r).length-iS (l++r).length l.length))else none)=_;have h1:l.length<=(l++r).length:=aX▸cy _ _;rw[if_pos (ax h ai),Lu h1,List.drop_append_of_le_length (br _),HD,List.nil_append,aX,jb,eV]
theorem V0{k:Nat}(h:(l++r).length<=1000)(hk:k=l.length):cut (l++r) .none (.int k)=some l:=by subst hk;show(if(l++r).length<=bk then some (((l++r).drop 0).take (iS (l++r).length l.length-0))else none)=_;rw[if_pos (ax h ai),Lu (aX▸cy _ _),GW,HJ,List.take_left]
structure FS where
 fo:List Od
 le:List Nat
 fi:Nat
noncomputable abbrev FS.keep(st:FS)(fi:Nat)(o:Od):FS:=⟨st.fo++[o],st.le++[st.fo.length],fi⟩
noncomputable def FS.put(st:FS)(fi:Nat)(o:Od)(r:List Od):Option KV->FS|some v=>⟨r++[.push v],st.le++[r.length],fi⟩|none=>st.keep fi o
inductive tO(fi:Nat)(st:FS):Od->FS->Prop|var(r:List Od)(b:KV)(op:Str)(hf:st.fo=r++[.var,.push b])(hi:fi<=r.length):tO fi st (.two op) (st.keep fi (.two op))|two(r:List Od)(a b:KV)(op:Str)(v:Option KV)(hf:st.fo=r++[.push a,.push b])(hi:fi<=r.length)(hm:(op,a,b,v)∈fO):tO fi st (.two op) (st.put fi (.two op) r v)|one(r:List Od)(a:Int)(hf:st.fo=r++[.push (.i a)])(hi:fi<=r.length)(ha:a∈[(0:Int),1,2,3]):tO fi st .one (st.put fi .one r (some (.i (-a))))|keep(o:Od)(ho:jq o=0):tO fi st o (st.keep fi o)
def fY(gl:Int->Bool)(p:Nat)(o:Od)(st cY:FS):Prop:=tO (if gl p=true then st.fo.length else st.fi) st o cY
theorem FS.V1(st:FS) fi o:(st.keep fi o).fo.length<=st.fo.length+1/\(st.keep fi o).le.length=st.le.length+1:=⟨bo aX,aX⟩
theorem FS.V2{st:FS} fi o(hf:st.fo=r++q) v:(st.put fi o r v).fo.length<=st.fo.length+1/\(st.put fi o r v).le.length=st.le.length+1:=by cases v with|none=>exact st.V1 fi o|some v=>exact⟨by show(r++[Od.push v]).length<=_;rw[hf,aX,aX,sL];exact gf (cy _ _),aX⟩
theorem aka{st cY:FS}(h:tO fi st o cY):cY.fo.length<=st.fo.length+1/\cY.le.length=st.le.length+1:=by cases h with|two r a b op v hf=>exact FS.V2 _ _ hf v|one r a hf=>exact FS.V2 _ _ hf _|_=>exact st.V1 ..
section
variable{os ss fo le:List V}{kv:List (Int×V)}{k:KX}
def FN(P:aL)(cs:List ((Nat×Nat)×Str))(os ss fo le:List V)(kv:List (Int×V))(k:KX)(fi p:Int)(op:Str)(b:KV):Prop:=gd (fo.length<=bk) (if decide (fi<=fo.length-2)=true then lE le fo (.two op) λfo le=>k (.ok .next) (oX P 6 fi p (.two op) (mp 2 [])) (nQ cs os ss fo le kv [Od.var.v,(Od.push b).v] [.list [.bool false,.bool true]])else lE le fo (.two op) λfo le=>k (.ok .next) (oX P 6 fi p (.two op) (mp 2 [])) (nQ cs os ss fo le kv [Od.var.v,(Od.push b).v] []))
theorem akb op b:nR c P ae cs os ss fo le kv k fi p [Od.var.v,(Od.push b).v] (.two op) 2=FN P cs os ss fo le kv k fi p op b:=by cases b<;>kernel_rfl
def yg(P:aL)(cs:List ((Nat×Nat)×Str))(os ss fo le:List V)(kv:List (Int×V))(k:KX)(fi p:Int)(a:Int):Prop:=gd (fo.length<=bk) (if decide (fi<=fo.length-1)=true then gd (fo.length<=bk) (aH (cut fo .none (.int (fo.length-1))) λl=>lE le l (.push (.i (-a))) λl le=>k (.ok .next) (oX P 12 fi p (.push (.i (-a))) (mp 1 [("value",.int (-a))])) (nQ cs os ss fo le kv [(Od.push (.i a)).v] [.list [.bool true],.list [.int a],.list l]))else lE le fo .one λfo le=>k (.ok .next) (oX P 6 fi p .one (mp 1 [])) (nQ cs os ss fo le kv [(Od.push (.i a)).v] []))
theorem akc:fF (λa=>nR c P ae cs os ss fo le kv k fi p [(Od.push (.i a)).v] .one 1=yg P cs os ss fo le kv k fi p a) [(0:Int),1,2,3]:=by refine⟨?_,?_,?_,?_,trivial⟩<;>kernel_rfl
theorem akd(ha:a∈[(0:Int),1,2,3])(h:yg P cs os ss fo le kv k fi p a):nR c P ae cs os ss fo le kv k fi p [(Od.push (.i a)).v] .one 1:=du (@fF.get _ (λa=>nR c P ae cs os ss fo le kv k fi p [(Od.push (.i a)).v] .one 1=yg P cs os ss fo le kv k fi p a) a [(0:Int),1,2,3] akc ha) h
theorem ake:(aC c P ae 60).x ((bO P 413).drop 3) (e9 P fi []) (gw cs os ss fo le kv) k=TC c 126 none (.st (.ref 408)) [.ref 1,.ref 6,.ref 7] (gw cs os ss fo le kv) (nN (e9 P fi []) k):=ak
end
abbrev sF(cs:List ((Nat×Nat)×Str))(os:List Od)(ss:List Nat)(fo:List Od)(le:List Nat):List MO:=gw cs (ao os) (ay ss) (ao fo) (ay le) (cX (gS [] ss) os)
abbrev jr(os:List Od)(ss:List Nat):Int->Bool:=λq=>((cX (gS [] ss) os).lookup q).isSome
section
variable{c:aR}{P:aL}{ae:aj->Option (List V)}{cs:List ((Nat×Nat)×Str)}{os fo V3 r:List Od}{ss le:List Nat}{k:KX}{fi:Nat}
theorem akf(h2:f 2=2)(h3:f 3=3)(h4:f 4=4):(sF cs os ss fo le).map (cL f)=sF cs os ss fo le:=by show[MO.tab cs,MO.inst 343 (f 2),MO.aV [("orders",V.ref (f 3)),("starts",V.ref (f 4))],MO.list (ba f (ao os)),MO.list (ba f (ay ss)),MO.bg (d9 f (cX (gS [] ss) os)),MO.list (ba f (ao fo)),MO.list (ba f (ay le))]=_;rw[h2,h3,h4,kR,qm,VX f os _ (ajX f ss [] rfl),kR,qm];rfl
theorem Bp(hf:(nQ cs (ao os) (ay ss) (ao V3) (ay le) (cX (gS [] ss) os) l aA)[f]?=some (.list (ao fo)))(nd:[0,1,2,3,4,5,f,7].Nodup)(hk:kk (.ok .next) (e9 P fi []) (sF cs os ss fo le)):cM 5 kk (.ok .next) (oX P f fi p o q) (nQ cs (ao os) (ay ss) (ao V3) (ay le) (cX (gS [] ss) os) l aA):=by
 refine cM.next (js:=[0,1,2,3,4,5,f,7]) (cg:=e9 P fi []) (a7:=sF cs os ss fo le) ?_ hk;refine rE.of (.of nd (akf rfl rfl rfl) ?_) (λi hi=>?_) (("place",.int p)::("order",o.v)::q) rfl rfl rfl (λ_ _ e=>aE e) rfl;.simp only[ef,iU,hf];rfl
 .rcases i with _|_|_|_|_|i<;>first|rfl|exact absurd hi (by omega)
theorem yh{K:List V->List V->Prop}(hf:fo.length<=1000)(hl:le.length<=1000)(h:K (ao (fo++[o])) (ay (le++[fo.length]))):lE (ay le) (ao fo) o K:=by unfold lE;rw[jK,yc]at h;rw[dO,kg];exact bz (ax hf ai) (bz (bD hl ai) (bz (bD hf ai) h))
theorem Lv{n k:Nat}(h:fi<=k)(e:(n:Int)=k+d):decide ((fi:Int)<=(n:Int)-d)=true:=decide_eq_true (ZY h e)
theorem FO{n k:Nat}(e:(n:Int)=k+d):(n:Int)-d=(k:Nat):=(ZZ e)
theorem akg(hi:fi<=r.length)(hr:r.length<=900)(hl:le.length<=900)(hk:k (.ok .next) (e9 P (FS.put ⟨r++[.push a,.push b],le,vj⟩ fi (.two op) r v).fi []) (sF cs os ss (FS.put ⟨r++[.push a,.push b],le,vj⟩ fi (.two op) r v).fo (FS.put ⟨r++[.push a,.push b],le,vj⟩ fi (.two op) r v).le)):yf P cs (ao os) (ay ss) (ao (r++[.push a,.push b])) (ay le) (cX (gS [] ss) os) (cM 5 k) fi p (op,a,b,v):=by
 have hn:(ao (r++[.push a,.push b])).length=r.length+2:=by rw[dO,aX];rfl
 have fB:(((ao (r++[.push a,.push b])).length:Nat):Int)=r.length+2:=by rw[hn];rfl
 have hs:(ao (r++[.push a,.push b])).length<=1000:=(Iv hr fB);unfold yf;refine bz (ax hs ai) ?_;rw[if_pos (Lv hi fB)];cases v with|some v=>refine bz (ax hs ai) (dH (a:=ao r) ?_ (yh (aaH fB hs) (ax hl ai) (Bp rfl ai hk)));rw[FO fB,jK];exact V0 (by rw[<-jK];exact hs) (dO r).symm|none=>exact yh (by rw[aX];exact ax (mT hr 2) ai) (ax hl ai) (Bp rfl ai hk)
theorem akh(hi:fi<=r.length)(hr:r.length<=900)(hl:le.length<=900)(hk:k (.ok .next) (e9 P fi []) (sF cs os ss (r++[Od.var,.push b]++[.two op]) (le++[(r++[Od.var,.push b]).length]))):FN P cs (ao os) (ay ss) (ao (r++[Od.var,.push b])) (ay le) (cX (gS [] ss) os) (cM 5 k) fi p op b:=by
 have hn:(ao (r++[Od.var,.push b])).length=r.length+2:=by rw[dO,aX];rfl
 have fB:(((ao (r++[Od.var,.push b])).length:Nat):Int)=r.length+2:=by rw[hn];rfl
 unfold FN;refine bz (ax (show _<=1000 from(Iv hr fB)) ai) ?_;rw[if_pos (Lv hi fB)];exact yh (by rw[<-dO];exact Iv hr fB) (ax hl ai) (Bp rfl ai hk)
theorem aki(hi:fi<=r.length)(hr:r.length<=900)(hl:le.length<=900)(hk:k (.ok .next) (e9 P fi []) (sF cs os ss (r++[.push (.i (-a))]) (le++[r.length]))):yg P cs (ao os) (ay ss) (ao (r++[.push (.i a)])) (ay le) (cX (gS [] ss) os) (cM 5 k) fi p a:=by
 have hn:(ao (r++[.push (.i a)])).length=r.length+1:=by rw[dO,aX];rfl
 have fB:(((ao (r++[.push (.i a)])).length:Nat):Int)=r.length+1:=by rw[hn];rfl
 have hs:(ao (r++[.push (.i a)])).length<=1000:=(Z0 hr fB);unfold yg;refine bz (ax hs ai) ?_;rw[if_pos (Lv hi fB)];refine bz (ax hs ai) (dH (a:=ao r) ?_ (yh (aaI fB hs) (ax hl ai) (Bp rfl ai hk)));rw[FO fB,jK];exact V0 (by rw[<-jK];exact hs) (dO r).symm
theorem FP(Z:AO c P ae){o:Od}{q:List Od}{l:List V}{n:Int}(hq:q.length=jq o)(hr:r.length<=900)(h:nR c P ae cs (ao os) (ay ss) (ao (r++q)) (ay le) (cX (gS [] ss) os) k fi p l o n)(e1:l=ao q)(e2:n=(jq o:Nat))(hn:jq o<=2):bb c 130 none 5 (e9 P fi [("place",.int p),("order",o.v)]) (sF cs os ss (r++q) le) (((iK P).drop 1).take 2++(iK P).drop 3) k:=by
 subst e1 e2;unfold nR at h;have hl:(ao (r++q)).length=r.length+jq o:=by rw[dO,aX,hq]
 have hs:(ao (r++q)).length<=1000:=(Z1 hr hn hl);have xQ:(((ao (r++q)).length:Nat):Int)=r.length+(jq o:Nat):=by rw[hl];rfl
 refine TX.app ?_;refine TX.ask (n:=60) Z ?_;rw[aj8];refine bz (ax hs ai) (dH (a:=ao q) ?_ (TX.ask (n:=60) Z h));rw[FO xQ,jK];exact VZ (by rw[<-jK];exact hs) (dO r).symm
theorem akj o:jq o<=2:=by cases o<;>exact GO rfl
theorem Bq(e:l=r++q)(h:l.length<=900):r.length<=900:=ax (by rw[e,aX];exact cy _ _) h
theorem akk(Z:AO c P ae){b:KV}{op:Str}(hr:(r++[Od.var,.push b]).length<=900)(hl:le.length<=900)(hi:fi<=r.length)(hk:k (.ok .next) (e9 P fi []) (sF cs os ss (r++[Od.var,.push b]++[.two op]) (le++[(r++[Od.var,.push b]).length]))):bb c 130 none 5 (e9 P fi [("place",.int p),("order",(Od.two op).v)]) (sF cs os ss (r++[Od.var,.push b]) le) (((iK P).drop 1).take 2++(iK P).drop 3) (cM 5 k):=by have ql:=Bq rfl hr;have x0:FN P cs (ao os) (ay ss) (ao (r++[Od.var,.push b])) (ay le) (cX (gS [] ss) os) (cM 5 k) fi p op b:=akh hi ql hl hk;have x:nR c P ae cs (ao os) (ay ss) (ao (r++[Od.var,.push b])) (ay le) (cX (gS [] ss) os) (cM 5 k) fi p [Od.var.v,(Od.push b).v] (.two op) 2:=du (akb op b) x0;exact@FP c P ae cs os r ss le (cM 5 k) fi p Z (.two op) [Od.var,.push b] [Od.var.v,(Od.push b).v] 2 rfl ql x rfl rfl (br 2)
theorem akl(Z:AO c P ae){a b:KV}{op:Str}{v:Option KV}(hm:(op,a,b,v)∈fO)(hr:(r++[Od.push a,.push b]).length<=900)(hl:le.length<=900)(hi:fi<=r.length){vj:Nat}(hk:k (.ok .next) (e9 P (FS.put ⟨r++[.push a,.push b],le,vj⟩ fi (.two op) r v).fi []) (sF cs os ss (FS.put ⟨r++[.push a,.push b],le,vj⟩ fi (.two op) r v).fo (FS.put ⟨r++[.push a,.push b],le,vj⟩ fi (.two op) r v).le)):bb c 130 none 5 (e9 P fi [("place",.int p),("order",(Od.two op).v)]) (sF cs os ss (r++[Od.push a,.push b]) le) (((iK P).drop 1).take 2++(iK P).drop 3) (cM 5 k):=by have ql:=Bq rfl hr;have x0:yf P cs (ao os) (ay ss) (ao (r++[Od.push a,.push b])) (ay le) (cX (gS [] ss) os) (cM 5 k) fi p (op,a,b,v):=akg hi ql hl hk;have x:nR c P ae cs (ao os) (ay ss) (ao (r++[Od.push a,.push b])) (ay le) (cX (gS [] ss) os) (cM 5 k) fi p [(Od.push a).v,(Od.push b).v] (.two op) 2:=aj' (t:=(op,a,b,v)) hm x0;exact@FP c P ae cs os r ss le (cM 5 k) fi p Z (.two op) [.push a,.push b] [(Od.push a).v,(Od.push b).v] 2 rfl ql x rfl rfl (br 2)
theorem akm(Z:AO c P ae){a:Int}(ha:a∈[(0:Int),1,2,3])(hr:(r++[Od.push (.i a)]).length<=900)(hl:le.length<=900)(hi:fi<=r.length)(hk:k (.ok .next) (e9 P fi []) (sF cs os ss (r++[.push (.i (-a))]) (le++[r.length]))):bb c 130 none 5 (e9 P fi [("place",.int p),("order",Od.one.v)]) (sF cs os ss (r++[Od.push (.i a)]) le) (((iK P).drop 1).take 2++(iK P).drop 3) (cM 5 k):=by have ql:=Bq rfl hr;have x0:yg P cs (ao os) (ay ss) (ao (r++[Od.push (.i a)])) (ay le) (cX (gS [] ss) os) (cM 5 k) fi p a:=aki hi ql hl hk;have x:nR c P ae cs (ao os) (ay ss) (ao (r++[Od.push (.i a)])) (ay le) (cX (gS [] ss) os) (cM 5 k) fi p [(Od.push (.i a)).v] .one 1:=akd (a:=a) ha x0;exact@FP c P ae cs os r ss le (cM 5 k) fi p Z .one [.push (.i a)] [(Od.push (.i a)).v] 1 rfl ql x rfl rfl (dI 1)
theorem akn(Z:AO c P ae){o:Od}(ho:jq o=0)(hf:fo.length<=900)(hl:le.length<=900)(hk:k (.ok .next) (e9 P fi []) (sF cs os ss (fo++[o]) (le++[fo.length]))):bb c 130 none 5 (e9 P fi [("place",.int p),("order",o.v)]) (sF cs os ss fo le) (((iK P).drop 1).take 2++(iK P).drop 3) (cM 5 k):=by have x:nR c P ae cs (ao os) (ay ss) (ao fo) (ay le) (cX (gS [] ss) os) (cM 5 k) fi p [] o 0:=du (aj9 [] o) (yh (ax hf ai) (ax hl ai) (Bp rfl ai hk));have y:=@FP c P ae cs os fo ss le (cM 5 k) fi p Z o [] _ _ ho.symm hf (by rw[cG];exact x) rfl (by rw[ho];rfl) (akj o);rw[cG]at y;exact y
end
inductive iM(f:Nat->Nat)(u:List MO):List Nat->List MO->Prop|nil:iM f u [] []|cons{j:Nat}{js:List Nat}{m:MO}{a7:List MO}(h:u[j]?=some (cL f m))(t:iM f u js a7):iM f u (j::js) (m::a7)
theorem iM.eq(h:iM f u js a7):a7.map (λm=>some (cL f m))=js.map (λj=>u[j]?):=by induction h with|nil=>rfl|cons h t ih=>exact List.cons_eq_cons.mpr ⟨h.symm,ih⟩
theorem Pk.eK(h:iM (pk js u.length) u js a7)(nd:js.Nodup):Pk js u a7:=⟨nd,h.eq⟩
theorem vk{js:List Nat}(h:js.take m=cA m):∀i,i<m->js[i]?=some i:=λi hi=>by
 have :(js.take m)[i]?=some i:=by rw[h];exact mX hi
 rwa[List.getElem?_take_of_lt hi]at this
theorem mu l:cL f (.list l)=.list (ba f l):=rfl
theorem mw l:cL f (.bg l)=.bg (d9 f l):=rfl
theorem my l:cL f (.aV l)=.aV (d9 f l):=rfl
theorem mz a d:cL f (.inst a d)=.inst a (f d):=rfl
theorem mB cs:cL f (.tab cs)=.tab cs:=rfl
theorem V4 i:bY f (.ref i)=.ref (f i):=rfl
theorem V5 i:bY f (.int i)=.int i:=rfl
theorem Lw:ba f []=[]:=rfl
theorem Lx v l:ba f (v::l)=bY f v::ba f l:=rfl
theorem V6{K:Type}:d9 f ([]:List (K×V))=[]:=rfl
theorem V7{K:Type} x v(l:List (K×V)):d9 f ((x,v)::l)=(x,bY f v)::d9 f l:=rfl
theorem V8 l:cL f (.list (ao l))=.list (ao l):=congrArg MO.list (kR f l)
theorem V9 l:cL f (.list (ay l))=.list (ay l):=congrArg MO.list (qm f l)
theorem e_{u:List MO}{j:Nat}(h:u[j]?=some (.list (ao l))):u[j]?=some (cL f (.list (ao l))):=by rw[V8];exact h
theorem kh{u:List MO}{j:Nat}(h:u[j]?=some (.list (ay l))):u[j]?=some (cL f (.list (ay l))):=by rw[V9];exact h
theorem TC.at(p:Pk js u a7)(h0:js[0]?=some 0)(hx:u.all fM=true)(ha:args=ba (pk js u.length) gx)(hs:∀k:KT V,k (.ok cT) (a7++nw)->TC c n none (.st (.ref a)) gx a7 k)(hl:n<=n'){k:KT V}(hk:k (.ok (bY (pk js u.length) cT)) (u++nw.map (cL (pk js u.length)))):TC c n' none (.st (.ref a)) args u k:=by subst ha;exact TC.up (TC.frame (f:=.st (.ref a)) p h0 hx (hs _ (.mk nw hk))) hl
theorem FQ{k:KT V}(p:Pk js u a7)(low:js.take m=cA m)(ce:Y.cells=[]){v:V}(hv:v=bY (pk js u.length) cT)(h:k (.ok cT) a7):cM m (ik k) (.ok (.ret v)) Y u:=hv▸cM.ret (cg:=⟨Y.sc,[],[],Y.nest⟩) ⟨p,vk low,rfl,rfl,ce,λx i e=>by rw[ce]at e;exact aE e,λx v e=>aE e⟩ h
noncomputable def vl(os ss:List V):List MO:=[.list os,.list ss,.aV [("orders",.ref 5),("starts",.ref 6)],.inst 343 7]
section
variable{os fo:List Od}
theorem ako:Pk [0,1,2,3,4,6,7] (sF cs os ss fo le) (tL cs (ao os) (ao fo) (ay ss) (ay le)):=.eK (.cons rfl (.cons rfl (.cons rfl (.cons (e_ rfl) (.cons (kh rfl) (.cons (e_ rfl) (.cons (kh rfl) .nil))))))) ai
theorem V_(Z:AO c P ae)(ho:os.length<=900)(hs:ss.length<=900)(hl:le.length=os.length)(hf:fo.length<=os.length)(ht:∀o,o∈fo->ft os.length o)(hp:∀p,p∈ss->p<os.length)(akp:Y.cells=[])(hk:k (.ok (.ref 8)) (sC cs (ao os) (ay ss)++vl (ao (fo.map (bU le))) (ay (ss.map (gv le))))):TC c 126 none (.st (.ref 408)) [.ref 1,.ref 6,.ref 7] (sF cs os ss fo le) (nN Y (cM 5 (ik k))):=by
 refine TC.at (n:=91) (gx:=[.ref 1,.ref 5,.ref 6]) (cT:=.ref 11) (nw:=[.cell (some (.ref 6)),.list (ao (fo.map (bU le))),.list (ay (ss.map (gv le))),.aV [("orders",.ref 8),("starts",.ref 9)],.inst 343 10]) ako rfl rfl rfl (λk h=>VU Z (ax hs ai) (ax (bo hl) (ax ho ai)) (ax hf (ax ho ai)) (hl▸ht) (hl▸hp) h) ai ?_;refine FQ (js:=[0,1,2,3,4,9,10,11,12]) (cT:=.ref 8) (.eK (.cons rfl (.cons rfl (.cons rfl (.cons (e_ rfl) (.cons (kh rfl) (.cons (e_ ?_) (.cons (kh ?_) (.cons rfl (.cons rfl .nil))))))))) ai) rfl akp rfl hk;.exact congrArg some (V8 _)
 .exact congrArg some (V9 _)
theorem V'{st cY:FS}(Z:AO c P ae)(h:tO fi st o cY)(hf:st.fo.length<=900)(hl:st.le.length<=900)(hk:kk (.ok .next) (e9 P cY.fi []) (sF cs os ss cY.fo cY.le)):bb c 130 none 5 (e9 P fi [("place",.int p),("order",o.v)]) (sF cs os ss st.fo st.le) (((iK P).drop 1).take 2++(iK P).drop 3) (cM 5 kk):=by obtain⟨fo,le,vj⟩:=st;cases h with|var r b op e hi=>cases e;exact akk Z hf hl hi hk|two r a b op v e hi hm=>cases e;exact akl Z hm hf hl hi hk|one r a e hi ha=>cases e;exact akm Z ha hf hl hi hk|keep _ ho=>exact akn Z ho hf hl hk
theorem akq{st cY:FS}(Z:AO c P ae)(h:fY (jr os ss) p o st cY)(hf:st.fo.length<=900)(hl:st.le.length<=900)(hk:kk (.ok .next) (e9 P cY.fi []) (sF cs os ss cY.fo cY.le)):bb c 130 none 5 (e9 P st.fi [("place",.int p),("order",o.v)]) (sF cs os ss st.fo st.le) (iK P) kk:=by
 refine TX.pickK ai ?_;rw[aj6];refine TX.app ?_;refine TX.ask (n:=60) Z ?_;unfold sF;rw[aj7];unfold fY at h;by_cases g:jr os ss p=true;.rw[if_pos g]at h;rw[if_pos g,dO];exact bz (ax hf ai) (V' Z h hf hl hk)
 .rw[if_neg g]at h;rw[if_neg g];exact V' Z h hf hl hk
theorem akr{st:FS}(Z:AO c P ae)(ho:os.length<=900)(hs:ss.length<=900)(h:cN (fY (jr os ss)) 0 os ⟨[],[],0⟩ st)(ht:∀o,o∈st.fo->ft os.length o)(hp:∀p,p∈ss->p<os.length)(hk:k (.ok (.ref 8)) (sC cs (ao os) (ay ss)++vl (ao (st.fo.map (bU st.le))) (ay (ss.map (gv st.le))))):TC c 131 none (.st (.ref 413)) [.ref 1,.int 16,.int 9] (sC cs (ao os) (ay ss)) k:=by
 refine TC.fn Z ajZ ajY (TX.pickK (show 0<5 by decide) ?_);rw[aj0];refine TX.app ?_;refine TX.ask (n:=60) Z ?_;rw[aj2];refine TC.up (VS Z (ax ho ai) (ax hs ai) ?_);show bb c 130 none 5 (Bo P [("goals",.ref 5),("found",.ref 6),("lead",.ref 7)]) (sF cs os ss [] []) _ _;refine TX.app ?_;refine TX.ask (n:=60) Z ?_;unfold sF;rw[aj3];refine TX.cons (TX.FL (n:=60) Z aj1 os (λj o=>.tup [.int j,o.v]) (λst=>e9 P st.fi []) (λst=>sF cs os ss st.fo st.le) (fY (jr os ss)) (λj st=>j<=os.length/\st.fo.length<=j/\st.le.length=j) (ml:=⟨[],[],0⟩) (me:=st) (src:=.enum 3) (show 3<5 by decide) ak aj4 (λj b=>?_) h ⟨dC _,br 0,rfl⟩ (λj a b b' e i h=>?_) λi=>?_);.show some (((ao os)[j]?).map λv=>V.tup [.int j,v])=_;rw[qh,uC];rfl
 .have hl:=(cn.mp e).1;obtain⟨i1,i2,i3⟩:=i;obtain⟨h1,h2⟩:=aka h;refine⟨⟨hl,ax h1 (gf i2),by rw[h2,i3]⟩,?_⟩;unfold sF;rw[aj5];exact akq Z h (ax i2 (ax i1 ho)) (ax (bo i3) (ax i1 ho)) ⟨⟨rfl,rfl,rfl⟩,λ_ _ e=>e,rfl⟩
 .refine TX.ask (n:=60) Z ?_;unfold sF;rw[ake];exact V_ Z ho hs i.2.2 i.2.1 ht hp rfl hk
end
noncomputable def qn:Od->Bool|.bf _=>true|_=>false
structure KS where
 fo:List Od
 le:List Nat
noncomputable abbrev KS.keep(st:KS)(o:Od):KS:=⟨st.fo++[o],st.le++[st.fo.length]⟩
inductive vm(gl:Bool)(st:KS):Od->KS->Prop|zero(r:List Od)(g:Int)(hf:st.fo=r++[.push (.i 0)])(hg:gl=false):vm gl st (.bf g) ⟨r++[.go g],st.le++[r.length]⟩|one(r:List Od)(g:Int)(hf:st.fo=r++[.push (.i 1)])(hg:gl=false):vm gl st (.bf g) ⟨r,st.le++[r.length]⟩|test(r:List Od)(g:Int)(op:Str)(hf:st.fo=r++[.two op])(hg:gl=false):vm gl st (.bf g) (st.keep (.bf g))|keep(o:Od)(ho:qn o=false):vm gl st o (st.keep o)
def mC(gl:Int->Bool)(p:Nat)(o:Od)(st cY:KS):Prop:=vm (gl p) st o cY
theorem aks{st cY:KS}(h:vm gl st o cY):cY.fo.length<=st.fo.length+1/\cY.le.length=st.le.length+1:=by cases h with|zero r g hf=>exact⟨by rw[hf,aX,aX];exact dI _,aX⟩|one r g hf=>exact⟨by rw[hf,aX];exact ax (cy _ _) (dI _),aX⟩|_=>exact⟨bo aX,aX⟩
section
variable{os ss fo le:List V}{kv:List (Int×V)}{k:KX}
abbrev mD P:=bP (sO P 420 1)
@[irreducible]def eL(P:aL)(q:bI):Loc:=⟨cO P 420,("code",.ref 1)::("goals",.ref 5)::("found",.ref 6)::("lead",.ref 7)::q,[],none⟩
abbrev yi(P:aL)(q:bI):Loc:=⟨cO P 420,("code",.ref 1)::q,[],none⟩
theorem akt:enter (bc P 420).ps (bc P 420).sc [] (bc P 420).nest [.ref 1] (sC cs os ss)=some (yi P [],sC cs os ss):=ak
theorem aku:(cb P ae).fn 420=some (bc P 420):=ak
theorem akv:bO P 420=(bO P 420).take 1++sO P 420 1::(bO P 420).drop 2:=ak
theorem akw:i7 (sO P 420 1):=⟨by kernel_rfl,by kernel_rfl,λ_=>rfl⟩
theorem akx:mD P=(mD P).take 1++(mD P).drop 1:=ak
theorem aky:(aC c P ae 60).x ((bO P 420).take 1) (yi P []) (sC cs os ss) k=TC c 124 none (.st (.ref 403)) [.ref 1] (sC cs os ss) (bx (yi P []) k λv u=>k (.ok .next) (yi P [("goals",v),("found",.ref u.length),("lead",.ref (u++[MO.list []]).length)]) (u++[MO.list []]++[MO.list []])):=ak
theorem akz:yi P [("goals",.ref 5),("found",.ref 6),("lead",.ref 7)]=eL P []:=ak
theorem akA K:fW (cb P ae) (aC c P ae 60).e (iq (sO P 420 1)) (eL P []) (gw cs os ss fo le kv) K=K (.ok (.enum 3,[])) (gw cs os ss fo le kv):=ak
theorem akB v:cf (d2 (sO P 420 1)) (.tup [.int p,v]) (eL P []) (gw cs os ss fo le kv)=some (eL P [("place",.int p),("order",v)],gw cs os ss fo le kv):=ak
def yj(fo:List V)(kv:List (Int×V))(p:Int)(f:V->Prop):Prop:=gd (fo.length<=bk) (if decide ((0:Int)<fo.length)=true then(if(!(kv.lookup p).isSome)=true then gd (fo.length<=bk) (aH (df fo (fo.length-1)) f)else f (.tup [.str ""]))else f (.tup [.str ""]))
theorem akC v:(aC c P ae 60).x ((mD P).take 1) (eL P [("place",.int p),("order",v)]) (gw cs os ss fo le kv) k=yj fo kv p λx=>k (.ok .next) (eL P [("place",.int p),("order",v),("ahead",x)]) (gw cs os ss fo le kv):=ak
@[irreducible]def yk(c:aR)(P:aL)(ae:aj->Option (List V))(cs:List ((Nat×Nat)×Str))(os ss fo le:List V)(kv:List (Int×V))(k:KX)(p:Int)(o:Od)(x:V):Prop:=(aC c P ae 60).x ((mD P).drop 1) (eL P [("place",.int p),("order",o.v),("ahead",x)]) (gw cs os ss fo le kv) k
abbrev FR(P:aL)(cs:List ((Nat×Nat)×Str))(os ss:List V)(kv:List (Int×V))(k:KX)(p:Int)(o:Od)(x:V)(b:Bool)(fo le:List V):Prop:=k (.ok .next) (eL P [("place",.int p),("order",o.v),("ahead",x),("is_known",.bool b)]) (gw cs os ss fo le kv)
theorem akD(h:qn o=false):yk c P ae cs os ss fo le kv k p o x=lE le fo o (FR P cs os ss kv k p o x false):=by cases o with|bf g=>exact nomatch h|_=>clear h;kernel_rfl
theorem akE:yk c P ae cs os ss fo le kv k p (.bf g) (Od.two op).v=lE le fo (.bf g) (FR P cs os ss kv k p (.bf g) (Od.two op).v false):=ak
def FT(fo:List V)(f:Prop):Prop:=gd (fo.length<1000000) (aH fo.getLast? λ_=>f)
theorem akF:yk c P ae cs os ss fo le kv k p (.bf g) (Od.push (.i 0)).v=FT fo (lE le fo.dropLast (.go g) (FR P cs os ss kv k p (.bf g) (Od.push (.i 0)).v true)):=ak
theorem akG:yk c P ae cs os ss fo le kv k p (.bf g) (Od.push (.i 1)).v=FT fo (gd (fo.dropLast.length<=bk) (gd (le.length<1000000) (FR P cs os ss kv k p (.bf g) (Od.push (.i 1)).v true fo.dropLast (le++[.int fo.dropLast.length])))):=ak
theorem akH:(aC c P ae 60).x ((bO P 420).drop 2) (eL P []) (gw cs os ss fo le kv) k=TC c 126 none (.st (.ref 408)) [.ref 1,.ref 6,.ref 7] (gw cs os ss fo le kv) (nN (eL P []) k):=ak
end
section
variable{os fo r:List Od}{o:Od}
theorem akI{fo:List V}{kv:List (Int×V)}(hl:fo.length<=900)(h:∀x,f x):yj fo kv p f:=by
 unfold yj;refine bz (ax hl ai) ?_;by_cases h0:(0:Int)<fo.length;.rw[if_pos (decide_eq_true h0)];cases(kv.lookup p).isSome with|true=>exact h _|false=>refine bz (ax hl ai) ?_;rw[nK (Int.le_sub_one_of_lt h0) (Int.sub_one_lt_iff.mpr (C_ _)) (ax hl ai),cp (Z2 h0)];exact h _
 .rw[if_neg (λq=>h0 (of_decide_eq_true q))];exact h _
theorem akJ(h:(r++[x]).length<=900):df (ao (r++[x])) ((ao (r++[x])).length-1)=some x.v:=by
 have hl:(ao (r++[x])).length=r.length+1:=by rw[dO,aX];rfl
 rw[aX,sL]at h;rw[hl,FO (k:=r.length) (d:=1) rfl,nK (dK _) (eX.mpr (sd (eR _) hl.symm)) (ax (bo hl) (ax h ai)),qh];show((r++[x])[r.length]?).map Od.v=_;rw[eS (br _),pC];rfl
theorem Ly{kv:List (Int×V)}(hl:(r++[x]).length<=900)(hg:(kv.lookup p).isSome=false)(h:f x.v):yj (ao (r++[x])) kv p f:=by
 unfold yj;have hs:(ao (r++[x])).length<=900:=by rw[dO];exact hl
 refine bz (ax hs ai) ?_;rw[if_pos (decide_eq_true (by rw[dO,aX,sL];exact Int.natCast_succ_pos _)),hg,if_pos (show(!false)=true from rfl),akJ hl];exact bz (ax hs ai) h
theorem Wa(hl:(r++[x]).length<=900)(h:f):FT (ao (r++[x])) f:=by unfold FT;refine bz (by rw[dO];exact bD hl ai) ?_;rw[jK];rw[List.getLast?_append];exact h
theorem Wb:(ao (r++[x])).dropLast=ao r:=by rw[jK];exact List.dropLast_concat
theorem Wc:d8 (eL P q) (eL P [])/\∀x v,(eL P []).vars.lookup x=some v->(eL P q).vars.lookup x=some v:=by unfold eL;exact⟨⟨rfl,rfl,rfl⟩,λx v e=>nO (K:=Str) (ex:=q) (vars:=[("code",.ref 1),("goals",.ref 5),("found",.ref 6),("lead",.ref 7)]) e⟩
theorem Lz{K:List V->List V->Prop}(hf:fo.length<=900)(hl:le.length<=900)(h:K (ao (fo++[o])) (ay (le++[fo.length]))):lE (ay le) (ao fo) o K:=yh (ax hf ai) (ax hl ai) h
theorem FU(Z:AO c P ae)(h:yk c P ae cs (ao os) (ay ss) (ao q) (ay le) (cX (gS [] ss) os) k p o x):bb c 130 none 5 (eL P [("place",.int p),("order",o.v),("ahead",x)]) (sF cs os ss q le) ((mD P).drop 1) k:=by unfold yk at h;exact TX.ask (n:=60) Z h
theorem FV(Z:AO c P ae)(h:yj (ao fo) (cX (gS [] ss) os) p λx=>bb c 130 none 5 (eL P [("place",.int p),("order",o.v),("ahead",x)]) (sF cs os ss fo le) ((mD P).drop 1) k):bb c 130 none 5 (eL P [("place",.int p),("order",o.v)]) (sF cs os ss fo le) (mD P) k:=by rw[akx];refine TX.app ?_;refine TX.ask (n:=60) Z ?_;unfold sF;rw[akC];exact h
theorem akK(Z:AO c P ae)(hg:jr os ss p=false)(hf:(r++[Od.push (.i 0)]).length<=900)(hl:le.length<=900)(hk:∀q,k (.ok .next) (eL P q) (sF cs os ss (r++[.go g]) (le++[r.length]))):bb c 130 none 5 (eL P [("place",.int p),("order",(Od.bf g).v)]) (sF cs os ss (r++[Od.push (.i 0)]) le) (mD P) k:=by refine FV Z (Ly hf hg (FU Z ?_));rw[akF];refine Wa hf ?_;rw[Wb];exact Lz (Bq rfl hf) hl (hk _)
theorem akL(Z:AO c P ae)(hg:jr os ss p=false)(hf:(r++[Od.push (.i 1)]).length<=900)(hl:le.length<=900)(hk:∀q,k (.ok .next) (eL P q) (sF cs os ss r (le++[r.length]))):bb c 130 none 5 (eL P [("place",.int p),("order",(Od.bf g).v)]) (sF cs os ss (r++[Od.push (.i 1)]) le) (mD P) k:=by refine FV Z (Ly hf hg (FU Z ?_));rw[akG];refine Wa hf ?_;rw[Wb];refine bz (by rw[dO];exact ax (Bq rfl hf) ai) (bz (by rw[kg];exact bD hl ai) ?_);have :=hk [("place",.int p),("order",(Od.bf g).v),("ahead",(Od.push (.i 1)).v),("is_known",.bool true)];unfold sF at this;rw[yc]at this;rw[dO];exact this
theorem akM(Z:AO c P ae)(hg:jr os ss p=false)(hf:(r++[Od.two op]).length<=900)(hl:le.length<=900)(hk:∀q,k (.ok .next) (eL P q) (sF cs os ss (r++[Od.two op]++[.bf g]) (le++[(r++[Od.two op]).length]))):bb c 130 none 5 (eL P [("place",.int p),("order",(Od.bf g).v)]) (sF cs os ss (r++[Od.two op]) le) (mD P) k:=by refine FV Z (Ly hf hg (FU Z ?_));rw[akE];exact Lz hf hl (hk _)
theorem akN(Z:AO c P ae)(ho:qn o=false)(hf:fo.length<=900)(hl:le.length<=900)(hk:∀q,k (.ok .next) (eL P q) (sF cs os ss (fo++[o]) (le++[fo.length]))):bb c 130 none 5 (eL P [("place",.int p),("order",o.v)]) (sF cs os ss fo le) (mD P) k:=by refine FV Z (akI (by rw[dO];exact hf) λx=>FU Z ?_);rw[akD ho];exact Lz hf hl (hk _)
theorem akO{st cY:KS}(Z:AO c P ae)(h:vm (jr os ss p) st o cY)(hf:st.fo.length<=900)(hl:st.le.length<=900)(hk:∀q,k (.ok .next) (eL P q) (sF cs os ss cY.fo cY.le)):bb c 130 none 5 (eL P [("place",.int p),("order",o.v)]) (sF cs os ss st.fo st.le) (mD P) k:=by obtain⟨fo,le⟩:=st;cases h with|zero r g e hg=>cases e;exact akK Z hg hf hl hk|one r g e hg=>cases e;exact akL Z hg hf hl hk|test r g op e hg=>cases e;exact akM Z hg hf hl hk|keep _ ho=>exact akN Z ho hf hl hk
end
section
variable{os:List Od}
theorem akP{st:KS}(Z:AO c P ae)(ho:os.length<=900)(hs:ss.length<=900)(h:cN (mC (jr os ss)) 0 os ⟨[],[]⟩ st)(ht:∀o,o∈st.fo->ft os.length o)(hp:∀p,p∈ss->p<os.length)(hk:k (.ok (.ref 8)) (sC cs (ao os) (ay ss)++vl (ao (st.fo.map (bU st.le))) (ay (ss.map (gv st.le))))):TC c 131 none (.st (.ref 420)) [.ref 1] (sC cs (ao os) (ay ss)) k:=by
 refine TC.fn Z aku akt (TX.pickK (show 0<5 by decide) ?_);rw[akv];refine TX.app ?_;refine TX.ask (n:=60) Z ?_;rw[aky];refine TC.up (VS Z (ax ho ai) (ax hs ai) ?_);show bb c 130 none 5 (yi P [("goals",.ref 5),("found",.ref 6),("lead",.ref 7)]) (sF cs os ss [] []) _ _;rw[akz];refine TX.cons (TX.FL (n:=60) Z akw os (λj o=>.tup [.int j,o.v]) (λst=>eL P []) (λst=>sF cs os ss st.fo st.le) (mC (jr os ss)) (λj st=>j<=os.length/\st.fo.length<=j/\st.le.length=j) (ml:=⟨[],[]⟩) (me:=st) (src:=.enum 3) (show 3<5 by decide) ak akA (λj b=>?_) h ⟨dC _,br 0,rfl⟩ (λj a b b' e i h=>?_) λi=>?_);.show some (((ao os)[j]?).map λv=>V.tup [.int j,v])=_;rw[qh,uC];rfl
 .have hl:=(cn.mp e).1;obtain⟨i1,i2,i3⟩:=i;obtain⟨h1,h2⟩:=aks h;refine⟨⟨hl,ax h1 (gf i2),by rw[h2,i3]⟩,?_⟩;unfold sF;rw[akB];exact akO Z h (ax i2 (ax i1 ho)) (ax (bo i3) (ax i1 ho)) λq=>⟨Wc.1,Wc.2,rfl⟩
 .refine TX.ask (n:=60) Z ?_;unfold sF;rw[akH];exact V_ Z ho hs i.2.2 i.2.1 ht hp (by unfold eL;rfl) hk
end
noncomputable def qo(s:bj):Expr:=if h:s.ctorIdx=11 then Pr (motive_2:=λ_=>aq) s h (λt _ _ _=>t)else .Name "" default
noncomputable def oY:Od->Bool|.go _=>true|_=>false
inductive oZ(os:List Od):Int->Int->Prop|stop(p:Int)(o:Od)(h:os[p.toNat]?=some o)(h0:0<=p)(hg:oY o=false):oZ os p p|go(p q g:Int)(h:os[p.toNat]?=some (.go q))(h0:0<=p)(hq:p<q)(t:oZ os q g):oZ os p g
def FW(st:bj):Prop:=∃p,st=.While (qo st) (bP st) [] p
section
variable{os ss fo:List V}{kv:List (Int×V)}{k:KX}
@[irreducible]noncomputable def gU(cs:List ((Nat×Nat)×Str))(os:List V)(kv:List (Int×V)):List MO:=[.tab cs,.list os,.bg kv]
@[irreducible]def nS(P:aL)(p:Int):Loc:=⟨cO P 427,[("orders",.ref 1),("place",.int p),("seen",.ref 2)],[],none⟩
theorem akQ:(cb P ae).fn 427=some (bc P 427):=ak
theorem akR:enter (bc P 427).ps (bc P 427).sc [] (bc P 427).nest [.ref 1,.int p] [.tab cs,.list os]=some (⟨cO P 427,[("orders",.ref 1),("place",.int p)],[],none⟩,[.tab cs,.list os]):=ak
theorem akS:bO P 427=(bO P 427).take 1++sO P 427 1::(bO P 427).drop 2:=ak
theorem akT:FW (sO P 427 1):=⟨Bm (sO P 427 1),by kernel_rfl⟩
theorem akU:(aC c P ae 40).x ((bO P 427).take 1) ⟨cO P 427,[("orders",.ref 1),("place",.int p)],[],none⟩ [.tab cs,.list os] k=k (.ok .next) (nS P p) (gU cs os []):=ak
theorem akV{K:KT Bool}:(aC c P ae 40).t (qo (sO P 427 1)) (nS P p) (gU cs os kv) K=aH (df os p) λx=>aH (kK x (.int 0) (gU cs os kv)) λw=>aH (cmp .Eq w (.str "GO") (gU cs os kv)) λc=>if c=true then(if(!(kv.lookup p).isSome)=true then K (.ok true) (gU cs os kv)else K (.ok false) (gU cs os kv))else K (.ok false) (gU cs os kv):=ak
theorem akW:bP (sO P 427 1)=(bP (sO P 427 1)).take 1++(bP (sO P 427 1)).drop 1:=ak
theorem akX:(aC c P ae 40).x ((bP (sO P 427 1)).take 1) (nS P p) (gU cs os kv) k=aH (kL (.ref 2) (.int p) (.bool true) (gU cs os kv)) λu=>k (.ok .next) (nS P p) u:=ak
theorem akY:(aC c P ae 40).x ((bP (sO P 427 1)).drop 1) (nS P p) (gU cs os kv) k=aH (df os p) λx=>aH (kK x (.int 1) (gU cs os kv)) λw=>k (.ok .next) ⟨cO P 427,[("orders",.ref 1),("place",w),("seen",.ref 2)],[],none⟩ (gU cs os kv):=ak
theorem akZ:(aC c P ae 40).x ((bO P 427).drop 2) (nS P p) (gU cs os kv) k=k (.ok (.ret (.int p))) (nS P p) (gU cs os kv):=ak
@[irreducible]noncomputable def fG(cs:List ((Nat×Nat)×Str))(os ss fo:List V):List MO:=[.tab cs,.inst 343 2,.aV [("orders",.ref 3),("starts",.ref 4)],.list os,.list ss,.list fo]
@[irreducible]def fZ(P:aL)(q:bI):Loc:=⟨cO P 434,("code",.ref 1)::("found",.ref 5)::q,[],none⟩
theorem ak0:(cb P ae).fn 434=some (bc P 434):=ak
theorem ak1:enter (bc P 434).ps (bc P 434).sc [] (bc P 434).nest [.ref 1] (sC cs os ss)=some (⟨cO P 434,[("code",.ref 1)],[],none⟩,sC cs os ss):=ak
theorem ak2:bO P 434=(bO P 434).take 1++sO P 434 1::(bO P 434).drop 2:=ak
theorem ak3:i7 (sO P 434 1):=⟨by kernel_rfl,by kernel_rfl,λ_=>rfl⟩
theorem ak4:(aC c P ae 60).x ((bO P 434).take 1) ⟨cO P 434,[("code",.ref 1)],[],none⟩ (sC cs os ss) k=k (.ok .next) (fZ P []) (fG cs os ss []):=ak
theorem ak5 K:fW (cb P ae) (aC c P ae 60).e (iq (sO P 434 1)) (fZ P []) (fG cs os ss fo) K=K (.ok (.list 3,[])) (fG cs os ss fo):=ak
theorem ak6 v:cf (d2 (sO P 434 1)) v (fZ P []) (fG cs os ss fo)=some (fZ P [("order",v)],fG cs os ss fo):=ak
theorem ak7:bP (sO P 434 1)=(bP (sO P 434 1)).take 1++(bP (sO P 434 1)).drop 1:=ak
theorem ak8:(aC c P ae 60).x ((bP (sO P 434 1)).take 1) (fZ P [("order",(Od.go p).v)]) (fG cs os ss fo) k=TC c 122 none (.st (.ref 427)) [.ref 3,.int p] (fG cs os ss fo) (bx (fZ P [("order",(Od.go p).v)]) k λv u=>k (.ok .next) (fZ P [("order",.tup [.str "GO",v])]) u):=ak
theorem ak9:(aC c P ae 60).x ((bP (sO P 434 1)).take 1) (fZ P [("order",(Od.bf p).v)]) (fG cs os ss fo) k=TC c 122 none (.st (.ref 427)) [.ref 3,.int p] (fG cs os ss fo) (bx (fZ P [("order",(Od.bf p).v)]) k λv u=>k (.ok .next) (fZ P [("order",.tup [.str "FALSE",v])]) u):=ak
theorem ak_(h:fX o=none):(aC c P ae 60).x ((bP (sO P 434 1)).take 1) (fZ P [("order",o.v)]) (fG cs os ss fo) k=k (.ok .next) (fZ P [("order",o.v)]) (fG cs os ss fo):=by cases o<;>first|(cases h;done)|(clear h;kernel_rfl)
theorem ak' v:(aC c P ae 60).x ((bP (sO P 434 1)).drop 1) (fZ P [("order",v)]) (fG cs os ss fo) k=gd (fo.length<1000000) (k (.ok .next) (fZ P [("order",v)]) (fG cs os ss (fo++[v]))):=ak
theorem ala:(aC c P ae 60).x ((bO P 434).drop 2) (fZ P []) (fG cs os ss fo) k=k (.ok (.ret (.ref 7))) (fZ P []) (fG cs os ss fo++[.aV [("orders",.ref 5),("starts",.ref 4)],.inst 343 6]):=ak
end
theorem FX{K:Type}[DecidableEq K] k v w y(r:List (K×V)):dU k v ((y,w)::r)=if y=k then(y,v)::r else(y,w)::dU k v r:=rfl
theorem LA k v{q:Int}(h:q≠k):∀l:List (Int×V),(dU k v l).lookup q=l.lookup q:=by intro l;induction l with|nil=>show([(k,v)]:List (Int×V)).lookup q=none;rw[fL,beq_false_of_ne h];rfl|cons a r ih=>
 obtain⟨y,w⟩:=a;rw[FX];by_cases e:y=k;.rw[if_pos e,fL,fL];subst e;rw[beq_false_of_ne h]
 .rw[if_neg e,fL,fL,ih]
theorem vn{os:List Od}(h0:0<=p)(h1:os[p.toNat]?=some o)(h2:os.length<=1000):df (ao os) p=some o.v:=by have h:=(cn.mp h1).1;rw[nK h0 (by rw[dO];exact(C9 h0).mp h) (by rw[dO];exact ax h2 ai),qh,h1];rfl
section
variable{os fo:List Od}{p g:Int}
theorem LB(h:n<=900):n<=1000:=ax h ai
theorem alb(h:n<=900):n<1000000:=bD h ai
inductive vo(P:aL)(cs:List ((Nat×Nat)×Str))(os:List Od)(g:Int):Nat->Loc->List MO->Prop|mk(p:Int)(kv:List (Int×V))(hL:oZ os p g)(iZ:kv.length<=p.toNat)(hs:∀q,p<=q->kv.lookup q=none):vo P cs os g (os.length-p.toNat) (nS P p) (gU cs (ao os) kv)
theorem alc(h0:0<=p)(h:p<q):p.toNat<q.toNat:=(Int.toNat_lt_toNat (C6 h0 h)).mpr h
theorem ald{kv:List (Int×V)}(h:kv.length<=900) p:kL (.ref 2) (.int p) (.bool true) (gU cs (ao os) kv)=some (gU cs (ao os) (gA kv p)):=by unfold gU;show((if kv.length<=bk then some (MO.bg (gA kv p))else none).map _)=_;rw[if_pos (ax h ai)];rfl
theorem ale{kv:List (Int×V)}(Z:AO c P ae)(hn:os.length<=900)(ho:os[p.toNat]?=some (.go q))(h0:0<=p)(hq:p<q)(t:oZ os q g)(iZ:kv.length<=p.toNat)(hs:∀q,p<=q->kv.lookup q=none):bb c 90 none m (nS P p) (gU cs (ao os) kv) (bP (sO P 427 1)) (iJ k λY u=>∃f',f'<os.length-p.toNat/\vo P cs os g f' Y u):=by have hp:=(cn.mp ho).1;have Wd:=alc h0 hq;rw[akW];refine TX.app ?_;refine TX.ask (n:=40) Z ?_;rw[akX];refine dH (ald (ax iZ (fJ (cw hp hn))) p) ?_;refine TX.ask (n:=40) Z ?_;rw[akY,vn h0 ho (LB hn)];have y:=vo.mk (P:=P) (cs:=cs) q (gA kv p) t (ax (Lp p (.bool true) kv) (ax (gf iZ) Wd)) λr hr=>(LA p _ (Int.ne_of_gt (sT hq hr)) kv).trans (hs r (uz (qP hq) hr));unfold nS at y;exact⟨_,Cg hp Wd,y⟩
theorem alf(Z:AO c P ae)(hn:os.length<=900)(h:vo P cs os g f Y u)(hk:∀kv,k (.ok .next) (nS P g) (gU cs (ao os) kv)):(aC c P ae 40).t (qo (sO P 427 1)) Y u (bx Y k λq u=>if q then bb c 90 none m Y u (bP (sO P 427 1)) (iJ k λY u=>∃f',f'<f/\vo P cs os g f' Y u)else k (.ok .next) Y u):=by refine vo.casesOn h λp kv hL iZ hs=>?_;rw[akV];cases hL with
 |stop _ o ho h0 hg=>rw[vn h0 ho (LB hn)];have :=hk kv;clear hk hs iZ;cases o with|go q=>exact bZ hg.symm|_=>exact this
 |go _ q _ ho h0 hq t=>rw[vn h0 ho (LB hn)];show if(!(kv.lookup p).isSome)=true then _ else _;rw[hs p (C_ _)];exact ale Z hn ho h0 hq t iZ hs
theorem TX.Br(Z:AO c P ae){n:Nat}:fq c (2*n+10) none (aC c P ae n).t:=(aC.sn Z n).t
theorem alg(Z:AO c P ae)(hn:os.length<=900)(h:oZ os p g)(hk:k (.ok (.int g)) [.tab cs,.list (ao os)]):TC c 91 none (.st (.ref 427)) [.ref 1,.int p] [.tab cs,.list (ao os)] k:=by refine TC.fn Z akQ akR (TX.pickK (show 0<2 by decide) ?_);rw[akS];refine TX.app ?_;refine TX.ask (n:=40) Z ?_;rw[akU];obtain⟨pos,hw⟩:=akT (P:=P);refine TX.cons ?_;rw[hw];refine TX.AY (TX.Br Z (n:=40)) (vo P cs os g) (f:=os.length-p.toNat) (.mk p [] h (dC _) λ_ _=>rfl) λf Y u hj=>alf (k:=rA _ _) Z hn hj λkv=>?_;refine TX.ask (n:=40) Z ?_;rw[akZ];exact FQ (js:=[0,1]) (cT:=.int g) (.eK (.cons (by unfold gU;rfl) (.cons (e_ (by unfold gU;rfl)) .nil)) ai) rfl (by unfold nS;rfl) rfl hk
inductive vp(os:List Od):Od->Od->Prop|go(p g:Int)(h:oZ os p g):vp os (.go p) (.go g)|bf(p g:Int)(h:oZ os p g):vp os (.bf p) (.bf g)|keep(o:Od)(h:fX o=none):vp os o o
theorem alh:Pk [0,3] (fG cs (ao os) (ay ss) (ao fo)) [.tab cs,.list (ao os)]:=by unfold fG;exact .eK (.cons rfl (.cons (e_ rfl) .nil)) ai
theorem We(Z:AO c P ae)(hn:os.length<=900)(h:oZ os p g)(hk:k (.ok (.int g)) (fG cs (ao os) (ay ss) (ao fo))):TC c 122 none (.st (.ref 427)) [.ref 3,.int p] (fG cs (ao os) (ay ss) (ao fo)) k:=TC.at (n:=91) (gx:=[.ref 1,.int p]) (cT:=.int g) (nw:=[]) alh rfl (by unfold fG;rfl) rfl (λk h'=>alg Z hn h h') ai (by rw[iU,cG];exact hk)
theorem Wf:d8 (fZ P q) (fZ P [])/\∀x v,(fZ P []).vars.lookup x=some v->(fZ P q).vars.lookup x=some v:=by unfold fZ;exact⟨⟨rfl,rfl,rfl⟩,λx v e=>nO (K:=Str) (ex:=q) (vars:=[("code",.ref 1),("found",.ref 5)]) e⟩
theorem LC(Z:AO c P ae)(hf:fo.length<=900)(hk:∀q,k (.ok .next) (fZ P q) (fG cs (ao os) (ay ss) (ao (fo++[o])))):bb c 130 none m (fZ P [("order",o.v)]) (fG cs (ao os) (ay ss) (ao fo)) ((bP (sO P 434 1)).drop 1) k:=by refine TX.ask (n:=60) Z ?_;rw[ak'];rw[jK]at hk;exact bz (by rw[dO];exact alb hf) (hk _)
theorem ali(Z:AO c P ae)(hn:os.length<=900)(h:vp os o o')(hf:fo.length<=900)(hk:∀q,k (.ok .next) (fZ P q) (fG cs (ao os) (ay ss) (ao (fo++[o'])))):bb c 130 none m (fZ P [("order",o.v)]) (fG cs (ao os) (ay ss) (ao fo)) (bP (sO P 434 1)) k:=by rw[ak7];refine TX.app ?_;refine TX.ask (n:=60) Z ?_;cases h with|go p g h=>rw[ak8];exact We Z hn h (LC (o:=.go g) Z hf hk)|bf p g h=>rw[ak9];exact We Z hn h (LC (o:=.bf g) Z hf hk)|keep _ h=>rw[ak_ h];exact LC Z hf hk
theorem alj(Z:AO c P ae)(hn:os.length<=900)(h:∀o,o∈os->vp os o (th o))(hk:k (.ok (.ref 7)) (sC cs (ao os) (ay ss)++[.list (ao (os.map th)),.aV [("orders",.ref 5),("starts",.ref 4)],.inst 343 6])):TC c 131 none (.st (.ref 434)) [.ref 1] (sC cs (ao os) (ay ss)) k:=by
 refine TC.fn Z ak0 ak1 ?_;rw[ak2];refine TX.app ?_;refine TX.ask (n:=60) Z ?_;rw[ak4];refine TX.cons (TX.forL (n:=60) Z ak3 os Od.v (λj=>fG cs (ao os) (ay ss) (ao ((os.take j).map th))) 3 (show 3<5 by decide) rfl ak5 (λ_=>by unfold fG;rfl) (λj hj=>?_) ?_);.rw[ak6];have e:=jf hj;refine(ali (o':=th os[j]) Z hn (h _ (oz hj)) (by rw[bw,iT];exact ax (pA _ _) hn) λq=>⟨Wf.1,Wf.2,?_⟩);rw[e,cH];rfl
 refine TX.ask (n:=60) Z ?_;rw[ala,eV];unfold fG;exact hk
end
noncomputable def Wg(s:bj):Pos:=if h:s.ctorIdx=9 then DB (motive_2:=λ_=>Pos) s h (λ_ e _ _ _=>if h:e.ctorIdx=16 then sY (motive_1:=λ_=>Pos) e h (λg _ _ _=>if h:g.ctorIdx=23 then zN (motive_1:=λ_=>Pos) g h (λ_ q=>q)else default)else default)else default
noncomputable def nU(s:bj):Expr:=if h:s.ctorIdx=9 then DB (motive_2:=λ_=>aq) s h (λ_ e _ _ _=>if h:e.ctorIdx=16 then sY (motive_1:=λ_=>aq) e h (λ_ as _ _=>as.getD 0 (.Name "" default))else .Name "" default)else .Name "" default
noncomputable def Wh(s:bj):Pos:=if h:s.ctorIdx=9 then DB (motive_2:=λ_=>Pos) s h (λ_ e _ _ _=>if h:e.ctorIdx=16 then sY (motive_1:=λ_=>Pos) e h (λ_ _ _ p=>p)else default)else default
def LD(st:bj):Prop:=∃q p,iq st=.Call (.Name "range" q) [nU st] [] p
theorem Bs[Decidable p](h:p):gd p q=q:=if_pos h
theorem Wi{st:bj}[Decidable g]{n:Int}(hs:LD st)(h1:dk (nU st)=false/\ib (eI S Y u "range") (.type "range")=true)(he:∀K:KT V,ev (nU st) Y u K=gd g (K (.ok (.int n)) u))(hg:g)(hn:-1000000<n/\n<1000000) K:fW S ev (iq st) Y u K=K (.ok (.range n,[])) u:=by obtain⟨q,p,e⟩:=hs;rw[e];unfold fW;show(if(qR "range")="range"then gd (dk (nU st)=false/\ib (eI S Y u "range") (.type "range")=true) (ev (nU st) Y u (bh K λv u=>ij v λn=>gd (-1000000<n/\n<1000000) (K (.ok (.range n,[])) u)))else(if(qR "range")="enumerate"then gd (dk (nU st)=false/\ib (eI S Y u "range") (.type "enumerate")=true) (ev (nU st) Y u (bh K λv u=>i4 v λi=>dn u i λ_=>K (.ok (.enum i,[])) u))else ev (.Call (.Name "range" q) [nU st] [] p) Y u (bh K λv u=>rB v u K)))=_;rw[if_pos rfl,Bs h1,he,Bs hg];exact Bs hn
theorem LG(n:Nat) j u:rd (.range n) u j=some ((cA n)[j]?.map λ(i:Nat)=>V.int i):=by
 show some (if(j:Int)<n then some (V.int j)else none)=_;by_cases h:j<n;.rw[if_pos (eX.mpr h),mX h];rfl
 .rw[if_neg (λq=>h (eX.mp q)),l0 (by rw[fe];exact jc h)];rfl
section
variable{af os ss fo fi:List V}{pl kv:List (Int×V)}{k:KX}
@[irreducible]noncomputable def bS(cs:List ((Nat×Nat)×Str))(af:List V)(pl:List (Int×V))(os ss:List V):List MO:=[.tab cs,.inst 475 2,.aV [("rows",.ref 3),("places",.ref 4),("data",.ref 5),("pairs",.ref 6),("loops",.ref 7),("fns",.ref 8)],.list af,.bg pl,.list [],.bg [],.bg [],.bg [],.inst 343 10,.aV [("orders",.ref 11),("starts",.ref 12)],.list os,.list ss]
@[irreducible]noncomputable def cP(cs:List ((Nat×Nat)×Str))(af:List V)(pl:List (Int×V))(os ss:List V)(kv:List (Int×V))(fo:List V)(aA:List MO):List MO:=.tab cs::.inst 475 2::.aV [("rows",.ref 3),("places",.ref 4),("data",.ref 5),("pairs",.ref 6),("loops",.ref 7),("fns",.ref 8)]::.list af::.bg pl::.list []::.bg []::.bg []::.bg []::.inst 343 10::.aV [("orders",.ref 11),("starts",.ref 12)]::.list os::.list ss::.cell (some (.ref 1))::.bg kv::.list fo::aA
@[irreducible]def dA(P:aL)(q:bI):Loc:=⟨cO P 439,("code",.ref 9)::("goals",.ref 14)::("found",.ref 15)::q,[("flat",13)],none⟩
theorem alk:(cb P ae).fn 439=some (bc P 439):=ak
abbrev Wj(P:aL):Loc:=⟨cO P 439,[("code",.ref 9)],[("flat",13)],none⟩
theorem f_:(bS cs af pl os ss).length=13:=ak
theorem alm:enter (bc P 439).ps (bc P 439).sc [] (bc P 439).nest [.ref 1,.ref 9] (bS cs af pl os ss)=some (Wj P,bS cs af pl os ss++[.cell (some (.ref 1))]):=ak
theorem aln:bO P 439=(bO P 439).take 1++sO P 439 1::(((bO P 439).drop 2).take 1++(((bO P 439).drop 3).take 1++sO P 439 4::(bO P 439).drop 5)):=ak
theorem alo:i7 (sO P 439 1):=⟨by kernel_rfl,by kernel_rfl,λ_=>rfl⟩
theorem alp:i7 (sO P 439 4):=⟨by kernel_rfl,by kernel_rfl,λ_=>rfl⟩
theorem alq:(aC c P ae 60).x ((bO P 439).take 1) (Wj P) (bS cs af pl os ss++[.cell (some (.ref 1))]) k=k (.ok .next) (dA P []) (cP cs af pl os ss [] [] []):=ak
theorem alr K:fW (cb P ae) (aC c P ae 60).e (iq (sO P 439 1)) (dA P []) (cP cs af pl os ss kv [] []) K=K (.ok (.list 11,[])) (cP cs af pl os ss kv [] []):=ak
theorem als v:cf (d2 (sO P 439 1)) v (dA P []) (cP cs af pl os ss kv [] [])=some (dA P [("order",v)],cP cs af pl os ss kv [] []):=ak
def alu(u:List MO)(o:Od)(k:List MO->Prop):Prop:=match o with|.go p=>aH (kL (.ref 14) (.int p) (.bool true) u) k|.bf p=>aH (kL (.ref 14) (.int p) (.bool true) u) k|_=>k u
theorem alv o:(aC c P ae 60).x (bP (sO P 439 1)) (dA P [("order",o.v)]) (cP cs af pl os ss kv [] []) k=alu (cP cs af pl os ss kv [] []) o λu=>k (.ok .next) (dA P [("order",o.v)]) u:=by cases o<;>kernel_rfl
abbrev lF P:=qj (lD (sO P 439 2))
theorem alw:(aC c P ae 60).x (((bO P 439).drop 2).take 1) (dA P []) (cP cs af pl os ss kv [] []) k=gd ((lF P).2.2.2.1.isEmpty=true/\pl.length<1000000/\(lF P).2.2.2.2.names.lookup (qR "line")=some NameKind.local) (aH (uM (cb P ae) (lF P).1 "line" (lF P).2.2.2.2 [("flat",13)] (cP cs af pl os ss kv [] []) pl) λvs=>k (.ok .next) (dA P [("firsts",.ref 16)]) (cP cs af pl os ss kv [] [.list vs])):=ak
theorem alx:qW (cb P ae) 4 (lF P).1 ⟨(lF P).2.2.2.2,[("line",.int p)],[("flat",13)],none⟩ (cP cs af pl os ss kv [] [])=pl.lookup p:=ak
theorem Wk:(lF P).2.2.2.1.isEmpty=true/\(lF P).2.2.2.2.names.lookup (qR "line")=some NameKind.local:=⟨by kernel_rfl,by kernel_rfl⟩
noncomputable abbrev ir(fi:List V):List MO:=[.list fi,.list [],.list [],.list []]
noncomputable abbrev gV(q:bI):bI:=("firsts",.ref 16)::("kept",.ref 19)::q
theorem aly:(aC c P ae 60).x (((bO P 439).drop 3).take 1) (dA P [("firsts",.ref 16)]) (cP cs af pl os ss kv [] [.list fi]) k=k (.ok .next) (dA P (gV [])) (cP cs af pl os ss kv [] (ir fi)):=ak
theorem alz:LD (sO P 439 4):=⟨Wg (sO P 439 4),Wh (sO P 439 4),by kernel_rfl⟩
theorem alA:dk (nU (sO P 439 4))=false/\ib (eI (cb P ae) (dA P (gV [])) (cP cs af pl os ss kv fo (ir fi)) "range") (.type "range")=true:=⟨by kernel_rfl,by kernel_rfl⟩
theorem alB K:(aC c P ae 60).e (nU (sO P 439 4)) (dA P (gV [])) (cP cs af pl os ss kv fo (ir fi)) K=gd (af.length<=bk) (K (.ok (.int af.length)) (cP cs af pl os ss kv fo (ir fi))):=ak
theorem alC v:cf (d2 (sO P 439 4)) v (dA P (gV [])) (cP cs af pl os ss kv fo (ir fi))=some (dA P (gV [("at",v)]),cP cs af pl os ss kv fo (ir fi)):=ak
theorem alD:bP (sO P 439 4)=(bP (sO P 439 4)).take 1++(bP (sO P 439 4)).drop 1:=ak
def FY(P:aL)(cs:List ((Nat×Nat)×Str))(af:List V)(pl:List (Int×V))(os ss:List V)(kv:List (Int×V))(fo fi:List V)(k:KX)(p:Int)(b:Bool):Prop:=k (.ok .next) (dA P (gV [("at",.int p),("is_alone",.bool b)])) (cP cs af pl os ss kv fo (ir fi))
theorem alE:(aC c P ae 60).x ((bP (sO P 439 4)).take 1) (dA P (gV [("at",.int p)])) (cP cs af pl os ss kv fo (ir fi)) k=if decide ((0:Int)<p)=true then(aH ((j5 (.int p) fi).map (!·)) λb=>if b=true then(aH (df ss p) λx=>aH (cmp .NotIn x (.ref 14) (cP cs af pl os ss kv fo (ir fi))) λb=>FY P cs af pl os ss kv fo fi k p b)else FY P cs af pl os ss kv fo fi k p b)else FY P cs af pl os ss kv fo fi k p (decide ((0:Int)<p)):=ak
def LH(P:aL)(cs:List ((Nat×Nat)×Str))(af:List V)(pl:List (Int×V))(os ss:List V)(kv:List (Int×V))(fo fi:List V)(k:KX)(p:Int)(b:Bool)(v:V):Prop:=gd (fo.length<1000000) (k (.ok .next) (dA P (gV [("at",.int p),("is_alone",.bool b)])) (cP cs af pl os ss kv (fo++[v]) (ir fi)))
theorem alG:(aC c P ae 60).x ((bP (sO P 439 4)).drop 1) (dA P (gV [("at",.int p),("is_alone",.bool false)])) (cP cs af pl os ss kv fo (ir fi)) k=LH P cs af pl os ss kv fo fi k p false (.bool false):=ak
theorem alH:(aC c P ae 60).x ((bP (sO P 439 4)).drop 1) (dA P (gV [("at",.int p),("is_alone",.bool true)])) (cP cs af pl os ss kv fo (ir fi)) k=aH (df fo (p-1)) λw=>pZ w λb=>if b=true then LH P cs af pl os ss kv fo fi k p true w else aH (df ss p) λy=>EW y (.int 1) (cP cs af pl os ss kv fo (ir fi)) (bx (dA P (gV [("at",.int p),("is_alone",.bool true)])) k λr u=>aH (kK (.ref 11) r u) λo=>aH (kK o (.int 0) u) λw=>aH (cmp .Eq w (.str "GO") u) λc=>dn u 15 λl=>gd (l.length<1000000) (k (.ok .next) (dA P (gV [("at",.int p),("is_alone",.bool true)])) (u.set 15 (.list (l++[.bool c]))))):=ak
theorem alI:(aC c P ae 60).x ((bO P 439).drop 5) (dA P (gV [])) (cP cs af pl os ss kv fo (ir fi)) k=k (.ok (.ret (.ref 15))) (dA P (gV [])) (cP cs af pl os ss kv fo (ir fi)):=ak
end
noncomputable def aO(pl:List (Int×Nat)):List (Int×V):=pl.map λe=>(e.1,V.int e.2)
noncomputable def gW(pl q:List (Int×Nat)):List Nat:=q.map λe=>(pl.lookup e.1).getD 0
noncomputable def dp(l:List Bool):List V:=l.map V.bool
theorem LI k:∀pl:List (Int×Nat),(aO pl).lookup k=(pl.lookup k).map λ(n:Nat)=>V.int n:=by intro pl;induction pl with|nil=>rfl|cons a r ih=>
 show((a.1,V.int a.2)::aO r).lookup k=(((a.1,a.2)::r).lookup k).map _;rw[fL,fL];cases k==a.1;.exact ih
 .rfl
theorem tP f:∀pl:List (Int×Nat),d9 f (aO pl)=aO pl:=by intro pl;induction pl with|nil=>rfl|cons a r ih=>exact congrArg ((a.1,V.int a.2)::·) ih
theorem LJ f l:ba f (dp l)=dp l:=by rw[nP];unfold dp;rw[jh];rfl
theorem vq l:(dp l).length=l.length:=bw ..
theorem alJ l(i:Nat):(dp l)[i]?=l[i]?.map V.bool:=cQ
theorem Wl l r:dp (l++r)=dp l++dp r:=cH
theorem alK:∀{l:List (Int×Nat)},(k,v)∈l->∃w,l.lookup k=some w:=by intro l;induction l with|nil=>exactλh=>absurd h eH|cons a r ih=>intro h;show∃w,((a.1,a.2)::r).lookup k=some w;rw[fL];cases hy:k==a.1 with|true=>exact⟨_,rfl⟩|false=>exact ih ((bX.mp h).resolve_left λe=>by rw[<-e]at hy;exact absurd hy (by rw[beq_self_eq_true];exact OF))
def Bt(os:List Od)(y:Int):Bool:=match os[y.toNat]? with|some o=>oY o|none=>false
def yl(os:List Od)(ss fi:List Nat)(j:Nat):Bool:=decide (0<j)&&!fi.contains j&&!((cX [] os).lookup ((ss.getD j 0:Nat):Int)).isSome
def vt(os:List Od)(ss fi:List Nat)(fo:List Bool)(j:Nat):Bool:=yl os ss fi j&&(fo.getD (j-1) false||Bt os ((ss.getD j 0:Nat)-1:Int))
def gL(os:List Od)(ss fi:List Nat):Nat->List Bool|0=>[]|j+1=>gL os ss fi j++[vt os ss fi (gL os ss fi j) j]
theorem vu os ss fi:∀j,(gL os ss fi j).length=j:=by intro j;induction j with|zero=>rfl|succ j ih=>show(gL os ss fi j++[vt os ss fi (gL os ss fi j) j]).length=_;rw[aX,ih];rfl
theorem alL(j:Nat):∀l:List Nat,j5 (.int j) (ay l)=some (l.contains j):=by intro l;induction l with|nil=>rfl|cons n r ih=>
 show(j5 (.int j) (ay r)).map (λb=>((j:Int)==(n:Int))||b)=_;rw[ih,Hu];have :((j:Int)==(n:Int))=(j==n):=by rw[wD,beq_iff_eq,beq_iff_eq,OD]
 show some (_||_)=_;rw[this]
theorem LK{j:Nat}(hj:j<ss.length)(hs:ss.length<=900):df (ay ss) (j:Int)=some (.int (ss.getD j 0:Nat)):=by rw[nK (dK j) (by rw[kg];exact eX.mpr hj) (by rw[kg];exact ax hs ai),FH,fU,jA,cp hj];rfl
theorem LM{j:Nat}(hj:j<fo.length)(hs:fo.length<=900):df (dp fo) (j:Int)=some (.bool (fo.getD j false)):=by rw[nK (dK j) (by rw[vq];exact eX.mpr hj) (by rw[vq];exact ax hs ai),alJ,fU,jA,cp hj];rfl
section
variable{kv:List (Int×V)}{os:List Od}{ss fi:List Nat}
theorem alM:∀q:List (Int×Nat),(∀e,e∈q->∃w,pl.lookup e.1=some w)->uM (cb P ae) (lF P).1 "line" (lF P).2.2.2.2 [("flat",13)] (cP cs af (aO pl) pY ym kv [] []) (aO q)=some (ay (gW pl q)):=by intro q;induction q with|nil=>exactλ_=>rfl|cons a r ih=>intro h;have ih:=ih λe he=>h e (ze _ he);obtain⟨w,hw⟩:=h a zg;show aU (qW (cb P ae) 4 (lF P).1 ⟨(lF P).2.2.2.2,[("line",.int a.1)],[("flat",13)],none⟩ (cP cs af (aO pl) pY ym kv [] [])) (λv=>aU (uM (cb P ae) (lF P).1 "line" (lF P).2.2.2.2 [("flat",13)] (cP cs af (aO pl) pY ym kv [] []) (aO r)) (λvs=>some (v::vs)) none) none=_;rw[ih,alx,LI,hw];show _=some (V.int ((pl.lookup a.1).getD 0:Nat)::ay (gW pl r));rw[hw];rfl
theorem Wm:d8 (dA P q) (dA P [])/\∀x v,(dA P []).vars.lookup x=some v->(dA P q).vars.lookup x=some v:=by unfold dA;exact⟨⟨rfl,rfl,rfl⟩,λx v e=>nO (K:=Str) (ex:=q) (vars:=[("code",.ref 9),("goals",.ref 14),("found",.ref 15)]) e⟩
theorem Wn:d8 (dA P (gV q)) (dA P (gV []))/\∀x v,(dA P (gV [])).vars.lookup x=some v->(dA P (gV q)).vars.lookup x=some v:=by unfold dA;exact⟨⟨rfl,rfl,rfl⟩,λx v e=>nO (K:=Str) (ex:=q) (vars:=[("code",.ref 9),("goals",.ref 14),("found",.ref 15),("firsts",.ref 16),("kept",.ref 19)]) e⟩
theorem Wo(h:kv.length<=2000):kL (.ref 14) (.int p) (.bool true) (cP cs af (aO pl) pY ym kv [] [])=some (cP cs af (aO pl) pY ym (gA kv p) [] []):=by unfold cP;show((if kv.length<=bk then some (MO.bg (gA kv p))else none).map _)=_;rw[if_pos (ax h ai)];rfl
theorem alN(Z:AO c P ae)(h:kv.length<=2000)(hk:∀q,k (.ok .next) (dA P q) (cP cs af (aO pl) pY ym (gO kv o) [] [])):bb c 130 none m (dA P [("order",o.v)]) (cP cs af (aO pl) pY ym kv [] []) (bP (sO P 439 1)) k:=by refine TX.ask (n:=60) Z ?_;rw[alv];have hs:=hk [("order",o.v)];cases o with|go p=>exact dH (Wo h) hs|bf p=>exact dH (Wo h) hs|_=>exact hs
theorem alO(hj:j<ss.length)(hs:ss.length<=900)(h:FY P cs af (aO pl) (ao os) (ay ss) (cX [] os) (dp fo) (ay fi) k j (yl os ss fi j)):(aC c P ae 60).x ((bP (sO P 439 4)).take 1) (dA P (gV [("at",.int j)])) (cP cs af (aO pl) (ao os) (ay ss) (cX [] os) (dp fo) (ir (ay fi))) k:=by
 have hd:decide ((0:Int)<(j:Int))=decide (0<j):=by rw[decide_eq_decide];exact ux
 rw[alE,alL,hd];unfold yl at h;cases h1:decide (0<j)with
 |true=>rw[h1,OH]at h;rw[if_pos rfl];cases hc:fi.contains j with|true=>rw[hc]at h;exact h|false=>rw[hc]at h;rw[LK hj hs];refine dH (a:=true) rfl ?_;rw[if_pos rfl];refine dH rfl (dH ?_ h);unfold cP;rfl
 |false=>rw[h1]at h;exact h
theorem Wq(hf:fo.length<=900)(h:∀q,k (.ok .next) (dA P (gV q)) (cP cs af (aO pl) (ao os) (ay ss) (cX [] os) (dp (fo++[d])) (ir (ay fi)))):LH P cs af (aO pl) (ao os) (ay ss) (cX [] os) (dp fo) (ay fi) k j b (.bool d):=by rw[Wl]at h;exact bz (by rw[vq];exact bD hf ai) (h _)
theorem alQ(Z:AO c P ae)(hj:j<ss.length)(Bu:fo.length=j)(hs:ss.length<=900)(ho:os.length<=900)(hb:0<j->1<=ss.getD j 0/\ss.getD j 0<=os.length)(hk:∀q,k (.ok .next) (dA P (gV q)) (cP cs af (aO pl) (ao os) (ay ss) (cX [] os) (dp (fo++[vt os ss fi fo j])) (ir (ay fi)))):bb c 130 none m (dA P (gV [("at",.int j)])) (cP cs af (aO pl) (ao os) (ay ss) (cX [] os) (dp fo) (ir (ay fi))) (bP (sO P 439 4)) k:=by rw[alD];refine TX.app ?_;refine TX.ask (n:=60) Z ?_;refine alO hj hs ?_;unfold vt at hk;cases ha:yl os ss fi j with|false=>rw[ha]at hk;refine TX.ask (n:=60) Z ?_;rw[alG];exact Wq (fJ (bD (bo Bu) (cw hj hs))) hk|true=>
 rw[ha,OH]at hk;have h1:0<j:=by unfold yl at ha;rw[iV,iV]at ha;exact of_decide_eq_true ha.1.1
 obtain⟨Wr,alR⟩:=hb h1;refine TX.ask (n:=60) Z ?_;rw[alH,show(j:Int)-1=((j-1:Nat):Int)from((HO h1).symm)];rw[LM (show j-1<fo.length from cw (v7 h1 um) (bo Bu.symm)) (show fo.length<=900 from(fJ (bD (bo Bu) (cw hj hs)))),LK hj hs];refine dH rfl ?_;cases hq:fo.getD (j-1) false with|true=>rw[hq]at hk;exact Wq (fJ (bD (bo Bu) (cw hj hs))) hk|false=>
  rw[hq,OG]at hk;have hy:(((ss.getD j 0:Nat):Int)-1).toNat<os.length:=(Z3 Wr alR);have e:=cp hy;have xX:Bt os (((ss.getD j 0:Nat):Int)-1)=oY os[(((ss.getD j 0:Nat):Int)-1).toNat]:=by unfold Bt;rw[e]
  rw[xX,Wl]at hk;have hk:=hk [("at",.int j),("is_alone",.bool true)];have at':=vn (os:=os) (p:=((ss.getD j 0:Nat):Int)-1) (aaJ Wr) e (ax ho ai);generalize os[(((ss.getD j 0:Nat):Int)-1).toNat]=o at hk at';clear e xX;refine dH (a:=o.v) (by unfold cP;exact at') ?_;unfold cP at hk⊢;have hl:(dp fo).length<1000000:=by rw[vq];exact bD (bo Bu) (cw hj (ax hs ai))
  cases o<;>exact bz hl hk
end
section
variable{os:List Od}
theorem cN.count(l:List α):∀i,cN (λj _ b b'=>b'=j+1) i l i (i+l.length):=by induction l with|nil=>exactλi=>.nil _ _|cons a r ih=>exactλi=>.cons rfl (by rw[eU,dZ r.length,<-hU];exact ih (i+1))
theorem TX.d2{k:KX}(Z:AO c P ae){st:bj}(fj:i7 st){α:Type}(l:List α)(fv:Nat->α->V)(T:Nat->List MO){src:eZ}(hs:ve m src)(ht:nh (d2 st) src=true)(hit:∀K:KT Sk,fW (cb P ae) (aC c P ae n).e (iq st) Y (T 0) K=K (.ok (src,[])) (T 0))(hl:∀j b,rd src (T b) j=some (l[j]?.map (fv j)))(hb:∀j a,l[j]?=some a->aH (cf (d2 st) (fv j a) Y (T j)) λp=>bb c (2*n+10) none m p.1 p.2 (bP st) (iJ k λbR aM=>d8 bR Y/\(∀x v,Y.vars.lookup x=some v->bR.vars.lookup x=some v)/\aM=T (j+1)))(hk:k (.ok .next) Y (T l.length)):Ts c (2*n+10) none m Y (T 0) st k:=TX.FL Z fj l fv (λ_=>Y) T _ (λj b=>b=j) hs ht hit hl (cN.count l 0) rfl (λj a b b' e i h=>by subst i h;exact⟨rfl,hb b a e⟩) λ_=>by rw[eu];exact hk
theorem alS kv os o:cX kv (os++[o])=gO (cX kv os) o:=by unfold cX;rw[qL];rfl
theorem alT(Z:AO c P ae)(i9:af.length=ss.length)(hs:ss.length<=900)(ho:os.length<=900)(j8:pl.length<=900)(hb:∀j,0<j->j<ss.length->1<=ss.getD j 0/\ss.getD j 0<=os.length)(hk:k (.ok (.ref 15)) (cP cs af (aO pl) (ao os) (ay ss) (cX [] os) (dp (gL os ss (gW pl pl) ss.length)) (ir (ay (gW pl pl))))):TC c 131 none (.st (.ref 439)) [.ref 1,.ref 9] (bS cs af (aO pl) (ao os) (ay ss)) k:=by
 refine TC.fn Z alk alm ?_;rw[f_,aln];refine TX.app ?_;refine TX.ask (n:=60) Z ?_;rw[alq];refine TX.cons (TX.forL (n:=60) Z alo os Od.v (λj=>cP cs af (aO pl) (ao os) (ay ss) (cX [] (os.take j)) [] []) 11 (show 11<13 by decide) rfl alr (λ_=>by unfold cP;rfl) (λj hj=>?_) ?_);.rw[als];have hl:=VQ (os.take j) [];rw[iT,zl]at hl;exact alN Z (Z4 ho hl) λq=>⟨Wm.1,Wm.2,by rw[jf hj,alS]⟩
 rw[eV];refine TX.app ?_;refine TX.ask (n:=60) Z ?_;rw[alw,alM pl λe he=>alK he];refine bz ⟨Wk.1,by unfold aO;rw[bw];exact bD j8 ai,Wk.2⟩ (dH rfl ?_);refine TX.app ?_;refine TX.ask (n:=60) Z ?_;rw[aly];refine TX.cons (TX.d2 (n:=60) Z alp (cA ss.length) (λ_(j:Nat)=>.int j) (λj=>cP cs af (aO pl) (ao os) (ay ss) (cX [] os) (dp (gL os ss (gW pl pl) j)) (ir (ay (gW pl pl)))) (src:=.range ss.length) trivial rfl (λK=>?_) (λj b=>LG _ j _) (λj a e=>?_) ?_);.rw[Wi alz alA alB (ax (show _<=900 from(ax (bo i9) hs)) ai) (PO i9 hs),i9]
 .have hj:=(cn.mp e).1;rw[fe]at hj;rw[mX hj]at e;cases e;rw[alC];exact alQ Z hj (vu _ _ _ _) hs ho (λh=>hb j h hj) λq=>⟨Wn.1,Wn.2,rfl⟩
 .refine TX.ask (n:=60) Z ?_;rw[alI,fe];exact hk
end
noncomputable def yn(s:bj):Expr:=if h:s.ctorIdx=5 then Ii (motive_2:=λ_=>aq) s h (λts _ _=>ts.getD 0 (.Name "" default))else .Name "" default
section
variable{af os ss lf fo le j1 j2 en o2 s2 q:List V}{pl kv:List (Int×V)}{k:KX}
@[irreducible]def jt(cs:List ((Nat×Nat)×Str))(af:List V)(pl:List (Int×V))(os ss:List V)(aA:List MO):List MO:=bS cs af pl os ss++.cell (some (.ref 14))::aA
abbrev o4(P:aL)(q:bI):Loc:=⟨cO P 444,q,[("left",13)],none⟩
@[irreducible]def fP(P:aL)(row:Int)(q:bI):Loc:=o4 P (("flat",.ref 1)::("code",.ref 9)::("found",.ref 15)::("lead",.ref 16)::("ends",.ref 19)::("row",.int row)::q)
theorem alU:(cb P ae).fn 444=some (bc P 444):=ak
theorem alV:enter (bc P 444).ps (bc P 444).sc [] (bc P 444).nest [.ref 1,.ref 9] (bS cs af pl os ss)=some (o4 P [("flat",.ref 1),("code",.ref 9)],bS cs af pl os ss++[.cell none]):=ak
theorem alW:bO P 444=(bO P 444).take 1++(((bO P 444).drop 1).take 2++sO P 444 3::(((bO P 444).drop 4).take 1++(bO P 444).drop 5)):=ak
theorem alX:i7 (sO P 444 3):=⟨by kernel_rfl,by kernel_rfl,λ_=>rfl⟩
abbrev Bv P:=bP (sO P 444 3)
abbrev yo P:=(Bv P).getD 0 (.Pass default)
theorem alY:FW (yo P):=⟨Bm (yo P),by kernel_rfl⟩
theorem alZ:Bv P=yo P::(Bv P).drop 1:=ak
theorem al0:(aC c P ae 70).x ((bO P 444).take 1) (o4 P [("flat",.ref 1),("code",.ref 9)]) (bS cs af pl os ss++[.cell none]) k=TC c 144 none (.st (.ref 439)) [.ref 1,.ref 9] (bS cs af pl os ss++[.cell none]) (bx (o4 P [("flat",.ref 1),("code",.ref 9)]) k λv u=>aH (cf (yn (sO P 444 0)) (.tup [v,.ref u.length,.ref (u++[MO.list []]).length]) (o4 P [("flat",.ref 1),("code",.ref 9)]) (u++[MO.list []]++[MO.list []])) λp=>k (.ok .next) p.1 p.2):=ak
theorem al1:cf (yn (sO P 444 0)) (.tup [.ref 16,.ref 21,.ref 22]) (o4 P [("flat",.ref 1),("code",.ref 9)]) (bS cs af pl os ss++[.cell none,.cell (some (.ref 1)),.bg kv,.list lf,.list fi,.list [],.list [],.list [],.list [],.list []])=some (o4 P [("flat",.ref 1),("code",.ref 9),("found",.ref 21),("lead",.ref 22)],bS cs af pl os ss++[.cell (some (.ref 16)),.cell (some (.ref 1)),.bg kv,.list lf,.list fi,.list [],.list [],.list [],.list [],.list []]):=ak
theorem al2:(aC c P ae 70).x (((bO P 444).drop 1).take 2) (o4 P [("flat",.ref 1),("code",.ref 9),("found",.ref 15),("lead",.ref 16)]) (jt cs af pl os ss [.list lf,.list [],.list []]) k=aH (cut ss (.int 1) .none) λl=>gd (os.length<=bk) (gd (l.length+1<=bk) (k (.ok .next) (fP P 0 []) (jt cs af pl os ss [.list lf,.list [],.list [],.list l,.list [.int ((os.length:Int)-1)],.list (l++[.int ((os.length:Int)-1)])]))):=ak
@[irreducible]def gM(cs:List ((Nat×Nat)×Str))(af:List V)(pl:List (Int×V))(os ss lf fo le j1 j2 en:List V):List MO:=jt cs af pl os ss [.list lf,.list fo,.list le,.list j1,.list j2,.list en]
theorem al3 K:fW (cb P ae) (aC c P ae 70).e (iq (sO P 444 3)) (fP P row []) (gM cs af pl os ss lf fo le j1 j2 en) K=K (.ok (.enum 11,[])) (gM cs af pl os ss lf fo le j1 j2 en):=ak
theorem al4 v:cf (d2 (sO P 444 3)) (.tup [.int p,v]) (fP P row []) (gM cs af pl os ss lf fo le j1 j2 en)=some (fP P row [("place",.int p),("order",v)],gM cs af pl os ss lf fo le j1 j2 en):=ak
theorem al5 v{K:KT Bool}:(aC c P ae 70).t (qo (yo P)) (fP P row [("place",.int p),("order",v)]) (gM cs af pl os ss lf fo le j1 j2 en) K=gd (lf.length<=bk) (if decide (row<lf.length)=true then aH (df en row) λx=>aH (cmp .GtE (.int p) x (gM cs af pl os ss lf fo le j1 j2 en)) λb=>if b=true then K (.ok true) (gM cs af pl os ss lf fo le j1 j2 en)else K (.ok false) (gM cs af pl os ss lf fo le j1 j2 en)else K (.ok false) (gM cs af pl os ss lf fo le j1 j2 en)):=ak
theorem al6 v:(aC c P ae 70).x (bP (yo P)) (fP P row [("place",.int p),("order",v)]) (gM cs af pl os ss lf fo le j1 j2 en) k=k (.ok .next) (fP P (row+1) [("place",.int p),("order",v)]) (gM cs af pl os ss lf fo le j1 j2 en):=ak
def LN(P:aL)(cs:List ((Nat×Nat)×Str))(af:List V)(pl:List (Int×V))(os ss lf j1 j2 en:List V)(k:KX)(p row:Int)(v:V)(fo le:List V):Prop:=k (.ok .next) (fP P row [("place",.int p),("order",v)]) (gM cs af pl os ss lf fo le j1 j2 en)
theorem al7 v:(aC c P ae 70).x ((Bv P).drop 1) (fP P row [("place",.int p),("order",v)]) (gM cs af pl os ss lf fo le j1 j2 en) k=gd (fo.length<=bk) (gd (le.length<1000000) (gd (lf.length<=bk) (if(row==(lf.length:Int))=true then gd (fo.length<1000000) (LN P cs af pl os ss lf j1 j2 en k p row v (fo++[v]) (le++[.int fo.length]))else aH (df lf row) λw=>pZ w λb=>if(!b)=true then gd (fo.length<1000000) (LN P cs af pl os ss lf j1 j2 en k p row v (fo++[v]) (le++[.int fo.length]))else LN P cs af pl os ss lf j1 j2 en k p row v fo (le++[.int fo.length])))):=ak
theorem al8:(aC c P ae 70).x (((bO P 444).drop 4).take 1) (fP P row []) (gM cs af pl os ss lf fo le j1 j2 en) k=TC c 146 none (.st (.ref 408)) [.ref 9,.ref 15,.ref 16] (gM cs af pl os ss lf fo le j1 j2 en) (bx (fP P row []) k λv u=>k (.ok .next) (fP P row [("done",v)]) u):=ak
@[irreducible]def kS(cs:List ((Nat×Nat)×Str))(af:List V)(pl:List (Int×V))(os ss lf o2 s2:List V)(aA:List MO):List MO:=jt cs af pl os ss (.list lf::.list o2::.list s2::.aV [("orders",.ref 15),("starts",.ref 16)]::.inst 343 17::aA)
abbrev nV P:=qj (nM (lD (sO P 444 5)) 1)
abbrev vw(P:aL):Loc:=o4 P [("done",.ref 18)]
theorem al9:(aC c P ae 70).x ((bO P 444).drop 5) (vw P) (kS cs af pl os ss lf o2 s2 []) k=lC (aC c P ae 67).e (aC c P ae 67).t (nV P).2.1 (nV P).2.2.2.1 (nV P).1 (nV P).2.2.2.2 [("left",13)] (.enum 16) 19 (bh (nN (vw P) k) λv u=>(aC c P ae 68).c (.st (.ref 343)) [.ref 15,v] u (nN (vw P) k)) (s2.length+1) 0 (kS cs af pl os ss lf o2 s2 [.list []]):=ak
theorem al_ f:(aH (cf (nV P).2.1 (.tup [.int row,.int p]) ⟨(nV P).2.2.2.2,[],[("left",13)],none⟩ (kS cs af pl os ss lf o2 s2 [.list q])) λp=>i5 (aC c P ae 67).e (aC c P ae 67).t (nV P).2.2.2.1 (nV P).1 19 p.1 p.2 f)=aH (df lf row) λw=>pZ w λb=>if b=true then gd (q.length<1000000) (f (kS cs af pl os ss lf o2 s2 [.list (q++[.int (-1)])]))else gd (q.length<1000000) (f (kS cs af pl os ss lf o2 s2 [.list (q++[.int p])])):=ak
theorem ama{k:KT V}:(aC c P ae 68).c (.st (.ref 343)) [.ref 15,.ref 19] (kS cs af pl os ss lf o2 s2 [.list q]) k=k (.ok (.ref 21)) (kS cs af pl os ss lf o2 s2 [.list q,.aV [("orders",.ref 15),("starts",.ref 19)],.inst 343 20]):=ak
end
inductive lG(en:List Nat)(p:Nat):Nat->Nat->Prop|stop(r:Nat)(h:¬(r<en.length/\en.getD r 0<=p))(hr:r<=en.length):lG en p r r|next(r r':Nat)(h:r<en.length/\en.getD r 0<=p)(t:lG en p (r+1) r'):lG en p r r'
structure DS where
 fo:List Od
 le:List Nat
 row:Nat
structure Bw(en:List Nat)(lf:List Bool)(p:Nat)(o:Od)(st cY:DS):Prop where
 r:lG en p st.row cY.row
 f:cY.fo=if cY.row=en.length\/lf.getD cY.row false=false then st.fo++[o]else st.fo
 l:cY.le=st.le++[st.fo.length]
theorem lG.le(h:lG en p r r'):r'<=en.length/\r<=en.length:=by induction h with|stop r h hr=>exact⟨hr,hr⟩|next r r' h t ih=>exact⟨ih.1,fJ h.1⟩
noncomputable def aK(l:List Int):List V:=l.map V.int
theorem rH f l:ba f (aK l)=aK l:=by rw[nP];unfold aK;rw[jh];rfl
theorem qp l:(aK l).length=l.length:=bw ..
def gX(lf:List Bool)(le ss:List Nat)(n:Nat):List Int:=(cA n).map λj=>if lf.getD j false=true then-1 else(gv le (ss.getD j 0):Int)
noncomputable def iN(os:List Od)(ss:List Nat):List Nat:=ss.drop 1++[os.length-1]
section
variable{os fo:List Od}{Y cg:Loc}{u a7:List MO}
theorem TX.low(hm:m<=m')(h:TX c n none m' Y u t k):TX c n none m Y u t k:=λg z B O=>by
 refine b_ (h g z ⟨B.b,λq hq x v e f hf=>B.s q hq x v e f λi hi=>hf i (cw hi hm)⟩ O) (λfl s' y=>?_) λq s' y=>?_;.obtain⟨fl,Y,u,z',N,O,r,x⟩:=y;exact .mk fl Y u z' ⟨⟨N.T.live,N.T.keep,N.T.p_,λi a hi=>N.T.pre i a (cw hi hm)⟩,N.m,N.f⟩ O r x
 .obtain⟨i,a,d,Y,u,z',N,O,ea,ed,x⟩:=y;exact .mk i a d Y u z' ⟨⟨N.T.live,N.T.keep,N.T.p_,λi a hi=>N.T.pre i a (cw hi hm)⟩,N.m,N.f⟩ O ea ed x
theorem Pk.pre(amb:js=cA A.length++jL)(nd:js.Nodup)(hA:A.map (cL (pk js (A++B).length))=A)(t:iM (pk js (A++B).length) (A++B) jL aD):Pk js (A++B) (A++aD):=by
 refine⟨nd,?_⟩;have e:∀f:Nat->Nat,A.map (cL f)=A->iM f (A++B) jL aD->(A++aD).map (λm=>some (cL f m))=js.map λj=>(A++B)[j]?:=λf hA t=>by
  rw[amb,cH,cH,t.eq];refine congrArg (·++_) (Hy λi=>?_);rw[cQ,cQ];by_cases h:i<A.length;.have hq:=congrArg (λl:List MO=>l[i]?) hA;rw[cQ,cp h]at hq;rw[mX h,cp h];show some (some (cL f A[i]))=some ((A++B)[i]?);rw[ew h,cp h];exact congrArg some hq
  .rw[l0 (jc h),l0 (by rw[fe];exact jc h)];rfl
 exact e _ hA t
theorem By{N:Nat}{k:KT V}(p:Pk js u a7)(hN:u.length=N)(low:js.take m=cA m)(hc:∀x i,Y.cells.lookup x=some i->i<m)(hv:v=bY (pk js N) cT)(h:k (.ok cT) a7):cM m (ik k) (.ok (.ret v)) Y u:=by subst hN hv;exact cM.ret (cg:=⟨Y.sc,[],Y.cells,Y.nest⟩) ⟨p,vk low,rfl,rfl,rfl,hc,λx v e=>aE e⟩ h
theorem yp{N:Nat}(p:Pk js u a7)(hN:u.length=N)(low:js.take m=cA m)(hc:∀x i,Y.cells.lookup x=some i->i<m)(ex vars:bI)(hv:Y.vars=d9 (pk js N) vars++ex)(h:k (.ok .next) ⟨Y.sc,vars,Y.cells,Y.nest⟩ a7):cM m k (.ok .next) Y u:=by subst hN;exact cM.next (cg:=⟨Y.sc,vars,Y.cells,Y.nest⟩) (rE.of p (vk low) ex rfl rfl rfl hc hv) h
theorem Bz{N:Nat}(p:Pk js u a7)(hN:u.length=N)(low:js.take m=cA m)(hc:∀x i,Y.cells.lookup x=some i->i<m) FZ cT(hv:Y.vars.lookup FZ=some (bY (pk js N) cT))(h:k (.ok .next) ⟨Y.sc,[(FZ,cT)],Y.cells,Y.nest⟩ a7):cM m k (.ok .next) Y u:=by subst hN;refine cM.next (cg:=⟨Y.sc,[(FZ,cT)],Y.cells,Y.nest⟩) ⟨p,vk low,rfl,rfl,rfl,hc,λx v e=>?_⟩ h;rw[fL]at e;cases q:x==FZ with|true=>rw[q]at e;cases e;cases eq_of_beq q;exact hv|false=>rw[q]at e;exact aE e
theorem LO:∀(x:Str)(i:Nat),([("left",13)]:List (Str×Nat)).lookup x=some i->i<14:=λx i e=>by rw[fL]at e;cases h:x=="left"with|true=>rw[h]at e;cases e;decide|false=>rw[h]at e;exact aE e
theorem amc l:cL f (.list (dp l))=.list (dp l):=congrArg MO.list (LJ f l)
theorem LP{j:Nat}(h:u[j]?=some (.list (dp l))):u[j]?=some (cL f (.list (dp l))):=by rw[amc];exact h
theorem o5{j:Nat}(h:u[j]?=some (.list (aK l))):u[j]?=some (cL f (.list (aK l))):=by rw[show cL f (.list (aK l))=.list (aK l)from congrArg MO.list (rH f l)];exact h
theorem amd(bV:∀f,ba f af=af)(hf:∀i,i<13->f i=i):(bS cs af (aO pl) (ao os) (ay ss)).map (cL f)=bS cs af (aO pl) (ao os) (ay ss):=by unfold bS;simp only[ef,iU,mu,mw,my,mz,mB,V4,V5,Lw,Lx,V6,V7,kR,qm,tP,bV,hf 2 ai,hf 3 ai,hf 4 ai,hf 5 ai,hf 6 ai,hf 7 ai,hf 8 ai,hf 10 ai,hf 11 ai,hf 12 ai]
theorem yq(bV:∀f,ba f af=af)(nd:([0,1,2,3,4,5,6,7,8,9,10,11,12]++jL).Nodup)(t:iM (pk ([0,1,2,3,4,5,6,7,8,9,10,11,12]++jL) (13+B.length)) (bS cs af (aO pl) (ao os) (ay ss)++B) jL aD):Pk ([0,1,2,3,4,5,6,7,8,9,10,11,12]++jL) (bS cs af (aO pl) (ao os) (ay ss)++B) (bS cs af (aO pl) (ao os) (ay ss)++aD):=by
 have hl:(bS cs af (aO pl) (ao os) (ay ss)++B).length=13+B.length:=by rw[aX,f_]
 refine Pk.pre (by rw[f_];rfl) nd (amd bV λi hi=>?_) (by rw[hl];exact t);have tQ:i<([0,1,2,3,4,5,6,7,8,9,10,11,12]++jL).length:=cw hi (by rw[aX];exact cy 13 _);rw[oU tQ];have :=vk (m:=13) (js:=[0,1,2,3,4,5,6,7,8,9,10,11,12]++jL) rfl i hi;rw[cp tQ]at this;exact aJ this
abbrev sD(cs:List ((Nat×Nat)×Str))(af:List V)(pl:List (Int×Nat))(os:List Od)(ss:List Nat)(lf:List Bool)(j1 j2 en:List Nat)(fo:List Od)(le:List Nat):List MO:=gM cs af (aO pl) (ao os) (ay ss) (dp lf) (ao fo) (ay le) (ay j1) (ay j2) (ay en)
inductive LQ(P:aL)(en:List Nat)(p r':Nat)(v:V)(S:List MO):Nat->Loc->List MO->Prop|mk(r:Nat)(h:lG en p r r'):LQ P en p r' v S (en.length-r) (fP P r [("place",.int p),("order",v)]) S
theorem lG.Ws(h:lG en p r r')(n:¬(r<en.length/\en.getD r 0<=p)):r'=r:=by cases h with|stop=>rfl|next _ _ q=>exact absurd q n
theorem lG.ame(h:lG en p r r')(q:r<en.length/\en.getD r 0<=p):lG en p (r+1) r':=by cases h with|stop _ n=>exact absurd q n|next _ _ _ t=>exact t
theorem amf(Z:AO c P ae)(kU:lf.length=en.length)(hn:en.length<=900)(h:lG en p row r')(hk:k (.ok .next) (fP P r' [("place",.int p),("order",v)]) (sD cs af pl os ss lf j1 j2 en fo le)):Ts c 150 none m (fP P row [("place",.int p),("order",v)]) (sD cs af pl os ss lf j1 j2 en fo le) (yo P) k:=by
 obtain⟨pos,hw⟩:=alY (P:=P);rw[hw];refine TX.AY (TX.Br Z (n:=70)) (LQ P en p r' v (sD cs af pl os ss lf j1 j2 en fo le)) (f:=en.length-row) (.mk row h) λf Y u hj=>?_;refine LQ.casesOn hj λr hA=>?_;rw[al5,vq,kU,show decide ((r:Int)<(en.length:Nat))=decide (r<en.length)from decide_eq_decide.mpr eX];refine bz (ax hn ai) ?_;by_cases h1:r<en.length
 .rw[if_pos (decide_eq_true h1),LK h1 hn];show if decide (((en.getD r 0:Nat):Int)<=(p:Int))=true then _ else _;by_cases h2:en.getD r 0<=p;.rw[if_pos (decide_eq_true (gI.mpr h2))];refine TX.ask (n:=70) Z ?_;rw[al6];exact⟨_,Cg h1 (eR _),.mk (r+1) (hA.ame ⟨h1,h2⟩)⟩
  .rw[if_neg λq=>h2 (gI.mp (of_decide_eq_true q))];exact hA.Ws (λq=>h2 q.2)▸hk
 .rw[if_neg λq=>h1 (of_decide_eq_true q)];exact hA.Ws (λq=>h1 q.1)▸hk
theorem Wt{row:Int}:d8 (fP P row q) (fP P row [])/\∀x v,(fP P row []).vars.lookup x=some v->(fP P row q).vars.lookup x=some v:=by unfold fP;exact⟨⟨rfl,rfl,rfl⟩,λx v e=>nO (K:=Str) (ex:=q) (vars:=[("flat",.ref 1),("code",.ref 9),("found",.ref 15),("lead",.ref 16),("ends",.ref 19),("row",.int row)]) e⟩
theorem amg{st cY:DS}(Z:AO c P ae)(kU:lf.length=en.length)(hn:en.length<=900)(h:Bw en lf p o st cY)(hf:st.fo.length<=900)(hl:st.le.length<=900)(hk:∀q,k (.ok .next) (fP P cY.row q) (sD cs af pl os ss lf j1 j2 en cY.fo cY.le)):bb c 150 none m (fP P st.row [("place",.int p),("order",o.v)]) (sD cs af pl os ss lf j1 j2 en st.fo st.le) (Bv P) k:=by
 rw[alZ];refine TX.cons (amf Z kU hn h.r ?_);refine TX.ask (n:=70) Z ?_;rw[al7];have hr:=h.r.le.1;have hk:=hk [("place",.int p),("order",o.v)];rw[h.f,h.l]at hk;refine bz (by rw[dO];exact ax hf ai) (bz (by rw[kg];exact bD hl ai) (bz (by rw[vq];exact ax (show _<=900 from(ax (bo kU) hn)) ai) ?_));unfold sD at hk;rw[yc]at hk;rw[dO];have hg:st.fo.length<1000000:=(bD hf ai);have hc:((cY.row:Int)==((dp lf).length:Int))=decide (cY.row=en.length):=by rw[vq,kU,wD,beq_iff_eq,decide_eq_true_eq];exact OD
 rw[hc];by_cases he:cY.row=en.length;.rw[if_pos (decide_eq_true he)];rw[if_pos (.inl he),jK]at hk;exact bz hg hk
 .rw[if_neg (λq=>he (of_decide_eq_true q)),LM (show cY.row<lf.length from sd (Nat.lt_of_le_of_ne hr he) kU.symm) (ax (bo kU) hn)];cases hb:lf.getD cY.row false with|true=>rw[if_neg (by rintro(q|q);exact he q;rw[hb]at q;exact OF q)]at hk;exact hk|false=>rw[if_pos (.inr hb),jK]at hk;exact bz hg hk
end
section
variable{os fo o2:List Od}{p row r' m m' n:Nat}
theorem o6 v:cL f (.cell v)=.cell (v.map (bY f)):=rfl
theorem TC.at'{n n' N:Nat}(p:Pk js u a7)(hN:u.length=N)(h0:js[0]?=some 0)(hx:u.all fM=true)(ha:args=ba (pk js N) gx)(hs:∀k:KT V,k (.ok cT) (a7++nw)->TC c n none (.st (.ref a)) gx a7 k)(hl:n<=n')(hv:v=bY (pk js N) cT)(hn:nw.map (cL (pk js N))=nw'){k:KT V}(hk:k (.ok v) (u++nw')):TC c n' none (.st (.ref a)) args u k:=by subst hN hv hn;exact TC.at p h0 hx ha hs hl hk
theorem amh(h1:ss.length<=900):cut (ay ss) (.int 1) .none=some (ay (ss.drop 1)):=by cases ss with|nil=>rfl|cons a r=>exact VZ (l:=[.int a]) (r:=ay r) (k:=1) (by rw[aX,kg];simp only[eU,zl]at h1⊢;exact Z5 h1) rfl
theorem fa{pl:List (Int×V)}{os ss:List V}{m:MO} i j(h:i=13+j)(hB:B[j]?=some m):(bS cs af pl os ss++B)[i]?=some m:=by subst h;rw[eS (by rw[f_];exact cy _ _),f_,jb,hB]
theorem ami(Z:AO c P ae)(bV:∀f,ba f af=af)(i9:af.length=ss.length)(hs:ss.length<=900)(ho:os.length<=900)(j8:pl.length<=900)(hb:∀j,0<j->j<ss.length->1<=ss.getD j 0/\ss.getD j 0<=os.length)(hk:k (.ok .next) (o4 P [("flat",.ref 1),("code",.ref 9),("found",.ref 15),("lead",.ref 16)]) (jt cs af (aO pl) (ao os) (ay ss) [.list (dp (gL os ss (gW pl pl) ss.length)),.list [],.list []])):bb c 150 none 14 (o4 P [("flat",.ref 1),("code",.ref 9)]) (bS cs af (aO pl) (ao os) (ay ss)++[.cell none]) ((bO P 444).take 1) k:=by
 refine TX.pickK ai (TX.ask (n:=70) Z ?_);rw[al0];refine TC.at' (n:=131) (N:=14) (js:=[0,1,2,3,4,5,6,7,8,9,10,11,12]) (a7:=bS cs af (aO pl) (ao os) (ay ss)) (gx:=[.ref 1,.ref 9]) (cT:=.ref 15) (v:=.ref 16) (nw:=[.cell (some (.ref 1)),.bg (cX [] os),.list (dp (gL os ss (gW pl pl) ss.length)),.list (ay (gW pl pl)),.list [],.list [],.list []]) (nw':=[.cell (some (.ref 1)),.bg (cX [] os),.list (dp (gL os ss (gW pl pl) ss.length)),.list (ay (gW pl pl)),.list [],.list [],.list []]) ?_ ?_ rfl ?_ rfl (λk h=>alT Z i9 hs ho j8 hb ?_) ai rfl ?_ ?_;.have :=yq (cs:=cs) (af:=af) (pl:=pl) (os:=os) (ss:=ss) (B:=[.cell none]) (jL:=[]) (aD:=[]) bV ai .nil;rw[cG,cG]at this;exact this
 .rw[aX,f_];rfl
 .unfold bS;rfl
 .unfold cP;unfold bS at h;exact h
 .simp only[ef,iU,mu,mw,my,mz,mB,o6,LJ,qm,VX _ os [] rfl,Lw,Lx,Dj];rfl
 .have e:=al1 (P:=P) (cs:=cs) (af:=af) (pl:=aO pl) (os:=ao os) (ss:=ay ss) (kv:=cX [] os) (lf:=dp (gL os ss (gW pl pl) ss.length)) (fi:=ay (gW pl pl));show aH (cf _ (.tup [.ref 16,.ref _,.ref _]) _ _) _;simp only[cS,aX,f_];refine dH e ?_;exact yp (N:=23) (js:=[0,1,2,3,4,5,6,7,8,9,10,11,12]++[13,16,21,22]) (yq bV ai (.cons (fa 13 0 rfl rfl) (.cons (LP (fa 16 3 rfl rfl)) (.cons (fa 21 8 rfl rfl) (.cons (fa 22 9 rfl rfl) .nil))))) (by rw[aX,f_];rfl) rfl LO [] [("flat",.ref 1),("code",.ref 9),("found",.ref 15),("lead",.ref 16)] rfl (by unfold jt at hk;exact hk)
theorem LR:gM cs af (aO pl) (ao os) (ay ss) (dp lf) (ao fo) (ay le) (ay j1) (ay j2) (ay en)=bS cs af (aO pl) (ao os) (ay ss)++[.cell (some (.ref 14)),.list (dp lf),.list (ao fo),.list (ay le),.list (ay j1),.list (ay j2),.list (ay en)]:=by unfold gM jt;rfl
theorem amj(Z:AO c P ae)(bV:∀f,ba f af=af)(hs:ss.length<=900)(hl:le.length<=900)(hf:fo.length<=900)(ht:∀o,o∈fo->ft le.length o)(hp:∀p,p∈ss->p<le.length)(hk:k (.ok .next) (vw P) (kS cs af (aO pl) (ao os) (ay ss) (dp lf) (ao (fo.map (bU le))) (ay (ss.map (gv le))) [])):bb c 150 none 14 (fP P row []) (sD cs af pl os ss lf j1 j2 en fo le) (((bO P 444).drop 4).take 1) k:=by
 refine TX.pickK ai (TX.ask (n:=70) Z ?_);rw[al8];refine TC.at' (n:=91) (N:=20) (js:=[0,9,10,11,12,15,16]) (a7:=tL cs (ao os) (ao fo) (ay ss) (ay le)) (gx:=[.ref 1,.ref 5,.ref 6]) (cT:=.ref 11) (v:=.ref 24) (nw:=[.cell (some (.ref 6)),.list (ao (fo.map (bU le))),.list (ay (ss.map (gv le))),.aV [("orders",.ref 8),("starts",.ref 9)],.inst 343 10]) (nw':=[.cell (some (.ref 16)),.list (ao (fo.map (bU le))),.list (ay (ss.map (gv le))),.aV [("orders",.ref 21),("starts",.ref 22)],.inst 343 23]) (.eK ?_ ai) ?_ rfl ?_ rfl (λk h=>VU Z (ax hs ai) (ax hl ai) (ax hf ai) ht hp h) ai rfl ?_ ?_;.rw[show(gM cs af (aO pl) (ao os) (ay ss) (dp lf) (ao fo) (ay le) (ay j1) (ay j2) (ay en)).length=20 by rw[LR,aX,f_];rfl];unfold gM jt bS;exact .cons rfl (.cons rfl (.cons rfl (.cons (e_ rfl) (.cons (kh rfl) (.cons (e_ rfl) (.cons (kh rfl) .nil))))))
 .rw[LR,aX,f_];rfl
 .unfold gM jt bS;rfl
 .simp only[ef,iU,mu,mw,my,mz,mB,o6,kR,qm,Dj];rfl
 .rw[LR,cS];show cM 14 k (.ok .next) (fP P row [("done",.ref 24)]) _;unfold fP;exact Bz (N:=25) (js:=[0,1,2,3,4,5,6,7,8,9,10,11,12]++[13,14,21,22,23,24]) (yq bV ai (.cons (fa 13 0 rfl rfl) (.cons (LP (fa 14 1 rfl rfl)) (.cons (e_ (fa 21 8 rfl rfl)) (.cons (kh (fa 22 9 rfl rfl)) (.cons (fa 23 10 rfl rfl) (.cons (fa 24 11 rfl rfl) .nil))))))) (by rw[aX,f_];rfl) rfl LO "done" (.ref 18) rfl (by unfold kS jt at hk;exact hk)
theorem amk n:gX lf le ss (n+1)=gX lf le ss n++[if lf.getD n false=true then-1 else(gv le (ss.getD n 0):Int)]:=by unfold gX;rw[HI,cH];rfl
theorem aml n:(gX lf le ss n).length=n:=by unfold gX;rw[bw,fe]
theorem amm(Z:AO c P ae)(bV:∀f,ba f af=af)(hs:ss.length<=900)(kU:lf.length=ss.length)(hk:k (.ok (.ref 18)) (jt cs af (aO pl) (ao os) (ay ss) [.list (dp lf),.list (ao o2),.list (aK (gX lf le ss ss.length)),.aV [("orders",.ref 15),("starts",.ref 16)],.inst 343 17])):bb c 150 none 14 (vw P) (kS cs af (aO pl) (ao os) (ay ss) (dp lf) (ao o2) (ay (ss.map (gv le))) []) ((bO P 444).drop 5) (ik k):=by
 refine TX.pickK ai (TX.ask (n:=70) Z ?_);rw[al9,kg,bw];have hT:∀aA,(kS cs af (aO pl) (ao os) (ay ss) (dp lf) (ao o2) (ay (ss.map (gv le))) aA)[16]?=some (.list (ay (ss.map (gv le)))):=λaA=>by unfold kS jt;exact fa 16 3 rfl rfl
 have hn:=rF (ev:=(aC c P ae 67).e) (tv:=(aC c P ae 67).t) (tgt:=(nV P).2.1) (ifs:=(nV P).2.2.2.1) (elt:=(nV P).1) (sc:=(nV P).2.2.2.2) (cl:=[("left",13)]) (src:=.enum 16) (acc:=19) (k:=bh (nN (vw P) (cM 14 (ik k))) λv u=>(aC c P ae 68).c (.st (.ref 343)) [.ref 15,v] u (nN (vw P) (cM 14 (ik k)))) (cA ss.length) (λj=>V.tup [.int j,.int (gv le (ss.getD j 0))]) (λj=>kS cs af (aO pl) (ao os) (ay ss) (dp lf) (ao o2) (ay (ss.map (gv le))) [.list (aK (gX lf le ss j))]) (λj=>?_) (λj hj f hf=>?_) ?_ ss.length 0 (by rw[fe,eu]);.exact hn
 .show aU ((kS cs af (aO pl) (ao os) (ay ss) (dp lf) (ao o2) (ay (ss.map (gv le))) [.list (aK (gX lf le ss j))])[16]?) (λm=>m.lu (λl=>some (l[j]?.map λv=>V.tup [.int j,v])) none) none=_;rw[hT];show some ((ay (ss.map (gv le)))[j]?.map _)=_;rw[FH,cQ];by_cases h:j<ss.length;.rw[mX h,cp h];show some (some (V.tup [.int j,.int (gv le ss[j])]))=some (some (V.tup [.int j,.int (gv le (ss.getD j 0))]));rw[jA,cp h];rfl
  .rw[l0 (jc h),l0 (by rw[fe];exact jc h)];rfl
 .rw[fe]at hj;rw[zh,al_,LM (show j<lf.length from(cw hj (bo kU.symm))) (ax (bo kU) hs)];rw[amk]at hf;have hl:(aK (gX lf le ss j)).length<1000000:=by rw[qp,aml];exact cw hj (ax hs ai)
  unfold aK at hf hl⊢;rw[cH]at hf;cases hb:lf.getD j false with|true=>rw[hb]at hf;exact bz hl hf|false=>rw[hb]at hf;exact bz hl hf
 .rw[fe];show(aC c P ae 68).c (.st (.ref 343)) [.ref 15,.ref 19] _ _;rw[ama];unfold kS jt;exact By (N:=22) (js:=[0,1,2,3,4,5,6,7,8,9,10,11,12]++[13,14,15,19,20,21]) (cT:=.ref 18) (yq bV ai (.cons (fa 13 0 rfl rfl) (.cons (LP (fa 14 1 rfl rfl)) (.cons (e_ (fa 15 2 rfl rfl)) (.cons (o5 (fa 19 6 rfl rfl)) (.cons (fa 20 7 rfl rfl) (.cons (fa 21 8 rfl rfl) .nil))))))) (by rw[aX,f_];rfl) rfl LO rfl (by unfold jt at hk;exact hk)
theorem amn(Z:AO c P ae)(i9:af.length=ss.length)(bV:∀f,ba f af=af)(amo:1<=ss.length)(hs:ss.length<=900)(amq:1<=os.length)(ho:os.length<=900)(j8:pl.length<=900)(hb:∀j,0<j->j<ss.length->1<=ss.getD j 0/\ss.getD j 0<=os.length){st:DS}(fj:cN (Bw (iN os ss) (gL os ss (gW pl pl) ss.length)) 0 os ⟨[],[],0⟩ st)(ht:∀o,o∈st.fo->ft os.length o)(hp:∀p,p∈ss->p<os.length)(hk:k (.ok (.ref 18)) (jt cs af (aO pl) (ao os) (ay ss) [.list (dp (gL os ss (gW pl pl) ss.length)),.list (ao (st.fo.map (bU st.le))),.list (aK (gX (gL os ss (gW pl pl) ss.length) st.le ss ss.length)),.aV [("orders",.ref 15),("starts",.ref 16)],.inst 343 17])):TC c 151 none (.st (.ref 444)) [.ref 1,.ref 9] (bS cs af (aO pl) (ao os) (ay ss)) k:=by
 refine TC.fn Z alU alV ?_;rw[f_];refine TX.low (show 13<=14 by decide) ?_;rw[alW];refine TX.app (ami Z bV i9 hs ho j8 hb ?_);have kU:(gL os ss (gW pl pl) ss.length).length=(iN os ss).length:=by rw[vu];unfold iN;rw[aX,qM,sL];exact(qF amo).symm
 have tR:(gL os ss (gW pl pl) ss.length).length=ss.length:=vu ..;generalize gL os ss (gW pl pl) ss.length=lf at fj hk kU tR⊢;have D_:(iN os ss).length<=900:=(ax (bo kU.symm) (ax (bo tR) hs));have AD:V.int ((os.length:Int)-1)=.int ((os.length-1:Nat):Int):=congrArg V.int ((HO amq).symm);refine TX.app ?_;refine TX.ask (n:=70) Z ?_;rw[al2,amh hs];refine dH rfl (bz (by rw[dO];exact ax ho ai) (bz (by rw[kg,qM];exact ax (show _<=901 from(Z6 kU tR D_)) ai) ?_));rw[dO,AD];have amr:ay (ss.drop 1)++[.int ((os.length-1:Nat):Int)]=ay (iN os ss):=by unfold iN;rw[yc];rfl
 rw[amr];have h0:jt cs af (aO pl) (ao os) (ay ss) [.list (dp lf),.list [],.list [],.list (ay (ss.drop 1)),.list [.int ((os.length-1:Nat):Int)],.list (ay (iN os ss))]=sD cs af pl os ss lf (ss.drop 1) [os.length-1] (iN os ss) [] []:=by unfold sD gM;rfl
 rw[h0];refine TX.cons (TX.FL (n:=70) Z alX os (λj o=>.tup [.int j,o.v]) (λst=>fP P st.row []) (λst=>sD cs af pl os ss lf (ss.drop 1) [os.length-1] (iN os ss) st.fo st.le) (Bw (iN os ss) lf) (λj st=>st.fo.length<=j/\st.le.length=j/\j<=os.length) (ml:=⟨[],[],0⟩) (me:=st) (src:=.enum 11) (show 11<14 by decide) ak al3 (λj b=>?_) fj ⟨br 0,rfl,dC _⟩ (λj a b b' e i h=>?_) λi=>?_);.show aU ((sD cs af pl os ss lf (ss.drop 1) [os.length-1] (iN os ss) b.fo b.le)[11]?) (λm=>m.lu (λl=>some (l[j]?.map λv=>V.tup [.int j,v])) none) none=_;rw[show(sD cs af pl os ss lf (ss.drop 1) [os.length-1] (iN os ss) b.fo b.le)[11]?=some (.list (ao os))by unfold sD gM jt bS;rfl];show some (((ao os)[j]?).map λv=>V.tup [.int j,v])=_;rw[qh,uC];rfl
 .have hl:=(cn.mp e).1;obtain⟨i1,i2,i3⟩:=i;refine⟨⟨?_,by rw[h.l,aX,i2];rfl,hl⟩,?_⟩
  .rw[h.f];split;.rw[aX];exact gf i1
   .exact pz i1
  rw[al4];exact amg Z kU D_ h (ax i1 (ax i3 ho)) (ax (bo i2) (ax i3 ho)) λq=>⟨Wt.1,Wt.2,rfl⟩
 .refine TX.app (amj Z bV hs (Z7 ho i) (Z8 ho i) (λo h=>by rw[i.2.1];exact ht o h) (λp h=>by rw[i.2.1];exact hp p h) ?_);exact amm Z bV hs tR hk
end
def bL(l:List KV):List V:=l.map dw
noncomputable def lH(va:List KV):List (KV×V):=va.zipIdx.map λe=>(e.1,V.int e.2)
noncomputable def Wu(l:List (KV×V)):MO:=match l with|[]=>.bg []|l=>.ji l
noncomputable def ams:KV->Bool|.p _ _=>true|_=>false
def kW(v:KV):V:=.tup [.bool (i8 v),.bool (ams v),dw v]
noncomputable def iO(s:bj):Expr:=if h:s.ctorIdx=12 then DC (motive_2:=λ_=>aq) s h (λt _ _ _=>t)else .Name "" default
noncomputable def F0(s:bj):List Stmt:=if h:s.ctorIdx=12 then DC (motive_2:=λ_=>List bj) s h (λ_ b _ _=>b)else[]
noncomputable def mE(s:bj):List Stmt:=if h:s.ctorIdx=12 then DC (motive_2:=λ_=>List bj) s h (λ_ _ o _=>o)else[]
noncomputable def vx(s:bj):Pos:=if h:s.ctorIdx=12 then DC (motive_2:=λ_=>Pos) s h (λ_ _ _ p=>p)else default
def rI(st:bj):Prop:=∃p,st=.If (iO st) (F0 st) (mE st) p
theorem TX.BA(Z:AO c P ae){st:bj}(fj:rI st)(h:(aC c P ae n).t (iO st) Y u (bx Y k λq u=>if q then bb c (2*n+10) none m Y u (F0 st) k else bb c (2*n+10) none m Y u (mE st) k)):Ts c (2*n+10) none m Y u st k:=by obtain⟨p,e⟩:=fj;rw[e];exact TX.ite (TX.Br Z) h
section
variable{os ss fo va:List V}{k:KX}
@[irreducible]def eM(cs:List ((Nat×Nat)×Str))(os ss fo va:List V)(kd:List (KV×V))(aA:List MO):List MO:=.tab cs::.inst 343 2::.aV [("orders",.ref 3),("starts",.ref 4)]::.list os::.list ss::.list fo::.list va::Wu kd::aA
@[irreducible]def et(P:aL)(q:bI):Loc:=⟨cO P 451,("code",.ref 1)::("found",.ref 5)::("values",.ref 6)::("known",.ref 7)::q,[],none⟩
abbrev rJ P:=bP (sO P 451 1)
theorem amt:(cb P ae).fn 451=some (bc P 451):=ak
theorem amu:enter (bc P 451).ps (bc P 451).sc [] (bc P 451).nest [.ref 1] (sC cs os ss)=some (⟨cO P 451,[("code",.ref 1)],[],none⟩,sC cs os ss):=ak
theorem amv:bO P 451=(bO P 451).take 1++sO P 451 1::(bO P 451).drop 2:=ak
theorem amw:i7 (sO P 451 1):=⟨by kernel_rfl,by kernel_rfl,λ_=>rfl⟩
theorem amx:rJ P=(rJ P).take 1++(rJ P).drop 1:=ak
theorem amy:(aC c P ae 70).x ((bO P 451).take 1) ⟨cO P 451,[("code",.ref 1)],[],none⟩ (sC cs os ss) k=k (.ok .next) (et P []) (eM cs os ss [] [] [] []):=ak
theorem amz K:fW (cb P ae) (aC c P ae 70).e (iq (sO P 451 1)) (et P []) (eM cs os ss fo va kd []) K=K (.ok (.list 3,[])) (eM cs os ss fo va kd []):=ak
theorem amA v:cf (d2 (sO P 451 1)) v (et P []) (eM cs os ss fo va kd [])=some (et P [("order",v)],eM cs os ss fo va kd []):=ak
noncomputable def nW:Od->Bool|.push _=>true|_=>false
theorem amB(h:nW o=false):(aC c P ae 70).x ((rJ P).take 1) (et P [("order",o.v)]) (eM cs os ss fo va kd []) k=k (.ok .next) (et P [("order",o.v)]) (eM cs os ss fo va kd []):=by cases o with|push v=>exact nomatch h|_=>clear h;kernel_rfl
abbrev BB P:=(rJ P).getD 0 (.Pass default)
abbrev rK P:=F0 (BB P)
abbrev vy P:=(rK P).getD 1 (.Pass default)
abbrev yr P:=F0 (vy P)
theorem amC:rI (BB P):=⟨vx (BB P),by kernel_rfl⟩
theorem amD:rI (vy P):=⟨vx (vy P),by kernel_rfl⟩
theorem amE:(rJ P).take 1=[BB P]:=ak
theorem amF:rK P=(rK P).take 1++vy P::(rK P).drop 2:=ak
theorem amG:yr P=(yr P).take 1++(yr P).drop 1:=ak
theorem amH v{K:KT Bool}:(aC c P ae 70).t (iO (BB P)) (et P [("order",(Od.push v).v)]) (eM cs os ss fo va kd []) K=K (.ok true) (eM cs os ss fo va kd []):=ak
theorem amI v:(aC c P ae 70).x ((rK P).take 1) (et P [("order",(Od.push v).v)]) (eM cs os ss fo va kd []) k=k (.ok .next) (et P [("order",(Od.push v).v),("key",kW v)]) (eM cs os ss fo va kd []):=by cases v<;>kernel_rfl
theorem amJ v{K:KT Bool}:(aC c P ae 70).t (iO (vy P)) (et P [("order",(Od.push v).v),("key",kW v)]) (eM cs os ss fo va kd []) K=K (.ok (!(kd.lookup v).isSome)) (eM cs os ss fo va kd []):=by cases v<;>cases kd<;>kernel_rfl
theorem amK v:(aC c P ae 70).x ((yr P).take 1) (et P [("order",(Od.push v).v),("key",kW v)]) (eM cs os ss fo va kd []) k=gd (va.length<=bk) (aH (kL (.ref 7) (kW v) (.int va.length) (eM cs os ss fo va kd [])) λu=>k (.ok .next) (et P [("order",(Od.push v).v),("key",kW v)]) u):=ak
theorem amL v:(aC c P ae 70).x ((yr P).drop 1) (et P [("order",(Od.push v).v),("key",kW v)]) (eM cs os ss fo va kd []) k=gd (va.length<1000000) (k (.ok .next) (et P [("order",(Od.push v).v),("key",kW v)]) (eM cs os ss fo (va++[dw v]) kd [])):=ak
theorem amM:mE (vy P)=[]:=ak
theorem amN v{e:KV×V}:(aC c P ae 70).x ((rK P).drop 2) (et P [("order",(Od.push v).v),("key",kW v)]) (eM cs os ss fo va (e::kd) []) k=aH ((e::kd).lookup v) λx=>k (.ok .next) (et P [("order",.tup [.str "KEPT",x]),("key",kW v)]) (eM cs os ss fo va (e::kd) []):=by cases v<;>kernel_rfl
theorem amO v{q:bI}:(aC c P ae 70).x ((rJ P).drop 1) (et P (("order",v)::q)) (eM cs os ss fo va kd []) k=gd (fo.length<1000000) (k (.ok .next) (et P (("order",v)::q)) (eM cs os ss (fo++[v]) va kd [])):=ak
theorem amP:(aC c P ae 70).x ((bO P 451).drop 2) (et P []) (eM cs os ss fo va kd []) k=k (.ok (.ret (.tup [.ref 9,.ref 6]))) (et P []) (eM cs os ss fo va kd [.aV [("orders",.ref 5),("starts",.ref 4)],.inst 343 8]):=ak
end
theorem qq f l:ba f (bL l)=bL l:=by rw[nP];unfold bL;rw[jh];exact kE λo _=>yd f o
theorem o7 l:(bL l).length=l.length:=bw ..
theorem BC l r:bL (l++r)=bL l++bL r:=cH
theorem amQ l:(lH l).length=l.length:=by unfold lH;rw[bw,wu]
theorem amR v:∀(va:List KV)(k:Nat),((va.zipIdx k).map λe=>(e.1,V.int e.2)).lookup v=if v∈va then some (V.int ((k+va.idxOf v:Nat):Int))else none:=by intro va;induction va with|nil=>exactλk=>rfl|cons x r ih=>
 intro k;rw[List.zipIdx_cons,ef,fL,ih (k+1),Oh];by_cases h:v=x;.subst h;rw[beq_self_eq_true,if_pos zg,cond_true];rfl
 .rw[beq_false_of_ne h,beq_false_of_ne (hY h),cond_false];by_cases hr:v∈r;.rw[if_pos hr,if_pos (ze _ hr),lT];rfl
  .rw[if_neg hr,if_neg λq=>(bX.mp q).elim h hr]
theorem F1 v va:(lH va).lookup v=if v∈va then some (V.int (va.idxOf v:Nat))else none:=by unfold lH;rw[amR v va 0,eu]
theorem amS v va:lH (va++[v])=lH va++[(v,.int (va.length:Nat))]:=by unfold lH;rw[N9,cH,eu];rfl
theorem amT v w:∀(l:List (KV×V)),l.lookup v=none->dU v w l=l++[(v,w)]:=by intro l;induction l with|nil=>exactλ_=>rfl|cons a r ih=>
 intro h;obtain⟨y,aG⟩:=a;rw[fL]at h;by_cases e:y=v;.rw[e,beq_self_eq_true]at h;exact nomatch h
 .rw[beq_false_of_ne (hY e)]at h;rw[FX];rw[if_neg e,ih h];rfl
structure tS where
 fo:List Od
 va:List KV
noncomputable def lJ(st:tS)(o:Od):tS:=match o with|.push v=>if v∈st.va then⟨st.fo++[.kept (st.va.idxOf v:Nat)],st.va⟩else⟨st.fo++[.kept (st.va.length:Nat)],st.va++[v]⟩|o=>⟨st.fo++[o],st.va⟩
def gb(os:List Od):tS:=os.foldl lJ ⟨[],[]⟩
theorem amU st o:(lJ st o).fo.length=st.fo.length+1/\(lJ st o).va.length<=st.va.length+1:=by
 cases o with
 |push v=>
  unfold lJ;dsimp only;by_cases h:v∈st.va;.rw[if_pos h];exact⟨aX,dI _⟩
  .rw[if_neg h];exact⟨aX,bo aX⟩|_=>exact⟨aX,dI _⟩
theorem amV(os:List Od):∀st:tS,(os.foldl lJ st).fo.length=st.fo.length+os.length/\(os.foldl lJ st).va.length<=st.va.length+os.length:=by induction os with|nil=>exactλst=>⟨rfl,br _⟩|cons o r ih=>intro st;have h1:=ih (lJ st o);have h2:=amU st o;rw[zm,eU];omega
section
variable{os:List Od}
abbrev sP(cs:List ((Nat×Nat)×Str))(os:List Od)(ss:List V)(st:tS):List MO:=eM cs (ao os) ss (ao st.fo) (bL st.va) (lH st.va) []
theorem amW l(h:l≠[]):Wu l=.ji l:=by cases l with|nil=>exact absurd rfl h|cons a r=>rfl
theorem amX{K:Type}[DecidableEq K] k w(l:List (K×V)):dU k w l≠[]:=by cases l with|nil=>exact uw _ _|cons a r=>obtain⟨y,aG⟩:=a;rw[FX];split<;>exact uw _ _
theorem amY(hv:v∉l)(hl:l.length<=900):kL (.ref 7) (kW v) w (eM cs (ao os) ss fo va (lH l) [])=some (eM cs (ao os) ss fo va (lH l++[(v,w)]) []):=by
 have hk:uJ (kW v)=some v:=by cases v<;>rfl
 rw[<-amT v w _ (by rw[F1,if_neg hv])];have hlen:=amQ l;generalize lH l=kd at hlen⊢;unfold eM;rw[amW _ (amX v w kd)];cases kd with|nil=>show((uJ (kW v)).map λk=>MO.ji [(k,w)]).map _=_;rw[hk];rfl|cons e r=>show((if(e::r).length<=bk then(uJ (kW v)).map λk=>MO.ji (dU k w (e::r))else none).map _)=_;rw[if_pos (ax (hlen▸hl) ai),hk];rfl
theorem Wv:d8 (et P q) (et P [])/\∀x v,(et P []).vars.lookup x=some v->(et P q).vars.lookup x=some v:=by unfold et;exact⟨⟨rfl,rfl,rfl⟩,λx v e=>nO (K:=Str) (ex:=q) (vars:=[("code",.ref 1),("found",.ref 5),("values",.ref 6),("known",.ref 7)]) e⟩
theorem LS{q:bI}(Z:AO c P ae)(hf:fo.length<=900)(hk:∀q,k (.ok .next) (et P q) (sP cs os ss ⟨fo++[o],va⟩)):bb c 150 none m (et P (("order",o.v)::q)) (sP cs os ss ⟨fo,va⟩) ((rJ P).drop 1) k:=by refine TX.ask (n:=70) Z ?_;rw[amO];have :=hk (("order",o.v)::q);unfold sP at this;rw[jK]at this;exact bz (by rw[dO];exact bD hf ai) this
theorem Ww{i:Nat}(Z:AO c P ae)(hi:(lH va).lookup v=some (.int i))(hk:k (.ok .next) (et P [("order",(Od.kept i).v),("key",kW v)]) (sP cs os ss ⟨fo,va⟩)):bb c 150 none m (et P [("order",(Od.push v).v),("key",kW v)]) (sP cs os ss ⟨fo,va⟩) ((rK P).drop 2) k:=by refine TX.ask (n:=70) Z ?_;unfold sP at hk⊢;dsimp only at hk⊢;generalize lH va=kd at hi hk⊢;cases kd with|nil=>exact aE hi|cons e r=>rw[amN,hi];exact hk
theorem amZ{st:tS}(Z:AO c P ae)(hf:st.fo.length<=900)(hv:st.va.length<=900)(hk:∀q,k (.ok .next) (et P q) (sP cs os ss (lJ st o))):bb c 150 none m (et P [("order",o.v)]) (sP cs os ss st) (rJ P) k:=by
 rw[amx]
 refine TX.app ?_;obtain⟨fo,va⟩:=st;cases hp:nW o with
 |false=>
  have e:lJ ⟨fo,va⟩ o=⟨fo++[o],va⟩:=by cases o<;>first|rfl|exact nomatch hp
  rw[e]at hk
  refine TX.ask (n:=70) Z ?_;rw[amB hp];exact LS Z hf hk|true=>cases o with
  |push v=>
   clear hp;unfold lJ at hk;dsimp only at hk;rw[amE];refine TX.cons (TX.BA (n:=70) Z amC ?_);rw[amH];show bb c 150 none m _ _ (rK P) _;rw[amF];refine TX.app ?_;refine TX.ask (n:=70) Z ?_;rw[amI];refine TX.cons (TX.BA (n:=70) Z amD ?_);rw[amJ,F1];by_cases hm:v∈va;.rw[if_pos hm]at hk⊢;show bb c 150 none m _ _ (mE (vy P)) _;rw[amM];exact TX.nil (Ww (i:=va.idxOf v) Z (by rw[F1,if_pos hm]) (TX.nil (LS Z hf hk)))
   .rw[if_neg hm]at hk⊢;show bb c 150 none m _ _ (yr P) _;rw[amG];refine TX.app ?_;refine TX.ask (n:=70) Z ?_;rw[amK,amY hm hv,o7,<-amS];refine bz (ax hv ai) (dH rfl ?_);refine TX.ask (n:=70) Z ?_;rw[amL];refine bz (by rw[o7];exact bD hv ai) ?_;rw[show bL va++[dw v]=bL (va++[v])from(BC va [v]).symm];have hi:(lH (va++[v])).lookup v=some (.int (va.length:Nat)):=by rw[F1,if_pos (gi va (List.mem_singleton_self v)),Hz,if_neg hm,Oh,beq_self_eq_true,cond_true,eu]
    show bb c 150 none m _ _ ((rK P).drop 2) _;exact Ww Z hi (TX.nil (LS Z hf hk))|_=>exact nomatch hp
theorem am0{k:KT V}(Z:AO c P ae)(am1:∀f,ba f ss=ss)(ho:os.length<=900)(hk:k (.ok (.tup [.ref 8,.ref 6])) (sC cs (ao os) ss++[.list (ao (gb os).fo),.list (bL (gb os).va),.aV [("orders",.ref 5),("starts",.ref 4)],.inst 343 7])):TC c 151 none (.st (.ref 451)) [.ref 1] (sC cs (ao os) ss) k:=by
 refine TC.fn Z amt amu (TX.pickK (show 0<5 by decide) ?_);rw[amv];refine TX.app ?_;refine TX.ask (n:=70) Z ?_;rw[amy];refine TX.cons (TX.d2 (n:=70) Z amw os (λ_ o=>o.v) (λj=>sP cs os ss ((os.take j).foldl lJ ⟨[],[]⟩)) (src:=.list 3) (show 3<5 by decide) ak amz (λj b=>?_) (λj a e=>?_) ?_);.unfold sP eM;exact congrArg some (qh os j)
 .have hj:=(cn.mp e).1;rw[amA];have h1:=amV (os.take j) ⟨[],[]⟩;rw[iT]at h1;replace h1:=And.intro (ax (bo h1.1) (show 0+_<=900 from(ax (bo (eu _)) (ax (pA _ _) ho)))) (ax h1.2 (show 0+_<=900 from(ax (bo (eu _)) (ax (pA _ _) ho))));refine amZ Z h1.1 h1.2 λq=>⟨Wv.1,Wv.2,?_⟩;rw[jf hj,qL,(cn.mp e).2];rfl
 .rw[eV];refine TX.ask (n:=70) Z ?_;unfold sP;rw[amP];refine FQ (js:=[0,1,2,3,4,5,6,8,9]) (cT:=.tup [.ref 8,.ref 6]) (.eK ?_ ai) rfl (by unfold et;rfl) (by unfold eM;rfl) hk;unfold eM;exact .cons rfl (.cons rfl (.cons rfl (.cons (e_ rfl) (.cons (by show _=some (MO.list (ba _ ss));rw[am1];rfl) (.cons (e_ rfl) (.cons (by show _=some (MO.list (ba _ (bL _)));rw[qq];rfl) (.cons rfl (.cons rfl .nil))))))))
end
structure yt(pl:List (Int×Nat))(os:List Od)(ss:List Nat)(jM:FS)(iu:List Od)(ju:List Nat)(jN:KS)(gy:List Od)(dg:List Nat)(th:Od->Od)(gY:List Od)(lf:List Bool)(fQ:DS)(cR:List Od):Prop where
 n0:os.length<=900
 n1:iu.length<=900
 n2:gy.length<=900
 n4:cR.length<=900
 m0:ss.length<=900
 m1:1<=ss.length
 p0:pl.length<=900
 k0:1<=gy.length
 s0:∀p,p∈ss->p<os.length
 s1:∀p,p∈ju->p<iu.length
 s2:∀p,p∈dg->p<gy.length
 f:cN (fY (jr os ss)) 0 os ⟨[],[],0⟩ jM
 tf:∀o,o∈jM.fo->ft os.length o
 e1:iu=jM.fo.map (bU jM.le)x1:ju=ss.map (gv jM.le)k:cN (mC (jr iu ju)) 0 iu ⟨[],[]⟩ jN
 tk:∀o,o∈jN.fo->ft iu.length o
 e2:gy=jN.fo.map (bU jN.le)x2:dg=ju.map (gv jN.le)t:∀o,o∈gy->vp gy o (th o)e3:gY=gy.map th
 hl:lf=gL gY dg (gW pl pl) dg.length
 hb:∀j,0<j->j<dg.length->1<=dg.getD j 0/\dg.getD j 0<=gY.length
 d:cN (Bw (iN gY dg) lf) 0 gY ⟨[],[],0⟩ fQ
 td:∀o,o∈fQ.fo->ft gY.length o
 e4:cR=fQ.fo.map (bU fQ.le)
section
variable{k:KX}
@[irreducible]def lK(P:aL)(c:V):Loc:=⟨cO P 458,[("flat",.ref 1),("code",c),("bits",.int 16),("digits",.int 9)],[],none⟩
theorem am2:(cb P ae).fn 458=some (bc P 458):=ak
theorem am3{os ss:List V}:enter (bc P 458).ps (bc P 458).sc [] (bc P 458).nest [.ref 1,.ref 9,.int 16,.int 9] (bS cs af pl os ss)=some (lK P (.ref 9),bS cs af pl os ss):=ak
theorem am4:bO P 458=(bO P 458).take 1++(bO P 458).drop 1:=ak
theorem am5:(aC c P ae 90).x ((bO P 458).take 1) (lK P (.ref 9)) s k=TC c 184 none (.st (.ref 413)) [.ref 9,.int 16,.int 9] s (bx (lK P (.ref 9)) k λv u=>TC c 186 none (.st (.ref 420)) [v] u (bx (lK P (.ref 9)) k λv u=>k (.ok .next) (lK P v) u)):=ak
theorem am6:(aC c P ae 90).x ((bO P 458).drop 1) (lK P (.ref i)) s k=TC c 182 none (.st (.ref 434)) [.ref i] s (bx (lK P (.ref i)) k λv u=>TC c 184 none (.st (.ref 444)) [.ref 1,v] u (bx (lK P (.ref i)) k λv u=>TC c 186 none (.st (.ref 451)) [v] u (nN (lK P (.ref i)) k))):=ak
end
section
variable{os iu gy gY cR:List Od}
noncomputable abbrev tU(os ss:List V)(i:Nat):List MO:=[.list os,.list ss,.aV [("orders",.ref i),("starts",.ref (i+1))],.inst 343 (i+2)]
theorem Wx{pl:List (Int×V)}{os ss:List V} i(hi:i<13)(h:(bS cs af pl os ss)[i]?=some m):(bS cs af pl os ss++B)[i]?=some m:=by rw[ew (by rw[f_];exact hi)];exact h
theorem F2{pl:List (Int×V)}{os ss:List V}(h:B.all fM=true):(bS cs af pl os ss++B).all fM=true:=by rw[CW,h];unfold bS;rfl
theorem am7:Pk [0,9,10,11,12] (bS cs af (aO pl) (ao os) (ay ss)) (sC cs (ao os) (ay ss)):=by unfold bS;exact .eK (.cons rfl (.cons rfl (.cons rfl (.cons (e_ rfl) (.cons (kh rfl) .nil))))) ai
theorem Wy:Pk [0,16,15,13,14] (bS cs af (aO pl) (ao os) (ay ss)++(tU (ao iu) (ay ju) 13++aA)) (sC cs (ao iu) (ay ju)):=by
 refine .eK ?_ ai;have hl:(bS cs af (aO pl) (ao os) (ay ss)++(tU (ao iu) (ay ju) 13++aA)).length=17+aA.length:=by rw[aX,f_,aX];show 13+(4+_)=_;exact(hU _ _ _).symm
 rw[hl];exact .cons (Wx 0 ai (by unfold bS;rfl)) (.cons (fa 16 3 rfl rfl) (.cons (fa 15 2 rfl rfl) (.cons (e_ (fa 13 0 rfl rfl)) (.cons (kh (fa 14 1 rfl rfl)) .nil))))
theorem am8(Z:AO c P ae)(bV:∀f,ba f af=af)(I:yt pl os ss jM iu ju jN gy dg th gY lf fQ cR)(hk:k (.ok .next) (lK P (.ref 16)) (bS cs af (aO pl) (ao os) (ay ss)++tU (ao gy) (ay dg) 13)):bb c 190 none 13 (lK P (.ref 9)) (bS cs af (aO pl) (ao os) (ay ss)) ((bO P 458).take 1) k:=by
 have l1:ju.length=ss.length:=by rw[I.x1,bw]
 refine TX.pickK ai (TX.ask (n:=90) Z ?_);rw[am5];refine TC.at' (n:=131) (N:=13) (js:=[0,9,10,11,12]) (a7:=sC cs (ao os) (ay ss)) (gx:=[.ref 1,.int 16,.int 9]) (cT:=.ref 8) (v:=.ref 16) (nw:=vl (ao iu) (ay ju)) (nw':=tU (ao iu) (ay ju) 13) am7 f_ rfl (by unfold bS;rfl) rfl (λk h=>akr Z I.n0 I.m0 I.f I.tf I.s0 (by rw[<-I.e1,<-I.x1];exact h)) ai rfl (by unfold vl;simp only[ef,iU,mu,mw,my,mz,mB,o6,kR,qm];rfl) ?_;refine TC.at' (n:=131) (N:=17) (js:=[0,16,15,13,14]) (a7:=sC cs (ao iu) (ay ju)) (gx:=[.ref 1]) (cT:=.ref 8) (v:=.ref 20) (nw:=vl (ao gy) (ay dg)) (nw':=tU (ao gy) (ay dg) 17) (Wy (aA:=[])) (by rw[aX,f_];rfl) rfl (F2 rfl) rfl (λk h=>akP Z I.n1 (by rw[l1];exact I.m0) I.k I.tk I.s1 (by rw[<-I.e2,<-I.x2];exact h)) ai rfl (by unfold vl;simp only[ef,iU,mu,mw,my,mz,mB,o6,kR,qm];rfl) ?_;rw[cS];unfold lK at hk⊢;exact yp (N:=21) (js:=[0,1,2,3,4,5,6,7,8,9,10,11,12]++[17,18,19,20]) (yq bV ai (.cons (e_ (fa 17 4 rfl rfl)) (.cons (kh (fa 18 5 rfl rfl)) (.cons (fa 19 6 rfl rfl) (.cons (fa 20 7 rfl rfl) .nil))))) (by rw[aX,f_];rfl) rfl (λx i e=>aE e) [] [("flat",.ref 1),("code",.ref 16),("bits",.int 16),("digits",.int 9)] rfl hk
end
section
variable{os iu gy gY cR:List Od}
theorem am9(bV:∀f,ba f af=af):Pk [0,1,2,3,4,5,6,7,8,19,18,17,14] (bS cs af (aO pl) (ao os) (ay ss)++(tU (ao gy) (ay dg) 13++.list (ao gY)::.aV [("orders",.ref 17),("starts",.ref 14)]::.inst 343 18::aA)) (bS cs af (aO pl) (ao gY) (ay dg)):=by
 refine .eK ?_ ai;have hl:(bS cs af (aO pl) (ao os) (ay ss)++(tU (ao gy) (ay dg) 13++MO.list (ao gY)::.aV [("orders",.ref 17),("starts",.ref 14)]::.inst 343 18::aA)).length=20+aA.length:=by rw[aX,f_,aX];show 13+(4+(aA.length+1+1+1))=_;exact Z9
 rw[hl];unfold bS;refine .cons rfl (.cons rfl (.cons rfl (.cons ?_ (.cons ?_ (.cons rfl (.cons rfl (.cons rfl (.cons rfl (.cons rfl (.cons rfl (.cons (e_ rfl) (.cons (kh rfl) .nil))))))))))));.show _=some (MO.list (ba _ af));rw[bV];rfl
 .show _=some (MO.bg (d9 _ (aO pl)));rw[tP];rfl
theorem am_(Z:AO c P ae)(bV:∀f,ba f af=af)(i9:af.length=ss.length)(I:yt pl os ss jM iu ju jN gy dg th gY lf fQ cR)(hk:k (.ok (.tup [.ref 17,.ref 15])) (bS cs af (aO pl) (ao os) (ay ss)++[.list (ao (gb cR).fo),.list (aK (gX lf fQ.le dg dg.length)),.list (bL (gb cR).va),.aV [("orders",.ref 13),("starts",.ref 14)],.inst 343 16])):bb c 190 none 13 (lK P (.ref 16)) (bS cs af (aO pl) (ao os) (ay ss)++tU (ao gy) (ay dg) 13) ((bO P 458).drop 1) (ik k):=by
 have l2:dg.length=ss.length:=by rw[I.x2,bw,I.x1,bw]
 have o3:gY.length=gy.length:=by rw[I.e3,bw]
 refine TX.pickK ai (TX.ask (n:=90) Z ?_);rw[am6];refine TC.at' (n:=131) (N:=17) (js:=[0,16,15,13,14]) (a7:=sC cs (ao gy) (ay dg)) (gx:=[.ref 1]) (cT:=.ref 7) (v:=.ref 19) (nw:=[.list (ao gY),.aV [("orders",.ref 5),("starts",.ref 4)],.inst 343 6]) (nw':=[.list (ao gY),.aV [("orders",.ref 17),("starts",.ref 14)],.inst 343 18]) (Wy (aA:=[])) (by rw[aX,f_];rfl) rfl (F2 rfl) rfl (λk h=>alj Z I.n2 I.t (by rw[<-I.e3];exact h)) ai rfl (by simp only[ef,iU,mu,mw,my,mz,mB,o6,kR];rfl) ?_;rw[cS];refine TC.at' (n:=151) (N:=20) (js:=[0,1,2,3,4,5,6,7,8,19,18,17,14]) (a7:=bS cs af (aO pl) (ao gY) (ay dg)) (gx:=[.ref 1,.ref 9]) (cT:=.ref 18) (v:=.ref 25) (nw:=[.cell (some (.ref 14)),.list (dp lf),.list (ao cR),.list (aK (gX lf fQ.le dg dg.length)),.aV [("orders",.ref 15),("starts",.ref 16)],.inst 343 17]) (nw':=[.cell (some (.ref 21)),.list (dp lf),.list (ao cR),.list (aK (gX lf fQ.le dg dg.length)),.aV [("orders",.ref 22),("starts",.ref 23)],.inst 343 24]) (am9 (aA:=[]) bV) (by rw[aX,f_];rfl) rfl (F2 rfl) rfl (λk h=>amn Z (by rw[l2];exact i9) bV (by rw[l2];exact I.m1) (by rw[l2];exact I.m0) (by rw[o3];exact I.k0) (by rw[o3];exact I.n2) I.p0 I.hb (by rw[<-I.hl];exact I.d) I.td (λp hp=>by rw[o3];exact I.s2 p hp) (by rw[<-I.hl,<-I.e4];unfold jt;exact h)) ai rfl (by simp only[ef,iU,mu,mw,my,mz,mB,o6,kR,LJ,rH,Dj];rfl) ?_;rw[cS];refine TC.at' (n:=151) (N:=26) (js:=[0,25,24,22,23]) (a7:=sC cs (ao cR) (aK (gX lf fQ.le dg dg.length))) (gx:=[.ref 1]) (cT:=.tup [.ref 8,.ref 6]) (v:=.tup [.ref 29,.ref 27]) (nw:=[.list (ao (gb cR).fo),.list (bL (gb cR).va),.aV [("orders",.ref 5),("starts",.ref 4)],.inst 343 7]) (nw':=[.list (ao (gb cR).fo),.list (bL (gb cR).va),.aV [("orders",.ref 26),("starts",.ref 23)],.inst 343 28]) (.eK ?_ ai) (by rw[aX,f_];rfl) rfl (F2 rfl) rfl (λk h=>am0 Z (λf=>rH f _) I.n4 h) ai rfl (by simp only[ef,iU,mu,mw,my,mz,mB,o6,kR,qq];rfl) ?_;.rw[aX,f_];exact .cons (Wx 0 ai (by unfold bS;rfl)) (.cons (fa 25 12 rfl rfl) (.cons (fa 24 11 rfl rfl) (.cons (e_ (fa 22 9 rfl rfl)) (.cons (o5 (fa 23 10 rfl rfl)) .nil))))
 rw[cS];exact By (N:=30) (js:=[0,1,2,3,4,5,6,7,8,9,10,11,12]++[26,23,27,28,29]) (cT:=.tup [.ref 17,.ref 15]) (yq bV ai (.cons (e_ (fa 26 13 rfl rfl)) (.cons (o5 (fa 23 10 rfl rfl)) (.cons (by show _=some (MO.list (ba _ (bL _)));rw[qq];exact fa 27 14 rfl rfl) (.cons (fa 28 15 rfl rfl) (.cons (fa 29 16 rfl rfl) .nil)))))) (by rw[aX,f_];rfl) rfl (by unfold lK;exactλx i e=>aE e) rfl hk
theorem am'(Z:AO c P ae)(bV:∀f,ba f af=af)(i9:af.length=ss.length)(I:yt pl os ss jM iu ju jN gy dg th gY lf fQ cR)(hk:k (.ok (.tup [.ref 17,.ref 15])) (bS cs af (aO pl) (ao os) (ay ss)++[.list (ao (gb cR).fo),.list (aK (gX lf fQ.le dg dg.length)),.list (bL (gb cR).va),.aV [("orders",.ref 13),("starts",.ref 14)],.inst 343 16])):TC c 191 none (.st (.ref 458)) [.ref 1,.ref 9,.int 16,.int 9] (bS cs af (aO pl) (ao os) (ay ss)) k:=by refine TC.fn Z am2 am3 ?_;rw[f_,am4];exact TX.app (am8 Z bV I (am_ Z bV i9 I hk))
end
inductive Ex where|t0(n:Nat)|t1(n:Nat)|mF|neg(n:Nat)|t4(n:Nat)|t5(n:Nat)|tb(n:Nat)|tn(n:Nat)
noncomputable def Ex.cd(e:Ex):Nat×Nat:=Ex.casesOn (motive:=λ_=>Nat×Nat) e (λn=>(0,n)) (λn=>(1,n)) (2,0) (λn=>(3,n)) (λn=>(4,n)) (λn=>(5,n)) (λn=>(6,n)) λn=>(7,n)
noncomputable def Ex.dc(p:Nat×Nat):Ex:=if p.1=0 then .t0 p.2 else if p.1=1 then .t1 p.2 else if p.1=2 then .mF else if p.1=3 then .neg p.2 else if p.1=4 then .t4 p.2 else if p.1=5 then .t5 p.2 else if p.1=6 then .tb p.2 else .tn p.2
theorem Ex.Bn e:Ex.dc e.cd=e:=Ex.casesOn (motive:=λe=>Ex.dc e.cd=e) e (λ_=>rfl) (λ_=>rfl) rfl (λ_=>rfl) (λ_=>rfl) (λ_=>rfl) (λ_=>rfl) λ_=>rfl
noncomputable instance:DecidableEq Ex:=λa b=>if h:a.cd=b.cd then .isTrue ((Ex.Bn a).symm.trans ((congrArg Ex.dc h).trans (Ex.Bn b)))else .isFalse λe=>h (congrArg Ex.cd e)
noncomputable def bs:Nat->Str|0=>""|1=>"B"|2=>"BB"|_=>"BBB"
noncomputable def qr(n:Int):V:=.tup [.str "whole",.int n]
def vz:Nat->V|0=>qr 1|1=>.tup [.str "decimal",.tup [.int 1,.int 0]]|2=>.tup [.str "text",.str "1"]|_=>.tup [.str "decimal",.tup [.int 5,.int (-1)]]
noncomputable def LU:Nat->KV|0=>.i 1|1=>.p 1 0|2=>.s "1"|_=>.p 5 (-1)
def Ex.v:Ex->V|.t0 n=>.tup [.str "two",.str "-",.tup [.str "two",.str "+",qr 2,qr n],qr 1]|.t1 n=>.tup [.str "two",.str "+",.tup [.str "text",.str "A"],.tup [.str "text",.str (bs n)]]|.mF=>.tup [.str "name",.str "N"]|.neg n=>.tup [.str "neg",qr n]|.t4 n=>vz n|.t5 n=>.tup [.str "two",.str "+",qr n,.tup [.str "text",.str "A"]]|.tb n=>.tup [.str "two",.str "-",qr 1,qr n]|.tn n=>.tup [.str "two",.str "<",.tup [.str "name",.str "N"],qr n]
noncomputable def gz:List Ex:=[.t0 0,.t0 1,.t0 2,.t0 3,.t1 0,.t1 1,.t1 2,.t1 3,.mF,.neg 0,.neg 1,.neg 2,.neg 3,.t4 0,.t4 1,.t4 2,.t4 3,.t5 0,.t5 1,.t5 2,.t5 3,.tb 0,.tb 1,.tn 0,.tn 1,.tn 2,.tn 3,.tn 4]
def Ex.o:Ex->List Od|.t0 n=>[.push (.i 2),.push (.i n),.two "+",.push (.i 1),.two "-"]|.t1 n=>[.push (.s "A"),.push (.s (bs n)),.two "+"]|.mF=>[.var]|.neg n=>[.push (.i n),.one]|.t4 n=>[.push (LU n)]|.t5 n=>[.push (.i n),.push (.s "A"),.two "+"]|.tb n=>[.push (.i 1),.push (.i n),.two "-"]|.tn n=>[.var,.push (.i n),.two "<"]
inductive aS where|lt(b:Bool)(e:Ex)|cU(e:Ex)(g:Int)|jmp(g:Int)|rem(l:Bool)|jv
noncomputable def kX:Bool->Str|false=>"A"|true=>"B"
noncomputable def ana:Bool->Str|false=>"X"|true=>"LAST"
def aS.v:aS->V|.lt b e=>.tup [.str "LET",.tup [.str "name",.str (kX b)],e.v]|.cU e g=>.tup [.str "IFNOT",e.v,.int g]|.jmp g=>.tup [.str "JUMP",.int g]|.rem l=>.tup [.str "REM",.str (ana l)]|.jv=>.tup [.str "GOTO",.int 900]
def aS.o(k:aS)(a last:Int):List Od:=match k with|.lt b e=>.row a::(e.o++[.store (kX b)])|.cU e g=>.row a::(e.o++[.bf g])|.jmp g=>[.go g]|.rem _=>[.row a]|.jv=>[.row a,.go last]
def aS.ok:aS->Prop|.lt _ e=>e∈gz|.cU e _=>e∈gz|_=>True
def sumK(n:Nat)(Q:Bool->List MO->Option MO->List (Str×Nat)->Prop):KX:=λr Y u=>match r with
 |.ok f=>match f with
  |.ret v=>match v with|.ref k=>Q (decide (n<=k)) (u.take n) u[k]? Y.cells|_=>False
  |.next=>False
 |.de _=>False
section
variable{k:KX}
@[irreducible]noncomputable def cj(cs:List ((Nat×Nat)×Str))(af:List V)(pl:List (Int×V)):List MO:=[.tab cs,.inst 475 2,.aV [("rows",.ref 3),("places",.ref 4),("data",.ref 5),("pairs",.ref 6),("loops",.ref 7),("fns",.ref 8)],.list af,.bg pl,.list [],.bg [],.bg [],.bg []]
@[irreducible]def vA(P:aL)(a:Int)(q:bI):Loc:=⟨cO P 375,("flat",.ref 1)::("at",.int a)::("bits",.int 16)::("digits",.int 9)::q,[],none⟩
theorem kY:(cj cs af pl).length=9:=ak
theorem anb:(cb P ae).fn 375=some (bc P 375):=ak
theorem anc:enter (bc P 375).ps (bc P 375).sc [] (bc P 375).nest [.ref 1,.int a,.int 16,.int 9] (cj cs af pl)=some (vA P a [],cj cs af pl):=ak
theorem ane:bO P 375=(bO P 375).take 1++(bO P 375).drop 1:=ak
theorem anf:(aC c P ae 90).x ((bO P 375).take 1) (vA P a []) (cj cs af pl) k=aH (df af a) λx=>aH (cf (yn (sO P 375 0)) x (vA P a []) (cj cs af pl)) λp=>k (.ok .next) p.1 p.2:=ak
theorem ang:cf (yn (sO P 375 0)) (.tup [l,w]) (vA P a []) (cj cs af pl)=some (vA P a [("line",l),("statement",w)],cj cs af pl):=ak
def qt(c:aR)(P:aL)(ae:aj->Option (List V))(cs:List ((Nat×Nat)×Str))(af:List V)(pl:List (Int×V))(a:Int)(l:V)(Q:Bool->List MO->Option MO->List (Str×Nat)->Prop)(k:aS):Prop:=(aC c P ae 90).x ((bO P 375).drop 1) (vA P a [("line",l),("statement",k.v)]) (cj cs af pl) (sumK 9 Q)
def qu(cs:List ((Nat×Nat)×Str))(af:List V)(pl:List (Int×V))(a:Int)(Q:Bool->List MO->Option MO->List (Str×Nat)->Prop)(k:aS):Prop:=Q true (cj cs af pl) (some (.list (ao (k.o a 0)))) []
theorem anh:fF (λe=>qt c P ae cs af pl a l Q (.lt false e)=qu cs af pl a Q (.lt false e)) gz:=by refine⟨?_,?_,?_,?_,?_,?_,?_,?_,?_,?_,?_,?_,?_,?_,?_,?_,?_,?_,?_,?_,?_,?_,?_,?_,?_,?_,?_,?_,trivial⟩<;>kernel_rfl
theorem ani:fF (λe=>qt c P ae cs af pl a l Q (.lt true e)=qu cs af pl a Q (.lt true e)) gz:=by refine⟨?_,?_,?_,?_,?_,?_,?_,?_,?_,?_,?_,?_,?_,?_,?_,?_,?_,?_,?_,?_,?_,?_,?_,?_,?_,?_,?_,?_,trivial⟩<;>kernel_rfl
theorem anj:fF (λe=>qt c P ae cs af pl a l Q (.cU e g)=qu cs af pl a Q (.cU e g)) gz:=by refine⟨?_,?_,?_,?_,?_,?_,?_,?_,?_,?_,?_,?_,?_,?_,?_,?_,?_,?_,?_,?_,?_,?_,?_,?_,?_,?_,?_,?_,trivial⟩<;>kernel_rfl
theorem ank:qt c P ae cs af pl a l Q (.jmp g)=qu cs af pl a Q (.jmp g):=ak
theorem anl b:qt c P ae cs af pl a l Q (.rem b)=qu cs af pl a Q (.rem b):=by cases b<;>kernel_rfl
theorem anm:qt c P ae cs af pl a l Q .jv=if(pl.lookup 900).isSome=true then(aH (pl.lookup 900) λx=>Q true (cj cs af pl) (some (.list [.tup [.str "ROW",.int a],.tup [.str "GO",x]])) [])else Q true (cj cs af pl) (some (.list [.tup [.str "DO",.int a]])) []:=ak
end
section
variable{pl:List (Int×Nat)}
theorem ano(hS:S.length=n)(anp:∀f:Nat->Nat,(∀i,i<n->f i=i)->S.map (cL f)=S)(hx:∀f,ba f x=x)(h:sumK n (λb s o cl=>b=true/\s=S/\o=some (.list x)/\cl=[]) r Y u)(hk:kk (.ok (.ref n)) (S++[.list x])):cM n (ik kk) r Y u:=by
 cases r with|de i=>exact h.elim|ok f=>cases f with|next=>exact h.elim|ret v=>cases v with|ref k=>
  obtain⟨h1,h2,h3,h4⟩:=h;have anq:=of_decide_eq_true h1;have gB:=(cn.mp h3).1;have e:u=S++u.drop n:=by rw[<-h2,jB]
  have Bi:(cA n++[k]).length=n+1:=by rw[aX,fe];rfl
  have lt:∀i,i<n->pk (cA n++[k]) u.length i=i:=λi hi=>by rw[oU (Bi▸se hi),List.getElem_append_left (by rw[fe];exact hi),zh]
  have p:Pk (cA n++[k]) u (S++[.list x]):=by
   rw[e];refine Pk.pre (by rw[hS]) (gH.mpr ⟨HF,Hr _ _,λa ha b hb q=>?_⟩) ?_ ?_;.rw[bM.mp hb]at q;rw[q]at ha;exact absurd (oA.mp ha) (mV.mpr anq)
   .rw[<-e];exact anp _ lt
   .rw[<-e];exact .cons (by rw[h3];exact congrArg (λq=>some (MO.list q)) (hx _).symm) .nil
  refine By (Y:=Y) p rfl (by rw[List.take_left' fe]) (λx i q=>by rw[h4]at q;exact aE q) ?_ hk;show V.ref k=.ref (pk (cA n++[k]) u.length n);rw[oU (show n<(cA n++[k]).length by rw[Bi];exact eR n),NW (by rw[fe];exact br _)];simp only[fe,pC,List.getElem_cons_zero]|_=>exact h.elim
theorem Wz(bV:∀f,ba f af=af)(hf:∀i,i<9->f i=i):(cj cs af (aO pl)).map (cL f)=cj cs af (aO pl):=by unfold cj;simp only[ef,iU,mu,mw,my,mz,mB,V4,V5,Lw,Lx,V6,V7,tP,bV,hf 2 ai,hf 3 ai,hf 4 ai,hf 5 ai,hf 6 ai,hf 7 ai,hf 8 ai]
theorem anr(Z:AO c P ae)(bV:∀f,ba f af=af)(h:qt c P ae cs af (aO pl) a l (λb s o cl=>b=true/\s=cj cs af (aO pl)/\o=some (.list (ao (k.o a last)))/\cl=[]) k)(hk:kk (.ok (.ref 9)) (cj cs af (aO pl)++[.list (ao (k.o a last))])):bb c 190 none 9 (vA P a [("line",l),("statement",k.v)]) (cj cs af (aO pl)) ((bO P 375).drop 1) (ik kk):=by refine TX.pickK ai (TX.mono (TX.ask (n:=90) Z h) λr Y u y=>?_);exact ano kY (λf hf=>Wz bV hf) (λf=>kR f _) y hk
theorem ans{k:aS}(Z:AO c P ae)(bV:∀f,ba f af=af)(fC:k.ok)(ha:df af a=some (.tup [l,k.v]))(h9:pl.lookup 900=some ln)(vB:last=(ln:Int))(hk:kk (.ok (.ref 9)) (cj cs af (aO pl)++[.list (ao (k.o a last))])):TC c 191 none (.st (.ref 375)) [.ref 1,.int a,.int 16,.int 9] (cj cs af (aO pl)) kk:=by
 refine TC.fn Z anb anc ?_;rw[kY,ane];refine TX.app ?_;refine TX.ask (n:=90) Z ?_;rw[anf,ha];refine dH rfl ?_;rw[ang];refine dH rfl (anr Z bV ?_ hk);have fin:∀{x:aS},x.o a 0=x.o a last->qu cs af (aO pl) a (λb s o cl=>b=true/\s=cj cs af (aO pl)/\o=some (.list (ao (x.o a last)))/\cl=[]) x:=λe=>by unfold qu;rw[e];exact⟨rfl,rfl,rfl,rfl⟩
 cases k with
 |lt b e=>cases b with|false=>exact du (@fF.get _ (λe=>qt c P ae cs af (aO pl) a l _ (.lt false e)=qu cs af (aO pl) a _ (.lt false e)) e gz anh fC) (fin rfl)|true=>exact du (@fF.get _ (λe=>qt c P ae cs af (aO pl) a l _ (.lt true e)=qu cs af (aO pl) a _ (.lt true e)) e gz ani fC) (fin rfl)
 |cU e g=>exact du (@fF.get _ (λe=>qt c P ae cs af (aO pl) a l _ (.cU e g)=qu cs af (aO pl) a _ (.cU e g)) e gz anj fC) (fin rfl)|jmp g=>exact du ank (fin rfl)|rem b=>exact du (anl b) (fin rfl)|jv=>rw[anm,LI,h9];subst vB;exact⟨rfl,rfl,rfl,rfl⟩
end
section
variable{os ss fo:List V}{k:KX}
@[irreducible]noncomputable def nX(cs:List ((Nat×Nat)×Str))(os ss fo:List V):List MO:=[.tab cs,.list os,.list ss,.list fo]
@[irreducible]def mG(P:aL)(e:Int)(q:bI):Loc:=⟨cO P 382,("orders",.ref 1)::("starts",.ref 2)::("end",.int e)::("found",.ref 3)::q,[],none⟩
theorem ant:(cb P ae).fn 382=some (bc P 382):=ak
theorem anu:enter (bc P 382).ps (bc P 382).sc [] (bc P 382).nest [.ref 1,.ref 2,.int e] [.tab cs,.list os,.list ss]=some (⟨cO P 382,[("orders",.ref 1),("starts",.ref 2),("end",.int e)],[],none⟩,[.tab cs,.list os,.list ss]):=ak
theorem anv:bO P 382=(bO P 382).take 1++sO P 382 1::(bO P 382).drop 2:=ak
theorem anw:i7 (sO P 382 1):=⟨by kernel_rfl,by kernel_rfl,λ_=>rfl⟩
theorem anx:(aC c P ae 60).x ((bO P 382).take 1) ⟨cO P 382,[("orders",.ref 1),("starts",.ref 2),("end",.int e)],[],none⟩ [.tab cs,.list os,.list ss] k=k (.ok .next) (mG P e []) (nX cs os ss []):=ak
theorem anz K:fW (cb P ae) (aC c P ae 60).e (iq (sO P 382 1)) (mG P e []) (nX cs os ss fo) K=K (.ok (.list 1,[])) (nX cs os ss fo):=ak
theorem anA v:cf (d2 (sO P 382 1)) v (mG P e []) (nX cs os ss fo)=some (mG P e [("order",v)],nX cs os ss fo):=ak
def F3(ss:List V)(e p:Int)(k:V->Prop):Prop:=gd (ss.length<=bk) (if decide (p<ss.length)=true then aH (df ss p) k else k (.int e))
def ldC(ss:List V)(e:Int)(o:Od)(k:V->Prop):Prop:=match o with|.go p=>F3 ss e p λx=>k (.tup [.str "GO",x])|.bf p=>F3 ss e p λx=>k (.tup [.str "FALSE",x])|o=>k o.v
theorem anB o:(aC c P ae 60).x (bP (sO P 382 1)) (mG P e [("order",o.v)]) (nX cs os ss fo) k=ldC ss e o λv=>gd (fo.length<1000000) (k (.ok .next) (mG P e [("order",v)]) (nX cs os ss (fo++[v]))):=by cases o<;>kernel_rfl
theorem anC:(aC c P ae 60).x ((bO P 382).drop 2) (mG P e []) (nX cs os ss fo) k=k (.ok (.ret (.ref 3))) (mG P e []) (nX cs os ss fo):=ak
theorem WA:d8 (mG P e q) (mG P e [])/\∀x v,(mG P e []).vars.lookup x=some v->(mG P e q).vars.lookup x=some v:=by unfold mG;exact⟨⟨rfl,rfl,rfl⟩,λx v h=>nO (K:=Str) (ex:=q) (vars:=[("orders",.ref 1),("starts",.ref 2),("end",.int e),("found",.ref 3)]) h⟩
end
section
variable{os:List Od}
theorem anD(hs:ss.length<=900)(ht:ft ss.length o)(h:k (bU ss o).v):ldC (ay ss) e o k:=by
 have b:∀{p:Int}{k:V->Prop},0<=p/\p<ss.length->k (.int (ldI ss p))->F3 (ay ss) e p k:=λht h=>by unfold F3;refine bz (by rw[kg];exact ax hs ai) ?_;rw[if_pos (decide_eq_true (by rw[kg];exact ht.2)),FJ ht.1 ht.2 (ax hs ai)];exact h
 cases o with|go p=>exact b ht h|bf p=>exact b ht h|_=>exact h
theorem anE(Z:AO c P ae)(ho:os.length<=900)(hs:ss.length<=900)(ht:∀o,o∈os->ft ss.length o)(hk:k (.ok (.ref 3)) ([.tab cs,.list (ao os),.list (ay ss)]++[.list (ao (os.map (bU ss)))])):TC c 131 none (.st (.ref 382)) [.ref 1,.ref 2,.int e] [.tab cs,.list (ao os),.list (ay ss)] k:=by
 refine TC.fn Z ant anu ?_;rw[anv];refine TX.app ?_;refine TX.ask (n:=60) Z ?_;rw[anx];refine TX.cons (TX.d2 (n:=60) Z anw os (λ_ o=>o.v) (λj=>nX cs (ao os) (ay ss) (ao ((os.take j).map (bU ss)))) (src:=.list 1) (show 1<3 by decide) ak anz (λj b=>?_) (λj a h=>?_) ?_);.unfold nX;exact congrArg some (qh os j)
 .have hj:=(cn.mp h);rw[anA];refine TX.ask (n:=60) Z ?_;rw[anB];refine anD hs (ht a (ez h)) (bz (by rw[dO,bw,iT];exact bD (pA _ _) (bD ho ai)) ⟨WA.1,WA.2,?_⟩);rw[jf hj.1,cH,jK,hj.2];rfl
 .rw[eV];refine TX.ask (n:=60) Z ?_;rw[anC];unfold nX;exact hk
end
section
variable{af os ss l1:List V}{k:KX}
abbrev WB(P:aL):Loc:=⟨cO P 389,[("flat",.ref 1),("bits",.int 16),("digits",.int 9)],[],none⟩
@[irreducible]def fb(P:aL)(q:bI):Loc:=⟨cO P 389,("flat",.ref 1)::("bits",.int 16)::("digits",.int 9)::("orders",.ref 9)::("starts",.ref 10)::q,[],none⟩
@[irreducible]def d3(cs:List ((Nat×Nat)×Str))(af:List V)(pl:List (Int×V))(os ss:List V)(aA:List MO):List MO:=cj cs af pl++.list os::.list ss::aA
theorem anF:(cb P ae).fn 389=some (bc P 389):=ak
theorem anG:enter (bc P 389).ps (bc P 389).sc [] (bc P 389).nest [.ref 1,.int 16,.int 9] (cj cs af pl)=some (WB P,cj cs af pl):=ak
theorem anH:bO P 389=(bO P 389).take 1++sO P 389 1::(((bO P 389).drop 2).take 1++(bO P 389).drop 3):=ak
theorem anI:i7 (sO P 389 1):=⟨by kernel_rfl,by kernel_rfl,λ_=>rfl⟩
theorem anJ:bP (sO P 389 1)=(bP (sO P 389 1)).take 1++(bP (sO P 389 1)).drop 1:=ak
theorem anK:(aC c P ae 110).x ((bO P 389).take 1) (WB P) (cj cs af pl) k=k (.ok .next) (fb P []) (d3 cs af pl [] [] []):=ak
theorem anL:LD (sO P 389 1):=⟨Wg (sO P 389 1),Wh (sO P 389 1),by kernel_rfl⟩
theorem anM:dk (nU (sO P 389 1))=false/\ib (eI (cb P ae) (fb P []) (d3 cs af pl os ss []) "range") (.type "range")=true:=⟨by kernel_rfl,by kernel_rfl⟩
theorem anN K:(aC c P ae 110).e (nU (sO P 389 1)) (fb P []) (d3 cs af pl os ss []) K=gd (af.length<=bk) (K (.ok (.int af.length)) (d3 cs af pl os ss [])):=ak
theorem anO v:cf (d2 (sO P 389 1)) v (fb P []) (d3 cs af pl os ss [])=some (fb P [("at",v)],d3 cs af pl os ss []):=ak
theorem anP v:(aC c P ae 110).x ((bP (sO P 389 1)).take 1) (fb P [("at",v)]) (d3 cs af pl os ss []) k=gd (os.length<=bk) (gd (ss.length<1000000) (k (.ok .next) (fb P [("at",v)]) (d3 cs af pl os (ss++[.int os.length]) []))):=ak
theorem anQ v:(aC c P ae 110).x ((bP (sO P 389 1)).drop 1) (fb P [("at",v)]) (d3 cs af pl os ss []) k=TC c 224 none (.st (.ref 375)) [.ref 1,v,.int 16,.int 9] (d3 cs af pl os ss []) (bx (fb P [("at",v)]) k λx u=>i4 x λj=>dn u 9 λl=>dn u j λl'=>gd (9≠j/\l.length<1000000/\l'.length<1000000) (k (.ok .next) (fb P [("at",v)]) (u.set 9 (.list (l++l'))))):=ak
theorem anR:(aC c P ae 110).x (((bO P 389).drop 2).take 1) (fb P []) (d3 cs af pl os ss []) k=gd (os.length<=bk) (k (.ok .next) (fb P [("end",.int os.length)]) (d3 cs af pl os ss [])):=ak
theorem anS:(aC c P ae 110).x ((bO P 389).drop 3) (fb P [("end",.int e)]) (d3 cs af pl os ss []) k=TC c 222 none (.st (.ref 382)) [.ref 9,.ref 10,.int e] (d3 cs af pl os ss []) (bx (fb P [("end",.int e)]) k λv u=>xR v (.ref u.length) (u++[.list [.tup [.str "END"]]]) (bx (fb P [("end",.int e)]) k λw u=>(aC c P ae 108).c (.st (.ref 343)) [w,.ref 10] u (nN (fb P [("end",.int e)]) k))):=ak
theorem anT{k:KT V}:(aC c P ae 108).c (.st (.ref 343)) [.ref 13,.ref 10] (d3 cs af pl os ss [.list l1,.list l2,.list l3]) k=k (.ok (.ref 15)) (d3 cs af pl os ss [.list l1,.list l2,.list l3,.aV [("orders",.ref 13),("starts",.ref 10)],.inst 343 14]):=ak
end
theorem tV(e:u[i]?=some (.list l))(h:f l):dn u i f:=by unfold dn;rw[e];exact h
theorem anU(hi:u[i]?=some (.list x))(hj:u[j]?=some (.list y))(hl:x.length+y.length<=bk)(h:k (.ok (.ref u.length)) (u++[.list (x++y)])):xR (.ref i) (.ref j) u k:=by show dn u i λx=>dn u j λy=>gd (x.length+y.length<=bk) (k (.ok (.ref u.length)) (u++[.list (x++y)]));exact tV (f:=λx=>dn u j λy=>gd (x.length+y.length<=bk) (k (.ok (.ref u.length)) (u++[.list (x++y)]))) hi (tV hj (bz hl h))
noncomputable def i_(last:Int):Nat->List aS->List Od|_,[]=>[]|j,k::r=>k.o j last++i_ last (j+1) r
theorem WC last k:∀(r:List aS)(j:Nat),i_ last j (r++[k])=i_ last j r++k.o (j+r.length:Nat) last:=by intro r;induction r with|nil=>exactλj=>cG _|cons x r ih=>intro j;show x.o j last++i_ last (j+1) (r++[k])=x.o j last++i_ last (j+1) r++_;rw[ih (j+1),cS,eU,lT];rfl
def nY(last:Int)(ks:List aS)(n:Nat):List Nat:=(cA n).map λi=>(i_ last 0 (ks.take i)).length
theorem anV last ks n:nY last ks (n+1)=nY last ks n++[(i_ last 0 (ks.take n)).length]:=by unfold nY;rw[HI,cH];rfl
theorem F4 last ks n:(nY last ks n).length=n:=by unfold nY;rw[bw,fe]
theorem anW:∀(ks:List aS)(j:Nat),(∀k∈ks,∀a:Int,(k.o a last).length<=10)->(i_ last j ks).length<=10*ks.length:=by intro ks;induction ks with|nil=>exactλ_ _=>dC _|cons k r ih=>intro j h;have h1:=h k zg j;have h2:=ih (j+1) λx hx=>h x (ze _ hx);show(k.o j last++i_ last (j+1) r).length<=_;rw[aX,eU];exact ax (ou h1 h2) (bo (dZ _ _))
section
variable{pl:List (Int×Nat)}{os:List Od}
theorem WD(bV:∀f,ba f af=af)(nd:([0,1,2,3,4,5,6,7,8]++jL).Nodup)(t:iM (pk ([0,1,2,3,4,5,6,7,8]++jL) (9+B.length)) (cj cs af (aO pl)++B) jL aD):Pk ([0,1,2,3,4,5,6,7,8]++jL) (cj cs af (aO pl)++B) (cj cs af (aO pl)++aD):=by
 have hl:(cj cs af (aO pl)++B).length=9+B.length:=by rw[aX,kY]
 refine Pk.pre (by rw[kY];rfl) nd (Wz bV λi hi=>?_) (by rw[hl];exact t);have tQ:i<([0,1,2,3,4,5,6,7,8]++jL).length:=cw hi (by rw[aX];exact cy 9 _);rw[oU tQ];have :=vk (m:=9) (js:=[0,1,2,3,4,5,6,7,8]++jL) rfl i hi;rw[cp tQ]at this;exact aJ this
theorem fl{pl:List (Int×V)}{m:MO} i j(h:i=9+j)(hB:B[j]?=some m):(cj cs af pl++B)[i]?=some m:=by subst h;rw[eS (by rw[kY];exact cy _ _),kY,jb,hB]
theorem WE{pl:List (Int×V)}(h:B.all fM=true):(cj cs af pl++B).all fM=true:=by rw[CW,h];unfold cj;rfl
theorem WG:d8 (fb P q) (fb P [])/\∀x v,(fb P []).vars.lookup x=some v->(fb P q).vars.lookup x=some v:=by unfold fb;exact⟨⟨rfl,rfl,rfl⟩,λx v h=>nO (K:=Str) (ex:=q) (vars:=[("flat",.ref 1),("bits",.int 16),("digits",.int 9),("orders",.ref 9),("starts",.ref 10)]) h⟩
abbrev vC(cs:List ((Nat×Nat)×Str))(af:List V)(pl:List (Int×Nat))(os:List Od)(ss:List Nat):List MO:=d3 cs af (aO pl) (ao os) (ay ss) []
theorem anY{j:Nat}{k:aS}(Z:AO c P ae)(bV:∀f,ba f af=af)(fC:k.ok)(ha:df af (j:Int)=some (.tup [l,k.v]))(h9:pl.lookup 900=some ln)(vB:last=(ln:Int))(ho:os.length<=900)(LV:(k.o j last).length<=100)(hk:kk (.ok .next) (fb P []) (vC cs af pl (os++k.o j last) ss)):bb c 230 none 9 (fb P [("at",.int j)]) (vC cs af pl os ss) ((bP (sO P 389 1)).drop 1) kk:=by
 refine TX.pickK ai (TX.ask (n:=110) Z ?_);rw[anQ];unfold vC d3 at hk;unfold d3;refine TC.at' (n:=191) (N:=11) (js:=[0,1,2,3,4,5,6,7,8]) (a7:=cj cs af (aO pl)) (gx:=[.ref 1,.int j,.int 16,.int 9]) (cT:=.ref 9) (v:=.ref 11) (nw:=[.list (ao (k.o j last))]) (nw':=[.list (ao (k.o j last))]) ?_ ?_ rfl (WE rfl) rfl (λk h=>ans Z bV fC ha h9 vB h) ai rfl ?_ ?_;.have :=WD (cs:=cs) (af:=af) (pl:=pl) (B:=[.list (ao os),.list (ay ss)]) (jL:=[]) (aD:=[]) bV ai .nil;rw[cG,cG]at this;exact this
 .rw[aX,kY];rfl
 .simp only[ef,iU,mu,mw,my,mz,mB,o6,kR]
 .rw[cS];have anZ:(cj cs af (aO pl)++([MO.list (ao os),.list (ay ss)]++[MO.list (ao (k.o j last))]))[9]?=some (.list (ao os)):=fl 9 0 rfl rfl;have an0:(cj cs af (aO pl)++([MO.list (ao os),.list (ay ss)]++[MO.list (ao (k.o j last))]))[11]?=some (.list (ao (k.o j last))):=fl 11 2 rfl rfl;have A_:(cj cs af (aO pl)++([MO.list (ao os),.list (ay ss)]++[MO.list (ao (k.o j last))])).set 9 (.list (ao os++ao (k.o j last)))=cj cs af (aO pl)++[.list (ao (os++k.o j last)),.list (ay ss),.list (ao (k.o j last))]:=by rw[N1 (h:=by rw[kY];exact br 9),kY,jK];rfl
  show dn _ 9 _;refine tV anZ (tV an0 (bz ⟨by decide,by rw[dO];exact bD ho ai,by rw[dO];exact bD LV ai⟩ ?_));rw[A_];unfold fb at hk⊢;exact yp (N:=12) (js:=[0,1,2,3,4,5,6,7,8]++[9,10]) (WD bV ai (.cons (e_ (fl 9 0 rfl rfl)) (.cons (kh (fl 10 1 rfl rfl)) .nil))) (by rw[aX,kY];rfl) rfl (λx i e=>aE e) [("at",.int j)] [("flat",.ref 1),("bits",.int 16),("digits",.int 9),("orders",.ref 9),("starts",.ref 10)] rfl hk
theorem an1{j:Nat}{k:aS}(Z:AO c P ae)(bV:∀f,ba f af=af)(fC:k.ok)(ha:df af (j:Int)=some (.tup [l,k.v]))(h9:pl.lookup 900=some ln)(vB:last=(ln:Int))(ho:os.length<=900)(hs:ss.length<=900)(LV:(k.o j last).length<=100)(hk:kk (.ok .next) (fb P []) (vC cs af pl (os++k.o j last) (ss++[os.length]))):bb c 230 none 9 (fb P [("at",.int j)]) (vC cs af pl os ss) (bP (sO P 389 1)) kk:=by rw[anJ];refine TX.app ?_;refine TX.ask (n:=110) Z ?_;rw[anP];refine bz (by rw[dO];exact ax ho ai) (bz (by rw[kg];exact bD hs ai) ?_);rw[dO,show ay ss++[V.int (os.length:Nat)]=ay (ss++[os.length])from(yc ss [os.length]).symm];exact anY Z bV fC ha h9 vB ho LV hk
theorem an2{St:List Nat}(Z:AO c P ae)(bV:∀f,ba f af=af)(ho:O.length<=800)(hs:St.length<=800)(ht:∀o,o∈O->ft St.length o)(hk:k (.ok (.ref 9)) (bS cs af (aO pl) (ao (O.map (bU St)++[.fin])) (ay St))):bb c 230 none 9 (fb P [("end",.int e)]) (vC cs af pl O St) ((bO P 389).drop 3) (ik k):=by
 refine TX.pickK ai (TX.ask (n:=110) Z ?_);rw[anS];refine TC.at' (n:=131) (N:=11) (js:=[0,9,10]) (a7:=[.tab cs,.list (ao O),.list (ay St)]) (gx:=[.ref 1,.ref 2,.int e]) (cT:=.ref 3) (v:=.ref 11) (nw:=[.list (ao (O.map (bU St)))]) (nw':=[.list (ao (O.map (bU St)))]) (.eK ?_ ai) ?_ rfl ?_ rfl (λk h=>anE Z (ax ho ai) (ax hs ai) ht h) ai rfl ?_ ?_;.unfold d3;rw[aX,kY];exact .cons (by unfold cj;rfl) (.cons (e_ (fl 9 0 rfl rfl)) (.cons (kh (fl 10 1 rfl rfl)) .nil))
 .unfold d3;rw[aX,kY];rfl
 .unfold d3;exact WE rfl
 .simp only[ef,iU,mu,mw,my,mz,mB,o6,kR]
 .have e1:d3 cs af (aO pl) (ao O) (ay St) []++[.list (ao (O.map (bU St)))]=d3 cs af (aO pl) (ao O) (ay St) [.list (ao (O.map (bU St)))]:=by unfold d3;rw[cS];rfl
  have e2:∀aA J':List MO,d3 cs af (aO pl) (ao O) (ay St) aA++J'=d3 cs af (aO pl) (ao O) (ay St) (aA++J'):=λaA J'=>by unfold d3;rw[cS];rfl
  have hlen:∀aA:List MO,(d3 cs af (aO pl) (ao O) (ay St) aA).length=11+aA.length:=λaA=>by unfold d3;rw[aX,kY];show 9+(aA.length+1+1)=_;exact Z_
  rw[e1];show xR (.ref 11) (.ref (d3 cs af (aO pl) (ao O) (ay St) [.list (ao (O.map (bU St)))]).length) _ _;rw[hlen,e2];refine anU (x:=ao (O.map (bU St))) (y:=[.tup [.str "END"]]) (by unfold d3;exact fl 11 2 rfl rfl) (by unfold d3;exact fl 12 3 rfl rfl) (by rw[dO,bw];exact ax (ou ho (br 1)) ai) ?_;rw[hlen,e2];show(aC c P ae 108).c (.st (.ref 343)) [.ref 13,.ref 10] _ _;have :=anT (c:=c) (P:=P) (ae:=ae) (cs:=cs) (af:=af) (os:=ao O) (ss:=ay St) (pl:=aO pl) (l1:=ao (O.map (bU St))) (l2:=[.tup [.str "END"]]) (l3:=ao (O.map (bU St))++[.tup [.str "END"]]) (k:=nN (fb P [("end",.int e)]) (cM 9 (ik k)));refine du this ?_;unfold d3 fb;unfold bS at hk;unfold cj;refine FQ (js:=[0,1,2,3,4,5,6,7,8,15,14,13,10]) (cT:=.ref 9) (.eK ?_ ai) rfl rfl rfl hk;refine .cons rfl (.cons rfl (.cons rfl (.cons ?_ (.cons ?_ (.cons rfl (.cons rfl (.cons rfl (.cons rfl (.cons rfl (.cons rfl (.cons ?_ (.cons (kh rfl) .nil))))))))))));.show _=some (MO.list (ba _ af));rw[bV];rfl
  .show _=some (MO.bg (d9 _ (aO pl)));rw[tP];rfl
  .exact e_ (by rw[jK];rfl)
theorem an3(Z:AO c P ae)(bV:∀f,ba f af=af){ks:List aS}{last:Int}{ln:Nat}(i9:af.length=ks.length)(hr:∀j(h:j<ks.length),∃l,af[j]?=some (.tup [l,(ks[j]).v]))(fC:∀k∈ks,k.ok)(hlen:∀k∈ks,∀a:Int,(k.o a last).length<=10)(gB:ks.length<=50)(h9:pl.lookup 900=some ln)(vB:last=(ln:Int))(ht:∀o,o∈i_ last 0 ks->ft ks.length o)(hk:k (.ok (.ref 9)) (bS cs af (aO pl) (ao ((i_ last 0 ks).map (bU (nY last ks ks.length))++[.fin])) (ay (nY last ks ks.length)))):TC c 231 none (.st (.ref 389)) [.ref 1,.int 16,.int 9] (cj cs af (aO pl)) k:=by
 have EL:∀j,(i_ last 0 (ks.take j)).length<=500:=λj=>by have :=anW (last:=last) (ks.take j) 0 λk hk=>hlen k (N3 hk);rw[iT]at this;exact Z' gB this
 refine TC.fn Z anF anG ?_;rw[kY,anH];refine TX.app ?_;refine TX.ask (n:=110) Z ?_;rw[anK];refine TX.cons (TX.d2 (n:=110) Z anI (cA ks.length) (λ_(j:Nat)=>.int j) (λj=>vC cs af pl (i_ last 0 (ks.take j)) (nY last ks j)) (src:=.range ks.length) trivial rfl (λK=>?_) (λj b=>LG _ j _) (λj a h=>?_) ?_);.rw[Wi anL anM anN (ax (show _<=900 from(ax (bo i9) (ax gB ai))) ai) (PO i9 (ax gB ai)),i9]
 .have hj:=(cn.mp h).1;rw[fe]at hj;rw[mX hj]at h;cases h;rw[anO];obtain⟨l,hl⟩:=hr j hj;have e1:i_ last 0 (ks.take (j+1))=i_ last 0 (ks.take j)++ks[j].o j last:=by rw[jf hj,WC,iT,sf (fJ hj),eu]
  refine an1 Z bV (fC _ (oz hj)) (by rw[nK (dK _) (eX.mpr (sd hj i9.symm)) (ax (bo i9) (ax gB ai)),fU];exact hl) h9 vB (by have :=EL j;exact ax this ai) (by rw[F4];exact fJ (cw hj (ax gB ai))) (by have :=hlen _ (oz hj) j;exact ax this ai) ⟨WG.1,WG.2,?_⟩;rw[<-e1,<-anV]
 .rw[fe,eV];refine TX.app ?_;refine TX.ask (n:=110) Z ?_;rw[anR];have WH:(i_ last 0 ks).length<=500:=by have :=EL ks.length;rwa[eV]at this
  refine bz (by rw[dO];exact ax WH ai) ?_;exact an2 Z bV (ax WH ai) (by rw[F4];exact ax gB ai) (by rw[F4];exact ht) hk
end
abbrev gZ:=List (Int×List aS)
@[elab_as_elim]theorem BD{p:gZ->Prop}(h2:∀a b,p [a,b])(h3:∀a b c,p [a,b,c])(h4:∀a b c d,p [a,b,c,d])(h5:∀a b c d e,p [a,b,c,d,e])(h6:∀a b c d e f,p [a,b,c,d,e,f])(h7:∀a b c d e f g,p [a,b,c,d,e,f,g])(h8:∀a b c d e f g h,p [a,b,c,d,e,f,g,h]){ls:gZ}(hn:2<=ls.length/\ls.length<=8):p ls:=by
 rcases ls with _|⟨a,_|⟨b,_|⟨c,_|⟨d,_|⟨e,_|⟨f,_|⟨g,_|⟨h,_|⟨i,r⟩⟩⟩⟩⟩⟩⟩⟩⟩;.exact absurd hn.1 (show¬2<=0 by decide)
 .exact absurd hn.1 (show¬2<=1 by decide)
 .exact h2 ..
 .exact h3 ..
 .exact h4 ..
 .exact h5 ..
 .exact h6 ..
 .exact h7 ..
 .exact h8 ..
 .exact absurd hn.2 (by show¬(r.length+1+1+1+1+1+1+1+1+1<=8);exact aaa)
def kvs(l:List aS):List V:=l.map aS.v
def d4(ls:gZ):List MO:=ls.map λe=>.list (kvs e.2)
noncomputable def fH(b:Nat)(ls:gZ):List V:=ls.zipIdx.map λe=>.tup [.int e.1.1,.ref (b+e.2)]
def c0(cs:List ((Nat×Nat)×Str))(ls:gZ):List MO:=.tab cs::.list (fH 2 ls)::d4 ls
noncomputable def qw(N:Nat)(af:List V)(pl:List (Int×V)):List MO:=[.aV [("rows",.ref (N+2)),("places",.ref (N+3)),("data",.ref (N+4)),("pairs",.ref (N+5)),("loops",.ref (N+6)),("fns",.ref (N+7))],.inst 475 N,.list af,.bg pl,.list [],.bg [],.bg [],.bg []]
@[irreducible]def cm(cs:List ((Nat×Nat)×Str))(ls:gZ)(af:List V)(pl:List (Int×V)):List MO:=c0 cs ls++qw (ls.length+2) af pl
section
variable{k:KX}
@[irreducible]def o8(P:aL)(ls:gZ)(l:Int)(r:Nat)(q:bI):Loc:=⟨cO P 500,("flat",.ref (ls.length+3))::("line",.int l)::("statements",.ref r)::q,[],none⟩
@[irreducible]def g_(P:aL)(ls:gZ)(q:bI):Loc:=⟨cO P 528,("parsed",.ref 1)::("flat",.ref (ls.length+3))::q,[],none⟩
theorem an4:(cb P ae).fn 500=some (bc P 500):=ak
theorem an5:enter (bc P 500).ps (bc P 500).sc [] (bc P 500).nest [.ref (ls.length+3),.int l,.ref r] (cm cs ls af pl)=some (o8 P ls l r [],cm cs ls af pl):=ak
theorem an6:bO P 500=[sO P 500 0]:=ak
theorem WJ:i7 (sO P 500 0):=⟨by kernel_rfl,by kernel_rfl,λ_=>rfl⟩
theorem an7 K:fW (cb P ae) (aC c P ae 60).e (iq (sO P 500 0)) (o8 P ls l r []) (cm cs ls af pl) K=rB (.ref r) (cm cs ls af pl) K:=ak
theorem an8 v:cf (d2 (sO P 500 0)) v (o8 P ls l r []) (cm cs ls af pl)=some (o8 P ls l r [("statement",v)],cm cs ls af pl):=ak
theorem an9(hn:2<=ls.length/\ls.length<=8)(kd:aS):(aC c P ae 60).x (bP (sO P 500 0)) (o8 P ls l r [("statement",kd.v)]) (cm cs ls af pl) k=gd (af.length<1000000) (gd ((af++[V.tup [.int l,kd.v]]).length<=bk) (k (.ok .next) (o8 P ls l r [("statement",kd.v)]) (cm cs ls (af++[.tup [.int l,kd.v]]) pl))):=by revert hn;cases kd<;>(intro hn;refine BD ?_ ?_ ?_ ?_ ?_ ?_ ?_ hn<;>(clear hn;intros;kernel_rfl))
@[irreducible]def nZ(cs:List ((Nat×Nat)×Str))(af:List V)(pl:List (Int×V)):List MO:=cj cs af pl++[.list [],.list [],.list []]
@[irreducible]def o9(P:aL)(q:bI):Loc:=⟨cO P 507,("flat",.ref 1)::("whiles",.ref 9)::("fors",.ref 10)::("heads",.ref 11)::q,[],none⟩
theorem an_:(cb P ae).fn 507=some (bc P 507):=ak
theorem an':enter (bc P 507).ps (bc P 507).sc [] (bc P 507).nest [.ref 1] (cj cs af pl)=some (⟨cO P 507,[("flat",.ref 1)],[],none⟩,cj cs af pl):=ak
theorem aoa:bO P 507=(bO P 507).take 1++[sO P 507 1]:=ak
theorem aob:i7 (sO P 507 1):=⟨by kernel_rfl,by kernel_rfl,λ_=>rfl⟩
theorem aoc:(aC c P ae 60).x ((bO P 507).take 1) ⟨cO P 507,[("flat",.ref 1)],[],none⟩ (cj cs af pl) k=k (.ok .next) (o9 P []) (nZ cs af pl):=ak
theorem aod K:fW (cb P ae) (aC c P ae 60).e (iq (sO P 507 1)) (o9 P []) (nZ cs af pl) K=K (.ok (.enum 3,[])) (nZ cs af pl):=ak
theorem aoe p v:cf (d2 (sO P 507 1)) (.tup [.int p,v]) (o9 P []) (nZ cs af pl)=some (o9 P [("at",.int p),("pair",v)],nZ cs af pl):=ak
noncomputable def aof:aS->V|.lt _ _=>.str "LET"|.cU _ _=>.str "IFNOT"|.jmp _=>.str "JUMP"|.rem _=>.str "REM"|.jv=>.str "GOTO"
theorem aog p l kd:(aC c P ae 60).x (bP (sO P 507 1)) (o9 P [("at",.int p),("pair",.tup [l,kd.v])]) (nZ cs af pl) k=k (.ok .next) (o9 P [("at",.int p),("pair",.tup [l,kd.v]),("line",l),("statement",kd.v),("word",aof kd)]) (nZ cs af pl):=by cases kd<;>kernel_rfl
abbrev rL P:=bP (sO P 528 1)
theorem aoh:(cb P ae).fn 528=some (bc P 528):=ak
theorem aoi u:enter (bc P 528).ps (bc P 528).sc [] (bc P 528).nest [.ref 1] u=some (⟨cO P 528,[("parsed",.ref 1)],[],none⟩,u):=ak
theorem aoj:bO P 528=(bO P 528).take 1++sO P 528 1::(((bO P 528).drop 2).take 1++(bO P 528).drop 3):=ak
theorem WK:i7 (sO P 528 1):=⟨by kernel_rfl,by kernel_rfl,λ_=>rfl⟩
theorem aok:rL P=(rL P).take 1++(((rL P).drop 1).take 1++(rL P).drop 2):=ak
theorem aol(hn:2<=ls.length/\ls.length<=8):(aC c P ae 80).x ((bO P 528).take 1) ⟨cO P 528,[("parsed",.ref 1)],[],none⟩ (c0 cs ls) k=k (.ok .next) (g_ P ls []) (cm cs ls [] []):=by refine BD ?_ ?_ ?_ ?_ ?_ ?_ ?_ hn<;>(clear hn;intros;kernel_rfl)
theorem aom(hn:2<=ls.length/\ls.length<=8) K:fW (cb P ae) (aC c P ae 80).e (iq (sO P 528 1)) (g_ P ls []) (cm cs ls af pl) K=K (.ok (.list 1,[])) (cm cs ls af pl):=by refine BD ?_ ?_ ?_ ?_ ?_ ?_ ?_ hn<;>(clear hn;intros;kernel_rfl)
theorem aon l r:cf (d2 (sO P 528 1)) (.tup [l,r]) (g_ P ls []) (cm cs ls af pl)=some (g_ P ls [("line",l),("statements",r)],cm cs ls af pl):=ak
theorem aoo(hn:2<=ls.length/\ls.length<=8) r:(aC c P ae 80).x ((rL P).take 1) (g_ P ls [("line",.int l),("statements",r)]) (cm cs ls af pl) k=gd (af.length<=bk) (aH (kL (.ref (ls.length+5)) (.int l) (.int af.length) (cm cs ls af pl)) λu=>k (.ok .next) (g_ P ls [("line",.int l),("statements",r)]) u):=by refine BD ?_ ?_ ?_ ?_ ?_ ?_ ?_ hn<;>(clear hn;intros;kernel_rfl)
theorem aop r:(aC c P ae 80).x (((rL P).drop 1).take 1) (g_ P ls [("line",.int l),("statements",r)]) (cm cs ls af pl) k=TC c 166 none (.st (.ref 500)) [.ref (ls.length+3),.int l,r] (cm cs ls af pl) (bx (g_ P ls [("line",.int l),("statements",r)]) k λ_ u=>k (.ok .next) (g_ P ls [("line",.int l),("statements",r)]) u):=ak
abbrev yu P:=(rL P).getD 2 (.Pass default)
theorem aoq:(rL P).drop 2=[yu P]:=ak
theorem aor:rI (yu P):=⟨vx (yu P),by kernel_rfl⟩
theorem aos:mE (yu P)=[]:=ak
theorem aot(hn:2<=ls.length/\ls.length<=8) r{K:KT Bool}:(aC c P ae 80).t (iO (yu P)) (g_ P ls [("line",.int l),("statements",r)]) (cm cs ls af pl) K=aH (pl.lookup l) λx=>gd (af.length<=bk) (aH (cmp .Eq x (.int af.length) (cm cs ls af pl)) λb=>K (.ok b) (cm cs ls af pl)):=by refine BD ?_ ?_ ?_ ?_ ?_ ?_ ?_ hn<;>(clear hn;intros;kernel_rfl)
theorem aou u:(aC c P ae 80).x (((bO P 528).drop 2).take 1) (g_ P ls []) u k=TC c 166 none (.st (.ref 507)) [.ref (ls.length+3)] u (bx (g_ P ls []) k λ_ u=>k (.ok .next) (g_ P ls []) u):=ak
theorem aov u:(aC c P ae 80).x ((bO P 528).drop 3) (g_ P ls []) u k=k (.ok (.ret (.ref (ls.length+3)))) (g_ P ls []) u:=ak
end
theorem o_(h:n<=1000):n<=sizeLine:=ax h ai
theorem aow(h:n<=1000):n<1000000:=bD h ai
noncomputable def pd(line:Int)(ks:List aS):List V:=ks.map λk=>.tup [.int line,k.v]
theorem WL l ks:(pd l ks).length=ks.length:=bw ..
theorem F5 f(k:aS):bY f k.v=k.v:=by
 have he:∀e:Ex,bY f e.v=e.v:=λe=>by cases e with|t4 n=>rcases n with _|_|_|n<;>rfl|_=>rfl
 cases k with|lt b e=>show V.tup [_,_,bY f e.v]=_;rw[he];rfl|cU e g=>show V.tup [_,bY f e.v,_]=_;rw[he];rfl|_=>rfl
structure Rows(af:List V)(ks:List aS):Prop where ls:∃ls:List Int,ls.length=ks.length/\af=(ls.zip ks).map λe=>V.tup [.int e.1,e.2.v]
theorem Rows.bY(h:Rows af ks) f:ba f af=af:=by obtain⟨ls,_,rfl⟩:=h.ls;rw[nP,jh];refine kE λe _=>?_;show V.tup [.int e.1,Internal.bY f e.2.v]=_;rw[F5]
theorem Rows.len(h:Rows af ks):af.length=ks.length:=by obtain⟨ls,hl,rfl⟩:=h.ls;rw[bw,Oi,hl,Na]
theorem Rows.app(h:Rows af ks) l:Rows (af++pd l tW) (ks++tW):=by
 obtain⟨ls,hl,rfl⟩:=h.ls;refine⟨ls++wz tW.length l,by rw[aX,aX,hl,N2],?_⟩;rw[List.zip_append hl,cH];congr 1;have :∀tW:List aS,(wz tW.length l).zip tW=tW.map λk=>(l,k):=λtW=>by induction tW with|nil=>rfl|cons k r ih=>exact congrArg (Ov (l,k)) ih
 rw[this,jh];rfl
theorem Rows.get(h:Rows af ks){j:Nat} hj:∃l:Int,af[j]?=some (.tup [.int l,(ks[j]).v]):=by obtain⟨ls,hl,rfl⟩:=h.ls;have h1:j<ls.length:=hl▸hj;refine⟨ls[j],?_⟩;rw[cQ,cp (by rw[Oi,hl,Na];exact hj),List.getElem_zip];rfl
noncomputable def putN(k:Int)(n:Nat):List (Int×Nat)->List (Int×Nat)|[]=>[(k,n)]|(y,w)::r=>if y=k then(y,n)::r else(y,w)::putN k n r
theorem WM k n y w r:putN k n ((y,w)::r)=if y=k then(y,n)::r else(y,w)::putN k n r:=rfl
theorem aox k(n:Nat):∀pl,dU k (V.int n) (aO pl)=aO (putN k n pl):=by intro pl;induction pl with|nil=>rfl|cons a r ih=>
 obtain⟨y,w⟩:=a;show(if y=k then(y,V.int n)::aO r else(y,V.int w)::dU k (V.int n) (aO r))=aO (if y=k then(y,n)::r else(y,w)::putN k n r);by_cases h:y=k;.rw[if_pos h,if_pos h];rfl
 .rw[if_neg h,if_neg h,ih];rfl
theorem WN k n:∀pl,(putN k n pl).lookup k=some n:=by intro pl;induction pl with|nil=>show([(k,n)]:List (Int×Nat)).lookup k=_;rw[fL,beq_self_eq_true]|cons a r ih=>
 obtain⟨y,w⟩:=a;rw[WM];by_cases h:y=k;.rw[if_pos h,h,fL,beq_self_eq_true]
 .rw[if_neg h,fL,beq_false_of_ne (hY h)];exact ih
theorem aoy k n:∀pl,(putN k n pl).length<=pl.length+1:=by intro pl;induction pl with|nil=>exact br _|cons a r ih=>
 obtain⟨y,w⟩:=a;rw[WM];by_cases h:y=k;.rw[if_pos h];exact dI _
 .rw[if_neg h];exact gf ih
structure FB where
 ks:List aS
 rw:List V
 pl:List (Int×Nat)
def jw(s:FB)(e:Int×List aS):FB:=⟨s.ks++e.2,s.rw++pd e.1 e.2,putN e.1 s.rw.length s.pl⟩
def dY(ls:gZ):FB:=ls.foldl jw ⟨[],[],[]⟩
theorem BE(ls:gZ):∀s:FB,Rows s.rw s.ks->Rows (ls.foldl jw s).rw (ls.foldl jw s).ks:=by induction ls with|nil=>exactλs h=>h|cons e r ih=>exactλs h=>ih (jw s e) (h.app e.1)
theorem WO(ls:gZ):∀s:FB,(ls.foldl jw s).pl.length<=s.pl.length+ls.length:=by induction ls with|nil=>exactλs=>br _|cons e r ih=>exactλs=>ax (ih (jw s e)) (ax (mT (aoy _ _ _) _) (bo (by rw[eU,dZ r.length,<-hU])))
theorem LW(ls:gZ):∀s:FB,(ls.foldl jw s).ks=s.ks++ls.flatMap (·.2):=by induction ls with|nil=>exactλs=>(cG _).symm|cons e r ih=>intro s;rw[zm,ih,uv];exact cS ..
theorem yv:(c0 cs ls).length=ls.length+2:=by unfold c0 d4;rw[eU,eU,bw]
theorem WQ:(cm cs ls af pl).length=ls.length+10:=by unfold cm;rw[aX,yv];rfl
theorem WR t:(cm cs ls af pl)[ls.length+2+t]?=(qw (ls.length+2) af pl)[t]?:=by unfold cm;rw[eS (by rw[yv];exact cy _ _),yv,jb]
theorem WS(h:(d4 ls)[j]?=some (.list (kvs ks))):(cm cs ls af pl)[2+j]?=some (.list (kvs ks)):=by unfold cm c0;have hj:=(cn.mp h).1;rw[dZ 2 j,ew (by rw[eU,eU];exact GQ (GQ hj))];exact h
theorem WT:d8 (o8 P ls l r q) (o8 P ls l r [])/\∀x v,(o8 P ls l r []).vars.lookup x=some v->(o8 P ls l r q).vars.lookup x=some v:=by unfold o8;exact⟨⟨rfl,rfl,rfl⟩,λx v h=>nO (K:=Str) (ex:=q) (vars:=[("flat",.ref (ls.length+3)),("line",.int l),("statements",.ref r)]) h⟩
theorem aoz(Z:AO c P ae)(hn:2<=ls.length/\ls.length<=8)(h:(d4 ls)[j]?=some (.list (kvs ks)))(hl:af.length+ks.length<=900)(hk:k (.ok .none) (cm cs ls (af++pd l ks) pl)):TC c 131 none (.st (.ref 500)) [.ref (ls.length+3),.int l,.ref (2+j)] (cm cs ls af pl) k:=by
 have hj:j<ls.length:=by have :=(cn.mp h).1;unfold d4 at this;rwa[bw]at this
 refine TC.fn Z an4 an5 ?_;rw[WQ,an6];have e0:cm cs ls af pl=cm cs ls (af++pd l (ks.take 0)) pl:=by rw[List.take_zero];unfold pd;rw[iU,cG]
 rw[e0];refine TX.cons (TX.d2 (n:=60) Z WJ ks (λ_(k:aS)=>k.v) (λj=>cm cs ls (af++pd l (ks.take j)) pl) (src:=.list (2+j)) (show 2+j<ls.length+10 from(aab hj)) (WJ.2.2 _) (λK=>?_) (λi b=>?_) (λi a h'=>?_) ?_);.rw[an7];show aH (cm cs ls (af++pd l (ks.take 0)) pl)[2+j]? _=_;rw[WS h];rfl
 .show aU ((cm cs ls (af++pd l (ks.take b)) pl)[2+j]?) (λm=>m.lu (λl=>some l[i]?) none) none=_;rw[WS h];exact congrArg some cQ
 .have hi:=cn.mp h';rw[an8];refine TX.ask (n:=60) Z ?_;rw[an9 hn];have hr:(af++pd l (ks.take i)).length<=899:=by rw[aX,WL,iT];have :=hi.1;exact aac hl this
  refine bz (aow (ax hr ai)) (bz (by rw[aX];exact o_ (ax (gf hr) ai)) ⟨WT.1,WT.2,?_⟩);rw[jf hi.1,hi.2];unfold pd;rw[cH,cS];rfl
 .rw[eV];exact TX.nil hk
theorem WU:d8 (o9 P q) (o9 P [])/\∀x v,(o9 P []).vars.lookup x=some v->(o9 P q).vars.lookup x=some v:=by unfold o9;exact⟨⟨rfl,rfl,rfl⟩,λx v h=>nO (K:=Str) (ex:=q) (vars:=[("flat",.ref 1),("whiles",.ref 9),("fors",.ref 10),("heads",.ref 11)]) h⟩
theorem aoA(Z:AO c P ae)(hR:Rows af ks)(hk:k (.ok .none) (cj cs af pl++[.list [],.list [],.list []])):TC c 131 none (.st (.ref 507)) [.ref 1] (cj cs af pl) k:=by
 refine TC.fn Z an_ an' ?_;rw[kY,aoa];refine TX.app ?_;refine TX.ask (n:=60) Z ?_;rw[aoc];obtain⟨ls,_,rfl⟩:=hR.ls;refine TX.cons (TX.d2 (n:=60) Z aob (ls.zip ks) (λj e=>.tup [.int j,.tup [.int e.1,e.2.v]]) (λ_=>nZ cs _ pl) (src:=.enum 3) (show 3<9 by decide) ak aod (λi b=>?_) (λi a h'=>?_) ?_);.show aU ((nZ cs _ pl)[3]?) (λm=>m.lu (λl=>some (l[i]?.map λv=>V.tup [.int i,v])) none) none=_;rw[show(nZ cs ((ls.zip ks).map λe=>V.tup [.int e.1,e.2.v]) pl)[3]?=some (.list ((ls.zip ks).map λe=>V.tup [.int e.1,e.2.v]))by unfold nZ cj;rfl];show some ((((ls.zip ks).map λe=>V.tup [.int e.1,e.2.v])[i]?).map _)=_;rw[cQ,uC];rfl
 .rw[aoe];refine TX.ask (n:=60) Z ?_;rw[aog];exact⟨WU.1,WU.2,rfl⟩
 .unfold nZ;exact TX.nil hk
section
variable{ls:gZ}{r j m:Nat}
theorem WV:d8 (g_ P ls q) (g_ P ls [])/\∀x v,(g_ P ls []).vars.lookup x=some v->(g_ P ls q).vars.lookup x=some v:=by unfold g_;exact⟨⟨rfl,rfl,rfl⟩,λx v h=>nO (K:=Str) (ex:=q) (vars:=[("parsed",.ref 1),("flat",.ref (ls.length+3))]) h⟩
theorem aoB(h:pl.length<=900):kL (.ref (ls.length+5)) (.int l) v (cm cs ls af pl)=some (cm cs ls af (dU l v pl)):=by show aU (cm cs ls af pl)[ls.length+2+3]? (λm=>(Qg (.int l) v m).map λm=>(cm cs ls af pl).set (ls.length+2+3) m) none=_;rw[WR];show((if pl.length<=bk then some (MO.bg (dU l v pl))else none).map _)=_;rw[if_pos (o_ (ax h ai))];unfold cm;show some ((c0 cs ls++qw (ls.length+2) af pl).set (ls.length+2+3) (MO.bg (dU l v pl)))=_;rw[N1 (h:=by rw[yv];exact cy _ _),yv,jb];rfl
theorem aoC pl:(aO pl).length=pl.length:=bw ..
theorem aoD(Z:AO c P ae)(hn:2<=ls.length/\ls.length<=8)(h:(d4 ls)[j]?=some (.list (kvs ks)))(hp:s.pl.length<=900)(hR:Rows s.rw s.ks)(h0:ks≠[])(gB:(s.ks++ks).length<=900)(hk:∀q,k (.ok .next) (g_ P ls q) (cm cs ls (jw s (l,ks)).rw (aO (jw s (l,ks)).pl))):bb c 170 none m (g_ P ls [("line",.int l),("statements",.ref (2+j))]) (cm cs ls s.rw (aO s.pl)) (rL P) k:=by
 have LX:s.rw.length+ks.length<=900:=by rw[hR.len,<-aX];exact gB
 have aoE:s.rw.length<=1000:=ax (cy _ _) (ax LX ai);have hlen:(jw s (l,ks)).rw.length=s.rw.length+ks.length:=(aX).trans (congrArg _ (WL _ _));rw[aok];refine TX.app ?_;refine TX.ask (n:=80) Z ?_;rw[aoo hn,aoB (by rw[aoC];exact hp),aox];refine bz (o_ aoE) (dH rfl ?_);refine TX.app ?_;refine TX.ask (n:=80) Z ?_;rw[aop];refine TC.up (aoz (ks:=ks) Z hn h LX ?_);show bb c 170 none m _ (cm cs ls (jw s (l,ks)).rw (aO (jw s (l,ks)).pl)) _ _;rw[aoq];refine TX.cons (TX.BA (n:=80) Z aor ?_);have lA:(aO (jw s (l,ks)).pl).lookup l=some (.int s.rw.length):=by rw[LI];exact congrArg (wH _) (WN l s.rw.length s.pl)
 rw[aot hn,lA];refine dH rfl (bz (o_ (by rw[hlen];exact ax LX ai)) ?_);have hc:cmp .Eq (.int s.rw.length) (.int (jw s (l,ks)).rw.length) (cm cs ls (jw s (l,ks)).rw (aO (jw s (l,ks)).pl))=some false:=by show some ((s.rw.length:Int)==((jw s (l,ks)).rw.length:Int))=_;have :ks.length≠0:=λq=>h0 (List.eq_nil_of_length_eq_zero q);rw[beq_false_of_ne (by rw[hlen];exact aad this)]
 rw[hc];show bb c 170 none m _ _ (mE (yu P)) _;rw[aos];exact TX.nil (TX.nil (hk _))
theorem aoF h:(d4 ls)[j]?=some (.list (kvs ls[j].2)):=by unfold d4;rw[cQ,cp h];rfl
theorem aoG(gB:(ls.flatMap (·.2)).length<=900) hj:((ls.take j).flatMap (·.2)++(ls[j]).2).length<=900:=by
 refine ax ?_ gB;conv=>rhs;rw[<-jB (j+1) ls,wt,aX]
 refine ax ?_ (cy _ _);rw[jf hj,wt,uv,HG,cG];exact br _
theorem aoH n:[0,n+3,n+2,n+4,n+5,n+6,n+7,n+8,n+9].Nodup:=by
 have h:∀a b:Nat,a≠b->n+a≠n+b:=λa b h q=>h (yN q);have hm:∀(a:Nat)(l:List Nat),a∉l->n+a∉l.map (n+·):=λa l h q=>by obtain⟨b,hb,e⟩:=dS.mp q;exact h (yN e▸hb)
 refine jg.mpr ⟨λq=>?_,?_⟩;.obtain⟨b,hb,e⟩:=dS.mp (show 0∈[3,2,4,5,6,7,8,9].map (n+·)from q);have aoI:b=0:=Nat.eq_zero_of_add_eq_zero_left e;subst aoI;exact absurd hb ai
 .show([3,2,4,5,6,7,8,9].map (n+·)).Nodup;exact zi.mpr ((show[3,2,4,5,6,7,8,9].Nodup by decide).imp λ{a b}h'=>h a b h')
theorem aoJ{pl:List (Int×Nat)}(bV:∀f,ba f af=af):Pk [0,ls.length+3,ls.length+2,ls.length+4,ls.length+5,ls.length+6,ls.length+7,ls.length+8,ls.length+9] (cm cs ls af (aO pl)) (cj cs af (aO pl)):=by
 have at':=λt=>WR (cs:=cs) (ls:=ls) (af:=af) (pl:=aO pl) t;have hd:=aoH ls.length;unfold cj;refine .eK (.cons ?_ (.cons ((at' 1).trans rfl) (.cons ((at' 0).trans rfl) (.cons ((at' 2).trans ?_) (.cons ((at' 3).trans ?_) (.cons ((at' 4).trans rfl) (.cons ((at' 5).trans rfl) (.cons ((at' 6).trans rfl) (.cons ((at' 7).trans rfl) .nil))))))))) hd;.unfold cm;rfl
 .show some (MO.list af)=some (MO.list (ba _ af));rw[bV]
 .show some (MO.bg (aO pl))=some (MO.bg (d9 _ (aO pl)));rw[tP]
theorem aoK:(cm cs ls af pl).all fM=true:=by
 unfold cm c0;rw[CW,C0,C0];have :(d4 ls).all fM=true:=by unfold d4;rw[C2];exact jV.mpr λ_ _=>rfl
 rw[this];rfl
theorem aoL(Z:AO c P ae)(hn:2<=ls.length/\ls.length<=8)(h0:∀e,e∈ls->e.2≠[])(gB:(ls.flatMap (·.2)).length<=900)(hk:k (.ok (.ref (ls.length+3))) (cm cs ls (dY ls).rw (aO (dY ls).pl)++[.list [],.list [],.list []])):TC c 171 none (.st (.ref 528)) [.ref 1] (c0 cs ls) k:=by
 have hR:=BE ls ⟨[],[],[]⟩ ⟨[],rfl,rfl⟩;refine TC.fn Z aoh (aoi _) ?_;rw[yv,aoj];refine TX.app ?_;refine TX.ask (n:=80) Z ?_;rw[aol hn];refine TX.cons (TX.d2 (n:=80) Z WK ls.zipIdx (λ_ e=>.tup [.int e.1.1,.ref (2+e.2)]) (λj=>cm cs ls (dY (ls.take j)).rw (aO (dY (ls.take j)).pl)) (src:=.list 1) (show 1<ls.length+2 from(qH _ _)) (WK.2.2 _) (aom hn) (λi b=>?_) (λi a h'=>?_) ?_);.show aU ((cm cs ls (dY (ls.take b)).rw (aO (dY (ls.take b)).pl))[1]?) (λm=>m.lu (λl=>some l[i]?) none) none=_;rw[show(cm cs ls (dY (ls.take b)).rw (aO (dY (ls.take b)).pl))[1]?=some (.list (fH 2 ls))by unfold cm;rfl];exact congrArg some cQ
 .have hi:=cn.mp h';have hj:i<ls.length:=by have :=hi.1;rwa[wu]at this
  have ea:a=(ls[i],i):=by rw[<-hi.2,List.getElem_zipIdx,eu]
  subst ea;rw[aon];refine aoD Z hn (aoF hj) (ax (WO _ _) (by rw[iT];show 0+_<=900;exact aae hn)) (BE _ ⟨[],[],[]⟩ ⟨[],rfl,rfl⟩) (h0 _ (oz hj)) (by rw[show(dY (ls.take i)).ks=_ from LW (ls.take i) ⟨[],[],[]⟩];exact aoG gB hj) λq=>⟨WV.1,WV.2,?_⟩;rw[jf hj];show _=cm cs ls (dY (ls.take i++[ls[i]])).rw (aO (dY (ls.take i++[ls[i]])).pl);unfold dY;rw[qL];rfl
 .rw[wu,eV];refine TX.app ?_;refine TX.ask (n:=80) Z ?_;rw[aou];refine TC.at' (n:=131) (N:=ls.length+10) (js:=[0,ls.length+3,ls.length+2,ls.length+4,ls.length+5,ls.length+6,ls.length+7,ls.length+8,ls.length+9]) (a7:=cj cs (dY ls).rw (aO (dY ls).pl)) (gx:=[.ref 1]) (cT:=.none) (v:=.none) (nw:=[.list [],.list [],.list []]) (nw':=[.list [],.list [],.list []]) (aoJ hR.bY) WQ rfl aoK rfl (λk h=>aoA Z hR h) ai rfl rfl ?_;refine TX.ask (n:=80) Z ?_;rw[aov];exact hk
end
noncomputable def dq(J:List Int)(t:Int)(L:Nat):Nat:=(Dc (if t+1<=J.length then J.getD t.toNat 0 else 7*(t+1)+wC (t+1) 3) L).toNat
@[elab_as_elim]theorem F6{C:Nat->Prop}(h:f<7)(a0:C 0)(a1:C 1)(a2:C 2)(a3:C 3)(a4:C 4)(a5:C 5)(a6:C 6):C f:=by
 rcases f with _|_|_|_|_|_|_|f;.exact a0
 .exact a1
 .exact a2
 .exact a3
 .exact a4
 .exact a5
 .exact a6
 .exact absurd h (GS (qH 7 f))
@[elab_as_elim]theorem WW{C:Nat->Prop}(h:f<5)(a0:C 0)(a1:C 1)(a2:C 2)(a3:C 3)(a4:C 4):C f:=F6 (C:=λf=>f<5->C f) (cw h ai) (λ_=>a0) (λ_=>a1) (λ_=>a2) (λ_=>a3) (λ_=>a4) (λh=>absurd h ai) (λh=>absurd h ai) h
@[elab_as_elim]theorem WX{C:Nat->Prop}(h:f<4)(a0:C 0)(a1:C 1)(a2:C 2)(a3:C 3):C f:=WW (C:=λf=>f<4->C f) (se h) (λ_=>a0) (λ_=>a1) (λ_=>a2) (λ_=>a3) (λh=>absurd h ai) h
@[elab_as_elim]theorem aoM{C:Nat->Prop}(h:f<2)(a0:C 0)(a1:C 1):C f:=WX (C:=λf=>f<2->C f) (cw h ai) (λ_=>a0) (λ_=>a1) (λh=>absurd h ai) (λh=>absurd h ai) h
theorem mH J t{L:Nat}(h:0<L):dq J t L<L:=by unfold dq;have h1:=Oz (if t+1<=J.length then J.getD t.toNat 0 else 7*(t+1)+wC (t+1) 3) (ux.mpr h);have h2:=Int.fmod_lt_of_pos (if t+1<=J.length then J.getD t.toNat 0 else 7*(t+1)+wC (t+1) 3) (ux.mpr h);omega
theorem aoN J t{L:Nat}(h:0<L):((dq J t L:Nat):Int)=Dc (if t+1<=J.length then J.getD t.toNat 0 else 7*(t+1)+wC (t+1) 3) L:=zr (Oz _ (ux.mpr h))
noncomputable def BF:Nat->Nat->Ex|0,n=>.t0 n|1,n=>.t1 n|2,_=>.mF|3,n=>.neg n|4,n=>.t4 n|_,n=>.t5 n
section
variable{k:KX}
noncomputable abbrev iP(cs:List ((Nat×Nat)×Str))(J:List V)(t:Int)(aA:List MO):List MO:=.tab cs::.aV [("own",.ref 2),("turn",.int t)]::.list J::aA
theorem aoO:(cb P ae).fn 668=some (bc P 668):=ak
abbrev F7(P:aL)(L:Int):Loc:=⟨cO P 668,[("case",.ref 1),("limit",.int L)],[],none⟩
theorem aoP:enter (bc P 668).ps (bc P 668).sc [] (bc P 668).nest [.ref 1,.int L] u=some (F7 P L,u):=ak
def WY(L:Int)(x:Int)(k:V->Prop):Prop:=gd (¬L=0) (k (.int (Dc x L)))
theorem aoQ:(aC c P ae 40).x (bO P 668) (F7 P L) (iP cs J t aA) k=gd (J.length<=bk) (if decide (t+1<=J.length)=true then(aH (df J (t+1-1)) λx=>ij x λx=>WY L x λv=>k (.ok (.ret v)) (F7 P L) (iP cs J (t+1) aA))else WY L (7*(t+1)+wC (t+1) 3) λv=>k (.ok (.ret v)) (F7 P L) (iP cs J (t+1) aA)):=ak
abbrev rM(P:aL)(q:bI):Loc:=⟨cO P 675,("case",.ref 1)::q,[],none⟩
theorem aoR:(cb P ae).fn 675=some (bc P 675):=ak
theorem aoS:enter (bc P 675).ps (bc P 675).sc [] (bc P 675).nest [.ref 1] u=some (rM P [],u):=ak
theorem aoT:bO P 675=(bO P 675).take 1++(bO P 675).drop 1:=ak
theorem aoU:(aC c P ae 60).x ((bO P 675).take 1) (rM P []) u k=TC c 124 none (.st (.ref 668)) [.ref 1,.int 6] u (bx (rM P []) k λv u=>TC c 124 none (.st (.ref 668)) [.ref 1,.int 4] u (bx (rM P []) k λw u=>k (.ok .next) (rM P [("form",v),("number",w)]) u)):=ak
def F8(c:aR)(P:aL)(ae:aj->Option (List V))(u:List MO)(k:KX)(p:Nat×Nat):Prop:=(aC c P ae 60).x ((bO P 675).drop 1) (rM P [("form",.int p.1),("number",.int p.2)]) u k
def WZ(P:aL)(u:List MO)(k:KX)(p:Nat×Nat):Prop:=k (.ok (.ret (BF p.1 p.2).v)) (rM P [("form",.int p.1),("number",.int p.2)]) u
noncomputable def BG:List (Nat×Nat):=[(0,0),(0,1),(0,2),(0,3),(1,0),(1,1),(1,2),(1,3),(2,0),(2,1),(2,2),(2,3),(3,0),(3,1),(3,2),(3,3),(5,0),(5,1),(5,2),(5,3)]
theorem aoV:fF (λp=>F8 c P ae u k p=WZ P u k p) BG:=by refine⟨?_,?_,?_,?_,?_,?_,?_,?_,?_,?_,?_,?_,?_,?_,?_,?_,?_,?_,?_,?_,trivial⟩<;>kernel_rfl
def W0:List V:=[vz 0,vz 1,vz 2,vz 3]
theorem aoW n:F8 c P ae u k (4,n)=aH (kK (.ref u.length) (.int n) (u++[.list W0])) λx=>k (.ok (.ret x)) (rM P [("form",.int 4),("number",.int n)]) (u++[.list W0]):=ak
abbrev yw(P:aL)(a n:Int)(q:bI):Loc:=⟨cO P 682,("case",.ref 1)::("at",.int a)::("many",.int n)::q,[],none⟩
theorem aoX:(cb P ae).fn 682=some (bc P 682):=ak
theorem aoY:enter (bc P 682).ps (bc P 682).sc [] (bc P 682).nest [.ref 1,.int a,.int n] u=some (yw P a n [],u):=ak
theorem aoZ:bO P 682=(bO P 682).take 1++(bO P 682).drop 1:=ak
theorem ao0:(aC c P ae 80).x ((bO P 682).take 1) (yw P a n []) u k=TC c 164 none (.st (.ref 668)) [.ref 1,.int 7] u (bx (yw P a n []) k λv u=>TC c 162 none (.st (.ref 668)) [.ref 1,.int (n-a)] u (bx (yw P a n []) k λw u=>ij w λy=>k (.ok .next) (yw P a n [("form",v),("goal",.int (a+1+y))]) u)):=ak
abbrev lL(P:aL)(a n:Int)(f:Nat)(g:Int):Loc:=yw P a n [("form",.int f),("goal",.int g)]
abbrev vD(c:aR)(P:aL)(ae:aj->Option (List V))(u:List MO)(a n g:Int)(k:KX)(f:Nat):Prop:=(aC c P ae 80).x ((bO P 682).drop 1) (lL P a n f g) u k
def F9(c:aR)(P:aL)(u:List MO)(a n g:Int)(k:KX)(f:Nat):Prop:=aH (kK (.ref u.length) (.int f) (u++[.list [.str "A",.str "B"]])) λx=>TC c 162 none (.st (.ref 675)) [.ref 1] (u++[.list [.str "A",.str "B"]]) (bx (lL P a n f g) k λv u=>k (.ok (.ret (.tup [.str "LET",.tup [.str "name",x],v]))) (lL P a n f g) u)
theorem ao1:vD c P ae u a n g k 0=F9 c P u a n g k 0:=ak
theorem ao2:vD c P ae u a n g k 1=F9 c P u a n g k 1:=ak
theorem ao3:vD c P ae u a n g k 2=TC c 158 none (.st (.ref 668)) [.ref 1,.int 2] u (bx (lL P a n 2 g) k λv u=>k (.ok (.ret (.tup [.str "IFNOT",.tup [.str "two",.str "-",qr 1,.tup [.str "whole",v]],.int g]))) (lL P a n 2 g) u):=ak
theorem ao4:vD c P ae u a n g k 3=TC c 158 none (.st (.ref 668)) [.ref 1,.int 5] u (bx (lL P a n 3 g) k λv u=>k (.ok (.ret (.tup [.str "IFNOT",.tup [.str "two",.str "<",.tup [.str "name",.str "N"],.tup [.str "whole",v]],.int g]))) (lL P a n 3 g) u):=ak
theorem ao5:vD c P ae u a n g k 4=k (.ok (.ret (aS.jmp g).v)) (lL P a n 4 g) u:=ak
theorem ao6:vD c P ae u a n g k 5=k (.ok (.ret (aS.rem false).v)) (lL P a n 5 g) u:=ak
theorem ao7:vD c P ae u a n g k 6=k (.ok (.ret aS.jv.v)) (lL P a n 6 g) u:=ak
end
def lM(n:Nat)(aA:List MO):Prop:=∀f:Nat->Nat,(∀i,i<n->f i=i)->aA.map (cL f)=aA
section
variable{n m:Nat}
theorem lM.le(h:lM n aA)(hm:n<=m):lM m aA:=λf hf=>h f λi hi=>hf i (cw hi hm)
theorem lM.app(h:lM n A)(h':lM n B):lM n (A++B):=λf hf=>by rw[cH,h f hf,h' f hf]
theorem LY(hm:A.length=m)(hA:lM m A)(hc:∀x i,Y.cells.lookup x=some i->i<m)(hv:∀f,bY f v=v)(h:k (.ok v) A):cM m (ik k) (.ok (.ret v)) Y (A++B):=by
 subst hm;have lt:∀i,i<A.length->pk (cA A.length) (A++B).length i=i:=λi hi=>by rw[oU (by rw[fe];exact hi),zh]
 have p:=Pk.pre (A:=A) (B:=B) (js:=cA A.length) (jL:=[]) (aD:=[]) (cG _).symm HF (hA _ lt) .nil;rw[cG]at p;exact By (Y:=Y) p rfl (by rw[lY (by rw[fe];exact br _)]) hc (hv _).symm h
theorem LZ(i:Nat):(aK J)[i]?=J[i]?.map V.int:=cQ
theorem vE{L:Nat}(Z:AO c P ae)(ho:J.length<=900)(ht:0<=t)(hL:0<L)(hk:k (.ok (.int (dq J t L))) (iP cs (aK J) (t+1) aA)):TC c 91 none (.st (.ref 668)) [.ref 1,.int L] (iP cs (aK J) t aA) k:=by
 refine TC.fn Z aoO aoP ?_;refine TX.ask (n:=40) Z ?_;rw[aoN J t hL]at hk;have hl:(aK J).length=J.length:=qp J;have W2:¬(L:Int)=0:=λe=>v5 hL (lg e);rw[aoQ,hl];refine bz (o_ (ax ho ai)) ?_;by_cases h:t+1<=J.length;.rw[if_pos h]at hk;rw[if_pos (decide_eq_true h),C5,nK ht (by rw[hl];exact h) (by rw[hl];exact ax ho ai)];have h2:t.toNat<J.length:=(C9 ht).mpr h;rw[LZ,cp h2];rw[jA,cp h2]at hk;exact bz W2 hk
 .rw[if_neg h]at hk;rw[if_neg λq=>h (of_decide_eq_true q)];exact bz W2 hk
def yx(J:List Int)(t:Int):Ex:=BF (dq J t 6) (dq J (t+1) 4)
theorem W3 f(e:Ex):bY f e.v=e.v:=by cases e with|t4 n=>rcases n with _|_|_|n<;>rfl|_=>rfl
theorem W4{J:List V}(ho:∀f,ba f J=J)(hJ:lM (3+aA.length) aA):lM (3+aA.length) (iP cs J t aA):=λf hf=>by rw[ef,ef,ef,hJ f hf];show _::MO.aV [(_,V.ref (f 2)),_]::MO.list (ba f J)::aA=_;rw[hf 2 (cw ai (cy 3 _)),ho];rfl
theorem ao8(hf:f<6)(hn:n<4)(h4:f≠4):(f,n)∈BG:=by
 have :∀(f:Fin 6)(n:Fin 4),f.val≠4->(f.val,n.val)∈BG:=by unfold BG;decide
 exact this ⟨f,hf⟩ ⟨n,hn⟩ h4
theorem BH{J:List V}:(iP cs J t aA).length=3+aA.length:=by exact dZ aA.length 3
theorem W5(h:l[n]?=some x)(hl:l.length<=900):kK (.ref u.length) (.int n) (u++[.list l])=some x:=by show aU ((u++[MO.list l])[u.length]?) (zX (.int n)) none=_;rw[eS (br _),pC,NX];have :=(cn.mp h).1;have e:∀j:Int,aU (some (MO.list l)) (zX (.int j)) none=df l j:=λ_=>rfl;rw[e,nK (dK n) (eX.mpr this) (ax hl ai),fU,h]
theorem ao9(Z:AO c P ae)(ho:J.length<=900)(ht:0<=t)(hJ:lM (3+aA.length) aA)(hk:k (.ok (yx J t).v) (iP cs (aK J) (t+1+1) aA)):TC c 131 none (.st (.ref 675)) [.ref 1] (iP cs (aK J) t aA) k:=by
 refine TC.fn Z aoR aoS ?_;rw[BH,aoT];refine TX.app ?_;refine TX.ask (n:=60) Z ?_;rw[aoU];refine TC.up (vE (L:=6) Z ho ht ai ?_);refine TC.up (vE (L:=4) Z ho (qO ht) ai ?_);have hf:=mH J t (L:=6) ai;have hn:=mH J (t+1) (L:=4) ai;unfold yx at hk;refine TX.pickK (cw ai (cy 3 _)) (TX.ask (n:=60) Z ?_);generalize dq J t 6=f at hf hk⊢;generalize dq J (t+1) 4=n at hn hk⊢;have sh:=W4 (cs:=cs) (t:=t+1+1) (λf=>rH f J) hJ;by_cases h4:f=4
 .subst h4;show F8 c P ae _ _ (4,n);rw[aoW];refine dH (a:=vz n) (W5 ?_ ai) ?_;.exact WX (C:=λn=>_=some (vz n)) hn rfl rfl rfl rfl
  .exact LY BH sh (λx i e=>aE e) (λf=>W3 f (.t4 n)) hk
 .refine du (@fF.get _ (λp=>F8 c P ae _ _ p=WZ P _ _ p) (f,n) BG aoV (ao8 hf hn h4)) ?_;have :=LY (k:=k) (B:=[]) (Y:=rM P [("form",.int f),("number",.int n)]) (BH (cs:=cs) (J:=aK J) (t:=t+1+1) (aA:=aA)) sh (λx i e=>aE e) (λg=>W3 g (BF f n)) hk;rw[cG]at this;exact this
def n5(J:List Int)(t:Int)(a n:Nat):aS×Int:=let g:Int:=(a:Int)+1+(dq J (t+1) (n-a):Nat);let t2:=t+1+1;match dq J t 7 with|0=>(.lt false (yx J t2),t2+1+1)|1=>(.lt true (yx J t2),t2+1+1)|2=>(.cU (.tb (dq J t2 2)) g,t2+1)|3=>(.cU (.tn (dq J t2 5)) g,t2+1)|4=>(.jmp g,t2)|5=>(.rem false,t2)|_=>(.jv,t2)
theorem W6{a n f:Nat}(Z:AO c P ae)(ho:J.length<=900)(ht:0<=t)(hJ:lM (3+aA.length) aA)(hx:([.str "A",.str "B"]:List V)[f]?=some (.str x))(hk:k (.ok (.ret (.tup [.str "LET",.tup [.str "name",.str x],(yx J t).v]))) (lL P a n f g) (iP cs (aK J) (t+1+1) aA++[.list [.str "A",.str "B"]])):F9 c P (iP cs (aK J) t aA) a n g k f:=by unfold F9;refine dH (W5 hx ai) ?_;have ao_:lM (3+(aA++[MO.list [.str "A",.str "B"]]).length) (aA++[MO.list [.str "A",.str "B"]]):=(hJ.le (by rw[aX];exact k_ (cy _ _) 3)).app λf hf=>rfl;exact TC.up (ao9 (aA:=aA++[.list [.str "A",.str "B"]]) Z ho ht ao_ hk)
theorem ao'(Z:AO c P ae)(ho:J.length<=900)(ht:0<=t)(W7:a<n)(hJ:lM (3+aA.length) aA)(hk:k (.ok (n5 J t a n).1.v) (iP cs (aK J) (n5 J t a n).2 aA)):TC c 171 none (.st (.ref 682)) [.ref 1,.int a,.int n] (iP cs (aK J) t aA) k:=by
 refine TC.fn Z aoX aoY ?_;rw[BH,aoZ];refine TX.app ?_;refine TX.ask (n:=80) Z ?_;rw[ao0,<-HO (fJ W7)];refine TC.up (vE (L:=7) Z ho ht ai ?_);refine TC.up (vE (L:=n-a) Z ho (qO ht) (pw W7) ?_);have hf:=mH J t (L:=7) ai;unfold n5 at hk;show bb c 170 none (3+aA.length) (lL P a n (dq J t 7) ((a:Int)+1+(dq J (t+1) (n-a):Nat))) _ _ _;generalize(a:Int)+1+(dq J (t+1) (n-a):Nat)=g at hk⊢;generalize dq J t 7=f at hf hk⊢;have F_:0<=t+1+1:=qO (qO ht);refine TX.pickK (cw ai (cy 3 _)) (TX.ask (n:=80) Z ?_);have fin:∀{k':aS}{t':Int}{B:List MO},k (.ok k'.v) (iP cs (aK J) t' aA)->cM (3+aA.length) (ik k) (.ok (.ret k'.v)) (lL P a n f g) (iP cs (aK J) t' aA++B):=λ{k' t' B}h=>LY BH (W4 (λf=>rH f J) hJ) (λx i e=>aE e) (λg=>F5 g k') h;have Lm:∀{k':aS}{t':Int},k (.ok k'.v) (iP cs (aK J) t' aA)->cM (3+aA.length) (ik k) (.ok (.ret k'.v)) (lL P a n f g) (iP cs (aK J) t' aA):=λ{k' t'}h=>(cG (iP cs (aK J) t' aA))▸fin (B:=[]) h;revert fin Lm hk;refine F6 hf (λhk fin _=>?_) (λhk fin _=>?_) (λhk _ fin=>?_) (λhk _ fin=>?_) (λhk _ fin=>?_) (λhk _ fin=>?_) λhk _ fin=>?_;.exact du ao1 (W6 (x:="A") Z ho F_ hJ rfl (fin (k':=.lt false _) hk))
 .exact du ao2 (W6 (x:="B") Z ho F_ hJ rfl (fin (k':=.lt true _) hk))
 .exact du ao3 (TC.up (vE (L:=2) Z ho F_ ai (fin (k':=.cU (.tb _) g) hk)))
 .exact du ao4 (TC.up (vE (L:=5) Z ho F_ ai (fin (k':=.cU (.tn _) g) hk)))
 .exact du ao5 (fin (k':=.jmp g) hk)
 .exact du ao6 (fin (k':=.rem false) hk)
 .exact du ao7 (fin (k':=.jv) hk)
end
noncomputable def Ga(s:bj)(i:List (Str×Nat)):MO:=if h:s.ctorIdx=0 then Dr (motive_2:=λ_=>MO) s h (λ_ ps bd _ _ _ sc _ _ _=>.jE ps (.stmts bd) sc i)else .tab []
noncomputable def vF(s:aq)(i:List (Str×Nat)):MO:=if h:s.ctorIdx=4 then zH (motive_1:=λ_=>MO) s h (λps b sc _=>.jE ps (.expr b) sc i)else .tab []
noncomputable def gC:Bool->Nat|false=>19|true=>20
noncomputable def yy(b:Bool)(p0 bW:List V):List MO:=match b with|false=>[.list bW]|true=>[.list p0,.list bW]
section
variable{os ss vs aB ask bW p0:List V}
@[irreducible]def jx(P:aL)(cs:List ((Nat×Nat)×Str))(os ss vs aB ask:List V)(row:Int)(pr:Nat)(tl:List MO):List MO:=.tab cs::.inst 343 2::.aV [("orders",.ref 3),("starts",.ref 4)]::.list os::.list ss::.list vs::.cell (some (.ref 7))::.list aB::Ga (sO P 689 1) []::vF (nM (lD (sO P 689 2)) 0) [("told",6)]::vF (nM (lD (sO P 689 2)) 1) [("told",6)]::.aV [("begin",.ref 9),("store",.ref 10),("put",.none),("do",.none),("led",.ref 8)]::.inst 601 11::.aV [("N",.int 2)]::.aV [("values",.ref 13),("bits",.int 16),("digits",.int 9),("asked",.ref 16)]::.inst 580 14::.list ask::.aV [("code",.ref 1),("values",.ref 5),("bits",.int 16),("digits",.int 9),("hooks",.ref 15),("ways",.ref 12),("pile",.ref pr),("row",.int row)]::.inst 657 17::tl
abbrev ee(P:aL)(cs:List ((Nat×Nat)×Str))(os ss vs aB ask:List V)(row:Int)(b:Bool)(p0 bW:List V):List MO:=jx P cs os ss vs aB ask row (gC b) (yy b p0 bW)
abbrev kZ(c:aR)(P:aL)(ae:aj->Option (List V))(o:Od)(p:Int)(u:List MO)(k:KT V):Prop:=(aC c P ae 60).c (.st (.ref 647)) [.ref 18,o.v,.int p] u k
theorem apa a:kZ c P ae (.row a) p (ee P cs os ss vs aB ask row b p0 bW) k=gd (aB.length<1000000) (k (.ok (.int (p+1))) (ee P cs os ss vs (aB++[.int a]) ask a b p0 bW)):=by cases b<;>kernel_rfl
theorem apb:kZ c P ae (.go q) p (ee P cs os ss vs aB ask row b p0 bW) k=k (.ok (.int q)) (ee P cs os ss vs aB ask row b p0 bW):=by cases b<;>kernel_rfl
noncomputable def Gb(x q p:Int):Int:=if x=0 then q else p+1
theorem apc:fF (λx=>kZ c P ae (.bf q) p (ee P cs os ss vs aB ask row b p0 [.int x]) k=k (.ok (.int (Gb x q p))) (ee P cs os ss vs aB ask row b p0 [])) [(0:Int),1,-1]:=by refine⟨?_,?_,?_,trivial⟩<;>cases b<;>kernel_rfl
theorem apd x v:kZ c P ae (.store x) p (ee P cs os ss vs aB ask row b p0 [v]) k=gd (aB.length<1000000) (k (.ok (.int (p+1))) (ee P cs os ss vs (aB++[.tup [.str x,v]]) ask row b p0 [])):=by cases b<;>kernel_rfl
theorem ape v:kZ c P ae (.push v) p (ee P cs os ss vs aB ask row b p0 bW) k=gd (bW.length<1000000) (k (.ok (.int (p+1))) (ee P cs os ss vs aB ask row b p0 (bW++[dw v]))):=by cases b<;>kernel_rfl
theorem apf i:kZ c P ae (.kept i) p (ee P cs os ss vs aB ask row b p0 bW) k=aH (df vs i) λx=>gd (bW.length<1000000) (k (.ok (.int (p+1))) (ee P cs os ss vs aB ask row b p0 (bW++[x]))):=by cases b<;>kernel_rfl
theorem apg:kZ c P ae .var p (ee P cs os ss vs aB ask row b p0 bW) k=gd (ask.length<1000000) (gd (bW.length<1000000) (k (.ok (.int (p+1))) (ee P cs os ss vs aB (ask++[.str "N"]) row b p0 (bW++[.int 2])))):=by cases b<;>kernel_rfl
theorem aph:fF (λa=>kZ c P ae .one p (ee P cs os ss vs aB ask row b p0 [.int a]) k=k (.ok (.int (p+1))) (ee P cs os ss vs aB ask row b p0 [.int (-a)])) [(0:Int),1,2,3]:=by refine⟨?_,?_,?_,?_,trivial⟩<;>cases b<;>kernel_rfl
abbrev BI(P:aL)(cs:List ((Nat×Nat)×Str))(os ss vs aB ask:List V)(row:Int)(b:Bool)(p0 old:List V)(aA:List MO):List MO:=jx P cs os ss vs aB ask row (gC b+2) (yy b p0 old++.list old::aA)
def L5(c:aR)(P:aL)(ae:aj->Option (List V))(cs:List ((Nat×Nat)×Str))(os ss vs aB ask p0:List V)(row p:Int)(b:Bool)(k:KT V)(t:Str×KV×KV×Option KV):Prop:=kZ c P ae (.two t.1) p (ee P cs os ss vs aB ask row b p0 [dw t.2.1,dw t.2.2.1]) k
def L6(P:aL)(cs:List ((Nat×Nat)×Str))(os ss vs aB ask p0:List V)(row p:Int)(b:Bool)(k:KT V)(t:Str×KV×KV×Option KV):Prop:=match t.2.2.2 with|some v=>k (.ok (.int (p+1))) (BI P cs os ss vs aB ask row b p0 [dw t.2.1,dw t.2.2.1] [.list [dw v],.list [.bool (i8 t.2.1),.bool (i8 t.2.2.1)]])|none=>k (.de (gC b+5)) (BI P cs os ss vs aB ask row b p0 [dw t.2.1,dw t.2.2.1] [.list [],.list [.bool (i8 t.2.1),.bool (i8 t.2.2.1)],.aV [("code",.str "TM"),("told",.str t.1)],.exc (gC b+4)])
theorem W8:fF (λt=>L5 c P ae cs os ss vs aB ask p0 row p b k t=L6 P cs os ss vs aB ask p0 row p b k t) fO:=by refine⟨?_,?_,?_,?_,?_,?_,?_,?_,?_,?_,?_,?_,?_,?_,?_,?_,?_,?_,trivial⟩<;>cases b<;>kernel_rfl
noncomputable def vG(n:Int):Int:=if 2<n then-1 else 0
theorem api:fF (λn=>kZ c P ae (.two "<") p (ee P cs os ss vs aB ask row b p0 [.int 2,.int n]) k=k (.ok (.int (p+1))) (BI P cs os ss vs aB ask row b p0 [.int 2,.int n] [.list [.int (vG n)],.list [.bool false,.bool false]])) [(0:Int),1,2,3,4]:=by refine⟨?_,?_,?_,?_,?_,trivial⟩<;>cases b<;>kernel_rfl
def Gd(s:bj):List Stmt:=if h:s.ctorIdx=17 then Stmt.Try.elim (motive_2:=λ_=>List bj) s h (λ_ hs _ _ _=>((D1 hs).getD ("",none,[])).2.2)else[]
abbrev fR(P:aL)(q:bI):Loc:=⟨cO P 640,("self",.ref 18)::("row",.int 0)::q,[],none⟩
abbrev W9 P:=(bP (sO P 640 1)).getD 0 (.Pass default)
theorem apj:(cb P ae).fn 640=some (bc P 640):=ak
theorem apk:enter (bc P 640).ps (bc P 640).sc [] (bc P 640).nest [.ref 18,.int 0] u=some (fR P [],u):=ak
theorem apl:bO P 640=(bO P 640).take 1++[sO P 640 1]:=ak
theorem apm:FW (sO P 640 1):=⟨Bm (sO P 640 1),by kernel_rfl⟩
theorem apn{k:KX}:(aC c P ae 80).x ((bO P 640).take 1) (fR P []) (ee P cs os ss vs aB ask row b p0 bW) k=gd (ss.length<=bk) (if decide ((0:Int)<ss.length)=true then aH (df ss 0) λx=>k (.ok .next) (fR P [("place",x)]) (ee P cs os ss vs aB ask row b p0 bW)else gd (os.length<=bk) (k (.ok .next) (fR P [("place",.int ((os.length:Int)-1))]) (ee P cs os ss vs aB ask row b p0 bW))):=by cases b<;>kernel_rfl
theorem apo{K:KT Bool}:(aC c P ae 80).t (qo (sO P 640 1)) (fR P [("place",.int p)]) (ee P cs os ss vs aB ask row b p0 bW) K=aH (df os p) λx=>aH (kK x (.int 0) (ee P cs os ss vs aB ask row b p0 bW)) λw=>aH (cmp .NotEq w (.str "END") (ee P cs os ss vs aB ask row b p0 bW)) λd=>K (.ok d) (ee P cs os ss vs aB ask row b p0 bW):=by cases b<;>kernel_rfl
def L7(k:KX):KX:=Fb (rA k λfl Y u=>match fl with|.next=>k (.ok .next) Y u|.ret v=>k (.ok (.ret v)) Y u)
def W_(c:aR)(P:aL)(ae:aj->Option (List V))(p:Int)(k:KX):KT V:=λr u=>match r with|.ok v=>k (.ok .next) (fR P [("place",v)]) u|.de i=>(x5 c (cb P ae) 79 (some i)).x (Gd (W9 P)) (fR P [("place",.int p),("wrong",.ref i)]) u (L7 k)
theorem apq{k:KX}:(aC c P ae 80).x (bP (sO P 640 1)) (fR P [("place",.int p)]) (ee P cs os ss vs aB ask row b p0 bW) k=aH (df os p) λo=>TC c 164 none (.st (.ref 647)) [.ref 18,o,.int p] (ee P cs os ss vs aB ask row b p0 bW) (W_ c P ae p k):=by cases b<;>kernel_rfl
theorem apr{k:KX}:(x5 c (cb P ae) 79 (some (gC b+5))).x (Gd (W9 P)) (fR P [("place",.int p),("wrong",.ref (gC b+5))]) (BI P cs os ss vs aB ask row b p0 old [.list l1,.list l2,.aV [("code",.str "TM"),("told",.str op)],.exc (gC b+4)]) k=k (.de (gC b+5)) (fR P [("place",.int p),("wrong",.ref (gC b+5)),("led",.ref 8)]) (jx P cs os ss vs aB ask row (gC b+6) (yy b p0 old++[.list old,.list l1,.list l2,.aV [("code",.str "TM"),("told",.str op)],.exc (gC b+4),.list []])):=by cases b<;>kernel_rfl
end
inductive Tl where|row(a:Int)|st(x:Str)(v:KV)
def Tl.v:Tl->V|.row a=>.int a|.st x v=>.tup [.str x,dw v]
def gD(l:List Tl):List V:=l.map Tl.v
theorem BJ f l:ba f (gD l)=gD l:=by rw[nP];unfold gD;rw[jh];refine kE λo _=>?_;cases o with|row a=>rfl|st x v=>exact congrArg (λq=>V.tup [V.str x,q]) (yd f v)
theorem W' l:(gD l).length=l.length:=bw ..
theorem Xa l t:gD (l++[t])=gD l++[t.v]:=cH ..
structure MS where
 aB:List Tl
 ask:Nat
 bW:List KV
 row:Int
 place:Int
inductive iw(vals:List KV)(s:MS):Od->MS->Prop|row(a:Int):iw vals s (.row a) {s with aB:=s.aB++[.row a],row:=a,place:=s.place+1}|go(q:Int):iw vals s (.go q) {s with place:=q}|bf(q x:Int)(hp:s.bW=[.i x])(hx:x∈[(0:Int),1,-1]):iw vals s (.bf q) {s with bW:=[],place:=Gb x q s.place}|store(x:Str)(v:KV)(hp:s.bW=[v]):iw vals s (.store x) {s with aB:=s.aB++[.st x v],bW:=[],place:=s.place+1}|push(v:KV):iw vals s (.push v) {s with bW:=s.bW++[v],place:=s.place+1}|kept(i:Nat)(v:KV)(hv:vals[i]?=some v):iw vals s (.kept i) {s with bW:=s.bW++[v],place:=s.place+1}|var:iw vals s .var {s with ask:=s.ask+1,bW:=s.bW++[.i 2],place:=s.place+1}|one(a:Int)(hp:s.bW=[.i a])(ha:a∈[(0:Int),1,2,3]):iw vals s .one {s with bW:=[.i (-a)],place:=s.place+1}|two(op:Str)(a b v:KV)(hp:s.bW=[a,b])(hm:(op,a,b,some v)∈fO):iw vals s (.two op) {s with bW:=[v],place:=s.place+1}|less(n:Int)(hp:s.bW=[.i 2,.i n])(hn:n∈[(0:Int),1,2,3,4]):iw vals s (.two "<") {s with bW:=[.i (vG n)],place:=s.place+1}
inductive mI(vals:List KV)(os:List Od):Nat->MS->Bool->MS->Prop|fin(s:MS)(h0:0<=s.place)(h:os[s.place.toNat]?=some .fin):mI vals os 0 s true s|err(s:MS)(op:Str)(a b:KV)(h0:0<=s.place)(h:os[s.place.toNat]?=some (.two op))(hp:s.bW=[a,b])(hm:(op,a,b,none)∈fO):mI vals os 0 s false s|step(n:Nat)(s s' e:MS)(r:Bool)(o:Od)(h0:0<=s.place)(h:os[s.place.toNat]?=some o)(hs:iw vals s o s')(t:mI vals os n s' r e):mI vals os (n+1) s r e
theorem iw.len(h:iw vals s o s'):s'.aB.length<=s.aB.length+1/\s'.bW.length<=s.bW.length+1/\s'.ask<=s.ask+1:=by have z:∀(v:KV)(n:Nat),[v].length<=n+1:=λ_ n=>qH 1 n;have a1:∀{α:Type}(l:List α)(v:α),(l++[v]).length<=l.length+1:=λl v=>bo aX;cases h with|row|store=>exact⟨a1 _ _,by first|exact dI _|exact dC _,dI _⟩|go=>exact⟨dI _,dI _,dI _⟩|bf=>exact⟨dI _,dC _,dI _⟩|push|kept=>exact⟨dI _,a1 _ _,dI _⟩|var=>exact⟨dI _,a1 _ _,br _⟩|one|two|less=>exact⟨dI _,z _ _,dI _⟩
abbrev lN(n:Nat):List V:=wz n (.str "N")
theorem Xb f n:ba f (lN n)=lN n:=by rw[nP,List.map_replicate];rfl
section
variable{os:List Od}
abbrev sM(P:aL)(cs:List ((Nat×Nat)×Str))(os:List Od)(ss:List V)(vals:List KV)(s:MS)(b:Bool)(p0:List V):List MO:=ee P cs (ao os) ss (bL vals) (gD s.aB) (lN s.ask) s.row b p0 (bL s.bW)
theorem aps(Z:AO c P ae)(h:kZ c P ae o p u k):TC c 164 none (.st (.ref 647)) [.ref 18,o.v,.int p] u k:=TC.up ((aC.sn Z 60).c _ _ _ _ h)
theorem apt f:cL f (Ga (sO P 689 1) [])=Ga (sO P 689 1) []:=ak
theorem Xc(h:f 6=6) e:cL f (vF e [("told",6)])=vF e [("told",6)]:=by
 unfold vF;by_cases q:e.ctorIdx=4;.rw[dif_pos q];exact zH (motive_1:=λe=>∀q,cL f (zH (motive_1:=λ_=>MO) e q _)=zH (motive_1:=λ_=>MO) e q _) e q (λ_ _ _ _ _=>by show MO.jE _ _ _ [(_,f 6)]=_;rw[h]) q
 .rw[dif_neg q];rfl
theorem iQ{u:List MO}{j:Nat}(hl:ba f l=l)(h:u[j]?=some (.list l)):u[j]?=some (cL f (.list l)):=h.trans (congrArg (λq=>some (MO.list q)) hl.symm)
theorem Xd{cs':List ((Nat×Nat)×Str)}{aB ask:List V}(jO:∀f,ba f ss=ss)(ht:∀f,ba f aB=aB)(ha:∀f,ba f ask=ask)(hf:∀i,i<19->f i=i)(hp:f E5=pr)(t:iM f (jx P cs (ao os) ss (bL vals) aB ask row pr tl) js apu):iM f (jx P cs (ao os) ss (bL vals) aB ask row pr tl) ([0,1,2,3,4,5,6,7,8,9,10,11,12,13,14,15,16,17,18]++js) (jx P cs (ao os) ss (bL vals) aB ask row E5 apu):=by
 unfold jx at t⊢;have d:∀a b:MO,a=b->some a=some b:=λa b h=>congrArg some h;refine .cons rfl (.cons ?_ (.cons ?_ (.cons (e_ rfl) (.cons (iQ (jO _) rfl) (.cons (iQ (qq _ _) rfl) (.cons ?_ (.cons (iQ (ht _) rfl) (.cons ?_ (.cons ?_ (.cons ?_ (.cons ?_ (.cons ?_ (.cons rfl (.cons ?_ (.cons ?_ (.cons (iQ (ha _) rfl) (.cons ?_ (.cons ?_ t))))))))))))))))));.show _=some (MO.inst 343 (f 2));rw[hf 2 ai];rfl
 .show _=some (MO.aV [(_,V.ref (f 3)),(_,V.ref (f 4))]);rw[hf 3 ai,hf 4 ai];rfl
 .show _=some (MO.cell (some (V.ref (f 7))));rw[hf 7 ai];rfl
 .rw[apt];rfl
 .rw[Xc (hf 6 ai)];rfl
 .rw[Xc (hf 6 ai)];rfl
 .show _=some (MO.aV [(_,V.ref (f 9)),(_,V.ref (f 10)),_,_,(_,V.ref (f 8))]);rw[hf 9 ai,hf 10 ai,hf 8 ai];rfl
 .show _=some (MO.inst 601 (f 11));rw[hf 11 ai];rfl
 .show _=some (MO.aV [(_,V.ref (f 13)),_,_,(_,V.ref (f 16))]);rw[hf 13 ai,hf 16 ai];rfl
 .show _=some (MO.inst 580 (f 14));rw[hf 14 ai];rfl
 .show _=some (MO.aV [(_,V.ref (f 1)),(_,V.ref (f 5)),_,_,(_,V.ref (f 15)),(_,V.ref (f 12)),(_,V.ref (f E5)),_]);rw[hf 1 ai,hf 5 ai,hf 15 ai,hf 12 ai,hp];rfl
 .show _=some (MO.inst 657 (f 17));rw[hf 17 ai];rfl
theorem vH{aB ask:List V}{vs os:List V}:(jx P cs os ss vs aB ask row pr tl).length=19+tl.length:=by unfold jx;show tl.length+1+1+1+1+1+1+1+1+1+1+1+1+1+1+1+1+1+1+1=_;omega
theorem Ge{aB ask:List V}{vs os:List V} i j(h:i=19+j)(hx:tl[j]?=some x):(jx P cs os ss vs aB ask row pr tl)[i]?=some x:=by subst h;unfold jx;rw[dZ];exact hx
theorem Xe{N:Nat}(hf:f=pk ([0,1,2,3,4,5,6,7,8,9,10,11,12,13,14,15,16,17,18]++js) N):∀i,i<19->f i=i:=λi hi=>by have tQ:i<([0,1,2,3,4,5,6,7,8,9,10,11,12,13,14,15,16,17,18]++js).length:=cw hi (by rw[aX];exact cy 19 _);rw[hf,oU tQ];have :=vk (m:=19) (js:=[0,1,2,3,4,5,6,7,8,9,10,11,12,13,14,15,16,17,18]++js) rfl i hi;rw[cp tQ]at this;exact aJ this
noncomputable def apv(b:Bool)(p0 old:List V):List V:=match b with|false=>old|true=>p0
theorem Xf(jO:∀f,ba f ss=ss)(h0:∀f,ba f p0=p0)(ho:∀f,ba f old=old)(hv:∀f,bY f v=v){aB ask:List V}{row:Int}(ht:∀f,ba f aB=aB)(ha:∀f,ba f ask=ask)(hk:kk (.ok .next) (fR P [("place",.int p)]) (ee P cs (ao os) ss (bL vals) aB ask row true (apv b p0 old) [v])):cM 20 kk (.ok .next) (fR P [("place",.int p)]) (BI P cs (ao os) ss (bL vals) aB ask row b p0 old [.list [v],.list l2]):=by
 have Xg:∀f:Nat->Nat,ba f [v]=[v]:=λf=>by show[bY f v]=_;rw[hv]
 cases b with|false=>refine yp (N:=23) (js:=[0,1,2,3,4,5,6,7,8,9,10,11,12,13,14,15,16,17,18]++[19,21]) (.eK ?_ ai) vH rfl (λx i e=>aE e) [] [("self",.ref 18),("row",.int 0),("place",.int p)] rfl hk;rw[vH];exact Xd jO ht ha (Xe rfl) rfl (.cons (iQ (ho _) (Ge 19 0 rfl rfl)) (.cons (iQ (Xg _) (Ge 21 2 rfl rfl)) .nil)) (cs':=cs)|true=>refine yp (N:=24) (js:=[0,1,2,3,4,5,6,7,8,9,10,11,12,13,14,15,16,17,18]++[19,22]) (.eK ?_ ai) vH rfl (λx i e=>aE e) [] [("self",.ref 18),("row",.int 0),("place",.int p)] rfl hk;rw[vH];exact Xd jO ht ha (Xe rfl) rfl (.cons (iQ (h0 _) (Ge 19 0 rfl rfl)) (.cons (iQ (Xg _) (Ge 22 3 rfl rfl)) .nil)) (cs':=cs)
theorem pe(Z:AO c P ae)(hp:os[s.place.toNat]?=some o)(h0:0<=s.place)(ho:os.length<=900)(h:kZ c P ae o s.place (sM P cs os ss vals s b p0) (W_ c P ae s.place k)):bb c 170 none m (fR P [("place",.int s.place)]) (sM P cs os ss vals s b p0) (bP (sO P 640 1)) k:=by refine TX.ask (n:=80) Z ?_;rw[apq,vn h0 hp (ax ho ai)];exact dH rfl (aps Z h)
theorem Gf a b:∀f,ba f [dw a,dw b]=[dw a,dw b]:=λf=>by show[bY f (dw a),bY f (dw b)]=_;rw[yd,yd]
def apw(c:aR)(P:aL)(cs:List ((Nat×Nat)×Str))(os:List Od)(ss p0:List V)(vals:List KV)(b:Bool)(kk:KX)(s:MS)(o:Od)(s':MS):Prop:=os[s.place.toNat]?=some o->(∀b' rN,(∀f,ba f rN=rN)->kk (.ok .next) (fR P [("place",.int s'.place)]) (sM P cs os ss vals s' b' rN))->bb c 170 none 20 (fR P [("place",.int s.place)]) (sM P cs os ss vals s b p0) (bP (sO P 640 1)) kk
theorem L8(h:n<=9000):n<1000000:=bD h ai
theorem apx{i:Nat}(hv:vals.length<=900)(e:vals[i]?=some v):df (bL vals) (i:Int)=some (dw v):=by have dz:=(cn.mp e).1;rw[nK (dK i) (by rw[o7];exact eX.mpr dz) (by rw[o7];exact ax hv ai),fU];unfold bL;rw[cQ,e];rfl
theorem apy(Z:AO c P ae)(jO:∀f,ba f ss=ss)(kj:∀f,ba f p0=p0)(hv:vals.length<=900)(ho:os.length<=900)(h0:0<=s.place)(hp:os[s.place.toNat]?=some o)(h1:s.aB.length<=9000)(h2:s.bW.length<=9000)(h3:s.ask<=9000)(h:iw vals s o s')(hk:∀b' rN,(∀f,ba f rN=rN)->kk (.ok .next) (fR P [("place",.int s'.place)]) (sM P cs os ss vals s' b' rN)):bb c 170 none 20 (fR P [("place",.int s.place)]) (sM P cs os ss vals s b p0) (bP (sO P 640 1)) kk:=by
 obtain⟨aB,ask,bW,row,place⟩:=s;replace h1:(gD aB).length<1000000:=by rw[W'];exact L8 h1
 replace h2:(bL bW).length<1000000:=by rw[o7];exact L8 h2
 replace h3:(lN ask).length<1000000:=by rw[N2];exact L8 h3
 refine iw.casesOn (motive:=λo s' _=>apw c P cs os ss p0 vals b kk ⟨aB,ask,bW,row,place⟩ o s') h (λa hp hk=>?_) (λq hp hk=>pe Z hp h0 ho (du apb (hk b p0 kj))) (λq x e hx hp hk=>?_) (λx v e hp hk=>?_) (λv hp hk=>?_) (λi v e hp hk=>?_) (λhp hk=>?_) (λa e ha hp hk=>?_) (λop x y v e hm hp hk=>?_) (λn e hn hp hk=>?_) hp hk;.have dX:=hk b p0 kj;unfold sM at dX;dsimp only at dX;rw[Xa]at dX;exact pe Z hp h0 ho (du (apa a) (bz h1 dX))
 .clear h2;subst e;exact pe Z hp h0 ho (du (@fF.get _ (λx=>kZ c P ae (.bf q) place (ee P cs (ao os) ss (bL vals) (gD aB) (lN ask) row b p0 [.int x]) _=_) x _ apc hx) (hk b p0 kj))
 .clear h2;subst e;have dX:=hk b p0 kj;unfold sM at dX;dsimp only at dX;rw[Xa]at dX;exact pe Z hp h0 ho (du (apd x (dw v)) (bz h1 dX))
 .have dX:=hk b p0 kj;unfold sM at dX;dsimp only at dX;rw[BC]at dX;exact pe Z hp h0 ho (du (ape v) (bz h2 dX))
 .have dX:=hk b p0 kj;unfold sM at dX;dsimp only at dX;rw[BC]at dX;refine pe Z hp h0 ho (du (apf i) ?_);rw[apx hv e];exact dH rfl (bz h2 dX)
 .have dX:=hk b p0 kj;unfold sM at dX;dsimp only at dX;rw[BC]at dX;refine pe Z hp h0 ho (du apg (bz h3 (bz h2 ?_)));rw[show lN ask++[V.str "N"]=lN (ask+1)from(List.replicate_succ' ..).symm];exact dX
 .clear h2;subst e;exact pe Z hp h0 ho (du (@fF.get _ (λa=>kZ c P ae .one place (ee P cs (ao os) ss (bL vals) (gD aB) (lN ask) row b p0 [.int a]) _=_) a _ aph ha) (hk b p0 kj))
 .clear h2;subst e;refine TX.pickK ai (pe Z hp h0 ho (du (@fF.get _ (λt=>L5 c P ae cs (ao os) ss (bL vals) (gD aB) (lN ask) p0 row place b _ t=L6 P cs (ao os) ss (bL vals) (gD aB) (lN ask) p0 row place b _ t) (op,x,y,some v) fO W8 hm) ?_));exact Xf jO kj (Gf x y) (λf=>yd f v) (λf=>BJ f aB) (λf=>Xb f ask) (hk true _ (by cases b with|false=>exact Gf x y|true=>exact kj))
 .clear h2;subst e;refine TX.pickK ai (pe Z hp h0 ho (du (@fF.get _ (λn=>kZ c P ae (.two "<") place (ee P cs (ao os) ss (bL vals) (gD aB) (lN ask) row b p0 [.int 2,.int n]) _=_) n _ api hn) ?_));exact Xf jO kj (Gf (.i 2) (.i n)) (λf=>rfl) (λf=>BJ f aB) (λf=>Xb f ask) (hk true _ (by cases b with|false=>exact Gf (.i 2) (.i n)|true=>exact kj))
end
section
variable{os:List Od}
abbrev apz(b:Bool)(p0 old l2:List V)(op:Str):List MO:=yy b p0 old++[.list old,.list [],.list l2,.aV [("code",.str "TM"),("told",.str op)],.exc (gC b+4),.list []]
abbrev Gg(P:aL)(cs:List ((Nat×Nat)×Str))(os:List Od)(ss:List V)(vals:List KV)(s:MS)(b:Bool)(p0 old l2:List V)(op:Str):List MO:=jx P cs (ao os) ss (bL vals) (gD s.aB) (lN s.ask) s.row (gC b+6) (apz b p0 old l2 op)
theorem apA(Z:AO c P ae)(h0:0<=s.place)(hp:os[s.place.toNat]?=some (.two op))(ho:os.length<=900)(e:s.bW=[x,y])(hm:(op,x,y,none)∈fO)(hk:∀old l2,kk (.de (gC b+5)) ⟨cO P 640,[],[],none⟩ (Gg P cs os ss vals s b p0 old l2 op)):bb c 170 none m (fR P [("place",.int s.place)]) (sM P cs os ss vals s b p0) (bP (sO P 640 1)) kk:=by obtain⟨aB,ask,bW,row,place⟩:=s;cases e;refine pe Z hp h0 ho (du (@fF.get _ (λt=>L5 c P ae cs (ao os) ss (bL vals) (gD aB) (lN ask) p0 row place b _ t=L6 P cs (ao os) ss (bL vals) (gD aB) (lN ask) p0 row place b _ t) (op,x,y,none) fO W8 hm) ?_);exact du (apr (b:=b) (k:=L7 kk)) (hk _ _)
noncomputable def L9:Od->Bool|.fin=>true|_=>false
theorem L_{K:KT Bool}(h0:0<=s.place)(hp:os[s.place.toNat]?=some o)(ho:os.length<=900)(h:K (.ok (!L9 o)) (sM P cs os ss vals s b p0)):(aC c P ae 80).t (qo (sO P 640 1)) (fR P [("place",.int s.place)]) (sM P cs os ss vals s b p0) K:=by rw[apo,vn h0 hp (ax ho ai)];cases o<;>exact h
inductive yz(P:aL)(cs:List ((Nat×Nat)×Str))(os:List Od)(ss:List V)(vals:List KV)(r:Bool)(e:MS):Nat->Loc->List MO->Prop|mk(n:Nat)(s:MS)(b:Bool)(p0:List V)(hr:mI vals os n s r e)(kj:∀f,ba f p0=p0)(h1:s.aB.length+n<=9000)(h2:s.bW.length+n<=9000)(h3:s.ask+n<=9000):yz P cs os ss vals r e n (fR P [("place",.int s.place)]) (sM P cs os ss vals s b p0)
theorem Ma{b n:Nat}(q:b+(n+1)<=9000):b<=9000:=ax (cy _ _) q
theorem Mb{a b n:Nat}(h:a<=b+1)(q:b+(n+1)<=9000):a+n<=9000:=ax (mT h n) (lT b 1 n▸q)
def apB(c:aR)(P:aL)(ae:aj->Option (List V))(cs:List ((Nat×Nat)×Str))(os:List Od)(ss p0:List V)(vals:List KV)(b:Bool)(k:KX)(n:Nat)(s:MS)(r:Bool)(e:MS):Prop:=s.aB.length+n<=9000->s.bW.length+n<=9000->s.ask+n<=9000->(r=true->∀b p0,(∀f,ba f p0=p0)->k (.ok .next) (fR P [("place",.int e.place)]) (sM P cs os ss vals e b p0))->(r=false->∀b p0 old l2 op,k (.de (gC b+5)) ⟨cO P 640,[],[],none⟩ (Gg P cs os ss vals e b p0 old l2 op))->(aC c P ae 80).t (qo (sO P 640 1)) (fR P [("place",.int s.place)]) (sM P cs os ss vals s b p0) (bx (fR P [("place",.int s.place)]) k λq u=>if q then bb c 170 none 20 (fR P [("place",.int s.place)]) u (bP (sO P 640 1)) (iJ k λY u=>∃f',f'<n/\yz P cs os ss vals r e f' Y u)else k (.ok .next) (fR P [("place",.int s.place)]) u)
theorem iw.ng(hs:iw vals s o s'):L9 o=false:=iw.casesOn (motive:=λo _ _=>L9 o=false) hs (λ_=>rfl) (λ_=>rfl) (λ_ _ _ _=>rfl) (λ_ _ _=>rfl) (λ_=>rfl) (λ_ _ _=>rfl) rfl (λ_ _ _=>rfl) (λ_ _ _ _ _ _=>rfl) λ_ _ _=>rfl
theorem apC(Z:AO c P ae)(jO:∀f,ba f ss=ss)(hv:vals.length<=900)(ho:os.length<=900)(hj:yz P cs os ss vals r e f Y u)(qe:r=true->∀b p0,(∀f,ba f p0=p0)->k (.ok .next) (fR P [("place",.int e.place)]) (sM P cs os ss vals e b p0))(yA:r=false->∀b p0 old l2 op,k (.de (gC b+5)) ⟨cO P 640,[],[],none⟩ (Gg P cs os ss vals e b p0 old l2 op)):(aC c P ae 80).t (qo (sO P 640 1)) Y u (bx Y k λq u=>if q then bb c 170 none 20 Y u (bP (sO P 640 1)) (iJ k λY u=>∃f',f'<f/\yz P cs os ss vals r e f' Y u)else k (.ok .next) Y u):=by refine yz.casesOn hj λs b p0 hr kj h1 h2 h3=>?_;refine mI.casesOn (motive:=λn s r e _=>apB c P ae cs os ss p0 vals b k n s r e) hr (λs h0 h _ _ _ qe _=>L_ h0 h ho (qe rfl b p0 kj)) (λs op x y h0 h hp hm _ _ _ _ yA=>L_ h0 h ho (apA (m:=20) Z h0 h ho hp hm λold l2=>yA rfl b p0 old l2 op)) (λn s s' e r o h0 h hs t h1 h2 h3 qe yA=>L_ h0 h ho ?_) h1 h2 h3 qe yA;rw[hs.ng];exact apy Z jO kj hv ho h0 h (Ma h1) (Ma h2) (Ma h3) hs λb' rN uW=>⟨n,eR n,.mk n s' b' rN t uW (Mb hs.len.1 h1) (Mb hs.len.2.1 h2) (Mb hs.len.2.2 h3)⟩
theorem Mc(h:a<=1000)(q:n<=5000):a+n<=9000:=ax (ou h q) ai
theorem apD(Z:AO c P ae)(jO:∀f,ba f ss=ss)(hv:vals.length<=900)(ho:os.length<=900)(hl:ss.length<=900)(hs:ss[0]?=some (.int s.place))(hb:n<=5000)(h1:s.aB.length<=1000)(h2:s.bW.length<=1000)(h3:s.ask<=1000)(hr:mI vals os n s r e)(qe:r=true->∀b p0,(∀f,ba f p0=p0)->k (.ok .none) (sM P cs os ss vals e b p0))(yA:r=false->∀b p0 old l2 op,k (.de (gC b+5)) (Gg P cs os ss vals e b p0 old l2 op)):TC c 171 none (.st (.ref 640)) [.ref 18,.int 0] (sM P cs os ss vals s false []) k:=by
 refine TC.fn Z apj apk ?_;rw[vH,apl];refine TX.app ?_;refine TX.ask (n:=80) Z ?_;have dz:=(cn.mp hs).1;rw[apn,nK (C_ 0) (ux.mpr dz) (ax hl ai)];refine bz (o_ (by omega)) ?_;rw[if_pos (decide_eq_true (ux.mpr dz))];refine dH hs ?_;obtain⟨pos,hw⟩:=apm (P:=P);refine TX.cons ?_;rw[hw];refine TX.AY (TX.Br Z (n:=80)) (yz P cs os ss vals r e) (f:=n) (.mk n s false [] hr (λ_=>rfl) (Mc h1 hb) (Mc h2 hb) (Mc h3 hb)) λf Y u hj=>apC (k:=rA _ _) Z jO hv ho hj (λh b p0 hp=>?_) λh b p0 old l2 op=>?_;.exact TX.nil (qe h b p0 hp)
 .exact yA h b p0 old l2 op
end
noncomputable def apE(s:bj):Nat×Nat:=if h:s.ctorIdx=0 then Dr (motive_2:=λ_=>Nat×Nat) s h (λ_ _ _ _ _ _ _ _ _ p=>(p.line,p.col))else(0,0)
noncomputable def Xh(s:aq):Nat×Nat:=if h:s.ctorIdx=4 then zH (motive_1:=λ_=>Nat×Nat) s h (λ_ _ _ p=>(p.line,p.col))else(0,0)
def mJ(P:aL):List ((Nat×Nat)×Str):=[(apE (sO P 689 1),"_law_gone.<locals>.led"),(Xh (nM (lD (sO P 689 2)) 0),"_law_gone.<locals>.<lambda>"),(Xh (nM (lD (sO P 689 2)) 1),"_law_gone.<locals>.<lambda>")]
section
variable{os ss vs aB ask bW p0:List V}{k:KX}
noncomputable abbrev n6(cs:List ((Nat×Nat)×Str))(os ss vs:List V):List MO:=[.tab cs,.inst 343 2,.aV [("orders",.ref 3),("starts",.ref 4)],.list os,.list ss,.list vs]
abbrev k4(P:aL)(q:bI):Loc:=⟨cO P 689,q,[("told",6)],some "_law_gone.<locals>."⟩
noncomputable abbrev tX(q:bI):bI:=("code",.ref 1)::("values",.ref 5)::("led",.ref 8)::("ways",.ref 12)::q
@[irreducible]def Gh(P:aL)(os ss vs:List V):List MO:=[.tab (mJ P),.inst 343 2,.aV [("orders",.ref 3),("starts",.ref 4)],.list os,.list ss,.list vs,.cell (some (.ref 7)),.list [],Ga (sO P 689 1) [],vF (nM (lD (sO P 689 2)) 0) [("told",6)],vF (nM (lD (sO P 689 2)) 1) [("told",6)],.aV [("begin",.ref 9),("store",.ref 10),("put",.none),("do",.none),("led",.ref 8)],.inst 601 11]
theorem apF:(cb P ae).fn 689=some (bc P 689):=ak
theorem apG:enter (bc P 689).ps (bc P 689).sc [] (bc P 689).nest [.ref 1,.ref 5] (n6 cs os ss vs)=some (k4 P [("code",.ref 1),("values",.ref 5)],n6 cs os ss vs++[.cell none]):=ak
theorem apH:bO P 689=(bO P 689).take 3++(((bO P 689).drop 3).take 1++(bO P 689).drop 4):=ak
theorem apI:(aC c P ae 100).x ((bO P 689).take 3) (k4 P [("code",.ref 1),("values",.ref 5)]) (n6 [] os ss vs++[.cell none]) k=k (.ok .next) (k4 P (tX [])) (Gh P os ss vs):=ak
theorem apJ:(aC c P ae 100).x ((bO P 689).take 3) (k4 P [("code",.ref 1),("values",.ref 5)]) (n6 (mJ P) os ss vs++[.cell none]) k=k (.ok .next) (k4 P (tX [])) (Gh P os ss vs):=ak
abbrev Xi P:=(bO P 689).getD 3 (.Pass default)
def apK(c:aR)(P:aL)(ae:aj->Option (List V))(k:KX):KT V:=λr u=>match r with|.ok v=>k (.ok .next) (k4 P (tX [])) u|.de i=>(x5 c (cb P ae) 99 (some i)).x (Gd (Xi P)) (k4 P (tX [("wrong",.ref i)])) u (L7 k)
theorem apL:(aC c P ae 100).x (((bO P 689).drop 3).take 1) (k4 P (tX [])) (Gh P os ss vs) k=TC c 204 none (.st (.ref 640)) [.ref 18,.int 0] (ee P (mJ P) os ss vs [] [] 0 false [] []) (apK c P ae k):=ak
theorem apM:(x5 c (cb P ae) 99 (some (gC b+5))).x (Gd (Xi P)) (k4 P (tX [("wrong",.ref (gC b+5))])) (jx P cs os ss vs aB ask row (gC b+6) (yy b p0 old++[.list old,.list l1,.list l2,.aV [("code",.str "TM"),("told",.str op)],.exc (gC b+4),.list []])) k=gd (aB.length<1000000) (k (.ok .next) (k4 P (tX [("wrong",.ref (gC b+5))])) (jx P cs os ss vs (aB++[.tup [.str "error",.str "TM"]]) ask row (gC b+6) (yy b p0 old++[.list old,.list l1,.list l2,.aV [("code",.str "TM"),("told",.str op)],.exc (gC b+4),.list []]))):=by cases b<;>kernel_rfl
theorem apN{q:bI}:(aC c P ae 100).x ((bO P 689).drop 4) (k4 P q) (jx P cs os ss vs aB ask row pr tl) k=k (.ok (.ret (.ref 7))) (k4 P q) (jx P cs os ss vs aB ask row pr tl):=ak
end
section
variable{os:List Od}
def eN(r:Bool)(e:MS):List V:=match r with|true=>gD e.aB|false=>gD e.aB++[.tup [.str "error",.str "TM"]]
theorem yB f:ba f (eN r e)=eN r e:=by cases r with|true=>exact BJ f _|false=>unfold eN;rw[nP,cH,<-nP,BJ];rfl
theorem Xj{aB ask:List V}(Z:AO c P ae)(jO:∀f,ba f ss=ss)(ht:∀f,ba f aB=aB)(hk:k (.ok (.ref 7)) (n6 (mJ P) (ao os) ss (bL vals)++[.cell (some (.ref 7)),.list aB])):bb c 210 none 7 (k4 P q) (jx P (mJ P) (ao os) ss (bL vals) aB ask row pr tl) ((bO P 689).drop 4) (ik k):=by
 refine TX.pickK ai (TX.ask (n:=100) Z ?_);rw[apN];refine By (js:=[0,1,2,3,4,5,6,7]) (cT:=.ref 7) (.eK ?_ ai) vH rfl (λx i e=>?_) rfl hk;.rw[vH];unfold jx;exact .cons rfl (.cons rfl (.cons rfl (.cons (e_ rfl) (.cons (iQ (jO _) rfl) (.cons (iQ (qq _ _) rfl) (.cons rfl (.cons (iQ (ht _) rfl) .nil)))))))
 .rw[fL]at e;cases h:x=="told"with|true=>rw[h]at e;cases e;decide|false=>rw[h]at e;exact aE e
theorem Xk(Z:AO c P ae)(Md:cs=[]\/cs=mJ P)(jO:∀f,ba f ss=ss)(hv:vals.length<=900)(ho:os.length<=900)(hl:ss.length<=900)(hs:ss[0]?=some (.int p))(hb:n<=5000)(hr:mI vals os n ⟨[],0,[],0,p⟩ r e)(he:e.aB.length<=9000)(hk:k (.ok (.ref 7)) (n6 (mJ P) (ao os) ss (bL vals)++[.cell (some (.ref 7)),.list (eN r e)])):TC c 211 none (.st (.ref 689)) [.ref 1,.ref 5] (n6 cs (ao os) ss (bL vals)) k:=by
 refine TC.fn Z apF apG ?_;show bb c 210 none 6 _ _ _ _;refine TX.low (show 6<=7 by decide) ?_;rw[apH];refine TX.app ?_;refine TX.ask (n:=100) Z ?_;have next:∀kk:KX,kk (.ok .next) (k4 P (tX [])) (Gh P (ao os) ss (bL vals))->(aC c P ae 100).x ((bO P 689).take 3) (k4 P [("code",.ref 1),("values",.ref 5)]) (n6 cs (ao os) ss (bL vals)++[.cell none]) kk:=λkk h=>by
  rcases Md with rfl|rfl;.exact du apI h
  .exact du apJ h
 refine next _ ?_;refine TX.app ?_;refine TX.ask (n:=100) Z ?_;rw[apL];refine TC.up (apD (s:=⟨[],0,[],0,p⟩) Z jO hv ho hl hs hb (dC _) (dC _) (dC _) hr (λh b p0 hp=>?_) λh b p0 old l2 op=>?_);.subst h;exact Xj Z jO (λf=>BJ f _) hk
 .subst h;refine du (apM (b:=b)) (bz (by rw[W'];exact bD he ai) ?_);exact Xj Z jO (λf=>yB (r:=false) f) hk
end
section
variable{k:KX}
abbrev bQ(P:aL)(q:bI):Loc:=⟨cO P 694,q,[("due",4),("values",3),("many",2),("case",1)],none⟩
theorem apO:(cb P ae).fn 694=some (bc P 694):=ak
theorem apP:enter (bc P 694).ps (bc P 694).sc [] (bc P 694).nest [.st (.ref a)] [.tab []]=some (bQ P [("script",.st (.ref a))],[.tab [],.cell none,.cell none,.cell none,.cell none]):=ak
abbrev eO(P:aL)(i:Nat):List Stmt:=((bO P 694).drop i).take 1
theorem apQ:bO P 694=eO P 0++(eO P 1++(eO P 2++(eO P 3++sO P 694 4::(eO P 5++(eO P 6++(eO P 7++(eO P 8++(eO P 9++(sO P 694 10::sO P 694 11::(eO P 12++(bO P 694).drop 13)))))))))):=ak
noncomputable def apR(s:bj):Expr:=if h:s.ctorIdx=5 then Ii (motive_2:=λ_=>aq) s h (λ_ e _=>if h:e.ctorIdx=6 then Expr.Dict.elim (motive_1:=λ_=>aq) e h (λ_ vs _=>vs.getD 0 (.Name "" default))else .Name "" default)else .Name "" default
abbrev tY P:=qj (apR (sO P 694 0))
noncomputable abbrev Me:List Str:=["own","turn"]
def Xl(P:aL)(q:bI)(k:KX):KT V:=bx (bQ P q) k λv u=>u6 u 5 λkv=>gd (kv.isEmpty=true/\Me.Nodup/\Me.length=[v,.int 0].length) (aH (fN (bQ P q) (u.set 5 (.aV (Me.zip [v,.int 0]))) "case" (.ref 5)) λp=>k (.ok .next) p.1 p.2)
noncomputable abbrev BK(tG acc:List V):List MO:=[.tab [],.cell none,.cell none,.cell none,.cell none,.aV [],.list tG,.list acc]
theorem apS:(aC c P ae 150).x (eO P 0) (bQ P [("script",.st (.ref a))]) [.tab [],.cell none,.cell none,.cell none,.cell none] k=aH (ae a) λl=>aH (cut l .none (.int 48)) λl'=>lC (aC c P ae 147).e (aC c P ae 147).t (tY P).2.1 (tY P).2.2.2.1 (tY P).1 (tY P).2.2.2.2 [] (.list 6) 7 (Xl P [("script",.st (.ref a))] k) (l'.length+1) 0 (BK l' []):=ak
theorem apT x f:(aH (cf (tY P).2.1 (.int x) ⟨(tY P).2.2.2.2,[],[],none⟩ (BK tG acc)) λp=>i5 (aC c P ae 147).e (aC c P ae 147).t (tY P).2.2.2.1 (tY P).1 7 p.1 p.2 f)=gd (acc.length<1000000) (f (BK tG (acc++[.int x.natAbs]))):=ak
theorem apU:Xl P q k (.ok (.ref 7)) (BK tG acc)=k (.ok .next) (bQ P q) [.tab [],.cell (some (.ref 5)),.cell none,.cell none,.cell none,.aV [("own",.ref 7),("turn",.int 0)],.list tG,.list acc]:=ak
end
section
variable{k:KX}
noncomputable abbrev k6(mn:MO)(t:Int)(J:List V)(aA:List MO):List MO:=.tab []::.cell (some (.ref 5))::mn::.cell none::.cell none::.aV [("own",.ref 6),("turn",.int t)]::.list J::aA
abbrev mK(M t:Int)(J:List V)(aA:List MO):List MO:=k6 (.cell (some (.int M))) t J aA
theorem apV:(aC c P ae 150).x (eO P 1) (bQ P q) (k6 (.cell none) t J []) k=TC c 304 none (.st (.ref 668)) [.ref 5,.int 6] (k6 (.cell none) t J []) (bx (bQ P q) k λv u=>ij v λy=>aH (fN (bQ P q) u "many" (.int (2+y))) λp=>k (.ok .next) p.1 p.2):=ak
theorem apW:fN (bQ P q) (k6 (.cell none) t J []) "many" aG=some (bQ P q,k6 (.cell (some aG)) t J []):=ak
abbrev n7 P:=qj (lD (sO P 694 2))
noncomputable abbrev Mf:List (Str×Nat):=[("many",2),("case",1)]
theorem apX:(aC c P ae 150).x (eO P 2) (bQ P [("script",aG)]) (mK M t J []) k=gd (-1000000<M/\M<1000000) (lC (aC c P ae 149).e (aC c P ae 149).t (n7 P).2.1 (n7 P).2.2.2.1 (n7 P).1 (n7 P).2.2.2.2 Mf (.range M) 7 (bx (bQ P [("script",aG)]) k λv u=>k (.ok .next) (bQ P [("script",aG),("rows",v)]) u) (M.toNat+1) 0 (mK M t J [.list []])):=ak
theorem apY x f:(aH (cf (n7 P).2.1 (.int x) ⟨(n7 P).2.2.2.2,[],Mf,none⟩ (mK M t J [.list acc])) λp=>i5 (aC c P ae 149).e (aC c P ae 149).t (n7 P).2.2.2.1 (n7 P).1 7 p.1 p.2 f)=TC c 306 none (.st (.ref 682)) [.ref 5,.int x,.int M] (mK M t J [.list acc]) (nF λv u=>dn u 7 λl=>gd (l.length<1000000) (f (u.set 7 (.list (l++[v]))))):=ak
theorem apZ:(aC c P ae 150).x (eO P 3) (bQ P [("script",aG),("rows",.ref 7)]) (mK M t J [.list af]) k=k (.ok .next) (bQ P [("script",aG),("rows",.ref 7),("lines",.ref 8),("at",.int 0)]) (mK M t J [.list af,.list []]):=ak
noncomputable abbrev k7(aG:V)(p:Int)(q:bI):bI:=("script",aG)::("rows",.ref 7)::("lines",.ref 8)::("at",.int p)::q
abbrev fc(M t:Int)(J af ln:List V)(T:List MO):List MO:=mK M t J (.list af::.list ln::T)
theorem ap0:FW (sO P 694 4):=⟨Bm (sO P 694 4),by kernel_rfl⟩
theorem ap1{K:KT Bool}:(aC c P ae 150).t (qo (sO P 694 4)) (bQ P (k7 aG p q)) (fc M t J af ln T) K=K (.ok (decide (p<M))) (fc M t J af ln T):=ak
abbrev yC P:=bP (sO P 694 4)
theorem ap2:yC P=(yC P).take 1++(yC P).drop 1:=ak
noncomputable def Gi(b:Bool)(s:Int):bI:=match b with|false=>[]|true=>[("size",.int s)]
theorem ap3:(aC c P ae 150).x ((yC P).take 1) (bQ P (k7 aG p (Gi b y))) (fc M t J af ln T) k=TC c 304 none (.st (.ref 668)) [.ref 5,.int 2] (fc M t J af ln T) (bx (bQ P (k7 aG p (Gi b y))) k λv u=>ij v λy=>k (.ok .next) (bQ P (k7 aG p [("size",.int (1+y))])) u):=by cases b<;>kernel_rfl
theorem ap4:(aC c P ae 150).x ((yC P).drop 1) (bQ P (k7 aG p [("size",.int s)])) (fc M t J af ln T) k=aH (cut af (.int p) (.int (p+s))) λl=>gd (ln.length<1000000) (k (.ok .next) (bQ P (k7 aG (p+s) [("size",.int s)])) (fc M t J af (ln++[.tup [.int (10*(p+1)),.ref (fc M t J af ln T).length]]) (T++[.list l]))):=ak
noncomputable abbrev BL:V:=.tup [.str "REM",.str "LAST"]
def Xm(c:aR)(P:aL)(aG:V)(p s:Int)(ln:List V)(k:KX)(u:List MO)(n:Nat):Prop:=dn (u++[.list [BL]]++[.list [.tup [.int 900,.ref n]]]) (u++[MO.list [BL]]).length λy=>gd (ln.length+y.length<=bk) (TC c 306 none (.st (.ref 528)) [.ref (u++[MO.list [BL]]++[MO.list [.tup [.int 900,.ref n]]]).length] (u++[.list [BL]]++[.list [.tup [.int 900,.ref n]]]++[.list (ln++y)]) (bx (bQ P (k7 aG p [("size",.int s)])) k λv u=>k (.ok .next) (bQ P (k7 aG p [("size",.int s),("flat",v)])) u))
theorem ap5:(aC c P ae 150).x (eO P 5) (bQ P (k7 aG p [("size",.int s)])) (fc M t J af ln T) k=Xm c P aG p s ln k (fc M t J af ln T) (fc M t J af ln T).length:=ak
end
section
variable{k:KX}{J va aB po st left acc:List V}
theorem ap6{q:bI}:(aC c P ae 150).x (eO P 6) (bQ P [("flat",.ref 7)]) u k=TC c 306 none (.st (.ref 389)) [.ref 7,.int 16,.int 9] u (bx (bQ P [("flat",.ref 7)]) k λv u=>k (.ok .next) (bQ P [("flat",.ref 7),("plain",v)]) u):=ak
theorem ap7:(aC c P ae 150).x (eO P 7) (bQ P [("flat",.ref 7),("plain",.ref 15)]) u k=TC c 306 none (.st (.ref 458)) [.ref 7,.ref 15,.int 16,.int 9] u (bx (bQ P [("flat",.ref 7),("plain",.ref 15)]) k λv u=>aH (cf (yn (sO P 694 7)) v (bQ P [("flat",.ref 7),("plain",.ref 15)]) u) λp=>k (.ok .next) p.1 p.2):=ak
noncomputable abbrev BM:bI:=[("flat",.ref 7),("plain",.ref 15),("code",.ref 23)]
theorem ap8:(aC c P ae 150).x (eO P 8) (bQ P BM) u k=TC c 306 none (.st (.ref 689)) [.ref 15,.ref u.length] (u++[.list []]) (bx (bQ P BM) k λv u=>aH (fN (bQ P BM) u "due" v) λp=>k (.ok .next) p.1 p.2):=ak
abbrev dB(P:aL)(M t:Int)(J va aB po st:List V)(aA:List MO):List MO:=.tab (mJ P)::.cell (some (.ref 5))::.cell (some (.int M))::.cell (some (.ref 7))::.cell (some (.ref 8))::.aV [("own",.ref 6),("turn",.int t)]::.list J::.list va::.list aB::.inst 343 10::.aV [("orders",.ref 11),("starts",.ref 12)]::.list po::.list st::aA
abbrev fu(P:aL)(q:bI):Loc:=bQ P (("code",.ref 9)::q)
abbrev n8 P:=qj (lD (sO P 694 9))
theorem ap9:(aC c P ae 150).x (eO P 9) (fu P []) (dB P M t J va aB po st []) k=lC (aC c P ae 149).e (aC c P ae 149).t (n8 P).2.1 (n8 P).2.2.2.1 (n8 P).1 (n8 P).2.2.2.2 [] (.enum 12) 13 (bx (fu P []) k λv u=>k (.ok .next) (fu P [("left",v)]) u) (st.length+1) 0 (dB P M t J va aB po st [.list []]):=ak
theorem ap_ i x f:(aH (cf (n8 P).2.1 (.tup [.int i,.int x]) ⟨(n8 P).2.2.2.2,[],[],none⟩ (dB P M t J va aB po st [.list acc])) λp=>i5 (aC c P ae 149).e (aC c P ae 149).t (n8 P).2.2.2.1 (n8 P).1 13 p.1 p.2 f)=if decide (x<0)=true then gd (acc.length<1000000) (f (dB P M t J va aB po st [.list (acc++[.int i])]))else f (dB P M t J va aB po st [.list acc]):=ak
noncomputable def Gj(s:aq)(i:Nat):Expr:=if h:s.ctorIdx=0 then Po (motive_1:=λ_=>aq) s h (λ_ es _=>es.getD i (.Name "" default))else .Name "" default
noncomputable def tZ(s:aq):Expr:=if h:s.ctorIdx=15 then Ih (motive_1:=λ_=>aq) s h (λl _ _ _=>l)else .Name "" default
noncomputable def rO(s:aq):Expr:=if h:s.ctorIdx=15 then Ih (motive_1:=λ_=>aq) s h (λ_ _ rs _=>rs.getD 0 (.Name "" default))else .Name "" default
abbrev t6 P:=sO P 694 10
abbrev Mg P:=Gj (iO (t6 P)) 0
abbrev Gk P:=Gj (iO (t6 P)) 1
theorem ap':rI (t6 P):=⟨vx (t6 P),by kernel_rfl⟩
theorem aqa:mE (t6 P)=[]:=ak
abbrev rP(P:aL):Loc:=fu P [("left",.ref 13)]
theorem aqb{K:KT Bool}:(aC c P ae 150).t (iO (t6 P)) (rP P) (dB P M t J va aB po st aA) K=TC c 302 none (.st (.ref 689)) [.ref 9,.ref 7] (dB P M t J va aB po st aA) (bh K λv u=>gT (lx none "repr" [v] u) (bh K λa u=>(aC c P ae 148).e (rO (Mg P)) (rP P) u (bh K λb u=>aH (cmp .NotEq a b u) λd=>if d=true then K (.ok true) u else(aC c P ae 149).t (Gk P) (rP P) u (bh K λd u=>if d=true then K (.ok true) u else K (.ok false) u)))):=ak
end
section
variable{k:KX}{J va aB vI po st left acc ah kn:List V}
theorem aqc{K:KT V}:(aC c P ae 148).e (rO (Mg P)) (rP P) (dB P M t J va aB po st aA) K=gT (lx none "repr" [.ref 8] (dB P M t J va aB po st aA)) K:=ak
abbrev t7 P:=qj (tZ (Gk P))
abbrev t8(P:aL)(M t:Int)(J va aB po st left vI:List V)(aA:List MO):List MO:=dB P M t J va aB po st (.list left::.cell (some (.ref 15))::.list vI::aA)
theorem aqd{K:KT Bool}:(aC c P ae 149).t (Gk P) (rP P) (t8 P M t J va aB po st left vI []) K=lC (aC c P ae 147).e (aC c P ae 147).t (t7 P).2.1 (t7 P).2.2.2.1 (t7 P).1 (t7 P).2.2.2.2 [("due",4)] (.list 13) 16 (bh K λv u=>aH (cmp .NotEq v (.ref u.length) (u++[.list []])) λd=>K (.ok d) (u++[.list []])) (left.length+1) 0 (t8 P M t J va aB po st left vI [.list []]):=ak
theorem aqe x f:(aH (cf (t7 P).2.1 (.int x) ⟨(t7 P).2.2.2.2,[],[("due",4)],none⟩ (t8 P M t J va aB po st left vI [.list acc])) λp=>i5 (aC c P ae 147).e (aC c P ae 147).t (t7 P).2.2.2.1 (t7 P).1 16 p.1 p.2 f)=aH (j5 (.int x) aB) λb=>if b=true then gd (acc.length<1000000) (f (t8 P M t J va aB po st left vI [.list (acc++[.int x])]))else f (t8 P M t J va aB po st left vI [.list acc]):=ak
abbrev Gl P:=bP (sO P 694 11)
theorem aqf:i7 (sO P 694 11):=⟨by kernel_rfl,by kernel_rfl,λ_=>rfl⟩
theorem aqg K:fW (cb P ae) (aC c P ae 150).e (iq (sO P 694 11)) (fu P []) (dB P M t J va aB po st []) K=K (.ok (.enum 11,[])) (dB P M t J va aB po st []):=ak
theorem aqh v:cf (d2 (sO P 694 11)) (.tup [.int p,v]) (fu P []) (dB P M t J va aB po st [])=some (fu P [("place",.int p),("order",v)],dB P M t J va aB po st []):=ak
abbrev BN(P:aL)(i:Nat):List Stmt:=((Gl P).drop i).take 1
abbrev gE(P:aL)(i:Nat):Stmt:=(Gl P).getD i (.Pass default)
theorem aqi:Gl P=BN P 0++(BN P 1++gE P 2::gE P 3::gE P 4::[]):=ak
noncomputable abbrev vJ(p:Int)(o:V)(q:bI):bI:=("place",.int p)::("order",o)::q
noncomputable def mx(p:Int):Int:=if 0<p-2 then p-2 else 0
theorem aqj o:(aC c P ae 150).x (BN P 0) (fu P (vJ p o [])) (dB P M t J va aB po st []) k=aH (cut po (.int (mx p)) (.int p)) λl=>k (.ok .next) (fu P (vJ p o [("ahead",.ref 13)])) (dB P M t J va aB po st [.list l]):=ak
abbrev t9 P:=qj (lD (gE P 1))
theorem aqk o:(aC c P ae 150).x (BN P 1) (fu P (vJ p o [("ahead",.ref 13)])) (dB P M t J va aB po st [.list ah]) k=lC (aC c P ae 149).e (aC c P ae 149).t (t9 P).2.1 (t9 P).2.2.2.1 (t9 P).1 (t9 P).2.2.2.2 [("values",3)] (.list 13) 14 (bx (fu P (vJ p o [("ahead",.ref 13)])) k λv u=>k (.ok .next) (fu P (vJ p o [("ahead",.ref 13),("known",v)])) u) (ah.length+1) 0 (dB P M t J va aB po st [.list ah,.list []]):=ak
abbrev hH(P:aL)(M t:Int)(J va aB po st ah kn:List V):List MO:=dB P M t J va aB po st [.list ah,.list kn]
def aql(va:List V)(o:Od)(f:V->Prop)(g:Prop):Prop:=match o with|.kept i=>aH (df va i) f|_=>g
theorem aqm o f:(aH (cf (t9 P).2.1 o.v ⟨(t9 P).2.2.2.2,[],[("values",3)],none⟩ (hH P M t J va aB po st ah acc)) λp=>i5 (aC c P ae 149).e (aC c P ae 149).t (t9 P).2.2.2.1 (t9 P).1 14 p.1 p.2 f)=aql va o (λx=>gd (acc.length<1000000) (f (hH P M t J va aB po st ah (acc++[x])))) (f (hH P M t J va aB po st ah acc)):=by cases o<;>kernel_rfl
abbrev mM(P:aL)(p:Int)(o:V):Loc:=fu P (vJ p o [("ahead",.ref 13),("known",.ref 14)])
theorem aqn:rI (gE P 2):=⟨vx (gE P 2),by kernel_rfl⟩
theorem aqo:rI (gE P 3):=⟨vx (gE P 3),by kernel_rfl⟩
theorem aqp:rI (gE P 4):=⟨vx (gE P 4),by kernel_rfl⟩
theorem aqq:mE (gE P 2)=[]:=ak
theorem aqr:mE (gE P 3)=[]:=ak
theorem aqs:mE (gE P 4)=[]:=ak
noncomputable def aqt:Od->Bool|.two _=>true|_=>false
theorem aqu{K:KT Bool}(h:aqt o=false):(aC c P ae 150).t (iO (gE P 2)) (mM P p o.v) (hH P M t J va aB po st ah kn) K=K (.ok false) (hH P M t J va aB po st ah kn):=by cases o<;>first|(cases h;done)|(clear h;kernel_rfl)
theorem aqv{K:KT Bool}:(aC c P ae 150).t (iO (gE P 2)) (mM P p (Od.two op).v) (hH P M t J va aB po st ah []) K=K (.ok false) (hH P M t J va aB po st ah []):=ak
theorem aqw{K:KT Bool} x:(aC c P ae 150).t (iO (gE P 2)) (mM P p (Od.two op).v) (hH P M t J va aB po st ah [x]) K=K (.ok false) (hH P M t J va aB po st ah [x]):=ak
theorem aqx{K:KT Bool} x y:(aC c P ae 150).t (iO (gE P 2)) (mM P p (Od.two op).v) (hH P M t J va aB po st ah [dw x,dw y]) K=K (.ok (i8 x==i8 y)) (hH P M t J va aB po st ah [dw x,dw y]):=by cases x<;>cases y<;>kernel_rfl
noncomputable def t_:Od->Bool|.one=>true|.bf _=>true|_=>false
noncomputable def kl:Od->Bool|.kept _=>true|_=>false
theorem aqy{K:KT Bool}(h:t_ o=false):(aC c P ae 150).t (iO (gE P 3)) (mM P p o.v) (hH P M t J va aB po st ah kn) K=K (.ok (nW o)) (hH P M t J va aB po st ah kn):=by cases o<;>first|(cases h;done)|(clear h;kernel_rfl)
theorem aqz{K:KT Bool}(h:t_ o=true) x:(aC c P ae 150).t (iO (gE P 3)) (mM P p o.v) (hH P M t J va aB po st [x.v] kn) K=K (.ok (kl x)) (hH P M t J va aB po st [x.v] kn):=by cases o<;>first|(cases h;done)|(clear h;cases x<;>kernel_rfl)
theorem aqA{K:KT Bool}(h:t_ o=true) y x:(aC c P ae 150).t (iO (gE P 3)) (mM P p o.v) (hH P M t J va aB po st [y,x.v] kn) K=K (.ok (kl x)) (hH P M t J va aB po st [y,x.v] kn):=by cases o<;>first|(cases h;done)|(clear h;cases x<;>kernel_rfl)
def aqB(po:List V)(o:Od)(u:List MO)(f:Bool->Prop):Prop:=match o with|.go q=>aH (df po q) λx=>aH (kK x (.int 0) u) λw=>aH (cmp .Eq w (.str "GO") u) f|.bf q=>aH (df po q) λx=>aH (kK x (.int 0) u) λw=>aH (cmp .Eq w (.str "GO") u) f|_=>f false
theorem aqC{K:KT Bool} o:(aC c P ae 150).t (iO (gE P 4)) (mM P p o.v) (hH P M t J va aB po st ah kn) K=aqB po o (hH P M t J va aB po st ah kn) λb=>if b=true then K (.ok true) (hH P M t J va aB po st ah kn)else K (.ok false) (hH P M t J va aB po st ah kn):=by cases o<;>kernel_rfl
end
section
variable{k:KX}{J va aB po st acc tl l2 l3:List V}
abbrev ua P:=qj (lD (sO P 694 12))
theorem aqD:(aC c P ae 150).x (eO P 12) (fu P []) (dB P M t J va aB po st []) k=lC (aC c P ae 149).e (aC c P ae 149).t (ua P).2.1 (ua P).2.2.2.1 (ua P).1 (ua P).2.2.2.2 [] (.list 11) 13 (bx (fu P []) k λv u=>k (.ok .next) (fu P [("told",v)]) u) (po.length+1) 0 (dB P M t J va aB po st [.list []]):=ak
def aqE(o:Od)(f:V->Prop)(g:Prop):Prop:=match o with|.kept i=>f (.int i)|_=>g
theorem aqF o f:(aH (cf (ua P).2.1 o.v ⟨(ua P).2.2.2.2,[],[],none⟩ (dB P M t J va aB po st [.list acc])) λp=>i5 (aC c P ae 149).e (aC c P ae 149).t (ua P).2.2.2.1 (ua P).1 13 p.1 p.2 f)=aqE o (λx=>gd (acc.length<1000000) (f (dB P M t J va aB po st [.list (acc++[x])]))) (f (dB P M t J va aB po st [.list acc])):=by cases o<;>kernel_rfl
noncomputable def aqG(s:bj):Pos:=if h:s.ctorIdx=3 then Pn (motive_2:=λ_=>Pos) s h (λ_ p=>p)else default
noncomputable def vK(s:aq):Pos:=if h:s.ctorIdx=0 then Po (motive_1:=λ_=>Pos) s h (λ_ _ p=>p)else if h:s.ctorIdx=15 then Ih (motive_1:=λ_=>Pos) s h (λ_ _ _ p=>p)else if h:s.ctorIdx=16 then sY (motive_1:=λ_=>Pos) s h (λ_ _ _ p=>p)else if h:s.ctorIdx=23 then zN (motive_1:=λ_=>Pos) s h (λ_ p=>p)else default
noncomputable def Xn(s:aq):Expr:=if h:s.ctorIdx=16 then sY (motive_1:=λ_=>aq) s h (λf _ _ _=>f)else .Name "" default
abbrev Xo(P:aL):Stmt:=(bO P 694).getD 13 (.Pass default)
abbrev yD P:=lD (Xo P)
abbrev qx P:=Gj (yD P) 0
abbrev pg P:=Gj (yD P) 1
theorem aqH:(bO P 694).drop 13=[.Return (some (yD P)) (aqG (Xo P))]:=ak
theorem aqI:yD P=.BoolOp .And [qx P,pg P] (vK (yD P)):=ak
theorem aqJ:qx P=.Compare (tZ (qx P)) [.Eq] [rO (qx P)] (vK (qx P)):=ak
theorem aqK:pg P=.Compare (tZ (pg P)) [.Eq] [rO (pg P)] (vK (pg P)):=ak
theorem aqL:wi [.Eq] [rO (qx P)]=false:=ak
theorem aqM:wi [.Eq] [rO (pg P)]=false:=ak
abbrev k8(P:aL):Loc:=fu P [("told",.ref 13)]
theorem aqN{K:KT V}:(aC c P ae 60).e (tZ (qx P)) (k8 P) (dB P M t J va aB po st [.list tl]) K=aH (qZ tl) λns=>gd (oK ns=true) (K (.ok (.ref 14)) (dB P M t J va aB po st [.list tl,.list ((eC ns).map .int)])):=ak
abbrev yE P:=rO (qx P)
abbrev Mh P:=nM (yE P) 0
abbrev Mi P:=nM (Mh P) 0
theorem aqO:yE P=.Call (.Name "list" (vK (Xn (yE P)))) [.Call (.Name "range" (vK (Xn (Mh P)))) [Mi P] [] (vK (Mh P))] [] (vK (yE P)):=ak
theorem aqP:dk (Mi P)=false:=ak
theorem Xp:ib (eI (cb P ae) (k8 P) (dB P M t J va aB po st aA) "list") (.type "list")=true/\ib (eI (cb P ae) (k8 P) (dB P M t J va aB po st aA) "range") (.type "range")=true:=⟨by kernel_rfl,by kernel_rfl⟩
theorem aqQ{K:KT V}:(aC c P ae 60).e (Mi P) (k8 P) (dB P M t J va aB po st aA) K=gd (va.length<=bk) (K (.ok (.int va.length)) (dB P M t J va aB po st aA)):=ak
abbrev ub P:=qj (nM (nM (tZ (pg P)) 0) 0)
def stK(K:KT V):KT V:=bh K λv u=>i4 v λi=>dn u i λl=>aH (oJ l) λxs=>gd (xs.length<1000) (K (.ok (.int (dW xs).length)) u)
theorem aqR{K:KT V}:(aC c P ae 60).e (tZ (pg P)) (k8 P) (dB P M t J va aB po st [.list tl,.list l2,.list l3]) K=lC (aC c P ae 58).e (aC c P ae 58).t (ub P).2.1 (ub P).2.2.2.1 (ub P).1 (ub P).2.2.2.2 [] (.list 7) 16 (stK K) (va.length+1) 0 (dB P M t J va aB po st [.list tl,.list l2,.list l3,.list []]):=ak
theorem aqS x f:(aH (cf (ub P).2.1 x ⟨(ub P).2.2.2.2,[],[],none⟩ (dB P M t J va aB po st [.list tl,.list l2,.list l3,.list acc])) λp=>i5 (aC c P ae 58).e (aC c P ae 58).t (ub P).2.2.2.1 (ub P).1 16 p.1 p.2 f)=gT (lx none "repr" [x] (dB P M t J va aB po st [.list tl,.list l2,.list l3,.list acc])) (nF λy u=>dn u 16 λl=>gd (l.length<1000000) (f (u.set 16 (.list (l++[y]))))):=ak
theorem aqT{K:KT V}:(aC c P ae 60).e (rO (pg P)) (k8 P) (dB P M t J va aB po st aA) K=gd (va.length<=bk) (K (.ok (.int va.length)) (dB P M t J va aB po st aA)):=ak
end
theorem TC.Mj{n n' N:Nat}(p:Pk js u a7)(hm:Mv js u aM aD)(hN:u.length=N)(h0:js[0]?=some 0)(hx:u.all fM=true)(ha:args=ba (pk js N) gx)(hs:∀k:KT V,k (.ok cT) (aD++nw)->TC c n none (.st (.ref a)) gx a7 k)(hl:n<=n')(hv:v=bY (pk js N) cT)(hn:nw.map (cL (pk js N))=nw'){k:KT V}(hk:k (.ok v) (aM++nw')):TC c n' none (.st (.ref a)) args u k:=by subst hN hv hn ha;exact TC.up (TC.Vv (f:=.st (.ref a)) p h0 hx (hs _ (.mk aD aM nw hm hk))) hl
theorem Xq{J:List V}:(k6 mn t J aA).length=7+aA.length:=by show aA.length+1+1+1+1+1+1+1=_;exact aaf
theorem Mk(h:f 2=6):iM f (k6 mn t (aK J) aA) [0,5,6] (iP [] (aK J) t []):=.cons rfl (.cons (by show _=some (MO.aV [(_,V.ref (f 2)),_]);rw[h];rfl) (.cons (o5 rfl) .nil))
theorem Xr:Mv [0,5,6] (k6 mn t (aK J) aA) (k6 mn t' (aK J) aA) (iP [] (aK J) t' []):=⟨.eK (Mk rfl) ai,rfl,λi hi=>by rcases i with _|_|_|_|_|_|_|i<;>first|rfl|exact absurd ai hi⟩
theorem Xs{L:Nat}(Z:AO c P ae)(ho:J.length<=900)(ht:0<=t)(hL:0<L)(hm:fM mn=true)(hJ:aA.all fM=true)(hn:91<=n')(hk:k (.ok (.int (dq J t L))) (k6 mn (t+1) (aK J) aA)):TC c n' none (.st (.ref 668)) [.ref 5,.int L] (k6 mn t (aK J) aA) k:=TC.Mj (N:=7+aA.length) (js:=[0,5,6]) (gx:=[.ref 1,.int L]) (nw:=[]) (nw':=[]) (.eK (Mk rfl) ai) Xr Xq rfl (by show(true&&(true&&(fM mn&&(true&&(true&&(true&&(true&&aA.all fM)))))))=true;rw[hm,hJ];rfl) rfl (λk h=>vE (aA:=[]) Z ho ht hL h) hn rfl rfl (by rw[cG];exact hk)
theorem aqU{x n:Nat}(Z:AO c P ae)(ho:J.length<=900)(ht:0<=t)(hx:x<n)(hm:fM mn=true)(hJ:aA.all fM=true)(hn:171<=n')(hk:k (.ok (n5 J t x n).1.v) (k6 mn (n5 J t x n).2 (aK J) aA)):TC c n' none (.st (.ref 682)) [.ref 5,.int x,.int n] (k6 mn t (aK J) aA) k:=TC.Mj (N:=7+aA.length) (js:=[0,5,6]) (gx:=[.ref 1,.int x,.int n]) (nw:=[]) (nw':=[]) (.eK (Mk rfl) ai) Xr Xq rfl (by show(true&&(true&&(fM mn&&(true&&(true&&(true&&(true&&aA.all fM)))))))=true;rw[hm,hJ];rfl) rfl (λk h=>ao' (aA:=[]) Z ho ht hx (λf _=>rfl) h) hn (F5 _ _).symm rfl (by rw[cG];exact hk)
noncomputable def Gm(l:List Int):List Int:=l.map λx=>(x.natAbs:Int)
theorem Xu l:(Gm l).length=l.length:=bw ..
def mO(ns:List Int):List Int:=Gm (ns.take 48)
theorem aqV{l:List (Str×Nat)}(h:∀p∈l,p.2<n):∀x i,l.lookup x=some i->i<n:=by induction l with|nil=>exactλx i e=>aE e|cons p r ih=>intro x i e;rw[fL]at e;cases q:x==p.1 with|true=>rw[q]at e;cases e;exact h p (.head _)|false=>rw[q]at e;exact ih (λp m=>h p (.tail _ m)) x i e
theorem BO:∀(x:Str)(i:Nat),([("due",4),("values",3),("many",2),("case",1)]:List (Str×Nat)).lookup x=some i->i<5:=aqV ai
theorem aqW(h:l.length<=900)(n:Nat):cut l .none (.int n)=some (l.take n):=by
 show(if l.length<=bk then some ((l.drop 0).take (iS l.length (n:Int)-0))else none)=_;rw[if_pos (o_ (ax h ai)),HJ,GW];refine congrArg some ?_;by_cases q:n<=l.length;.rw[Lu q]
 .have e:iS l.length (n:Int)=l.length:=by unfold iS;rw[if_neg (uA.mpr (dK n)),OB (gI.mpr (yO q)),C7 (dK _),fU]
  rw[e,eV,lY (yO q)]
theorem aqX(Z:AO c P ae)(hl:ae a=some (aK ns))(ic:ns.length<=63)(hk:k (.ok .next) (bQ P [("script",.st (.ref a))]) (k6 (.cell none) 0 (aK (mO ns)) [])):bb c 310 none 5 (bQ P [("script",.st (.ref a))]) [.tab [],.cell none,.cell none,.cell none,.cell none] (eO P 0) k:=by
 refine TX.pickK ai (TX.ask (n:=150) Z ?_);rw[apS,hl];refine dH rfl ?_;have hc:=aqW (l:=aK ns) (by rw[qp];exact ax ic ai) 48;refine dH hc ?_;have e1:(aK ns).take 48=aK (ns.take 48):=by unfold aK;rw[zo]
 rw[e1,qp];have aqY:(ns.take 48).length<=48:=N4 _ _;refine rF (ns.take 48) V.int (λj=>BK (aK (ns.take 48)) (aK (Gm ((ns.take 48).take j)))) (λj=>?_) (λj hj f hf=>?_) ?_ _ 0 (eu _);.exact congrArg some (cQ ..)
 .rw[apT];refine bz (by rw[qp,Xu,iT];exact bD (pA _ _) (bD aqY ai)) ?_;rw[jf hj]at hf;unfold aK Gm at hf⊢;rw[cH,cH]at hf;exact hf
 .rw[eV,apU];exact yp (N:=8) (js:=[0,1,2,3,4,5,7]) (.eK (.cons rfl (.cons rfl (.cons rfl (.cons rfl (.cons rfl (.cons rfl (.cons (o5 rfl) .nil))))))) ai) rfl rfl BO [] [("script",.st (.ref a))] rfl hk
theorem Xv(h:f v u):nF f (.ok v) u:=h
theorem aqZ(Z:AO c P ae)(ho:J.length<=900)(hk:k (.ok .next) (bQ P [("script",aG)]) (mK (2+(dq J 0 6:Nat)) 1 (aK J) [])):bb c 310 none 5 (bQ P [("script",aG)]) (k6 (.cell none) 0 (aK J) []) (eO P 1) k:=by refine TX.ask (n:=150) Z ?_;rw[apV];refine Xs (L:=6) Z ho (C_ 0) ai rfl rfl ai ?_;show aH _ _;exact dH apW hk
def i'(J:List Int)(M:Nat):Nat->List aS×Int|0=>([],1)|j+1=>let p:=i' J M j;let q:=n5 J p.2 j M;(p.1++[q.1],q.2)
theorem aq0(h:0<=t):0<=(n5 J t x n).2:=by have b:=mH J t (L:=7) ai;have l:0<=t+1+1:=qO (qO h);unfold n5;dsimp only;generalize dq J t 7=f at b⊢;refine F6 b ?_ ?_ ?_ ?_ ?_ ?_ ?_<;>first|exact l|exact qO l|exact qO (qO l)
theorem Xw j:0<=(i' J M j).2:=by induction j with|zero=>exact qP Int.zero_lt_one|succ j ih=>exact aq0 ih
theorem yF j:(i' J M j).1.length=j:=by induction j with|zero=>rfl|succ j ih=>show((i' J M j).1++[_]).length=_;rw[aX,ih];rfl
theorem Xx l:(kvs l).length=l.length:=bw ..
theorem aq1 l r:kvs (l++r)=kvs l++kvs r:=cH
theorem aq2 f ks:ba f (kvs ks)=kvs ks:=by rw[nP];unfold kvs;rw[jh];exact kE λk _=>F5 f k
theorem aq3{M:Nat}(Z:AO c P ae)(ho:J.length<=900)(hM:M<=100)(hk:k (.ok .next) (bQ P [("script",aG),("rows",.ref 7)]) (mK M (i' J M M).2 (aK J) [.list (kvs (i' J M M).1)])):bb c 310 none 5 (bQ P [("script",aG)]) (mK M 1 (aK J) []) (eO P 2) k:=by
 refine TX.ask (n:=150) Z ?_;have hg:-1000000<(M:Int)/\(M:Int)<1000000:=(⟨sT ai (dK _),eX.mpr (bD hM ai)⟩);rw[apX,Bs hg];have :=rF (ev:=(aC c P ae 149).e) (tv:=(aC c P ae 149).t) (tgt:=(n7 P).2.1) (ifs:=(n7 P).2.2.2.1) (elt:=(n7 P).1) (sc:=(n7 P).2.2.2.2) (cl:=Mf) (src:=.range M) (acc:=7) (k:=bx (bQ P [("script",aG)]) k λv u=>k (.ok .next) (bQ P [("script",aG),("rows",v)]) u) (cA M) (λ(i:Nat)=>V.int i) (λj=>mK M (i' J M j).2 (aK J) [.list (kvs (i' J M j).1)]) (λj=>LG M j _) (λj hj f hf=>?_) (by rw[fe];exact hk) M 0 (by rw[fe,eu]);.exact this
 .rw[fe]at hj;rw[zh,apY];refine aqU (n:=M) (aA:=[.list (kvs (i' J M j).1)]) Z ho (Xw j) hj rfl rfl ai ?_;refine Xv (tV (l:=kvs (i' J M j).1) rfl (bz (by rw[Xx,yF];exact aag hg hj) ?_));have e:(i' J M (j+1)).1=(i' J M j).1++[(n5 J (i' J M j).2 j M).1]:=rfl;rw[e,aq1]at hf;exact hf
theorem Xy(n k:Nat):iS n (k:Int)=min n k:=by
 unfold iS;rw[if_neg (uA.mpr (dK k))];rcases Nat.le_total n k with h|h;.rw[OB (gI.mpr h),C7 (dK n),sf h];rfl
 .rw[OC (gI.mpr h),C7 (dK k),GU h];rfl
theorem Xz(h:l.length<=900)(a s:Nat):cut l (.int a) (.int ((a:Int)+(s:Int)))=some ((l.drop a).take s):=by
 show(if l.length<=bk then some ((l.drop (iS l.length (a:Int))).take (iS l.length ((a:Int)+(s:Int))-iS l.length (a:Int)))else none)=_;rw[if_pos (o_ (ax h ai)),<-uy,Xy,Xy];refine congrArg some ?_;by_cases q:a<=l.length
 .rw[GU q];by_cases r:a+s<=l.length;.rw[GU r,jb]
  .rw[sf (yO r),lY (by rw[qM];exact br _),lY (by rw[qM];exact uk (dZ s a▸yO r))]
 .have q':=yO q;rw[sf q',Hs q',HD,CX,CX]
def ky(J:List Int)(ks:List aS)(M:Nat):Nat->Nat->Int->gZ|0,_,_=>[]|f+1,p,t=>if p<M then(10*((p:Int)+1),(ks.drop p).take (1+dq J t 2))::ky J ks M f (p+(1+dq J t 2)) (t+1)else[]
theorem XA b ls e:fH b (ls++[e])=fH b ls++[.tup [.int e.1,.ref (b+ls.length)]]:=by unfold fH;rw[N9,cH,eu];rfl
theorem XB b ls:(fH b ls).length=ls.length:=by unfold fH;rw[bw,wu]
theorem XD ls e:d4 (ls++[e])=d4 ls++[.list (kvs e.2)]:=cH
theorem qy ls:(d4 ls).length=ls.length:=bw ..
theorem XF ls:(d4 ls).all fM=true:=by unfold d4;rw[C2];exact jV.mpr λ_ _=>rfl
theorem aq4 ks a s:(((kvs ks).drop a).take s)=kvs ((ks.drop a).take s):=by unfold kvs;rw[zo,Oo]
section
variable{M:Nat}
theorem vL{J af ln:List V}{M t:Int}:(fc M t J af ln T).length=9+T.length:=by exact dZ T.length 9
inductive vM(P:aL)(J:List Int)(ks:List aS)(L:gZ)(aG:V)(M:Nat):Nat->Loc->List MO->Prop|mk(p:Nat)(t:Int)(so:gZ)(b:Bool)(s:Int)(ht:0<=t)(hL:so++ky J ks M (M-p) p t=L)(hb:b=false->p=0)(gr:so.length<=p)(hp:p<=M+1):vM P J ks L aG M (M-p) (bQ P (k7 aG p (Gi b s))) (fc M t (aK J) (kvs ks) (fH 9 so) (d4 so))
theorem aq5:∀f f' p t,M-p<=f->M-p<=f'->ky J ks M f p t=ky J ks M f' p t:=by
 have z:∀f p t,M-p<=0->ky J ks M f p t=[]:=λf p t h=>by cases f with|zero=>rfl|succ f=>exact if_neg (mV.mpr (vY (yP.mp h)))
 intro f;induction f with|zero=>exactλf' p t h1 h2=>(z f' p t h1).symm|succ f ih=>intro f' p t h1 h2;cases f' with|zero=>exact z _ p t h2|succ f'=>
  have m:∀{g d},M-p<=g+1->M-(p+(1+d))<=g:=λ{g d}h=>by rw[<-hU,<-kA,<-kA];exact ax (qI _ _) (uk h)
  show(if p<M then _ else _)=if p<M then _ else _;rw[ih f' _ _ (m h1) (m h2)]
theorem aq6(h:p<M):ky J ks M (M-p) p t=(10*((p:Int)+1),(ks.drop p).take (1+dq J t 2))::ky J ks M (M-(p+(1+dq J t 2))) (p+(1+dq J t 2)) (t+1):=by have e:M-p=M-p-1+1:=(qF (pw h)).symm;rw[e];show(if p<M then _ else _)=_;rw[if_pos h];refine congrArg _ (aq5 _ _ _ _ ?_ (br _));rw[<-hU,<-kA,<-kA];exact qI _ _
theorem aq7(h:p<M):M-(p+(1+d))<M-p:=by rw[<-hU,<-kA,<-kA];exact bD (qI _ _) (v7 (pw h) um)
theorem aq8(Z:AO c P ae)(ho:J.length<=900)(hM:M<=100)(gB:ks.length<=900)(ht:0<=t)(hL:so++ky J ks M (M-p) p t=L)(gr:so.length<=p)(h:p<M):bb c 310 none 5 (bQ P (k7 aG p (Gi b s))) (fc M t (aK J) (kvs ks) (fH 9 so) (d4 so)) (yC P) (iJ k λY u=>∃f',f'<M-p/\vM P J ks L aG M f' Y u):=by rw[ap2];refine TX.app ?_;refine TX.ask (n:=150) Z ?_;rw[ap3];refine Xs (L:=2) Z ho ht ai rfl (by show(true&&(true&&(d4 so).all fM))=true;rw[XF];rfl) ai ?_;show bb c 310 none 5 (bQ P (k7 aG p [("size",.int (1+(dq J t 2:Nat)))])) (fc M (t+1) (aK J) (kvs ks) (fH 9 so) (d4 so)) _ _;refine TX.ask (n:=150) Z ?_;rw[ap4,show(1:Int)+(dq J t 2:Nat)=((1+dq J t 2:Nat):Int)from(uy 1 _).symm,Xz (by rw[Xx];exact gB),aq4];refine dH rfl (bz (by rw[XB];exact bD gr (v3 h (bD hM ai))) ?_);have y:=vM.mk (P:=P) (aG:=aG) (J:=J) (ks:=ks) (L:=L) (M:=M) (p+(1+dq J t 2)) (t+1) (so++[(10*((p:Int)+1),(ks.drop p).take (1+dq J t 2))]) true (1+dq J t 2:Nat) (Int.add_nonneg ht ai) (by rw[cS,List.singleton_append,<-aq6 h];exact hL) nofun (by rw[aX,sL];exact ou gr (cy 1 _)) (ax (k_ (k_ (qG (mH J t (L:=2) ai)) 1) p) (gf h));rw[XA,XD]at y;rw[vL,qy];exact⟨_,aq7 h,y⟩
theorem aq9(Z:AO c P ae)(ho:J.length<=900)(hM:M<=100)(BP:0<M)(gB:ks.length<=900)(hj:vM P J ks L aG M f Y u)(hk:∀(p:Nat)(t s:Int),k (.ok .next) (bQ P (k7 aG p [("size",.int s)])) (fc M t (aK J) (kvs ks) (fH 9 L) (d4 L))):(aC c P ae 150).t (qo (sO P 694 4)) Y u (bx Y k λq u=>if q then bb c 310 none 5 Y u (bP (sO P 694 4)) (iJ k λY u=>∃f',f'<f/\vM P J ks L aG M f' Y u)else k (.ok .next) Y u):=by
 refine vM.casesOn hj λp t so b s ht hL hb gr hp=>?_;rw[ap1,show decide ((p:Int)<(M:Int))=decide (p<M)from decide_eq_decide.mpr eX];by_cases h:p<M;.rw[decide_eq_true h];exact aq8 Z ho hM gB ht hL gr h
 .rw[decide_eq_false h];have y:=(congrArg (λf=>so++ky J ks M f p t) (M0 (jc h))).symm.trans hL;cases b with|false=>exact absurd (hb rfl▸BP) h|true=>exact(so.append_nil.symm.trans y)▸hk p t s
theorem aq_(Z:AO c P ae)(ho:J.length<=900)(ht:0<=t)(hM:M<=100)(BP:0<M)(gB:ks.length<=900){b:List bj}(hk:∀(p:Nat)(t' s:Int),bb c 310 none 5 (bQ P (k7 aG p [("size",.int s)])) (fc M t' (aK J) (kvs ks) (fH 9 (ky J ks M M 0 t)) (d4 (ky J ks M M 0 t))) b k):bb c 310 none 5 (bQ P [("script",aG),("rows",.ref 7)]) (mK M t (aK J) [.list (kvs ks)]) (eO P 3++sO P 694 4::b) k:=by refine TX.app ?_;refine TX.ask (n:=150) Z ?_;rw[apZ];obtain⟨pos,hw⟩:=ap0 (P:=P);refine TX.cons ?_;rw[hw];refine TX.AY (TX.Br Z (n:=150)) (vM P J ks (ky J ks M M 0 t) aG M) (f:=M) (.mk 0 t [] false 0 ht rfl (λ_=>rfl) (br 0) (dC _)) λf Y u hj=>aq9 (k:=rA _ _) Z ho hM BP gB hj λp t' s=>hk p t' s
end
theorem iM.ofRange:∀(l:List MO)(b:Nat),(∀k m,l[k]?=some m->u[b+k]?=some (cL f m))->iM f u ((cA l.length).map (b+·)) l:=by intro l;induction l with|nil=>exactλb h=>.nil|cons m l ih=>
 intro b h;rw[eU,CT,ef,jh];refine .cons (h 0 m rfl) ?_;have :=ih (b+1) λk m' e=>by rw[hU,dZ 1 k];exact h (k+1) m' e
 have e:(λx=>b+x)∘Nat.succ=λx=>b+1+x:=funext λx=>(lT b x 1);rw[e];exact this
theorem aq'{k:Nat}(h:(d4 ls)[k]?=some m):cL f m=m:=by obtain⟨e,_,rfl⟩:=dS.mp (ez h);exact congrArg MO.list (aq2 f e.2)
noncomputable abbrev ix(L:gZ):gZ:=L++[(900,[.rem true])]
abbrev yG(M t:Int)(J af ln:List V)(ls:gZ):List MO:=fc M t J af ln (d4 ls++[.list [.tup [.int 900,.ref (9+(ls.length-1))]],.list (fH 9 ls)])
theorem ara f b b' ls(h:∀k,k<ls.length->f (b+k)=b'+k):ba f (fH b ls)=fH b' ls:=by rw[nP];unfold fH;rw[jh];refine kE λe he=>?_;show V.tup [.int e.1.1,.ref (f (b+e.2))]=_;rw[h e.2 (by have :=List.snd_lt_of_mem_zipIdx he;rwa[Nat.add_zero]at this)]
noncomputable abbrev rQ(ls:gZ):List Nat:=[0,ls.length+10]++(cA ls.length).map (9+·)
theorem BQ:(rQ ls).length=ls.length+2:=by rw[aX,bw,fe];exact dZ 2 _
theorem arb{J af ln:List V}{M t:Int}(h:(d4 ls)[k]?=some m):(yG M t J af ln ls)[9+k]?=some m:=by rw[dZ 9 k];show(d4 ls++_)[k]?=_;rw[ew (cn.mp h).1];exact h
theorem arc{J af ln:List V}{M t:Int}:(yG M t J af ln ls).length=ls.length+11:=by rw[vL,aX,qy];exact dZ 9 (ls.length+2)
theorem ard{J af ln:List V}{M t:Int}{N:Nat}:iM (pk (rQ ls) N) (yG M t J af ln ls) (rQ ls) (c0 [] ls):=by
 have hf:∀k,k<ls.length->pk (rQ ls) N (2+k)=9+k:=λk hk=>by rw[oU (by rw[BQ,dZ];exact M1 hk 2),NW (cy 2 k),List.getElem_map,zh];exact congrArg (9+·) (jb ..)
 refine .cons rfl (.cons ?_ ?_);.show _=some (MO.list (ba _ (fH 2 ls)));rw[ara _ 2 9 ls hf,show ls.length+10=(ls.length+1)+9 from rfl];show(d4 ls++[_,_])[ls.length+1]?=_;rw[eS (by rw[qy];exact dI _),qy,jb];rfl
 .have :=iM.ofRange (f:=pk (rQ ls) N) (u:=yG M t J af ln ls) (d4 ls) 9 λk m h=>by rw[aq' h];exact arb h
  rw[qy]at this;exact this
theorem arf:(rQ ls).Nodup:=by
 refine gH.mpr ⟨jg.mpr ⟨λq=>?_,Hr _ _⟩,zi.mpr (HF.imp λ{a b}h q=>h (yN q)),λx hx y hy q=>?_⟩;.exact M7 _ (bM.mp q).symm
 .obtain⟨i,hi,rfl⟩:=dS.mp hy;have hi:=oA.mp hi;rcases bX.mp hx with rfl|hx;.exact gh (cw ai (cy 9 i)) q
  .exact gh (cw (M3 hi 9) (ax (bo (dZ 9 _)) (dI _))) (q.symm.trans (bM.mp hx))
theorem arh(h:u.length=n)(m:MO):(u++[m])[n]?=some m:=by subst h;rw[eS (br _),pC];rfl
section
variable{M:Nat}
noncomputable abbrev n9(af:List V)(pl:List (Int×V)):List MO:=[.inst 475 8,.aV [("rows",.ref 9),("places",.ref 10),("data",.ref 11),("pairs",.ref 12),("loops",.ref 13),("fns",.ref 14)],.list af,.bg pl,.list [],.bg [],.bg [],.bg []]
abbrev Ml(M t:Int)(J af:List V)(pl:List (Int×V))(aA:List MO):List MO:=mK M t J (n9 af pl++aA)
theorem ari{q:bI}{N:Nat}(bV:∀f,ba f af=af)(hN:N=9+T.length)(hv:wA ("flat":Str) q=some (V.ref (N+1)))(hk:k (.ok .next) (bQ P [("flat",.ref 7)]) (Ml M t (aK J) af (aO pl) [])):cM 5 k (.ok .next) (bQ P q) (fc M t (aK J) rws ln T++(qw N af (aO pl)++aA)):=by
 have hl:(fc M t (aK J) rws ln T).length=N:=by rw[vL,hN]
 have at':∀j m,(qw N af (aO pl)++aA)[j]?=some m->(fc M t (aK J) rws ln T++(qw N af (aO pl)++aA))[N+j]?=some m:=λj m h=>by rw[eS (by rw[hl];exact cy _ _),hl,jb];exact h
 have low:∀j m,(fc M t (aK J) rws ln T)[j]?=some m->(fc M t (aK J) rws ln T++(qw N af (aO pl)++aA))[j]?=some m:=λj m h=>by rw[ew (cn.mp h).1];exact h
 have nd:[0,1,2,3,4,5,6,N+1,N,N+2,N+3,N+4,N+5,N+6,N+7].Nodup:=by
  have arj:9<=N:=(aah hN);obtain⟨d,rfl⟩:=Nat.exists_eq_add_of_le arj;refine gH (l₁:=[0,1,2,3,4,5,6]) (l₂:=[9+d+1,9+d,9+d+2,9+d+3,9+d+4,9+d+5,9+d+6,9+d+7])|>.mpr ⟨by decide,?_,λx hx y hy=>?_⟩;.show([1,0,2,3,4,5,6,7].map (9+d+·)).Nodup;exact zi.mpr ((show[1,0,2,3,4,5,6,7].Nodup by decide).imp λ{a b}h q=>h (yN q))
  .obtain⟨i,_,rfl⟩:=dS.mp (show y∈[1,0,2,3,4,5,6,7].map (9+d+·)from hy);have :∀x∈[0,1,2,3,4,5,6],x<9:=by decide
   have :=this x hx;omega
 refine Bz (N:=(fc M t (aK J) rws ln T++(qw N af (aO pl)++aA)).length) (js:=[0,1,2,3,4,5,6,N+1,N,N+2,N+3,N+4,N+5,N+6,N+7]) (.eK ?_ nd) rfl rfl BO "flat" (.ref 7) hv hk;refine .cons (low 0 _ rfl) (.cons (low 1 _ rfl) (.cons (low 2 _ rfl) (.cons (low 3 _ rfl) (.cons (low 4 _ rfl) (.cons (low 5 _ rfl) (.cons (o5 (low 6 _ rfl)) (.cons (at' 1 _ rfl) (.cons (at' 0 _ rfl) (.cons (at' 2 _ ?_) (.cons (at' 3 _ ?_) (.cons (at' 4 _ rfl) (.cons (at' 5 _ rfl) (.cons (at' 6 _ rfl) (.cons (at' 7 _ rfl) .nil))))))))))))));.exact congrArg (λx=>some (MO.list x)) (bV _).symm
 .exact congrArg (λx=>some (MO.bg x)) (tP _ _).symm
theorem ark(Z:AO c P ae)(hn:1<=L.length/\L.length<=7)(h0:∀e,e∈L->e.2≠[])(gB:(L.flatMap (·.2)).length<=800)(hk:k (.ok .next) (bQ P [("flat",.ref 7)]) (Ml M t (aK J) (dY (ix L)).rw (aO (dY (ix L)).pl) [])):bb c 310 none 5 (bQ P (k7 aG p [("size",.int s)])) (fc M t (aK J) rws (fH 9 L) (d4 L)) (eO P 5) k:=by
 have tR:(ix L).length=L.length+1:=aX;have hR:=BE (ix L) ⟨[],[],[]⟩ ⟨[],rfl,rfl⟩;refine TX.pickK ai (TX.ask (n:=150) Z ?_);rw[ap5];unfold Xm;have e1:fc M t (aK J) rws (fH 9 L) (d4 L)++[.list [BL]]=fc M t (aK J) rws (fH 9 L) (d4 (ix L)):=by rw[XD];rfl
 rw[e1,vL,vL,qy,qy];refine tV (l:=[.tup [.int 900,.ref (9+L.length)]]) (arh (by rw[vL,qy]) _) (bz (by rw[XB];exact o_ (show L.length+1<=1000 from(bD hn.2 ai))) ?_);have e2:fH 9 L++[.tup [.int 900,.ref (9+L.length)]]=fH 9 (ix L):=(XA 9 L (900,[.rem true])).symm;have e3:fc M t (aK J) rws (fH 9 L) (d4 (ix L))++[.list [.tup [.int 900,.ref (9+L.length)]]]++[.list (fH 9 (ix L))]=yG M t (aK J) rws (fH 9 L) (ix L):=by rw[cS];show fc M t (aK J) rws (fH 9 L) (d4 (ix L)++([_]++[_]))=_;rw[yG,tR,M4];rfl
 have e4:(fc M t (aK J) rws (fH 9 L) (d4 (ix L))++[MO.list [.tup [.int 900,.ref (9+L.length)]]]).length=(ix L).length+10:=by rw[aX,vL,qy];show _+1=_;exact aai
 rw[e2,e3,e4];have fB:2<=(ix L).length/\(ix L).length<=8:=(aaj hn tR);have XG:∀e,e∈ix L->e.2≠[]:=λe he=>(cV.mp he).elim (h0 e) λhe=>by rw[bM.mp he];exact uw _ _
 have XH:((ix L).flatMap (·.2)).length<=900:=by rw[wt,aX];show _+1<=900;exact bD gB ai
 clear hn h0 gB tR e1 e2 e3 e4;have bV:∀f,ba f (dY (ix L)).rw=(dY (ix L)).rw:=hR.bY;generalize avh:ix L=ls at hk fB XG XH bV⊢;refine TC.at' (n:=171) (N:=ls.length+11) (js:=rQ ls) (a7:=c0 [] ls) (gx:=[.ref 1]) (cT:=.ref (ls.length+3)) (v:=.ref (ls.length+12)) (nw:=qw (ls.length+2) (dY ls).rw (aO (dY ls).pl)++[.list [],.list [],.list []]) (nw':=qw (ls.length+11) (dY ls).rw (aO (dY ls).pl)++[.list [],.list [],.list []]) (.eK ard arf) arc rfl ?_ rfl (λk h=>aoL Z fB XG XH (by unfold cm;rw[cS];exact h)) ai ?_ ?_ ?_;.show(true&&(true&&(true&&(true&&(true&&(true&&(true&&(true&&(true&&(d4 ls++_).all fM)))))))))=true;rw[CW,XF];rfl
 .show V.ref _=.ref (pk (rQ ls) (ls.length+11) (ls.length+3));rw[Fy (by rw[BQ];exact dI _),BQ];exact congrArg V.ref aak
 .rw[cH];have g:∀d,pk (rQ ls) (ls.length+11) (ls.length+2+d)=ls.length+11+d:=λd=>by rw[Fy (by rw[BQ];exact cy _ _),BQ];exact congrArg (_+·) (jb ..)
  have g0:=g 0;show[MO.aV [(_,V.ref (pk _ _ (ls.length+2+2))),(_,V.ref (pk _ _ (ls.length+2+3))),(_,V.ref (pk _ _ (ls.length+2+4))),(_,V.ref (pk _ _ (ls.length+2+5))),(_,V.ref (pk _ _ (ls.length+2+6))),(_,V.ref (pk _ _ (ls.length+2+7)))],MO.inst 475 (pk _ _ (ls.length+2+0)),MO.list (ba _ (dY ls).rw),MO.bg (d9 _ (aO (dY ls).pl)),_,_,_,_]++_=_;rw[g,g,g,g,g,g,g,bV,tP];rfl
 .refine ari (N:=ls.length+11) bV ?_ rfl hk;rw[aX,qy];show _=9+(ls.length+2);exact aal
end
section
variable{os po:List Od}{st:List Int}{M:Nat}
noncomputable abbrev jP(cs:List ((Nat×Nat)×Str))(vc dc:Option V)(M t:Int)(J:List V)(aA:List MO):List MO:=.tab cs::.cell (some (.ref 5))::.cell (some (.int M))::.cell vc::.cell dc::.aV [("own",.ref 6),("turn",.int t)]::.list J::aA
noncomputable abbrev rR(os ss:List V):List MO:=[.inst 343 16,.aV [("orders",.ref 17),("starts",.ref 18)],.list os,.list ss]
noncomputable abbrev yH(po st va:List V):List MO:=[.list po,.list st,.list va,.aV [("orders",.ref 19),("starts",.ref 20)],.inst 343 22]
theorem XI{af os ss:List V}{pl:List (Int×V)}:bS [] af pl os ss=cj [] af pl++[.inst 343 10,.aV [("orders",.ref 11),("starts",.ref 12)],.list os,.list ss]:=by unfold bS cj;rfl
theorem arl{J:List V}{M t:Int}:cf (yn (sO P 694 7)) (.tup [v,w]) (bQ P [("flat",.ref 7),("plain",.ref 15)]) (jP [] none none M t J aA)=some (bQ P [("flat",.ref 7),("plain",.ref 15),("code",v)],jP [] (some w) none M t J aA):=ak
theorem arn{J:List V}{M t:Int}:fN (bQ P q) (jP cs vc none M t J aA) "due" v=some (bQ P q,jP cs vc (some v) M t J aA):=ak
structure Mm(af:List V)(pl:List (Int×Nat))(ks:List aS)(last:Nat):Prop where
 rn:∀f,ba f af=af
 len:af.length=ks.length
 row:∀j(h:j<ks.length),∃l,af[j]?=some (.tup [l,(ks[j]).v])ok:∀k∈ks,k.ok
 XJ:∀k∈ks,∀a:Int,(k.o a last).length<=10
 iy:ks.length<=50
 l9:pl.lookup 900=some last
 tgt:∀o,o∈i_ last 0 ks->ft ks.length o
abbrev vN(ks:List aS)(last:Nat):List Od:=(i_ last 0 ks).map (bU (nY last ks ks.length))++[.fin]
abbrev vO(ks:List aS)(last:Nat):List Nat:=nY last ks ks.length
theorem XK{J:List V}{M t:Int}(bV:∀f,ba f af=af)(h2:f 2=8)(h3:f 3=9)(h4:f 4=10)(h5:f 5=11)(h6:f 6=12)(h7:f 7=13)(h8:f 8=14)(T:iM f (jP cs vc dc M t J (n9 af (aO pl)++aA)) js tl):iM f (jP cs vc dc M t J (n9 af (aO pl)++aA)) ([0,7,8,9,10,11,12,13,14]++js) (cj cs af (aO pl)++tl):=by
 unfold cj;refine .cons rfl (.cons ?_ (.cons ?_ (.cons ?_ (.cons ?_ (.cons rfl (.cons rfl (.cons rfl (.cons rfl T))))))));.show _=some (MO.inst 475 (f 2));rw[h2];rfl
 .show _=some (MO.aV [(_,V.ref (f 3)),(_,V.ref (f 4)),(_,V.ref (f 5)),(_,V.ref (f 6)),(_,V.ref (f 7)),(_,V.ref (f 8))]);rw[h3,h4,h5,h6,h7,h8];rfl
 .exact congrArg (λx=>some (MO.list x)) (bV _).symm
 .exact congrArg (λx=>some (MO.bg x)) (tP _ _).symm
theorem aro(Z:AO c P ae)(C:Mm af pl ks last)(hk:k (.ok .next) (bQ P [("flat",.ref 7),("plain",.ref 15)]) (jP [] none none M t (aK J) (n9 af (aO pl)++rR (ao (vN ks last)) (ay (vO ks last))))):bb c 310 none 5 (bQ P [("flat",.ref 7)]) (Ml M t (aK J) af (aO pl) []) (eO P 6) k:=by refine TX.ask (n:=150) Z ?_;rw[ap6 (q:=[])];have p:=XK (pl:=pl) (aA:=[]) (f:=pk [0,7,8,9,10,11,12,13,14] 15) (cs:=[]) (vc:=none) (dc:=none) (J:=aK J) (M:=M) (t:=t) C.rn rfl rfl rfl rfl rfl rfl rfl .nil;simp only[cG]at p;refine TC.at' (n:=231) (n':=306) (N:=15) (u:=jP [] none none M t (aK J) (n9 af (aO pl))) (js:=[0,7,8,9,10,11,12,13,14]) (a7:=cj [] af (aO pl)) (gx:=[.ref 1,.int 16,.int 9]) (cT:=.ref 9) (v:=.ref 15) (nw:=[.inst 343 10,.aV [("orders",.ref 11),("starts",.ref 12)],.list (ao (vN ks last)),.list (ay (vO ks last))]) (nw':=rR (ao (vN ks last)) (ay (vO ks last))) (.eK p ai) rfl rfl rfl rfl (λk h=>an3 Z C.rn C.len C.row C.ok C.XJ C.iy C.l9 rfl C.tgt (by rw[XI];exact h)) ai rfl (by simp only[ef,iU,mu,mw,my,mz,mB,o6,kR,qm];rfl) ?_;exact hk
theorem arp(Z:AO c P ae)(bV:∀f,ba f af=af)(i9:af.length=ss.length)(I:yt pl os ss jM iu ju jN gy dg th gY lf fQ cR)(hk:k (.ok .next) (bQ P BM) (jP [] (some (.ref 21)) none M t (aK J) (n9 af (aO pl)++(rR (ao os) (ay ss)++yH (ao (gb cR).fo) (aK (gX lf fQ.le dg dg.length)) (bL (gb cR).va))))):bb c 310 none 5 (bQ P [("flat",.ref 7),("plain",.ref 15)]) (jP [] none none M t (aK J) (n9 af (aO pl)++rR (ao os) (ay ss))) (eO P 7) k:=by
 refine TX.ask (n:=150) Z ?_;rw[ap7];refine TC.at' (n:=191) (n':=306) (N:=19) (u:=jP [] none none M t (aK J) (n9 af (aO pl)++rR (ao os) (ay ss))) (js:=[0,7,8,9,10,11,12,13,14]++[15,16,17,18]) (a7:=bS [] af (aO pl) (ao os) (ay ss)) (gx:=[.ref 1,.ref 9,.int 16,.int 9]) (cT:=.tup [.ref 17,.ref 15]) (v:=.tup [.ref 23,.ref 21]) (nw:=[.list (ao (gb cR).fo),.list (aK (gX lf fQ.le dg dg.length)),.list (bL (gb cR).va),.aV [("orders",.ref 13),("starts",.ref 14)],.inst 343 16]) (nw':=yH (ao (gb cR).fo) (aK (gX lf fQ.le dg dg.length)) (bL (gb cR).va)) (.eK ?_ ai) rfl rfl rfl rfl (λk h=>am' Z bV i9 I h) ai rfl (by simp only[ef,iU,mu,mw,my,mz,mB,o6,kR,rH,qq];rfl) ?_;.rw[XI];exact XK bV rfl rfl rfl rfl rfl rfl rfl (.cons rfl (.cons rfl (.cons (e_ rfl) (.cons (kh rfl) .nil))))
 .show aH (cf _ (.tup [.ref 23,.ref 21]) _ (jP [] none none M t (aK J) _)) _;exact dH arl hk
theorem arq(Z:AO c P ae)(bV:∀f,ba f af=af)(ho:os.length<=900)(hl:ss.length<=900)(hs:(ay ss)[0]?=some (.int p))(hb:n<=5000)(hr:mI [] os n ⟨[],0,[],0,p⟩ r e)(he:e.aB.length<=9000)(hk:k (.ok .next) (fu P []) (dB P M t (aK J) (bL va) (eN r e) (ao po) (aK st) [])):bb c 310 none 5 (bQ P BM) (jP [] (some (.ref 21)) none M t (aK J) (n9 af (aO pl)++(rR (ao os) (ay ss)++yH (ao po) (aK st) (bL va)))) (eO P 8) k:=by
 refine TX.pickK ai (TX.ask (n:=150) Z ?_);rw[ap8];have q:∀cs f,f 2=16->f 3=17->f 4=18->iM f (jP cs (some (.ref 21)) none M t (aK J) (n9 af (aO pl)++(rR (ao os) (ay ss)++yH (ao po) (aK st) (bL va)++[.list []]))) [0,15,16,17,18,24] (n6 cs (ao os) (ay ss) (bL [])):=λcs f h2 h3 h4=>.cons rfl (.cons (by show _=some (MO.inst 343 (f 2));rw[h2];rfl) (.cons (by show _=some (MO.aV [(_,V.ref (f 3)),(_,V.ref (f 4))]);rw[h3,h4];rfl) (.cons (e_ rfl) (.cons (kh rfl) (.cons rfl .nil)))));refine TC.Mj (n:=211) (n':=306) (N:=25) (js:=[0,15,16,17,18,24]) (u:=jP [] (some (.ref 21)) none M t (aK J) (n9 af (aO pl)++(rR (ao os) (ay ss)++yH (ao po) (aK st) (bL va)++[.list []]))) (a7:=n6 [] (ao os) (ay ss) (bL [])) (aD:=n6 (mJ P) (ao os) (ay ss) (bL [])) (aM:=jP (mJ P) (some (.ref 21)) none M t (aK J) (n9 af (aO pl)++(rR (ao os) (ay ss)++yH (ao po) (aK st) (bL va)++[.list []]))) (gx:=[.ref 1,.ref 5]) (cT:=.ref 7) (v:=.ref 26) (nw:=[.cell (some (.ref 7)),.list (eN r e)]) (nw':=[.cell (some (.ref 26)),.list (eN r e)]) (.eK (q _ _ rfl rfl rfl) ai) ⟨.eK (q _ _ rfl rfl rfl) ai,rfl,λi hi=>?_⟩ rfl rfl rfl rfl (λk h=>Xk (vals:=[]) Z (.inl rfl) (λf=>qm f ss) ai ho (by rw[kg];exact hl) hs hb hr he h) ai rfl ?_ ?_;.cases i with|zero=>exact absurd (.head _) hi|succ i=>rfl
 .show[MO.cell (some (.ref 26)),MO.list (ba _ (eN r e))]=_;rw[yB]
 .show aH (fN _ (jP (mJ P) (some (.ref 21)) none M t (aK J) _) "due" (.ref 26)) _;refine dH arn ?_;refine Bz (N:=27) (js:=[0,1,2,3,4,5,6,21,26,23,22,19,20]) (.eK ?_ ai) rfl rfl BO "code" (.ref 9) rfl hk;exact .cons rfl (.cons rfl (.cons rfl (.cons rfl (.cons rfl (.cons rfl (.cons (o5 rfl) (.cons (iQ (qq _ _) rfl) (.cons (iQ (yB _) rfl) (.cons rfl (.cons rfl (.cons (e_ rfl) (.cons (o5 rfl) .nil))))))))))))
end
noncomputable def n_(l:List (Int×Nat)):List Int:=(l.filter λe=>decide (e.1<0)).map λe=>(e.2:Int)
theorem ars l e:n_ (l++[e])=if e.1<0 then n_ l++[(e.2:Int)]else n_ l:=by
 unfold n_;rw[List.filter_append,cH];by_cases h:e.1<0;.rw[if_pos h,show[e].filter (λe=>decide (e.1<0))=[e]by rw[Oe,if_pos (decide_eq_true h)];rfl];rfl
 .rw[if_neg h,show[e].filter (λe=>decide (e.1<0))=[]by rw[Oe,if_neg (λq=>h (of_decide_eq_true q))];rfl,iU,cG]
theorem art l:(n_ l).length<=l.length:=by unfold n_;rw[bw];exact N0 _ _
structure BR(l:List V)(x:Str):Prop where h:∃xs,l_ l=some xs/\uP (.list xs)=some x
theorem XM(e:u[i]?=some (.list l))(h:BR l x)(hk:k (.ok (.str x)) u):gT (lx none "repr" [.ref i] u) k:=by
 obtain⟨xs,h1,h2⟩:=h.h;have :lx none "repr" [.ref i] u=some (.ok (V.str x),u):=by show(aU u[i]? (λm=>m.lu (DX .list) none) none).map _=_;rw[e];show(aU (l_ l) (λxs=>aU (uP (.list xs)) (λx=>some (V.str x)) none) none).map _=_;rw[h1];show(aU (uP (.list xs)) (λx=>some (V.str x)) none).map _=_;rw[h2];rfl
 rw[this];exact hk
section
variable{st:List Int}
abbrev sA(P:aL)(M:Nat)(t:Int)(J:List V)(va:List KV)(aB:List V)(po:List Od)(st:List Int)(aA:List MO):List MO:=dB P M t J (bL va) aB (ao po) (aK st) aA
theorem XN l x:aK (l++[x])=aK l++[.int x]:=cH
theorem aru(Z:AO c P ae)(hs:st.length<=900)(hk:k (.ok .next) (rP P) (sA P M t J va aB po st [.list (aK (n_ st.zipIdx))])):bb c 310 none 5 (fu P []) (sA P M t J va aB po st []) (eO P 9) k:=by
 refine TX.ask (n:=150) Z ?_;rw[ap9,qp];have :=rF (ev:=(aC c P ae 149).e) (tv:=(aC c P ae 149).t) (tgt:=(n8 P).2.1) (ifs:=(n8 P).2.2.2.1) (elt:=(n8 P).1) (sc:=(n8 P).2.2.2.2) (cl:=[]) (src:=.enum 12) (acc:=13) (k:=bx (fu P []) k λv u=>k (.ok .next) (fu P [("left",v)]) u) st.zipIdx (λe=>V.tup [.int e.2,.int e.1]) (λj=>sA P M t J va aB po st [.list (aK (n_ (st.zipIdx.take j)))]) (λj=>?_) (λj hj f hf=>?_) (by rw[eV];exact hk) st.length 0 (by rw[wu,eu]);.exact this
 .show some ((aK st)[j]?.map λv=>V.tup [.int j,v])=_;rw[LZ,List.getElem?_zipIdx,uC,uC,eu];rfl
 .rw[ap_];rw[jf hj,ars]at hf;have hl:(aK (n_ (st.zipIdx.take j))).length<1000000:=by rw[qp];have :=art (st.zipIdx.take j);rw[iT,wu]at this;omega
  by_cases h:(st.zipIdx)[j].1<0;.rw[if_pos h,XN]at hf;rw[if_pos (decide_eq_true h)];exact bz hl hf
  .rw[if_neg h]at hf;rw[if_neg λq=>h (of_decide_eq_true q)];exact hf
theorem arv(Z:AO c P ae)(rS:∀f,ba f J=J)(hv:va.length<=900)(ho:po.length<=900)(hl:st.length<=900)(hs:(aK st)[0]?=some (.int p))(hb:n<=5000)(hr:mI va po n ⟨[],0,[],0,p⟩ r e)(he:e.aB.length<=9000)(hx:BR (eN r e) x)(BS:∀i,i∈left->j5 (.int i) (eN r e)=some false)(hk:k (.ok .next) (fu P []) (sA P M t J va (eN r e) po st [])):Ts c 310 none 5 (rP P) (sA P M t J va (eN r e) po st [.list (aK left)]) (t6 P) k:=by
 refine TX.pickK ai (TX.BA (n:=150) Z ap' ?_);rw[aqb];refine TC.at' (n:=211) (n':=302) (N:=14) (js:=[0,9,10,11,12,7]) (u:=sA P M t J va (eN r e) po st [.list (aK left)]) (a7:=n6 (mJ P) (ao po) (aK st) (bL va)) (gx:=[.ref 1,.ref 5]) (cT:=.ref 7) (v:=.ref 15) (nw:=[.cell (some (.ref 7)),.list (eN r e)]) (nw':=[.cell (some (.ref 15)),.list (eN r e)]) (.eK (.cons rfl (.cons rfl (.cons rfl (.cons (e_ rfl) (.cons (o5 rfl) (.cons (iQ (qq _ _) rfl) .nil)))))) ai) rfl rfl rfl rfl (λk h=>Xk Z (.inr rfl) (λf=>rH f st) hv ho (by rw[qp];exact hl) hs hb hr he h) ai rfl ?_ ?_;.show[MO.cell (some (.ref 15)),MO.list (ba _ (eN r e))]=_;rw[yB]
 .refine XM (l:=eN r e) rfl hx ?_;show(aC c P ae 148).e (rO (Mg P)) (rP P) (t8 P M t J (bL va) (eN r e) (ao po) (aK st) (aK left) (eN r e) []) _;rw[aqc];refine XM (l:=eN r e) rfl hx ?_;have hc:∀u,cmp .NotEq (.str x) (.str x) u=some false:=λu=>by show some (!(x==x))=_;rw[beq_self_eq_true];rfl
  refine FK (dH (hc _) ?_);show(aC c P ae 149).t (Gk P) (rP P) (t8 P M t J (bL va) (eN r e) (ao po) (aK st) (aK left) (eN r e) []) _;rw[aqd,qp];refine rF (src:=.list 13) left V.int (λj=>t8 P M t J (bL va) (eN r e) (ao po) (aK st) (aK left) (eN r e) [.list []]) (λj=>congrArg some (LZ (J:=left) j)) (λj hj f hf=>?_) ?_ left.length 0 (eu _);.rw[aqe,BS _ (oz hj)];exact hf
  .show bb c 310 none 5 _ _ (mE (t6 P)) _;rw[aqa];refine TX.nil ?_;refine Bz (N:=18) (js:=[0,1,2,3,4,5,6,7,8,9,10,11,12]) (.eK ?_ ai) rfl rfl BO "code" (.ref 9) rfl hk;exact .cons rfl (.cons rfl (.cons rfl (.cons rfl (.cons rfl (.cons rfl (.cons (iQ (rS _) rfl) (.cons (iQ (qq _ _) rfl) (.cons (iQ (yB _) rfl) (.cons rfl (.cons rfl (.cons (e_ rfl) (.cons (o5 rfl) .nil))))))))))))
end
noncomputable def lO(po:List Od)(p:Nat):List Od:=(po.drop (p-2)).take (p-(p-2))
noncomputable def mQ(va:List KV)(o:Od):List KV:=match o with|.kept i=>va[i.toNat]?.toList|_=>[]
def pj(va:List KV)(l:List Od):List KV:=l.flatMap (mQ va)
structure Gn(va:List KV)(po:List Od):Prop where
 kept:∀i,Od.kept i∈po->0<=i/\i<va.length
 two:∀p op,po[p]?=some (.two op)->∀x y,pj va (lO po p)=[x,y]->(i8 x==i8 y)=false
 one:∀(p:Nat)o,po[p]?=some o->t_ o=true->∃l x,lO po p=l++[x]/\kl x=false
 push:∀o,o∈po->nW o=false
 go:∀o,o∈po->∀q,fX o=some q->0<=q/\∃o',po[q.toNat]?=some o'/\oY o'=false
section
variable{st:List Int}{p:Nat}{o:Od}
theorem Mn:(lO po p).length<=2:=by unfold lO;rw[iT];exact aam
theorem arw:(mQ va o).length<=1:=by cases o with
 |kept i=>show(va[i.toNat]?.toList).length<=1;cases va[i.toNat]? with|none=>exact dC _|some v=>exact br _
 |_=>exact dC _
theorem XO l:(pj va l).length<=l.length:=by unfold pj;induction l with|nil=>exact br _|cons o r ih=>rw[uv,aX,eU];have :=arw (va:=va) (o:=o);exact ax (ou this ih) (bo (dZ _ _))
theorem arx(h:po.length<=900):cut (ao po) (.int (mx p)) (.int p)=some (ao (lO po p)):=by
 have e1:mx p=((p-2:Nat):Int):=by unfold mx;split<;>omega
 have e2:(p:Int)=((p-2:Nat):Int)+((p-(p-2):Nat):Int):=aan;rw[e1];conv=>lhs;arg 3;arg 1;rw[e2]
 rw[Xz (by rw[dO];exact h)];unfold lO ao;rw[zo,Oo]
abbrev sB(P:aL)(M:Nat)(t:Int)(J:List V)(va:List KV)(aB:List V)(po:List Od)(st:List Int)(ah:List Od)(kn:List KV):List MO:=hH P M t J (bL va) aB (ao po) (aK st) (ao ah) (bL kn)
theorem ary{k:KX}(Z:AO c P ae)(avi:ah.length<=900)(hv:va.length<=900)(arz:∀i,Od.kept i∈ah->0<=i/\i<va.length)(hk:k (.ok .next) (mM P p v) (sB P M t J va aB po st ah (pj va ah))):(aC c P ae 150).x (BN P 1) (fu P (vJ p v [("ahead",.ref 13)])) (dB P M t J (bL va) aB (ao po) (aK st) [.list (ao ah)]) k:=by
 rw[aqk,dO];refine rF (src:=.list 13) ah Od.v (λj=>sB P M t J va aB po st ah (pj va (ah.take j))) (λj=>congrArg some (qh ah j)) (λj hj f hf=>?_) (by rw[eV];exact hk) ah.length 0 (eu _);rw[aqm];have hm:=oz hj;have e:pj va (ah.take (j+1))=pj va (ah.take j)++mQ va ah[j]:=by unfold pj;rw[jf hj,wt,uv,HG,cG]
 rw[e]at hf;have hl:(bL (pj va (ah.take j))).length<1000000:=by rw[o7];have :=XO (va:=va) (ah.take j);rw[iT]at this;omega
 generalize ah[j]=o at hm hf;cases o with
 |kept i=>
  obtain⟨h0,h1⟩:=arz i hm;have h2:i.toNat<va.length:=((C9 h0).mpr h1);have ha:df (bL va) i=some (dw va[i.toNat]):=by rw[nK h0 (by rw[o7];exact h1) (by rw[o7];exact ax hv ai)];unfold bL;rw[cQ,cp h2];rfl
  show aH (df (bL va) i) _;rw[ha];refine dH rfl (bz hl ?_);have e2:mQ va (.kept i)=[va[i.toNat]]:=by unfold mQ;dsimp only;rw[cp h2];rfl
  rw[e2]at hf;unfold sB at hf;rw[BC]at hf;exact hf|_=>have e2:∀l:List KV,l++[]=l:=cG;unfold mQ at hf;dsimp only at hf;rw[e2]at hf;exact hf
theorem Mo(Z:AO c P ae)(hS:rI S)(hO:mE S=[])(ht:∀K:KT Bool,K (.ok false) u->(aC c P ae 150).t (iO S) Y u K)(hk:k (.ok .next) Y u):Ts c 310 none m Y u S k:=by refine TX.BA (n:=150) Z hS (ht _ ?_);show bb c 310 none m Y u (mE S) k;rw[hO];exact TX.nil hk
theorem arA{K:KT Bool}(hl:kn.length<=2)(ht:∀op,o=.two op->∀x y,kn=[x,y]->(i8 x==i8 y)=false)(h:K (.ok false) (sB P M t J va aB po st ah kn)):(aC c P ae 150).t (iO (gE P 2)) (mM P p o.v) (sB P M t J va aB po st ah kn) K:=by
 cases o with
 |two op=>
  rcases kn with _|⟨x,_|⟨y,_|⟨z,r⟩⟩⟩;.exact du aqv h
  .exact du (aqw (dw x)) h
  .refine du (aqx x y) ?_;rw[ht op rfl x y rfl];exact h
  .exact absurd hl PM|_=>exact du (aqu rfl) h
theorem arB{K:KT Bool}(hl:ah.length<=2)(hn:nW o=false)(h1:t_ o=true->∃l x,ah=l++[x]/\kl x=false)(h:K (.ok false) (sB P M t J va aB po st ah kn)):(aC c P ae 150).t (iO (gE P 3)) (mM P p o.v) (sB P M t J va aB po st ah kn) K:=by cases h2:t_ o with|false=>refine du (aqy h2) ?_;rw[hn];exact h|true=>
 obtain⟨l,x,e,hx⟩:=h1 h2;rw[e]at h hl⊢;clear h1 hn e;rcases l with _|⟨y,_|⟨z,r⟩⟩;.refine du (aqz h2 x) ?_;rw[hx];exact h
 .refine du (aqA h2 y.v x) ?_;rw[hx];exact h
 .rw[aX]at hl;exact absurd hl PM
theorem arC{K:KT Bool}(ho:po.length<=900)(hg:∀q,fX o=some q->0<=q/\∃o',po[q.toNat]?=some o'/\oY o'=false)(h:K (.ok false) (sB P M t J va aB po st ah kn)):(aC c P ae 150).t (iO (gE P 4)) (mM P p o.v) (sB P M t J va aB po st ah kn) K:=by rw[aqC];cases o with
 |go q|bf q=>obtain⟨h0,o',h1,h2⟩:=hg q rfl;show aH (df (ao po) q) _;rw[vn h0 h1 (ax ho ai)];clear h1 hg;cases o' with|go=>exact bZ h2.symm|_=>exact h
 |_=>exact h
theorem arD(Z:AO c P ae)(rS:∀f,ba f J=J)(Mp:∀f,ba f aB=aB)(hp:po[p]?=some o)(ho:po.length<=900)(hv:va.length<=900)(C:Gn va po)(hk:k (.ok .next) (fu P []) (sA P M t J va aB po st [])):bb c 310 none 13 (fu P [("place",.int p),("order",o.v)]) (sA P M t J va aB po st []) (Gl P) k:=by
 have XQ:=ez hp;refine TX.pickK ai ?_;rw[aqi];refine TX.app ?_;refine TX.ask (n:=150) Z ?_;rw[aqj,arx ho];refine dH rfl ?_;refine TX.app ?_;refine TX.ask (n:=150) Z ?_;refine ary Z (ax Mn ai) hv (λi hi=>C.kept i (List.mem_of_mem_drop (N3 hi))) ?_;have fin:cM 13 k (.ok .next) (mM P p o.v) (sB P M t J va aB po st (lO po p) (pj va (lO po p))):=by refine Bz (N:=15) (js:=[0,1,2,3,4,5,6,7,8,9,10,11,12]) (.eK ?_ ai) rfl rfl (λx i e=>cw (BO x i e) ai) "code" (.ref 9) rfl hk;exact .cons rfl (.cons rfl (.cons rfl (.cons rfl (.cons rfl (.cons rfl (.cons (iQ (rS _) rfl) (.cons (iQ (qq _ _) rfl) (.cons (iQ (Mp _) rfl) (.cons rfl (.cons rfl (.cons (e_ rfl) (.cons (o5 rfl) .nil))))))))))))
 refine TX.cons (Mo Z aqn aqq (λK h=>arA (ax (XO (va:=va) (lO po p)) Mn) (λop e=>C.two p op (e▸hp)) h) ?_);refine TX.cons (Mo Z aqo aqr (λK h=>arB Mn (C.push o XQ) (C.one p o hp) h) ?_);exact TX.cons (Mo Z aqp aqs (λK h=>arC ho (C.go o XQ) h) (TX.nil fin))
end
noncomputable def BU(o:Od):List Int:=match o with|.kept i=>[i]|_=>[]
def di(l:List Od):List Int:=l.flatMap BU
structure Mq(va:List KV):Prop where h:∃rp:KV->Str,(∀v,v∈va->∀u,lx none "repr" [dw v] u=some (.ok (.str (rp v)),u))/\(dW (va.map rp)).length=va.length
section
variable{st:List Int}
theorem arE(Z:AO c P ae)(rS:∀f,ba f J=J)(Mp:∀f,ba f aB=aB)(ho:po.length<=900)(hv:va.length<=900)(C:Gn va po)(hk:k (.ok .next) (fu P []) (sA P M t J va aB po st [])):Ts c 310 none 5 (fu P []) (sA P M t J va aB po st []) (sO P 694 11) k:=by
 refine TX.low (show 5<=13 by decide) (TX.d2 (n:=150) Z aqf po (λ(j:Nat)(o:Od)=>V.tup [.int j,o.v]) (λ_=>sA P M t J va aB po st []) (src:=.enum 11) (show 11<13 by decide) ak aqg (λj b=>?_) (λj a h=>?_) hk);.show some (((ao po)[j]?).map λv=>V.tup [.int j,v])=_;rw[qh,uC];rfl
 .rw[aqh];exact arD Z rS Mp h ho hv C ⟨⟨rfl,rfl,rfl⟩,λ_ _ e=>e,rfl⟩
theorem arF l o:di (l++[o])=di l++BU o:=by unfold di;rw[wt,uv,HG,cG]
theorem XR l:(di l).length<=l.length:=by unfold di;induction l with|nil=>exact br _|cons o r ih=>
 rw[uv,aX,eU];have :(BU o).length<=1:=by cases o<;>first|exact br _|exact dC _
 omega
theorem arG(Z:AO c P ae)(ho:po.length<=900)(hk:k (.ok .next) (k8 P) (sA P M t J va aB po st [.list (aK (di po))])):bb c 310 none 5 (fu P []) (sA P M t J va aB po st []) (eO P 12) k:=by
 refine TX.ask (n:=150) Z ?_;rw[aqD,dO];refine rF (src:=.list 11) po Od.v (λj=>sA P M t J va aB po st [.list (aK (di (po.take j)))]) (λj=>congrArg some (qh po j)) (λj hj f hf=>?_) (by rw[eV];exact hk) po.length 0 (eu _);rw[aqF];rw[jf hj,arF]at hf;have hl:(aK (di (po.take j))).length<1000000:=by rw[qp];have :=XR (po.take j);rw[iT]at this;omega
 generalize po[j]=o at hf;cases o with|kept i=>refine bz hl ?_;rw[show di (po.take j)++BU (.kept i)=di (po.take j)++[i]from rfl,XN]at hf;exact hf|_=>unfold BU at hf;dsimp only at hf;rw[cG]at hf;exact hf
theorem arH l:qZ (aK l)=some l:=by induction l with|nil=>rfl|cons x r ih=>show(qZ (aK r)).map (x::·)=_;rw[ih];rfl
theorem arI l:oJ (l.map V.str)=some l:=by induction l with|nil=>rfl|cons x r ih=>show(oJ (r.map V.str)).map (x::·)=_;rw[ih];rfl
theorem arJ l:uK (aK l) (aK l)=some true:=by induction l with|nil=>rfl|cons x r ih=>show(uK (aK r) (aK r)).map (λb=>(x==x)&&b)=_;rw[ih,beq_self_eq_true];rfl
theorem Tr.up{t:Env->Sem β}{k:KT α}(h:Tr c n hd Y u Rel t k)(hl:n<=n'):Tr c n' hd Y u Rel t k:=by obtain⟨d,rfl⟩:=PF hl;induction d with|zero=>exact h|succ d ih=>exact Tr.le (ih (cy _ _))
theorem arK{K:KT V}{aA:List MO}(hs:oK ns=true)(hk:K (.ok (.ref 14)) (sA P M t J va aB po st [.list (aK ns),.list (aK (eC ns))])):(aC c P ae 60).e (tZ (qx P)) (k8 P) (sA P M t J va aB po st [.list (aK ns)]) K:=by rw[aqN,arH];exact dH rfl (bz hs hk)
theorem arL{K:KT V}(hg:-1000000<n/\n<1000000)(hk:K (.ok (.ref u.length)) (u++[.list ((cA n.toNat).map λ(k:Nat)=>V.int k)])):bh K (λv u=>ij v λn=>gd (-1000000<n/\n<1000000) (K (.ok (.ref u.length)) (u++[.list ((cA n.toNat).map λ(k:Nat)=>V.int k)]))) (.ok (.int n)) u:=bz hg hk
theorem arM{x:pN α}(e:x=some (.ok v,u))(h:k (.ok v) u):gT x k:=by rw[e];exact h
theorem arN{K:KT V}(e:u[i]?=some (.list l))(hs:oJ l=some xs)(hl:xs.length<1000)(hk:K (.ok (.int (dW xs).length)) u):stK K (.ok (.ref i)) u:=tV (f:=λl=>aH (oJ l) λxs=>gd (xs.length<1000) (K (.ok (.int (dW xs).length)) u)) e (dH hs (bz hl hk))
theorem arO j:sV 0 j 1=(j.toNat:Nat):=by unfold sV;simp only[OE];split<;>(try split)<;>omega
theorem Te.arP(SG:fg c S)(H:bp c n none ev){fp gp q p:Pos}{e:aq}(hs:dk e=false)(h1:ib (eI S Y u "list") (.type "list")=true)(h2:ib (eI S Y u "range") (.type "range")=true)(h:ev e Y u (bh k λv u=>ij v λn=>gd (-1000000<n/\n<1000000) (k (.ok (.ref u.length)) (u++[.list ((cA n.toNat).map λ(k:Nat)=>V.int k)])))):Te c n none Y u (.Call (.Name "list" fp) [.Call (.Name "range" gp) [e] [] q] [] p) k:=λgg z O=>by refine K0 SG H hs (by decide+kernel) (by decide+kernel) h1 h2 (λ_=>uX) (λ_=>uX) O h λv aD au q N aI kv az=>ru az kv λj tk az=>?_;obtain⟨hj,az⟩:=aZ az;refine call_range_1 (call_list_range (n:=j.toNat) aI.hh (PD _ _ _ _ _ _ _) (UX hj) (arO j) (aao hj) λh' gq Au c' kp hS hit=>?_);have y:=JV (tk:=gq) (l:=(cA j.toNat).map λ(k:Nat)=>V.int k) (items:=Au) aI.push.R kp (zq (br _)) hS (aQ.aem hit λi v hv=>by obtain⟨t',e⟩:=hv;rw[e,show(0:Int)+i*1=i from aap];exact .int _ _);exact(y.post (z:=⟨{au.s with heap:=au.s.heap.push _},au.al,au.fs⟩) az).gK (N.trans .push)
theorem arQ{K:KT V}(Z:AO c P ae)(hv:va.length<=900)(hk:K (.ok (.ref (sA P M t J va aB po st aA).length)) (sA P M t J va aB po st aA++[.list ((cA va.length).map λ(k:Nat)=>V.int k)])):Te c 310 none (k8 P) (sA P M t J va aB po st aA) (yE P) K:=by rw[aqO];refine Te.arP Z.G (ev:=λe Y u k=>Te c 310 none Y u e k) ke.sn aqP Xp.1 Xp.2 ?_;have hg:-1000000<((va.length:Nat):Int)/\((va.length:Nat):Int)<1000000:=(⟨sT ai (dK _),eX.mpr (bD hv ai)⟩);refine Tr.up ((aC.sn Z 60).e _ _ _ _ ?_) ai;rw[aqQ,o7];rw[Bs (o_ (show va.length<=1000 from(ax hv ai)))];have hT:((va.length:Nat):Int).toNat=va.length:=fU _;rw[<-hT]at hk;generalize((va.length:Nat):Int)=L at hg hk⊢;exact arL hg hk
theorem arR{K:KT V}(hv:va.length<=900)(hr:∀v,v∈va->∀u,lx none "repr" [dw v] u=some (.ok (.str (rp v)),u))(hk:K (.ok (.int (dW (va.map rp)).length)) (sA P M t J va aB po st [.list l1,.list l2,.list l3,.list ((va.map rp).map V.str)])):(aC c P ae 60).e (tZ (pg P)) (k8 P) (sA P M t J va aB po st [.list l1,.list l2,.list l3]) K:=by
 rw[aqR,o7];refine rF (src:=.list 7) va dw (λj=>sA P M t J va aB po st [.list l1,.list l2,.list l3,.list (((va.take j).map rp).map V.str)]) (λj=>?_) (λj hj f hf=>?_) ?_ va.length 0 (eu _);.exact congrArg some (cQ ..)
 .rw[aqS];refine arM (hr _ (oz hj) _) (Xv (tV (l:=((va.take j).map rp).map V.str) rfl (bz (by rw[bw,bw,iT];exact bD (pA _ _) (bD hv ai)) ?_)));rw[jf hj,cH,cH]at hf;exact hf
 .rw[eV];exact arN (l:=(va.map rp).map V.str) rfl (arI _) (by rw[bw];exact bD hv ai) hk
theorem arS(Z:AO c P ae)(hv:va.length<=900)(hs:oK (di po)=true)(hf:eC (di po)=(cA va.length).map λ(k:Nat)=>(k:Int))(R:Mq va)(hk:∀u cs,u[0]?=some (.tab cs)->kk (.ok (.bool true)) u):bb c 310 none 5 (k8 P) (sA P M t J va aB po st [.list (aK (di po))]) ((bO P 694).drop 13) (ik kk):=by
 obtain⟨rp,arT,arU⟩:=R.h;rw[aqH];refine TX.cons (TX.ret (ev:=λe Y u k=>Te c 310 none Y u e k) ke.sn ?_);show Te c 310 none (k8 P) _ (yD P) _;rw[aqI];refine TQ (ev:=λe Y u k=>Te c 310 none Y u e k) ke.sn .And _ _ _ _ ?_;show Te c 310 none (k8 P) _ (qx P) _;rw[aqJ];refine Te.cmp (n:=309) (E:=⟨λe Y u k=>Te c 310 none Y u e k,λe Y u k=>Tt c 310 none Y u e k,λ_ _ _ _=>False,λ_ _ _ _=>False⟩) Z.O ke.sn aqL ?_;refine Tr.up ((aC.sn Z 60).e _ _ _ _ ?_) ai;refine arK (aA:=[]) hs ?_;show Te c 310 none (k8 P) (sA P M t J va aB po st [.list (aK (di po)),.list (aK (eC (di po)))]) (yE P) _;refine arQ Z hv ?_;have e1:(cA va.length).map (λ(k:Nat)=>V.int k)=aK (eC (di po)):=by rw[hf];unfold aK;rw[jh];rfl
 rw[e1];have c1:cmp .Eq (.ref 14) (.ref 15) (sA P M t J va aB po st [.list (aK (di po)),.list (aK (eC (di po))),.list (aK (eC (di po)))])=some true:=by show(if(aK (eC (di po))).length=(aK (eC (di po))).length then uK (aK (eC (di po))) (aK (eC (di po)))else some false)=_;rw[if_pos rfl,arJ]
 refine FK (dH c1 ?_);show Te c 310 none (k8 P) (sA P M t J va aB po st [.list (aK (di po)),.list (aK (eC (di po))),.list (aK (eC (di po)))]) (pg P) _;rw[aqK];refine Te.cmp (n:=309) (E:=⟨λe Y u k=>Te c 310 none Y u e k,λe Y u k=>Tt c 310 none Y u e k,λ_ _ _ _=>False,λ_ _ _ _=>False⟩) Z.O ke.sn aqM ?_;refine Tr.up ((aC.sn Z 60).e _ _ _ _ ?_) ai;refine arR hv arT ?_;rw[arU];refine Tr.up ((aC.sn Z 60).e _ _ _ _ ?_) ai;rw[aqT,o7];refine bz (o_ (by omega)) ?_;have c2:∀u:List MO,cmp .Eq (.int (va.length:Nat)) (.int (va.length:Nat)) u=some true:=λu=>by show some (((va.length:Nat):Int)==(va.length:Nat))=_;rw[beq_self_eq_true]
 refine FK (dH (c2 _) ?_);exact hk _ (mJ P) rfl
end
def MF(J:List Int):Nat:=2+dq J 0 6
def rT(J:List Int):List aS:=(i' J (MF J) (MF J)).1
def LF(J:List Int):gZ:=ky J (rT J) (MF J) (MF J) 0 (i' J (MF J) (MF J)).2
def lP(J:List Int):FB:=dY (ix (LF J))
inductive arV(pl:List (Int×Nat))(os:List Od)(ss:List Nat)(po:List Od)(st:List Int)(va:List KV):Prop|mk(jM:FS)(iu:List Od)(ju:List Nat)(jN:KS)(gy:List Od)(dg:List Nat)(th:Od->Od)(gY:List Od)(lf:List Bool)(fQ:DS)(cR:List Od)(I:yt pl os ss jM iu ju jN gy dg th gY lf fQ cR)(h1:po=(gb cR).fo)(h2:st=gX lf fQ.le dg dg.length)(h3:va=(gb cR).va)
inductive XS(os:List Od)(ss:List Nat)(po:List Od)(st:List Int)(va:List KV):Prop|mk(p p':Int)(n n':Nat)(r:Bool)(e e':MS)(x:Str)(a1:(ay ss)[0]?=some (.int p))(a2:n<=5000)(a3:mI [] os n ⟨[],0,[],0,p⟩ r e)(b1:(aK st)[0]?=some (.int p'))(b2:n'<=5000)(b3:mI va po n' ⟨[],0,[],0,p'⟩ r e')(ht:e'.aB=e.aB)(hle:e.aB.length<=9000)(hx:BR (eN r e) x)(BS:∀i,i∈n_ st.zipIdx->j5 (.int i) (eN r e)=some false)
structure XT(pl:List (Int×Nat))(os:List Od)(ss:List Nat)(po:List Od)(st:List Int)(va:List KV):Prop where
 I:arV pl os ss po st va
 v:va.length<=900
 o:po.length<=900
 s:st.length<=900
 R:XS os ss po st va
 C:Gn va po
 k:oK (di po)=true/\eC (di po)=(cA va.length).map λ(k:Nat)=>(k:Int)p:Mq va
structure Mr(J:List Int):Prop where
 n:1<=(LF J).length/\(LF J).length<=7
 e:∀e,e∈LF J->e.2≠[]c:((LF J).flatMap (·.2)).length<=800
 x:∃(last:Nat)(po:List Od)(st:List Int)(va:List KV),Mm (lP J).rw (lP J).pl (lP J).ks last/\XT (lP J).pl (vN (lP J).ks last) (vO (lP J).ks last) po st va
theorem arW(h:e'.aB=e.aB):eN r e'=eN r e:=by cases r with|true=>exact congrArg gD h|false=>exact congrArg (λl=>gD l++[V.tup [.str "error",.str "TM"]]) h
def arX(c:aR)(a:aj):Prop:=TC c 311 none (.st (.ref 694)) [.st (.ref a)] [.tab []] λr u=>r=.ok (.bool true)/\∃cs,u[0]?=some (.tab cs)
theorem arY(Z:AO c P ae)(hl:ae a=some (aK ns))(ic:ns.length<=63)(D:Mr (mO ns)):arX c a:=by
 obtain⟨last,po,st,va,C,K⟩:=D.x;obtain⟨jM,iu,ju,jN,gy,dg,th,gY,lf,fQ,cR,I,rfl,rfl,rfl⟩:=K.I;obtain⟨p,p',n,n',r,e,e',x,a1,a2,a3,b1,b2,b3,ht,hle,hx,BS⟩:=K.R;have rS:(mO ns).length<=900:=by unfold mO;rw[Xu,iT];exact ax (M8 _ _) ai
 have hM:MF (mO ns)<=100:=by unfold MF;exact ax (k_ (fJ (mH (mO ns) 0 (L:=6) ai)) 2) ai
 have BP:0<MF (mO ns):=by unfold MF;exact cw ai (cy _ _)
 have gB:(rT (mO ns)).length<=900:=by unfold rT;rw[yF];exact ax hM ai
 refine TC.fn Z apO apP ?_;show bb c 310 none 1 _ _ _ _;refine TX.low (show 1<=5 by decide) ?_;rw[apQ];refine TX.app (aqX Z hl ic ?_);refine TX.app (aqZ Z rS ?_);refine TX.app (aq3 (M:=MF (mO ns)) Z rS hM ?_);refine aq_ (ks:=rT (mO ns)) Z rS (Xw _) hM BP gB λq t s=>?_;refine TX.app (ark (L:=LF (mO ns)) Z D.n D.e D.c ?_);refine TX.app (aro Z C ?_);refine TX.app (arp Z C.rn (C.len.trans (F4 _ _ _).symm) I ?_);refine TX.app (arq Z C.rn I.n0 I.m0 a1 a2 a3 hle ?_);refine TX.app (aru Z K.s ?_);rw[<-arW ht]at hx BS⊢;refine TX.cons (arv Z (λf=>rH f _) K.v K.o K.s b1 b2 b3 (by rw[ht];exact hle) hx BS ?_);refine TX.cons (arE Z (λf=>rH f _) (λf=>yB f) K.o K.v K.C ?_);refine TX.app (arG Z K.o ?_);exact arS Z K.v K.k.1 K.k.2 K.p λu cs h=>⟨rfl,cs,h⟩
noncomputable def qz:List Ex:=[.t0 0,.t0 1,.t0 2,.t0 3,.t1 0,.t1 1,.t1 2,.t1 3,.mF,.neg 0,.neg 1,.neg 2,.neg 3,.t4 0,.t4 1,.t4 2,.t4 3,.t5 0,.t5 1,.t5 2,.t5 3]
noncomputable def rU:List Ex:=[.tb 0,.tb 1,.tn 0,.tn 1,.tn 2,.tn 3,.tn 4]
def mR(M j:Nat)(k:aS):Prop:=match k with|.lt _ e=>e∈qz/\j<M|.cU e g=>e∈rU/\(j:Int)<g/\g<=M|.jmp g=>(j:Int)<g/\g<=M|.rem _=>True|.jv=>j<M
theorem arZ(hf:f<6)(hn:n<4):BF f n∈qz:=by
 have :∀(f:Fin 6)(n:Fin 4),BF f.val n.val∈qz:=by unfold qz;decide
 exact this ⟨f,hf⟩ ⟨n,hn⟩
theorem ar0 J t{j M:Nat}(h:j<M):mR M j (n5 J t j M).1:=by
 have h1:=mH J (t+1) (L:=M-j) (pw h);have tr:∀t,yx J t∈qz:=λt=>arZ (mH J t ai) (mH J (t+1) ai);have g1:(j:Int)<(j:Int)+1+(dq J (t+1) (M-j):Nat):=sT (Int.lt_succ _) (Int.le_add_of_nonneg_right (dK _));have g2:((j+1+dq J (t+1) (M-j):Nat):Int)<=M:=gI.mpr (lT j _ 1▸dZ _ j▸Nat.add_lt_of_lt_sub h1);rw[uy,uy]at g2;have b2:=mH J (t+1+1) (L:=2) ai;have b7:=mH J t (L:=7) ai;have b5:=mH J (t+1+1) (L:=5) ai;unfold n5;dsimp only;generalize(j:Int)+1+(dq J (t+1) (M-j):Nat)=g at g1 g2⊢;generalize dq J (t+1+1) 2=x at b2⊢;generalize dq J (t+1+1) 5=y at b5⊢;generalize dq J t 7=f at b7⊢;refine F6 b7 ?_ ?_ ?_ ?_ ?_ ?_ ?_;.exact⟨tr _,h⟩
 .exact⟨tr _,h⟩
 .refine⟨?_,g1,g2⟩;refine aoM b2 ?_ ?_<;>(unfold rU;decide)
 .refine⟨?_,g1,g2⟩;refine WW b5 ?_ ?_ ?_ ?_ ?_<;>(unfold rU;decide)
 .exact⟨g1,g2⟩
 .exact trivial
 .exact h
structure cu(K:List aS)(M:Nat):Prop where
 len:K.length=M+1
 iy:M<=7
 pos:0<M
 ok:∀j k,K[j]?=some k->mR M j k
 ae:K[M]?=some (.rem true)
theorem ar1 J M:∀j,j<=M->∀i k,(i' J M j).1[i]?=some k->mR M i k:=by intro j;induction j with|zero=>exactλ_ i k e=>aE e|succ j ih=>
 intro hj i k e;change((i' J M j).1++[(n5 J (i' J M j).2 j M).1])[i]?=some k at e;by_cases h:i<(i' J M j).1.length;.rw[ew h]at e;exact ih (vZ hj) i k e
 .rw[eS (jc h)]at e;have hi:=(cn.mp e).1;rw[yF,sL]at hi;rw[yF]at h;have :i=j:=ot (vY (Nat.lt_one_iff.mp hi)) (jc h);subst this;rw[yF,pC]at e;cases e;exact ar0 J _ hj
theorem yI J:2<=MF J/\MF J<=7:=by exact⟨cy 2 _,k_ (qG (mH J 0 (L:=6) ai)) 2⟩
theorem yJ J:(rT J).length=MF J:=yF _
theorem ar4 J:cu (rT J++[.rem true]) (MF J)where
 len:=by rw[aX,yJ];rfl
 iy:=(yI J).2;pos:=cw ai (yI J).1;ok j k e:=by
  by_cases h:j<(rT J).length;.rw[ew h]at e;exact ar1 J _ _ (br _) j k e
  .rw[eS (jc h)]at e;cases bM.mp (ez e);exact trivial
 ae:=by rw[eS (by rw[yJ];exact br _),yJ,pC];rfl
structure Ms(ks:List aS)(M p:Nat)(L:gZ):Prop where
 cat:L.flatMap (·.2)=ks.drop p
 ne:∀e,e∈L->e.2≠[]iy:L.length<=M-p
 key:∀e,e∈L->e.1<=10*(M:Int)pos:p<M->1<=L.length
theorem XU(hk:ks.length=M)(h:M<=p):Ms ks M p []:=⟨by rw[Hs (hk▸h)];rfl,λe he=>absurd he eH,dC _,λe he=>absurd he eH,λq=>absurd q (GS h)⟩
theorem ar5(h:M-p<=f+1):M-(p+(1+e))<=f:=by rw[<-hU,<-kA,<-kA];exact ax (qI _ _) (uk h)
theorem ar6(q:p<M)(h:n<=M-(p+(1+e))):n+1<=M-p:=by rw[<-hU,<-kA,<-kA]at h;exact ax (gf (ax h (qI _ _))) (bo (qF (pw q)))
theorem ar7 J ks M(hk:ks.length=M):∀(f p:Nat)(t:Int),M-p<=f->Ms ks M p (ky J ks M f p t):=by intro f;induction f with|zero=>exactλp t h=>XU hk (vY (yP.mp h))|succ f ih=>
 intro p t h;rw[show ky J ks M (f+1) p t=if p<M then(10*((p:Int)+1),(ks.drop p).take (1+dq J t 2))::ky J ks M f (p+(1+dq J t 2)) (t+1)else[]from rfl];by_cases q:p<M
 .rw[if_pos q];have I:=ih (p+(1+dq J t 2)) (t+1) (ar5 h);refine⟨?_,λe he=>?_,ar6 q I.iy,λe he=>?_,λ_=>sg _⟩;.rw[uv,I.cat];show(ks.drop p).take _++ks.drop (p+_)=_;rw[<-List.drop_drop,jB]
  .refine(bX.mp he).elim (λr=>r▸λz=>?_) (I.ne e);have z:((ks.drop p).take (1+dq J t 2)).length=0:=congrArg wB z;rw[iT,qM]at z;exact v5 (Nat.lt_min.mpr ⟨cw um (cy 1 _),pw (hk▸q)⟩) z
  .exact(bX.mp he).elim (λr=>r▸Int.mul_le_mul_of_nonneg_left (show(p:Int)+1<=M from gI.mpr q) ai) (I.key e)
 .rw[if_neg q];exact XU hk (jc q)
theorem vP J:Ms (rT J) (MF J) 0 (LF J):=ar7 J _ _ (yJ J) _ _ _ (br _)
theorem XW L e:dY (L++[e])=jw (dY L) e:=by unfold dY;rw[qL];rfl
theorem ar8 J:(lP J).ks=rT J++[.rem true]:=by unfold lP;rw[XW];show(dY (LF J)).ks++[_]=_;rw[show(dY (LF J)).ks=[]++(LF J).flatMap (·.2)from LW _ _,(vP J).cat];rfl
theorem ar9 J:Rows (lP J).rw (lP J).ks:=BE _ _ ⟨[],rfl,rfl⟩
theorem ar_ J:(lP J).pl.lookup 900=some (MF J):=by unfold lP;rw[XW];show(putN 900 (dY (LF J)).rw.length (dY (LF J)).pl).lookup 900=_;have h:(dY (LF J)).rw.length=(dY (LF J)).ks.length:=(BE (LF J) ⟨[],[],[]⟩ ⟨[],rfl,rfl⟩).len;have h2:(dY (LF J)).ks=[]++(LF J).flatMap (·.2):=LW _ _;rw[WN,h,h2,(vP J).cat];exact congrArg some (yJ J)
theorem ar' J:(lP J).pl.length<=8:=by have h:=WO (ix (LF J)) ⟨[],[],[]⟩;rw[aX]at h;exact ax h (ax (bo (eu _)) (gf (ax (vP J).iy (ax (qI _ _) (yI J).2))))
abbrev ja:=List (List Od)
noncomputable def aY(S:ja)(j:Nat):Nat:=(S.take j).flatten.length
def bq(S:ja):List Nat:=(cA S.length).map (aY S)
def b9(S:ja):List Od:=S.flatten.map (bU (bq S))++[.fin]
theorem XX{α:Type}{l:List α}{a:α}(h:l[j]?=some a):l.take (j+1)=l.take j++[a]:=by obtain⟨hj,rfl⟩:=cn.mp h;exact jf hj
theorem BV{S:ja}(h:S[j]?=some s):(S.take (j+1)).flatten=(S.take j).flatten++s:=by rw[XX h,N6,Ob,List.flatten_nil,cG]
theorem rV(h:S[j]?=some s):aY S (j+1)=aY S j+s.length:=by unfold aY;rw[BV h,aX]
theorem asa S:∀(d i:Nat),aY S i<=aY S (i+d):=by intro d;induction d with|zero=>exactλi=>br _|succ d ih=>intro i;refine ax (ih i) ?_;cases h:S[i+d]? with|some s=>rw[<-hU,rV h];exact cy _ _|none=>have h:=zd.mp h;unfold aY;rw[lY h,lY (show S.length<=i+(d+1)from pz h)];exact br _
theorem Gp S{i j:Nat}(h:i<=j):aY S i<=aY S j:=by obtain⟨d,rfl⟩:=PF h;exact asa S d i
theorem Mt S:aY S S.length=S.flatten.length:=by unfold aY;rw[eV]
theorem oa S:(bq S).length=S.length:=by unfold bq;rw[bw,fe]
theorem pq(h:j<S.length):(bq S).getD j 0=aY S j:=by unfold bq;rw[jA,cQ,mX h];rfl
theorem XY:q∈bq S↔∃j,j<S.length/\aY S j=q:=by unfold bq;rw[dS];exact⟨λ⟨j,h,e⟩=>⟨j,oA.mp h,e⟩,λ⟨j,h,e⟩=>⟨j,oA.mpr h,e⟩⟩
def oh(n:Nat)(S:ja):Prop:=∀s,s∈S->∀o,o∈s->ft n o
theorem oh.fl(h:oh n S){o:Od}(m:o∈S.flatten):ft n o:=by obtain⟨s,hs,ho⟩:=CV.mp m;exact h s hs o ho
theorem vQ{n:Nat}{p:Int}(h:0<=p/\p<n):∃q:Nat,p=q/\q<n:=⟨p.toNat,((zr h.1).symm),((C9 h.1).mpr h.2)⟩
structure Pass(S S':ja)(fo:List Od)(le:List Nat):Prop where
 n:S'.length=S.length
 g:oh S.length S'
 f:fo=S'.flatten.map (bU (bq S))++[.fin]l:∀j,j<S.length->le.getD (aY S j) 0=aY S' j
theorem Pass.asb(h:Pass S S' fo le){o:Od}(ho:ft S.length o):bU le (bU (bq S) o)=bU (bq S') o:=by
 have k:∀p:Int,0<=p/\p<S.length->ldI le (ldI (bq S) p)=ldI (bq S') p:=λp hp=>by obtain⟨q,rfl,hq⟩:=vQ hp;have e1:=pq hq;have e2:=pq (S:=S') (by rw[h.n];exact hq);unfold ldI;rw[fU q,e1,e2,fU,h.l q hq]
 cases o with|go p=>exact congrArg Od.go (k p ho)|bf p=>exact congrArg Od.bf (k p ho)|_=>rfl
theorem Pass.os(h:Pass S S' fo le):fo.map (bU le)=b9 S':=by rw[h.f,cH,jh];refine congrArg (·++[Od.fin]) (kE λo ho=>h.asb (h.g.fl ho))
theorem Pass.ss(h:Pass S S' fo le):(bq S).map (gv le)=bq S':=by unfold bq;rw[jh,h.n];exact kE λj hj=>h.l j (oA.mp hj)
theorem asd(hn:∀q:Nat,q<S.length->aY S q<n){o:Od}(h:ft S.length o):ft n (bU (bq S) o):=by
 have k:∀p:Int,0<=p/\p<S.length->0<=ldI (bq S) p/\ldI (bq S) p<n:=λp hp=>by obtain⟨q,rfl,hq⟩:=vQ hp;unfold ldI;rw[fU,pq hq];exact⟨dK _,eX.mpr (hn q hq)⟩
 cases o with|go p=>exact k p h|bf p=>exact k p h|_=>exact trivial
theorem Gq S:(b9 S).length=aY S S.length+1:=by unfold b9;rw[aX,bw,Mt];rfl
theorem Mu S{j:Nat}(h:j<=S.length):aY S j<(b9 S).length:=by rw[Gq];exact oq (Gp S h)
theorem Pass.tf(h:Pass S S' fo le):∀o,o∈fo->ft (b9 S).length o:=by
 intro o ho;rw[h.f]at ho;rcases cV.mp ho with ho|ho;.obtain⟨o,m,rfl⟩:=dS.mp ho;exact asd (λq hq=>Mu S (fJ hq)) (h.g.fl m)
 .cases bM.mp ho;exact trivial
theorem Mw:∀{l:List α}{j:Nat}{b b' qk:β},cN R j l b b'->cN R (j+l.length) l' b' qk->cN R j (l++l') b qk:=by intro l;induction l with|nil=>intro j b b' qk h t;cases h;exact t|cons a l ih=>intro j b b' qk h t;cases h with|cons h h'=>refine .cons h (ih h' ?_);rw[eU]at t;rw[hU,dZ 1];exact t
theorem vR{a:α}{b b':β}(h:R j a b b'):cN R j [a] b b':=.cons h (.nil _ _)
theorem ase R(fo:β->List Od)(le:β->List Nat)(Inv:Nat->β->Prop){S S':ja} mv(hn:S'.length=S.length)(step:∀j s s' b,S[j]?=some s->S'[j]?=some s'->Inv j b->(le b).length=aY S j->∃b' d,cN R (aY S j) (s.map mv) b b'/\fo b'=fo b++s'.map mv/\le b'=le b++(fo b).length::d/\d.length+1=s.length/\Inv (j+1) b') b0(h0:Inv 0 b0)(hf:fo b0=[])(hl:le b0=[]):∀j,j<=S.length->∃b,cN R 0 ((S.take j).flatten.map mv) b0 b/\fo b=(S'.take j).flatten.map mv/\(le b).length=aY S j/\Inv j b/\∀i,i<j->(le b)[aY S i]?=some (aY S' i):=by intro j;induction j with|zero=>exactλ_=>⟨b0,.nil _ _,hf,by rw[hl];rfl,h0,λi hi=>nomatch hi⟩|succ j ih=>
 intro hj;obtain⟨b,r,f,l,I,g⟩:=ih (vZ hj);have e:S[j]?=some S[j]:=cp hj;have e':S'[j]?=some (S'[j]'(cw hj (bo hn.symm))):=cp _;generalize S[j]=s at e;generalize S'[j]'(cw hj (bo hn.symm))=s' at e';obtain⟨b',d,r',f',l',hd,I'⟩:=step j s s' b e e' I l;refine⟨b',?_,?_,?_,I',λi hi=>?_⟩;.rw[BV e,cH];refine Mw r ?_;rw[eu,bw];exact r'
 .rw[BV e',cH,f',f]
 .rw[l',aX,eU,rV e,l,hd]
 .rw[l'];rcases GP (qG hi)with q|rfl;.exact ew (cn.mp (g i q)).1▸g i q
  .rw[eS (bo l),l,pC];show some (fo b).length=_;rw[f,bw];rfl
theorem Mx R(fo:β->List Od)(le:β->List Nat)(Inv:Nat->β->Prop){S S':ja}(hn:S'.length=S.length)(hg:oh S.length S')(step:∀j s s' b,S[j]?=some s->S'[j]?=some s'->Inv j b->(le b).length=aY S j->∃b' d,cN R (aY S j) (s.map (bU (bq S))) b b'/\fo b'=fo b++s'.map (bU (bq S))/\le b'=le b++(fo b).length::d/\d.length+1=s.length/\Inv (j+1) b') b0(h0:Inv 0 b0)(hf:fo b0=[])(hl:le b0=[])(asf:∀b,Inv S.length b->∃b' x,R (aY S S.length) .fin b b'/\fo b'=fo b++[.fin]/\le b'=le b++[x]):∃b,cN R 0 (b9 S) b0 b/\Pass S S' (fo b) (le b)/\(le b).length=aY S S.length+1:=by
 obtain⟨b,r,f,l,I,g⟩:=ase R fo le Inv _ hn step b0 h0 hf hl S.length (br _);obtain⟨b',x,h,f',l'⟩:=asf b I;rw[eV]at r;rw[<-hn,eV]at f;refine⟨b',?_,⟨hn,hg,by rw[f',f],λj hj=>?_⟩,by rw[l',aX,l];rfl⟩;.refine Mw r (vR ?_);rw[eu,bw,<-Mt];exact h
 .rw[l',jA,ew (cn.mp (g j hj)).1,g j hj];rfl
noncomputable def Gr:Nat->Str|0=>"A"|1=>"AB"|2=>"ABB"|_=>"ABBB"
def Ex.f:Ex->List Od|.t0 n=>[.push (.i ((n:Int)+1))]|.t1 n=>[.push (.s (Gr n))]|.mF=>[.var]|.neg n=>[.push (.i (-n))]|.t4 n=>[.push (LU n)]|.t5 n=>[.push (.i n),.push (.s "A"),.two "+"]|.tb n=>[.push (.i (1-(n:Int)))]|.tn n=>[.var,.push (.i n),.two "<"]
def aS.o1(k:aS)(a last:Int):List Od:=match k with|.lt b e=>.row a::(e.f++[.store (kX b)])|.cU e g=>.row a::(e.f++[.bf g])|.jmp g=>[.go g]|.rem _=>[.row a]|.jv=>[.row a,.go last]
noncomputable def lQ(f:aS->Int->Int->List Od)(last:Nat)(K:List aS):ja:=K.mapIdx λj k=>f k j last
theorem iR f last K:(lQ f last K).length=K.length:=N_
theorem uc{K:List aS}{j:Nat}(h:K[j]?=some k):(lQ f last K)[j]?=some (f k j last):=by unfold lQ;rw[Ht,h];rfl
theorem BW{K:List aS}{j:Nat}(h:(lQ f last K)[j]?=some s):∃k,K[j]?=some k/\s=f k j last:=by unfold lQ at h;rw[Ht]at h;cases e:K[j]? with|none=>rw[e]at h;cases h|some k=>rw[e]at h;cases h;exact⟨k,rfl,rfl⟩
theorem My(last:Nat) K:∀i,i<=K.length->i_ last 0 (K.take i)=((lQ aS.o last K).take i).flatten:=by intro i;induction i with|zero=>exactλ_=>rfl|succ i ih=>intro h;have e:K[i]?=some K[i]:=cp h;rw[XX e,WC,ih (vZ h),BV (uc e),iT,sf (vZ h),eu]
theorem X0 K last:vO K last=bq (lQ aS.o last K):=by unfold vO nY bq;rw[iR];refine kE λi hi=>?_;unfold aY;rw[My last K i (fJ (oA.mp hi))]
theorem ash K last:vN K last=b9 (lQ aS.o last K):=by unfold vN b9;have h:=My last K K.length (br _);rw[eV,lY (bo (iR _ _ _))]at h;rw[h,show nY last K K.length=bq (lQ aS.o last K)from X0 K last]
theorem X1(h:fX o≠some q) kv:(gO kv o).lookup q=kv.lookup q:=by unfold gO;cases e:fX o with|none=>rfl|some p=>exact LA p _ (λz=>h (e.trans (congrArg some z.symm))) kv
theorem asi os:∀kv,(∀o,o∈os->fX o≠some q)->(cX kv os).lookup q=kv.lookup q:=by induction os with|nil=>exactλ_ _=>rfl|cons o os ih=>exactλkv h=>(ih (gO kv o) λo' m=>h o' (.tail _ m)).trans (X1 (h o (.head _)) kv)
theorem asj ss:∀kv,(∀p:Nat,p∈ss->(p:Int)≠q)->(gS kv ss).lookup q=kv.lookup q:=by induction ss with|nil=>exactλ_ _=>rfl|cons p ss ih=>exactλkv h=>(ih (gA kv p) λo' m=>h o' (.tail _ m)).trans (LA (p:Int) _ (λe=>h p (.head _) e.symm) kv)
theorem asl{os:List Od}(h1:∀p:Nat,p∈ss->(p:Int)≠q)(h2:∀o,o∈os->fX o≠some q):jr os ss q=false:=by unfold jr;rw[asi os _ h2,asj ss _ h1];rfl
theorem X2(hg:oh S.length S){o:Od}(h:o∈b9 S){p:Int}(ht:fX o=some p):∃j,j<S.length/\p=(aY S j:Nat):=by
 unfold b9 at h;rcases cV.mp h with h|h;.obtain⟨o,m,rfl⟩:=dS.mp h;have g:=hg.fl m;cases o with|go r=>obtain⟨q,rfl,hq⟩:=vQ g;cases ht;exact⟨q,hq,by unfold ldI;rw[fU,pq hq]⟩|bf r=>obtain⟨q,rfl,hq⟩:=vQ g;cases ht;exact⟨q,hq,by unfold ldI;rw[fU,pq hq]⟩|_=>cases ht
 .cases bM.mp h;cases ht
theorem X3(hg:oh S.length S){j:Nat}{s:List Od}(h:S[j]?=some s){i:Nat}(h0:0<i)(hi:i<s.length):jr (b9 S) (bq S) ((aY S j+i:Nat):Int)=false:=by
 have hj:=(cn.mp h).1;have k:∀r,aY S r≠aY S j+i:=λr e=>by
  have :=rV h;rcases pB j r with q|q;.have :=Gp S (show j+1<=r from q);omega
  .have :=Gp S q;omega
 refine asl (λp m e=>?_) λo m e=>?_;.obtain⟨r,hr,rfl⟩:=XY.mp m;exact k r (lg e)
 .obtain⟨r,hr,e'⟩:=X2 hg m e;exact k r (lg e'.symm)
theorem ud{α:Type} L(a b:α):L++[a]++[b]=L++[a,b]:=cS ..
theorem rW{α:Type} L(a b c:α):L++[a]++[b]++[c]=L++[a,b,c]:=by rw[ud,cS];rfl
theorem asm{α:Type} L(a b c d:α):L++[a]++[b]++[c]++[d]=L++[a,b,c,d]:=by rw[rW,cS];rfl
theorem Mz{α:Type} L(a b c d e:α):L++[a]++[b]++[c]++[d]++[e]=L++[a,b,c,d,e]:=by rw[asm,cS];rfl
theorem BX{st cY:FS}(h:gl p=false)(k:tO st.fi st o cY):fY gl p o st cY:=by unfold fY;rw[h];exact k
theorem lR(h:gl p=false)(ho:jq o=0):fY gl p o ⟨F,le,fi⟩ ⟨F++[o],le++[F.length],fi⟩:=BX h (.keep o ho)
theorem Gs(h:gl p=false)(hi:fi<=F.length)(hm:(op,a,b,some v)∈fO):fY gl p (.two op) ⟨F++[Od.push a]++[Od.push b],le,fi⟩ ⟨F++[Od.push v],le++[F.length],fi⟩:=BX h (.two F a b op (some v) (ud ..) hi hm)
theorem asn(h:gl p=false)(hi:fi<=F.length)(hm:(op,a,b,none)∈fO):fY gl p (.two op) ⟨F++[Od.push a]++[Od.push b],le,fi⟩ ⟨F++[Od.push a]++[Od.push b]++[Od.two op],le++[(F++[Od.push a]++[Od.push b]).length],fi⟩:=BX h (.two F a b op none (ud ..) hi hm)
theorem aso(h:gl p=false)(hi:fi<=F.length):fY gl p (.two op) ⟨F++[Od.var]++[Od.push b],le,fi⟩ ⟨F++[Od.var]++[Od.push b]++[Od.two op],le++[(F++[Od.var]++[Od.push b]).length],fi⟩:=BX h (.var F b op (ud ..) hi)
theorem asp(h:gl p=false)(hi:fi<=F.length)(ha:a∈[(0:Int),1,2,3]):fY gl p .one ⟨F++[Od.push (.i a)],le,fi⟩ ⟨F++[Od.push (.i (-a))],le++[F.length],fi⟩:=BX h (.one F a rfl hi ha)
def X4:Ex->Bool|.t0 n=>decide ((("+":Str),KV.i 2,KV.i n,some (KV.i (n+2)))∈fO)&&decide ((("-":Str),KV.i (n+2),KV.i 1,some (KV.i ((n:Int)+1)))∈fO)|.t1 n=>decide ((("+":Str),KV.s "A",KV.s (bs n),some (KV.s (Gr n)))∈fO)|.neg n=>decide ((n:Int)∈[(0:Int),1,2,3])|.t5 n=>decide ((("+":Str),KV.i n,KV.s "A",none)∈fO)|.tb n=>decide ((("-":Str),KV.i 1,KV.i n,some (KV.i (1-(n:Int))))∈fO)|.tn n=>decide ((n:Int)∈[(0:Int),1,2,3,4])|_=>true
theorem asq:gz.all X4=true:=by decide
theorem Gu(he:e∈gz):X4 e=true:=jV.mp asq e he
theorem asr(he:e∈gz){le:List Nat}(hi:fi<=F.length)(h:∀i,i<e.o.length->gl ((p+i:Nat):Int)=false):∃F' gF d,cN (fY gl) p e.o ⟨F,le,fi⟩ ⟨F',gF,fi⟩/\F'=F++e.f/\gF=le++d/\d.length=e.o.length:=by have t0:∀n:Nat,(.two "+":Od)=.two "+"->(("+":Str),KV.i 2,KV.i n,some (KV.i (n+2)))∈fO->(("-":Str),KV.i (n+2),KV.i 1,some (KV.i ((n:Int)+1)))∈fO->(∀i,i<5->gl ((p+i:Nat):Int)=false)->∃F' gF d,cN (fY gl) p (Ex.t0 n).o ⟨F,le,fi⟩ ⟨F',gF,fi⟩/\F'=F++(Ex.t0 n).f/\gF=le++d/\d.length=5:=λn _ m1 m2 h=>⟨_,_,_,.cons (lR (h 0 ai) rfl) (.cons (lR (h 1 ai) rfl) (.cons (Gs (h 2 ai) hi m1) (.cons (lR (h 3 ai) rfl) (.cons (Gs (h 4 ai) hi m2) (.nil _ _))))),rfl,Mz ..,rfl⟩;have t1:∀n:Nat,(("+":Str),KV.s "A",KV.s (bs n),some (KV.s (Gr n)))∈fO->(∀i,i<3->gl ((p+i:Nat):Int)=false)->∃F' gF d,cN (fY gl) p (Ex.t1 n).o ⟨F,le,fi⟩ ⟨F',gF,fi⟩/\F'=F++(Ex.t1 n).f/\gF=le++d/\d.length=3:=λn m1 h=>⟨_,_,_,.cons (lR (h 0 ai) rfl) (.cons (lR (h 1 ai) rfl) (.cons (Gs (h 2 ai) hi m1) (.nil _ _))),rfl,rW ..,rfl⟩;have ng:∀n:Nat,(n:Int)∈[(0:Int),1,2,3]->(∀i,i<2->gl ((p+i:Nat):Int)=false)->∃F' gF d,cN (fY gl) p (Ex.neg n).o ⟨F,le,fi⟩ ⟨F',gF,fi⟩/\F'=F++(Ex.neg n).f/\gF=le++d/\d.length=2:=λn m1 h=>⟨_,_,_,.cons (lR (h 0 ai) rfl) (.cons (asp (h 1 ai) hi m1) (.nil _ _)),rfl,ud ..,rfl⟩;have t5:∀n:Nat,(("+":Str),KV.i n,KV.s "A",none)∈fO->(∀i,i<3->gl ((p+i:Nat):Int)=false)->∃F' gF d,cN (fY gl) p (Ex.t5 n).o ⟨F,le,fi⟩ ⟨F',gF,fi⟩/\F'=F++(Ex.t5 n).f/\gF=le++d/\d.length=3:=λn m1 h=>⟨_,_,_,.cons (lR (h 0 ai) rfl) (.cons (lR (h 1 ai) rfl) (.cons (asn (h 2 ai) hi m1) (.nil _ _))),rW ..,rW ..,rfl⟩;have tb:∀n:Nat,(("-":Str),KV.i 1,KV.i n,some (KV.i (1-(n:Int))))∈fO->(∀i,i<3->gl ((p+i:Nat):Int)=false)->∃F' gF d,cN (fY gl) p (Ex.tb n).o ⟨F,le,fi⟩ ⟨F',gF,fi⟩/\F'=F++(Ex.tb n).f/\gF=le++d/\d.length=3:=λn m1 h=>⟨_,_,_,.cons (lR (h 0 ai) rfl) (.cons (lR (h 1 ai) rfl) (.cons (Gs (h 2 ai) hi m1) (.nil _ _))),rfl,rW ..,rfl⟩;have tn:∀n:Nat,(∀i,i<3->gl ((p+i:Nat):Int)=false)->∃F' gF d,cN (fY gl) p (Ex.tn n).o ⟨F,le,fi⟩ ⟨F',gF,fi⟩/\F'=F++(Ex.tn n).f/\gF=le++d/\d.length=3:=λn h=>⟨_,_,_,.cons (lR (h 0 ai) rfl) (.cons (lR (h 1 ai) rfl) (.cons (aso (h 2 ai) hi) (.nil _ _))),rW ..,rW ..,rfl⟩;have k1:∀o:Od,jq o=0->(∀i,i<1->gl ((p+i:Nat):Int)=false)->∃F' gF d,cN (fY gl) p [o] ⟨F,le,fi⟩ ⟨F',gF,fi⟩/\F'=F++[o]/\gF=le++d/\d.length=1:=λo ho h=>⟨_,_,_,.cons (lR (h 0 ai) ho) (.nil _ _),rfl,rfl,rfl⟩;have q:=Gu he;cases e with|t0 n=>have q:=(iV _ _).mp q;exact t0 n rfl (of_decide_eq_true q.1) (of_decide_eq_true q.2) h|t1 n=>exact t1 n (of_decide_eq_true q) h|mF=>exact k1 _ rfl h|neg n=>exact ng n (of_decide_eq_true q) h|t4 n=>exact k1 _ rfl h|t5 n=>exact t5 n (of_decide_eq_true q) h|tb n=>exact tb n (of_decide_eq_true q) h|tn n=>exact tn n h
theorem X5{e:Ex}(h:o∈e.o):fX o=none:=by
 cases e<;>(simp only[Ex.o,bX,eH,or_false]at h)<;>rcases h with rfl|h<;>first|rfl|skip
 all_goals first|(cases h;rfl)|(rcases h with rfl|h<;>first|rfl|skip)
 all_goals first|(cases h;rfl)|(rcases h with rfl|h<;>first|rfl|skip)
 all_goals first|(cases h;rfl)|(rcases h with rfl|h<;>first|rfl|skip)
 all_goals first|(cases h;rfl)|(rcases h with rfl|h<;>first|rfl|skip)
theorem X6{e:Ex}(h:o∈e.f):fX o=none:=by
 cases e<;>(simp only[Ex.f,bX,eH,or_false]at h)<;>first|(cases h;rfl)|skip
 all_goals rcases h with rfl|rfl|rfl<;>rfl
theorem Gv le(e:Ex):e.o.map (bU le)=e.o:=by cases e<;>rfl
theorem X7 le(e:Ex):e.f.map (bU le)=e.f:=by cases e<;>rfl
theorem Gw(h:fX o=none):ft n o:=by cases o<;>first|exact trivial|cases h
def ass(n:Nat)(k:aS):Prop:=match k with|.cU _ g=>0<=g/\g<n|.jmp g=>0<=g/\g<n|_=>True
theorem mR.go(h:mR M j k):ass (M+1) k:=by cases k with|cU e g=>have :=h.2;exact⟨(uz (dK _) (qP this.1)),(OA this.2)⟩|jmp g=>have :=h;exact⟨by have :=this.1;exact uz (dK _) (qP this),by have :=this.2;exact OA this⟩|_=>exact trivial
theorem X8(h:e∈qz):e∈gz:=(show∀e∈qz,e∈gz by unfold qz gz;decide) e h
theorem X9(h:e∈rU):e∈gz:=(show∀e∈rU,e∈gz by unfold rU gz;decide) e h
noncomputable def MA:aS->Ex|.lt _ e=>e|.cU e _=>e|_=>.mF
theorem mR.ex(h:mR M j k):MA k∈gz:=by cases k with|lt b e=>exact X8 h.1|cU e g=>exact X9 h.1|_=>exact(show Ex.mF∈gz by unfold gz;decide)
section
variable{K:List aS}
theorem MB(H:cu K M)(hf:∀j k,mR M j k->∀o,o∈f k j M->ft (M+1) o):oh (M+1) (lQ f M K):=by intro s hs o ho;obtain⟨j,h⟩:=lZ.mp hs;obtain⟨k,hk,rfl⟩:=BW h;exact hf j k (H.ok j k hk) o ho
theorem asu(h:mR M j k):∀o,o∈k.o j M->ft (M+1) o:=by
 intro o ho;have g:=h.go;cases k with
 |lt b e=>
  rcases bX.mp ho with rfl|ho;.exact trivial
  .rcases cV.mp ho with ho|ho;.exact Gw (X5 ho)
   .cases bM.mp ho;exact trivial|cU e q=>
  rcases bX.mp ho with rfl|ho;.exact trivial
  .rcases cV.mp ho with ho|ho;.exact Gw (X5 ho)
   .cases bM.mp ho;exact g|jmp q=>cases bM.mp ho;exact g|rem b=>cases bM.mp ho;exact trivial|jv=>
  rcases bX.mp ho with rfl|ho;.exact trivial
  .cases bM.mp ho;exact⟨dK _,by omega⟩
theorem X_(h:mR M j k):∀o,o∈k.o1 j M->ft (M+1) o:=by
 intro o ho;have g:=h.go;cases k with
 |lt b e=>
  rcases bX.mp ho with rfl|ho;.exact trivial
  .rcases cV.mp ho with ho|ho;.exact Gw (X6 ho)
   .cases bM.mp ho;exact trivial|cU e q=>
  rcases bX.mp ho with rfl|ho;.exact trivial
  .rcases cV.mp ho with ho|ho;.exact Gw (X6 ho)
   .cases bM.mp ho;exact g|jmp q=>cases bM.mp ho;exact g|rem b=>cases bM.mp ho;exact trivial|jv=>
  rcases bX.mp ho with rfl|ho;.exact trivial
  .cases bM.mp ho;exact⟨dK _,by omega⟩
abbrev dj(K:List aS)(M:Nat):ja:=lQ aS.o M K
abbrev k9(K:List aS)(M:Nat):ja:=lQ aS.o1 M K
theorem cu.g0(H:cu K M):oh (dj K M).length (dj K M):=by rw[iR,H.len];exact MB H λj k h=>asu h
theorem cu.g1(H:cu K M):oh (k9 K M).length (k9 K M):=by rw[iR,H.len];exact MB H λj k h=>X_ h
end
theorem BY(ho:jq o=0)(hi:fi<=F.length):∃vS,vS<=F.length/\fY gl p o ⟨F,le,fi⟩ ⟨F++[o],le++[F.length],vS⟩:=by
 refine⟨if gl p=true then F.length else fi,?_,.keep o ho⟩;split;.exact br _
 .exact hi
theorem BZ{α:Type} F(a:α):F.length<=(F++[a]).length:=aX▸cy _ _
theorem oi l(a z:Od):(a::(l++[z])).length=l.length+2:=by rw[eU,aX];rfl
theorem Yb(he:e∈gz)(ha:jq a=0)(hz:jq z=0)(hi:fi<=F.length)(h:∀i,0<i->i<e.o.length+2->gl ((p+i:Nat):Int)=false):∃(b':FS)(d:List Nat),cN (fY gl) p (a::(e.o++[z])) ⟨F,le,fi⟩ b'/\b'.fo=F++a::(e.f++[z])/\b'.le=le++F.length::d/\d.length+1=e.o.length+2/\b'.fi<=b'.fo.length:=by
 obtain⟨vS,h1,r1⟩:=BY (gl:=gl) (p:=p) (le:=le) ha hi;obtain⟨F',gF,d,r2,rfl,rfl,hd⟩:=asr (gl:=gl) (p:=p+1) (F:=F++[a]) (le:=le++[F.length]) (fi:=vS) he (ax h1 (BZ F a)) λi hi=>by rw[hU];exact h (1+i) (cy _ _) (aaq hi)
 refine⟨_,d++[(F++[a]++e.f).length],.cons r1 (Mw r2 (vR (lR ?_ hz))),?_,?_,?_,?_⟩;.rw[hU];exact h (1+e.o.length) (cy _ _) (oq (bo (dZ _ _)))
 .show F++[a]++e.f++[z]=_;rw[cS,cS];rfl
 .show le++[F.length]++d++[_]=_;rw[cS,cS];rfl
 .rw[aX,hd];rfl
 .refine ax h1 (ax (BZ F a) ?_);rw[cS (F++[a]),aX (as:=F++[a])];exact cy _ _
theorem Yc(ha:jq a=0)(hi:fi<=F.length):∃(b':FS)(d:List Nat),cN (fY gl) p [a] ⟨F,le,fi⟩ b'/\b'.fo=F++[a]/\b'.le=le++F.length::d/\d.length+1=1/\b'.fi<=b'.fo.length:=by obtain⟨vS,h1,r1⟩:=BY (gl:=gl) (p:=p) (le:=le) ha hi;exact⟨_,[],vR r1,rfl,rfl,rfl,ax h1 (BZ F a)⟩
theorem asv(ha:jq a=0)(hz:jq z=0)(hi:fi<=F.length):∃(b':FS)(d:List Nat),cN (fY gl) p [a,z] ⟨F,le,fi⟩ b'/\b'.fo=F++[a,z]/\b'.le=le++F.length::d/\d.length+1=2/\b'.fi<=b'.fo.length:=by obtain⟨vS,h1,r1⟩:=BY (gl:=gl) (p:=p) (le:=le) ha hi;obtain⟨avj,h2,r2⟩:=BY (gl:=gl) (p:=p+1) (F:=F++[a]) (le:=le++[F.length]) hz (ax h1 (BZ F a));exact⟨_,[(F++[a]).length],.cons r1 (vR r2),ud ..,ud ..,rfl,ax h2 (BZ _ z)⟩
theorem asw{K:List aS}(H:cu K M):∃st:FS,cN (fY (jr (b9 (dj K M)) (bq (dj K M)))) 0 (b9 (dj K M)) ⟨[],[],0⟩ st/\Pass (dj K M) (k9 K M) st.fo st.le/\st.le.length=aY (dj K M) (dj K M).length+1:=by
 refine Mx _ FS.fo FS.le (λ_ b=>b.fi<=b.fo.length) (by rw[iR,iR]) (by have :=H.g1;rw[iR]at this⊢;exact this) (λj s s' b hs eD I hl=>?_) ⟨[],[],0⟩ (br _) rfl rfl λb I=>?_;.have G:=λ(i:Nat)=>X3 H.g0 hs (i:=i);obtain⟨k,hk,rfl⟩:=BW hs;cases(uc hk).symm.trans eD;obtain⟨F,le,fi⟩:=b;have he:=(H.ok j k hk).ex;cases k with|lt x e=>unfold aS.o aS.o1;simp only[ef,cH,iU,Gv,X7,oi];exact Yb (e:=e) he rfl rfl I λi h0 hi=>G i h0 (by show i<(_::(e.o++[_])).length;rw[oi];exact hi)|cU e g=>unfold aS.o aS.o1;simp only[ef,cH,iU,Gv,X7,oi];exact Yb (e:=e) he rfl rfl I λi h0 hi=>G i h0 (by show i<(_::(e.o++[_])).length;rw[oi];exact hi)|jmp g=>exact Yc rfl I|rem x=>exact Yc rfl I|jv=>exact asv rfl rfl I
 .obtain⟨F,le,fi⟩:=b;obtain⟨vS,h1,r1⟩:=BY (gl:=jr (b9 (dj K M)) (bq (dj K M))) (p:=aY (dj K M) (dj K M).length) (le:=le) (o:=.fin) rfl I;exact⟨_,_,r1,rfl,rfl⟩
theorem Gx(h:e∈rU):e=.tb 0\/e=.tb 1\/∃n:Nat,e=.tn n/\(n:Int)∈[(0:Int),1,2,3,4]:=by have t:∀n:Nat,(n:Int)∈[(0:Int),1,2,3,4]->Ex.tn n=.tb 0\/Ex.tn n=.tb 1\/∃m:Nat,Ex.tn n=.tn m/\(m:Int)∈[(0:Int),1,2,3,4]:=λn h=>.inr (.inr ⟨n,rfl,h⟩);have q:fF (λe=>e=.tb 0\/e=.tb 1\/∃m:Nat,e=.tn m/\(m:Int)∈[(0:Int),1,2,3,4]) rU:=⟨.inl rfl,.inr (.inl rfl),t 0 ai,t 1 ai,t 2 ai,t 3 ai,t 4 ai,trivial⟩;exact@fF.get _ (λe=>e=.tb 0\/e=.tb 1\/∃m:Nat,e=.tn m/\(m:Int)∈[(0:Int),1,2,3,4]) e rU q h
def aS.o2(k:aS)(a last:Int):List Od:=match k with|.cU (.tb 0) g=>[.row a]|.cU (.tb _) g=>[.row a,.go g]|.cU e g=>.row a::(e.f++[.bf g])|.lt b e=>.row a::(e.f++[.store (kX b)])|.jmp g=>[.go g]|.rem _=>[.row a]|.jv=>[.row a,.go last]
theorem Yd(h:mR M j k):∀o,o∈k.o2 j M->ft (M+1) o:=by
 intro o ho;have g:=h.go;have h1:=X_ h o
 cases k with
 |cU e q=>
  rcases Gx h.1 with rfl|rfl|⟨n,rfl,_⟩;.cases bM.mp ho;exact trivial
  .rcases bX.mp ho with rfl|ho;.exact trivial
   .cases bM.mp ho;exact g
  .exact h1 ho|_=>exact h1 ho
abbrev fw(K:List aS)(M:Nat):ja:=lQ aS.o2 M K
theorem cu.g2{K:List aS}(H:cu K M):oh (fw K M).length (fw K M):=by rw[iR,H.len];exact MB H λj k h=>Yd h
theorem ue(h:qn o=false):mC gl p o ⟨F,le⟩ ⟨F++[o],le++[F.length]⟩:=.keep o h
theorem asx{p:Nat}(h:gl p=false):mC gl p (.bf g) ⟨F++[.two op],le⟩ ⟨F++[.two op]++[.bf g],le++[(F++[Od.two op]).length]⟩:=.test F g op rfl h
theorem asy{p:Nat}(h:gl p=false):mC gl p (.bf g) ⟨F++[.push (.i 0)],le⟩ ⟨F++[.go g],le++[F.length]⟩:=.zero F g rfl h
theorem asz{p:Nat}(h:gl p=false):mC gl p (.bf g) ⟨F++[.push (.i 1)],le⟩ ⟨F,le++[F.length]⟩:=.one F g rfl h
theorem asA:∀(l:List Od)(p:Nat)(F:List Od)(le:List Nat),(∀o,o∈l->qn o=false)->∃d,cN (mC gl) p l ⟨F,le⟩ ⟨F++l,le++d⟩/\d.length=l.length:=by intro l;induction l with|nil=>exactλp F le h=>⟨[],by rw[cG,cG];exact .nil _ _,rfl⟩|cons o l ih=>intro p F le h;obtain⟨d,r,hd⟩:=ih (p+1) (F++[o]) (le++[F.length]) λo' m=>h o' (.tail _ m);refine⟨F.length::d,.cons (.keep o (h o (.head _))) ?_,congrArg (·+1) hd⟩;rw[show F++o::l=F++[o]++l by rw[cS];rfl,show le++F.length::d=le++[F.length]++d by rw[cS];rfl];exact r
theorem Gy(h:(a::l).all (λo=>!qn o)=true):∃(b':KS)(d:List Nat),cN (mC gl) p ((a::l).map (bU L)) ⟨F,le⟩ b'/\b'.fo=F++(a::l).map (bU L)/\b'.le=le++F.length::d/\d.length+1=(a::l).length/\True:=by
 have h:∀o,o∈(a::l).map (bU L)->qn o=false:=λo m=>by obtain⟨x,m',rfl⟩:=dS.mp m;have :=jV.mp h x m';cases x<;>first|rfl|cases this
 obtain⟨d,r,hd⟩:=asA (gl:=gl) (l.map (bU L)) (p+1) (F++[bU L a]) (le++[F.length]) λo' m=>h o' (.tail _ m);exact⟨_,d,.cons (.keep _ (h _ (.head _))) r,cS ..,cS ..,congrArg (·+1) (hd.trans (bw ..)),trivial⟩
theorem asB(ha:qn a=false)(h:gl ((p+4:Nat):Int)=false):∃(b':KS)(d:List Nat),cN (mC gl) p (a::((Ex.tn n).f++[.bf g])) ⟨F,le⟩ b'/\b'.fo=F++a::((Ex.tn n).f++[.bf g])/\b'.le=le++F.length::d/\d.length+1=5/\True:=by exact⟨⟨F++[a]++[.var]++[.push (.i n)]++[.two "<"]++[.bf g],_⟩,_,.cons (ue ha) (.cons (ue rfl) (.cons (ue rfl) (.cons (ue rfl) (vR (asx h))))),Mz ..,Mz ..,rfl,trivial⟩
theorem asC(ha:qn a=false)(h:gl ((p+2:Nat):Int)=false):∃(b':KS)(d:List Nat),cN (mC gl) p [a,.push (.i 0),.bf g] ⟨F,le⟩ b'/\b'.fo=F++[a,.go g]/\b'.le=le++F.length::d/\d.length+1=3/\True:=by refine⟨⟨F++[a]++[.go g],le++[F.length]++[(F++[a]).length]++[(F++[a]).length]⟩,[_,_],.cons (ue ha) (.cons (ue rfl) (vR (asy h))),ud ..,rW ..,rfl,trivial⟩
theorem asD(ha:qn a=false)(h:gl ((p+2:Nat):Int)=false):∃(b':KS)(d:List Nat),cN (mC gl) p [a,.push (.i 1),.bf g] ⟨F,le⟩ b'/\b'.fo=F++[a]/\b'.le=le++F.length::d/\d.length+1=3/\True:=by refine⟨⟨F++[a],le++[F.length]++[(F++[a]).length]++[(F++[a]).length]⟩,[_,_],.cons (ue ha) (.cons (ue rfl) (vR (asz h))),rfl,rW ..,rfl,trivial⟩
theorem asE{K:List aS}(H:cu K M):∃st:KS,cN (mC (jr (b9 (k9 K M)) (bq (k9 K M)))) 0 (b9 (k9 K M)) ⟨[],[]⟩ st/\Pass (k9 K M) (fw K M) st.fo st.le/\st.le.length=aY (k9 K M) (k9 K M).length+1:=by
 refine Mx _ KS.fo KS.le (λ_ b=>True) (by rw[iR,iR]) (by have :=H.g2;rw[iR]at this⊢;exact this) (λj s s' b hs eD I hl=>?_) ⟨[],[]⟩ trivial rfl rfl λb I=>?_
 .have G:=λ(i:Nat)=>X3 H.g1 hs (i:=i);obtain⟨k,hk,rfl⟩:=BW hs
  cases(uc hk).symm.trans eD;obtain⟨F,le⟩:=b;have hG:=H.ok j k hk;cases k with
  |lt x e=>exact Gy (by cases e<;>rfl)|cU e g=>
   rcases Gx hG.1 with rfl|rfl|⟨n,rfl,_⟩;.exact asD (a:=.row j) (g:=ldI (bq (k9 K M)) g) rfl (G 2 ai (by show 2<3;decide))
   .exact asC (a:=.row j) (g:=ldI (bq (k9 K M)) g) rfl (G 2 ai (by show 2<3;decide))
   .exact asB (a:=.row j) (n:=n) (g:=ldI (bq (k9 K M)) g) rfl (G 4 ai (by show 4<5;decide))|jmp g=>exact Gy rfl|rem x=>exact Gy rfl|jv=>exact Gy rfl
 .exact⟨_,_,.keep .fin rfl,rfl,rfl⟩
def vT(S:ja):Prop:=∀s,s∈S->s≠[]
theorem B0(h:vT S){i j:Nat}(asF:i<j)(hj:i<S.length):aY S i<aY S j:=by have e:S[i]?=some S[i]:=cp hj;have a:=rV e;have b:=Gp S (show i+1<=j from asF);have c:=List.length_pos_iff.mpr (h _ (oz hj));omega
theorem asG(h:vT S){i j:Nat}(hi:i<S.length)(hj:j<S.length)(e:aY S i=aY S j):i=j:=by
 rcases Nat.lt_trichotomy i j with q|q|q;.have :=B0 h q hi;omega
 .exact q
 .have :=B0 h q hj;omega
theorem B2(h:S[j]?=some s)(ho:s[i]?=some o):(b9 S)[aY S j+i]?=some (bU (bq S) o):=by
 have hj:=(cn.mp h).1;have e:S.flatten=(S.take j).flatten++(s++(S.drop (j+1)).flatten):=by
  have :S=S.take j++(s::S.drop (j+1)):=by obtain⟨hj,rfl⟩:=cn.mp h;rw[<-CR hj,jB]
  exact(congrArg Ot this).trans (by rw[N6,Ob])
 unfold b9;have hi:=(cn.mp ho).1;rw[e,cH,cH,cS,cS,eS (by rw[bw];exact cy _ _),bw,ew (by rw[bw];unfold aY;exact jb ..▸hi),cQ];show wH _ s[aY S j+i-aY S j]?=_;rw[jb,ho];rfl
theorem Ye S:(b9 S)[aY S S.length]?=some .fin:=by unfold b9;rw[Mt,eS (by rw[bw];exact br _),bw,pC];rfl
inductive kz(K:List aS):Nat->Nat->Prop|stop(j:Nat)(k:aS)(h:K[j]?=some k)(hk:∀g,k≠.jmp g):kz K j j|jmp(j t:Nat)(g:Nat)(h:K[j]?=some (.jmp g))(r:kz K g t):kz K j t
section
variable{K:List aS}
theorem asH(H:cu K M):∀(f j:Nat),M-j<=f->j<=M->∃t,kz K j t:=by intro f;induction f with|zero=>exactλj h hj=>⟨j,.stop j (.rem true) (by have :=H.ae;rwa[show j=M from(ot hj (vY (yP.mp h)))]) λg e=>nomatch e⟩|succ f ih=>intro j h hj;have e:K[j]?=some (K[j]'(by have :=H.len;exact bD hj (sd (eR _) this.symm))):=cp _;generalize K[j]'(by have :=H.len;exact bD hj (sd (eR _) this.symm))=k at e;cases k with|jmp g=>have q:=H.ok j _ e;obtain⟨q1,q2⟩:=q;obtain⟨n,rfl⟩:∃n:Nat,g=n:=⟨g.toNat,((zr (uz (dK _) (qP q1))).symm)⟩;obtain⟨t,ht⟩:=ih n (aar h q1) (gI.mp q2);exact⟨t,.jmp j t n e ht⟩|_=>exact⟨j,.stop j _ e λg e=>nomatch e⟩
theorem MC(H:cu K M){j t:Nat}(h:kz K j t):t<=M:=by induction h with|stop j k h=>have :=(cn.mp h).1;have :=H.len;omega|jmp _ _ _ _ _ ih=>exact ih
def fS(K:List aS)(g:Int):Int:=open Classical in if h:∃t,kz K g.toNat t then(Dx h:Nat)else g
theorem MD(H:cu K M){j:Nat}(hj:j<=M):∃t:Nat,kz K j t/\fS K j=t:=by
 have h:∃t,kz K ((j:Int)).toNat t:=by rw[fU];exact asH H M j (qI _ _) hj
 refine⟨Dx h,?_,?_⟩;.exact Eq.mp (congrArg (λn=>kz K n (Dx h)) (fU j)) (Pa h)
 .unfold fS;rw[dif_pos h]
noncomputable def lS(T:Int->Int):Od->Od|.go g=>.go (T g)|.bf g=>.bf (T g)|o=>o
abbrev fy(K:List aS)(M:Nat):ja:=(fw K M).map (zp (lS (fS K)))
theorem qA(H:cu K M):(fw K M).length=M+1:=(iR _ _ _).trans H.len
theorem uf(H:cu K M):(fy K M).length=M+1:=bw ..|>.trans (qA H)
theorem Yg j:aY (fy K M) j=aY (fw K M) j:=by unfold aY fy;rw[<-zo,<-Of,bw]
theorem Yh:bq (fy K M)=bq (fw K M):=by unfold bq;rw[show(fy K M).length=(fw K M).length from bw ..];exact kE λj _=>Yg j
theorem asI(k:aS) a last:k.o2 a last≠[]:=by cases k with
 |cU e g=>cases e with|tb n=>cases n<;>exact uw _ _|_=>exact uw _ _
 |_=>exact uw _ _
theorem ME:vT (fw K M):=by intro s hs;obtain⟨j,h⟩:=lZ.mp hs;obtain⟨k,hk,rfl⟩:=BW h;exact asI k _ _
theorem MG:vT (fy K M):=by intro s hs;obtain⟨s,h,rfl⟩:=dS.mp hs;exactλe=>ME s h (List.map_eq_nil_iff.mp e)
theorem Yi{k:aS}(hk:∀g,k≠.jmp g) a last:(k.o2 a last)[0]?=some (.row a):=by cases k with
 |cU e g=>cases e with|tb n=>cases n<;>rfl|_=>rfl
 |jmp g=>exact absurd rfl (hk g)|_=>rfl
theorem yK{j:Nat}(h:j<S.length):ldI (bq S) (j:Int)=(aY S j:Nat):=by unfold ldI;rw[fU,pq h]
theorem asJ(H:cu K M){j t:Nat}(h:kz K j t):oZ (b9 (fw K M)) (aY (fw K M) j:Nat) (aY (fw K M) t:Nat):=by induction h with|stop j k h hk=>have :=B2 (i:=0) (uc (f:=aS.o2) (last:=M) h) (Yi hk _ _);exact .stop _ _ (by rw[fU];exact this) (dK _) rfl|jmp j t g h _ ih=>
 have q:=(H.ok j _ h);have hj:=(cn.mp h).1;have l:=H.len;have hg:g<(fw K M).length:=by rw[qA H];have :=q.2;exact oq (gI.mp this)
 have :=B2 (i:=0) (uc (f:=aS.o2) (last:=M) h) (o:=.go g) rfl;refine .go _ (aY (fw K M) g:Nat) _ ?_ (dK _) ?_ ih;.rw[fU];refine this.trans (congrArg (some∘Od.go) (yK hg))
 .exact eX.mpr (B0 ME (eX.mp q.1) (by rw[qA H];exact cw hj (bo l)))
def B3(K:List aS)(M:Nat)(p:Int):Int:=open Classical in if h:∃j:Nat,j<M+1/\p=(aY (fw K M) j:Nat)then ldI (bq (fw K M)) (fS K (Dx h:Nat))else p
theorem Yj(H:cu K M){j:Nat}(hj:j<M+1):B3 K M (aY (fw K M) j:Nat)=ldI (bq (fw K M)) (fS K j):=by have h:∃i:Nat,i<M+1/\((aY (fw K M) j:Nat):Int)=(aY (fw K M) i:Nat):=⟨j,hj,rfl⟩;unfold B3;rw[dif_pos h];have s:=Pa h;have l:=qA H;rw[asG ME (by rw[l];exact s.1) (by rw[l];exact hj) (lg s.2).symm]
abbrev Gz(K:List aS)(M:Nat):Od->Od:=lS (B3 K M)
theorem asK(H:cu K M){o:Od}(h:ft (M+1) o):Gz K M (bU (bq (fw K M)) o)=bU (bq (fy K M)) (lS (fS K) o):=by
 have k:∀p:Int,0<=p/\p<(M+1:Nat)->B3 K M (ldI (bq (fw K M)) p)=ldI (bq (fy K M)) (fS K p):=λp hp=>by obtain⟨q,rfl,hq⟩:=vQ hp;rw[yK (by rw[qA H];exact hq),Yj H hq,Yh]
 cases o with|go p=>exact congrArg Od.go (k p h)|bf p=>exact congrArg Od.bf (k p h)|_=>rfl
theorem asL(H:cu K M):(b9 (fw K M)).map (Gz K M)=b9 (fy K M):=by have g:=H.g2;rw[qA H]at g;unfold b9;rw[cH,jh,show(fy K M).flatten=(fw K M).flatten.map (lS (fS K))from Of.symm,jh];exact congrArg (·++[Od.fin]) (kE λo ho=>asK H (g.fl ho))
theorem asM(H:cu K M):∀o,o∈b9 (fw K M)->vp (b9 (fw K M)) o (Gz K M o):=by
 intro o ho;have k:∀p,fX o=some p->oZ (b9 (fw K M)) p (B3 K M p):=λp e=>by obtain⟨j,hj,rfl⟩:=X2 H.g2 ho e;rw[qA H]at hj;obtain⟨t,ht,e⟩:=MD H (qG hj);rw[Yj H hj,e,yK (by rw[qA H];exact oq (MC H ht))];exact asJ H ht
 cases o with|go p=>exact .go p _ (k p rfl)|bf p=>exact .bf p _ (k p rfl)|_=>exact .keep _ rfl
theorem cu.g3(H:cu K M):oh (fy K M).length (fy K M):=by
 rw[uf H];intro s hs o ho;obtain⟨s,h,rfl⟩:=dS.mp hs;obtain⟨o,m,rfl⟩:=dS.mp ho;have g:=H.g2;rw[qA H]at g;have g:=g s h o m;have k:∀p:Int,0<=p/\p<(M+1:Nat)->0<=fS K p/\fS K p<(M+1:Nat):=λp hp=>by obtain⟨q,rfl,hq⟩:=vQ hp;obtain⟨t,ht,e⟩:=MD H (qG hq);have :=MC H ht;rw[e];exact⟨dK _,eX.mpr (oq this)⟩
 cases o with|go p=>exact k p g|bf p=>exact k p g|_=>exact trivial
end
theorem MH(h:0<S.length):(iN (b9 S) (bq S)).length=S.length:=by unfold iN;rw[aX,qM,oa,sL];exact qF h
theorem MI(h:r<S.length):(iN (b9 S) (bq S)).getD r 0=aY S (r+1):=by
 unfold iN;rw[jA];rcases pB (r+1) S.length with q|q;.rw[ew (by rw[qM,oa];exact Nat.le_sub_one_of_lt q),List.getElem?_drop,dZ 1,<-jA,pq q]
 .have e:r+1=S.length:=(ot h q);rw[eS (by rw[qM,oa];exact aas e),qM,oa,show r-(S.length-1)=0 from(aat e),Gq,e];rfl
abbrev DR S lf:=Bw (iN (b9 S) (bq S)) lf
theorem Yk(hj:j<S.length)(hp:p<aY S (j+1)):DR S lf p o ⟨F,le,j⟩ ⟨if lf.getD j false=false then F++[o]else F,le++[F.length],j⟩:=by
 have l:=MH (S:=S) (bD (dC _) hj);refine⟨.stop j (λh=>?_) (by rw[l];exact fJ hj),?_,rfl⟩;.rw[MI hj]at h;exact aau hp h
 .show _=if j=_\/_ then F++[o]else F;by_cases q:lf.getD j false=false;.rw[if_pos q,if_pos (.inr q)]
  .rw[if_neg q,if_neg (λh=>h.elim (λh=>by rw[l]at h;exact absurd h (gh hj)) q)]
theorem asN:∀(s:List Od)(p j:Nat)(F:List Od)(le:List Nat),j<S.length->p+s.length<=aY S (j+1)->∃d,cN (DR S lf) p s ⟨F,le,j⟩ ⟨F++(if lf.getD j false=false then s else[]),le++d,j⟩/\d.length=s.length:=by intro s;induction s with|nil=>exactλp j F le hj hp=>⟨[],by rw[ite_self,cG,cG];exact .nil _ _,rfl⟩|cons o s ih=>
 intro p j F le hj hp;rw[eU]at hp;obtain⟨d,r,hd⟩:=ih (p+1) j (if lf.getD j false=false then F++[o]else F) (le++[F.length]) hj (lT _ _ _▸hp);refine⟨F.length::d,.cons (Yk hj (ax (gf (cy _ _)) hp)) ?_,congrArg (·+1) hd⟩;rw[show le++F.length::d=le++[F.length]++d by rw[cS];rfl];by_cases q:lf.getD j false=false;.rw[if_pos q,if_pos q]at r;rw[if_pos q,if_pos q,show F++o::s=F++[o]++s by rw[cS];rfl];exact r
 .rw[if_neg q,if_neg q]at r;rw[if_neg q,if_neg q];exact r
theorem asO(hn:vT S){j:Nat}{le:List Nat}{o:Od}(hj:j<S.length):DR S lf (aY S j) o ⟨F,le,j-1⟩ ⟨if lf.getD j false=false then F++[o]else F,le++[F.length],j⟩:=by
 have h:=Yk (lf:=lf) (F:=F) (le:=le) (o:=o) hj (B0 hn (eR j) hj);rcases j with _|j;.exact h
 .refine⟨.next _ _ ⟨by rw[MH (bD (dC _) hj)];exact fJ hj,?_⟩ h.r,h.f,h.l⟩;show(iN _ _).getD j 0<=_;rw[MI (fJ hj)];exact br _
theorem asP(h0:0<S.length):DR S lf (aY S S.length) o ⟨F,le,S.length-1⟩ ⟨F++[o],le++[F.length],S.length⟩:=by
 have l:=MH h0;refine⟨.next _ _ ⟨by rw[l];show S.length-1<_;exact v7 h0 um,?_⟩ ?_,?_,rfl⟩;.show(iN _ _).getD (S.length-1) 0<=_;rw[MI (v7 h0 um),qF h0];exact br _
 .show lG _ _ (S.length-1+1) S.length;rw[qF h0];exact .stop _ (by rw[l];exact aav) (by rw[l];exact br _)
 .show _=if S.length=_\/_ then F++[o]else F;rw[if_pos (.inl l.symm)]
noncomputable def rX(lf:List Bool)(S:ja):ja:=S.mapIdx λj s=>if lf.getD j false=false then s else[]
theorem B4 lf S:(rX lf S).length=S.length:=N_
theorem B5(h:S[j]?=some s):(rX lf S)[j]?=some (if lf.getD j false=false then s else[]):=by unfold rX;rw[Ht,h];rfl
theorem Yl(h:s∈rX lf S):s∈S\/s=[]:=by
 obtain⟨j,h⟩:=lZ.mp h;have hj:=(cn.mp h).1;rw[B4]at hj;have e:S[j]?=some S[j]:=cp hj;cases(B5 (lf:=lf) e).symm.trans h;split;.exact .inl (oz hj)
 .exact .inr rfl
theorem asQ lf(hn:vT S)(hg:oh S.length S)(h0:0<S.length):∃st:DS,cN (DR S lf) 0 (b9 S) ⟨[],[],0⟩ st/\Pass S (rX lf S) st.fo st.le/\st.le.length=aY S S.length+1:=by
 refine Mx _ DS.fo DS.le (λj b=>b.row=j-1) (B4 _ _) ?_ (λj s s' b hs eD I hl=>?_) ⟨[],[],0⟩ rfl rfl rfl λb I=>?_
 .intro s hs;rcases Yl hs with h|rfl;.exact hg s h
  .exactλo ho=>absurd ho eH
 .cases(B5 hs).symm.trans eD;obtain⟨F,le,r⟩:=b;have I:r=j-1:=I;subst I;have hj:=(cn.mp hs).1;have hp:=rV hs;rcases s with _|⟨o,s⟩;.exact absurd rfl (hn _ (ez hs))
  rw[eU]at hp;obtain⟨d,r,hd⟩:=asN (S:=S) (lf:=lf) (s.map (bU (bq S))) (aY S j+1) j (if lf.getD j false=false then F++[bU (bq S) o]else F) (le++[F.length]) hj (by rw[bw];exact aaw hp);refine⟨_,d,.cons (asO hn hj) r,?_,?_,by rw[hd,bw];rfl,rfl⟩
  .by_cases q:lf.getD j false=false;.show(if _ then _ else _)++(if _ then _ else _)=F++zp _ (if _ then _ else _);rw[if_pos q,if_pos q,if_pos q,cS];rfl
   .show(if _ then _ else _)++(if _ then _ else _)=F++zp _ (if _ then _ else _);rw[if_neg q,if_neg q,if_neg q];rfl
  .show le++[F.length]++d=_;rw[cS];rfl
 .obtain⟨F,le,r⟩:=b;have I:r=S.length-1:=I;subst I;exact⟨_,_,asP h0,rfl,rfl⟩
theorem asR(h:Pass S (rX lf S) fo le):gX lf le (bq S) (bq S).length=(cA S.length).map λj=>if lf.getD j false=true then-1 else(aY (rX lf S) j:Int):=by unfold gX;rw[oa];refine kE λj hj=>?_;have hj:=oA.mp hj;rw[pq hj];unfold gv;rw[h.l j hj]
theorem B6 os ss fi:∀n j,j<n->(gL os ss fi n).getD j false=vt os ss fi (gL os ss fi j) j:=by intro n;induction n with|zero=>exactλj h=>nomatch h|succ n ih=>
 intro j h;show(_++[_]).getD j false=_;rw[jA];rcases GP (qG h)with q|rfl;.rw[ew (by rw[vu];exact q),<-jA];exact ih j q
 .rw[eS (by rw[vu];exact br _),vu,pC];rfl
theorem asS k v:∀l:List (Int×V),(dU k v l).lookup k=some v:=by intro l;induction l with|nil=>show([(k,v)]:List (Int×V)).lookup k=_;rw[fL,beq_self_eq_true]|cons e l ih=>
 obtain⟨y,w⟩:=e;rw[FX];by_cases q:y=k;.rw[if_pos q,q,fL,beq_self_eq_true]
 .rw[if_neg q,fL,show(k==y)=false from beq_false_of_ne (hY q)];exact ih
theorem asT os:∀kv,(kv.lookup q).isSome=true\/(∃o,o∈os/\fX o=some q)->((cX kv os).lookup q).isSome=true:=by induction os with|nil=>exactλkv h=>h.elim id λ⟨o,m,_⟩=>absurd m eH|cons o os ih=>
 intro kv h;refine ih (gO kv o) ?_;by_cases e:fX o=some q;.left;unfold gO;rw[e];show((dU q _ kv).lookup q).isSome=true;rw[asS];rfl
 .rcases h with h|⟨o',m,e'⟩;.left;rw[X1 e];exact h
  .rcases bX.mp m with rfl|m;.exact absurd e' e
   .exact .inr ⟨o',m,e'⟩
structure Ym(S:ja)(lf:List Bool):Prop where
 zero:lf.getD 0 false=false
 goal:∀o,o∈b9 S->∀j,j<S.length->fX o=some ((aY S j:Nat):Int)->lf.getD j false=false
 next:∀j s i o,j+1<S.length->S[j]?=some s->s[i]?=some o->i+1=s.length->oY o=false->lf.getD j false=false->lf.getD (j+1) false=false
theorem asU S fi(h0:0<S.length)(hn:vT S):Ym S (gL (b9 S) (bq S) fi (bq S).length)where
 zero:=by rw[oa,B6 _ _ _ _ _ h0];rfl
 goal o ho j hj e:=by rw[oa,B6 _ _ _ _ _ hj];unfold vt yl;rw[pq hj,asT (b9 S) [] (.inr ⟨o,ho,e⟩),zv,zu,Bool.false_and]
 next j s i o hj hs ho hi hg hl:=by
  have q:=hl;rw[oa]at q⊢;rw[B6 _ _ _ _ _ (fJ hj)]at q;rw[B6 _ _ _ _ _ hj];unfold vt;have e:Bt (b9 S) ((bq S).getD (j+1) 0-1:Int)=false:=by unfold Bt;rw[pq hj,show(((aY S (j+1):Nat):Int)-1).toNat=aY S j+i by have :=rV hs;exact aax hi this,B2 hs ho];show oY (bU _ o)=false;cases o<;>first|rfl|cases hg
  rw[e,Dg];show(_&&(gL _ _ _ (j+1)).getD j false)=false;rw[B6 _ _ _ _ _ (eR j),q,zu]
def vU(S:ja):Prop:=∀s,s∈S->s.length<=7
theorem vU.aY(h:vU S):∀j,aY S j<=7*j:=by intro j;induction j with|zero=>exact br _|succ j ih=>cases e:S[j]? with|some s=>have :=h s (ez e);rw[rV e];exact ou ih this|none=>
 have e:=zd.mp e;have :Internal.aY S (j+1)=Internal.aY S j:=by unfold Internal.aY;rw[lY e,lY (pz e)]
 omega
theorem GA{e:Ex}:e.o.length<=5:=by cases e<;>(unfold Ex.o;simp)
theorem MJ{e:Ex}:e.f.length<=3:=by cases e<;>(unfold Ex.f;simp)
section
variable{K:List aS}
theorem Yn(k:aS) a last:(k.o a last).length<=7:=by cases k with|lt b e=>unfold aS.o;rw[oi];have :=GA (e:=e);exact mT this _|cU e g=>unfold aS.o;rw[oi];have :=GA (e:=e);exact mT this _|_=>unfold aS.o;simp
theorem Yo(k:aS) a last:(k.o1 a last).length<=7:=by cases k with|lt b e=>unfold aS.o1;rw[oi];have :=MJ (e:=e);exact ax (mT this _) ai|cU e g=>unfold aS.o1;rw[oi];have :=MJ (e:=e);exact ax (mT this _) ai|_=>exact GO rfl
theorem Yp(k:aS) a last:(k.o2 a last).length<=7:=by have h:=Yo k a last;cases k with
 |cU e g=>cases e with|tb n=>cases n<;>exact GO rfl|_=>exact h
 |_=>exact h
theorem GB(hf:∀k a b,(f k a b).length<=7):vU (lQ f M K):=by intro s hs;obtain⟨j,h⟩:=lZ.mp hs;obtain⟨k,hk,rfl⟩:=BW h;exact hf ..
theorem MK:vU (fy K M):=by intro s hs;obtain⟨s,h,rfl⟩:=dS.mp hs;rw[bw];exact GB Yp s h
theorem Yq(h:vU S):vU (rX lf S):=by
 intro s hs;rcases Yl hs with q|rfl;.exact h s q
 .exact dC _
theorem yL(H:cu K M)(h:vU S)(hn:S.length=M+1):(b9 S).length<=57:=by rw[Gq,hn];have :=h.aY (M+1);have :=H.iy;omega
theorem ML(h:∀j,aY S j=aY S' j)(hn:S.length=S'.length):∀p,p∈bq S->p<(b9 S').length:=by intro p m;obtain⟨j,hj,rfl⟩:=XY.mp m;rw[h];exact Mu S' (fJ (cw hj (bo hn)))
def jQ(K:List aS)(M:Nat)(pl:List (Int×Nat)):List Bool:=gL (b9 (fy K M)) (bq (fy K M)) (gW pl pl) (bq (fy K M)).length
abbrev dP(K:List aS)(M:Nat)(pl:List (Int×Nat)):ja:=rX (jQ K M pl) (fy K M)
inductive asV(K:List aS)(M:Nat)(pl:List (Int×Nat)):Prop|mk(jM:FS)(jN:KS)(fQ:DS)(I:yt pl (b9 (dj K M)) (bq (dj K M)) jM (b9 (k9 K M)) (bq (k9 K M)) jN (b9 (fw K M)) (bq (fy K M)) (Gz K M) (b9 (fy K M)) (jQ K M pl) fQ (b9 (dP K M pl)))(h:gX (jQ K M pl) fQ.le (bq (fy K M)) (bq (fy K M)).length=(cA (M+1)).map λj=>if(jQ K M pl).getD j false=true then-1 else(aY (dP K M pl) j:Int))
theorem asW(H:cu K M){pl:List (Int×Nat)}(j8:pl.length<=900):asV K M pl:=by
 obtain⟨jM,r1,p1,l1⟩:=asw H;obtain⟨jN,r2,p2,l2⟩:=asE H;have n0:(dj K M).length=M+1:=(iR _ _ _).trans H.len;have n1:(k9 K M).length=M+1:=(iR _ _ _).trans H.len;have n2:=qA H;have n3:=uf H;have iy:=H.iy;obtain⟨fQ,r3,p3,l3⟩:=asQ (S:=fy K M) (jQ K M pl) MG H.g3 (sd (sg _) n3.symm);have L0:=yL H (GB (K:=K) (M:=M) Yn) n0;have L1:=yL H (GB (K:=K) (M:=M) Yo) n1;have L2:=yL H (GB (K:=K) (M:=M) Yp) n2;have L3:=yL H (MK (K:=K) (M:=M)) n3;have L4:=yL H (Yq (lf:=jQ K M pl) (MK (K:=K) (M:=M))) ((B4 _ _).trans n3);refine .mk jM jN fQ ?_ ?_;.exact{
  n0:=ax L0 ai
  n1:=ax L1 ai
  n2:=ax L2 ai
  n4:=ax L4 ai
  m0:=by rw[oa,n0];exact bD iy ai
  m1:=by rw[oa,n0];exact qH _ _
  p0:=j8
  k0:=by rw[Gq];exact qH _ _
  s0:=ML (λ_=>rfl) rfl
  s1:=ML (λ_=>rfl) rfl
  s2:=ML Yg (n3.trans n2.symm)
  f:=r1
  tf:=p1.tf
  e1:=p1.os.symm
  x1:=p1.ss.symm
  k:=r2
  tk:=p2.tf
  e2:=p2.os.symm
  x2:=Yh.trans p2.ss.symm
  t:=asM H
  e3:=(asL H).symm
  hl:=rfl
  hb:=λj h0 hj=>by rw[oa]at hj;rw[pq hj];have a:=B0 (MG (K:=K) (M:=M)) h0 (bD (dC _) hj);have b:=Mu (fy K M) (fJ hj);exact aay a b
  d:=r3
  td:=p3.tf
  e4:=p3.os.symm}
 .rw[asR p3,n3]
end
inductive ug(va:List KV):Od->List KV->List KV->Prop|push(v:KV)(q:List KV):ug va (.push v) q (q++[v])|kept(i:Nat)(v:KV)(q:List KV)(h:va[i]?=some v):ug va (.kept i) q (q++[v])|var(q:List KV):ug va .var q (q++[.i 2])|one(a:Int)(ha:a∈[(0:Int),1,2,3]):ug va .one [.i a] [.i (-a)]|two(op:Str)(a b v:KV)(hm:(op,a,b,some v)∈fO):ug va (.two op) [a,b] [v]|less(n:Int)(hn:n∈[(0:Int),1,2,3,4]):ug va (.two "<") [.i 2,.i n] [.i (vG n)]
inductive oj(va:List KV):List Od->List KV->List KV->Prop|nil(q:List KV):oj va [] q q|cons{o:Od}{l:List Od}{q q' Yr:List KV}(h:ug va o q q')(t:oj va l q' Yr):oj va (o::l) q Yr
def hK(os:List Od)(p:Nat)(l:List Od):Prop:=∀i o,l[i]?=some o->os[p+i]?=some o
theorem hK.hd{os:List Od}(h:hK os p (o::l)):os[p]?=some o:=h 0 o rfl
theorem hK.tl{os:List Od}(h:hK os p (o::l)):hK os (p+1) l:=λi x e=>by have :=h (i+1) x e;rwa[hU,dZ 1]
theorem hK.l{os:List Od}{l l':List Od}(h:hK os p (l++l')):hK os p l:=λi x e=>h i x (by rw[ew (cn.mp e).1];exact e)
theorem hK.r{os:List Od}{l l':List Od}(h:hK os p (l++l')):hK os (p+l.length) l':=λi x e=>by have :=h (l.length+i) x (by rw[eS (cy _ _),jb];exact e);rwa[hU]
def Fi(va:List KV)(os:List Od)(p:Nat)(X:List Tl)(r:Bool)(k:Nat)(T:List Tl)(q:List KV)(row:Int):Prop:=∀ask,∃n e,n<=k/\mI va os n ⟨T,ask,q,row,(p:Nat)⟩ r e/\e.aB=X
def cF(va:List KV)(os:List Od)(p:Nat)(T:List Tl)(r:Bool)(k:Nat):Prop:=∀T0 row,Fi va os p (T0++T) r k T0 [] row
section
variable{os:List Od}
theorem Fi.up(h:Fi va os p X r k T q row)(hk:k<=k'):Fi va os p X r k' T q row:=λask=>by obtain⟨n,e,a,b⟩:=h ask;exact⟨n,e,ax a hk,b⟩
theorem cF.up(h:cF va os p T r k)(hk:k<=k'):cF va os p T r k':=λT0 row=>(h T0 row).up hk
theorem Fi.st(ho:os[p]?=some o)(f:Nat->Nat)(hs:∀ask,iw va ⟨T,ask,q,row,(p:Nat)⟩ o ⟨T',f ask,q',asX,(p':Nat)⟩)(h:Fi va os p' X r k T' q' asX):Fi va os p X r (k+1) T q row:=λask=>by obtain⟨n,e,a,b,c⟩:=h (f ask);exact⟨n+1,e,gf a,.step n _ _ e r o (dK p) (by show os[(p:Int).toNat]?=_;rw[fU];exact ho) (hs ask) b,c⟩
theorem Fi.ps(ho:os[p]?=some o)(hs:ug va o q q')(h:Fi va os (p+1) X r k T q' row):Fi va os p X r (k+1) T q row:=by cases hs with|push v=>exact .st ho id (λ_=>.push v) h|kept i v _ hv=>exact .st ho id (λ_=>.kept i v hv) h|var=>exact .st ho (·+1) (λ_=>.var) h|one a ha=>exact .st ho id (λ_=>.one a rfl ha) h|two op a b v hm=>exact .st ho id (λ_=>.two op a b v rfl hm) h|less n hn=>exact .st ho id (λ_=>.less n rfl hn) h
theorem Fi.run(h:oj va l q q'):∀{p:Nat},hK os p l->Fi va os (p+l.length) X r k T q' row->Fi va os p X r (k+l.length) T q row:=by induction h with|nil=>exactλ_ h=>h|cons h t ih=>intro p ha hf;refine .ps ha.hd h (ih ha.tl ?_);rw[eU]at hf;rwa[hU,dZ 1]
theorem Fi.rw_(ho:os[p]?=some (.row a))(h:Fi va os (p+1) X r k (T++[.row a]) q a):Fi va os p X r (k+1) T q row:=.st ho id (λ_=>.row a) h
theorem Fi.store(ho:os[p]?=some (.store x))(h:Fi va os (p+1) X r k (T++[.st x v]) [] row):Fi va os p X r (k+1) T [v] row:=.st ho id (λ_=>.store x v rfl) h
theorem Fi.go(ho:os[p]?=some (.go (g:Nat)))(h:Fi va os g X r k T q row):Fi va os p X r (k+1) T q row:=.st ho id (λ_=>.go (g:Nat)) h
theorem Fi.f0(ho:os[p]?=some (.bf (g:Nat)))(h:Fi va os g X r k T [] row):Fi va os p X r (k+1) T [.i 0] row:=.st ho id (λ_=>by have :=iw.bf (vals:=va) (s:=⟨T,(by assumption:Nat),[.i 0],row,(p:Nat)⟩) (g:Nat) 0 rfl (.head _);exact this) h
theorem Fi.f1(hx:x=1\/x=-1)(ho:os[p]?=some (.bf (g:Nat)))(h:Fi va os (p+1) X r k T [] row):Fi va os p X r (k+1) T [.i x] row:=.st ho id (λa=>by have :=iw.bf (vals:=va) (s:=⟨T,a,[.i x],row,(p:Nat)⟩) (g:Nat) x rfl (by rcases hx with rfl|rfl<;>decide);rw[show Gb x (g:Nat) (p:Nat)=((p+1:Nat):Int)by unfold Gb;rw[if_neg (aaz hx)];rfl]at this;exact this) h
theorem cF.end(ho:os[p]?=some .fin):cF va os p [] true 0:=λT0 row ask=>⟨0,_,br _,.fin _ (dK p) (by show os[(p:Int).toNat]?=_;rw[fU];exact ho),(cG _).symm⟩
theorem cF.go(ho:os[p]?=some (.go (g:Nat)))(h:cF va os g T r k):cF va os p T r (k+1):=λT0 row=>.go ho (h T0 row)
theorem B7 T0 t(T:List Tl):T0++t::T=T0++[t]++T:=by rw[cS];rfl
theorem cF.rw_(ho:os[p]?=some (.row a))(h:cF va os (p+1) T r k):cF va os p (.row a::T) r (k+1):=λT0 row=>.rw_ ho (by rw[B7];exact h _ _)
theorem cF.lt(ho:hK os p (.row a::(l++[.store x])))(hl:oj va l [] [v])(h:cF va os (p+(l.length+2)) T r k):cF va os p (.row a::.st x v::T) r (k+(l.length+2)):=λT0 row=>have e:p+1+l.length+1=p+(l.length+2):=by omega
 (Fi.rw_ ho.hd (Fi.run hl ho.tl.l (Fi.store ho.tl.r.hd (by rw[B7,B7,e];exact h _ _)))).up Iw
theorem cF.err(ho:hK os p (.row a::(l++.two op::l')))(hl:oj va l [] [x,y])(hm:(op,x,y,none)∈fO):cF va os p [.row a] false (l.length+1):=λT0 row=>(Fi.rw_ ho.hd (Fi.run (k:=0) hl ho.tl.l λask=>⟨0,_,br _,.err _ op x y (dK _) (by show os[((p+1+l.length:Nat):Int).toNat]?=_;rw[fU];exact ho.tl.r.hd) rfl hm,rfl⟩)).up (gf (bo (eu _)))
theorem cF.MM(ho:hK os p (.row a::(l++[.bf (g:Nat)])))(hl:oj va l [] [.i 0])(h:cF va os g T r k):cF va os p (.row a::T) r (k+(l.length+2)):=λT0 row=>(Fi.rw_ ho.hd (Fi.run hl ho.tl.l (Fi.f0 ho.tl.r.hd (by rw[B7];exact h _ _)))).up Iw
theorem cF.if1(hx:x=1\/x=-1)(ho:hK os p (.row a::(l++[.bf (g:Nat)])))(hl:oj va l [] [.i x])(h:cF va os (p+(l.length+2)) T r k):cF va os p (.row a::T) r (k+(l.length+2)):=λT0 row=>have e:p+1+l.length+1=p+(l.length+2):=by omega
 (Fi.rw_ ho.hd (Fi.run hl ho.tl.l (Fi.f1 hx ho.tl.r.hd (by rw[B7,e];exact h _ _)))).up Iw
end
def Ex.val:Ex->Option KV|.t0 n=>some (.i ((n:Int)+1))|.t1 n=>some (.s (Gr n))|.mF=>some (.i 2)|.neg n=>some (.i (-n))|.t4 n=>some (LU n)|.t5 n=>none|.tb n=>some (.i (1-(n:Int)))|.tn n=>some (.i (vG n))
theorem B8(he:e∈gz){v:KV}(hv:e.val=some v):oj [] e.o [] [v]:=by have q:=Gu he;cases e with|t0 n=>have q:=(iV _ _).mp q;cases hv;exact .cons (.push _ _) (.cons (.push _ _) (.cons (.two _ _ _ _ (of_decide_eq_true q.1)) (.cons (.push _ _) (.cons (.two _ _ _ _ (of_decide_eq_true q.2)) (.nil _)))))|t1 n=>cases hv;exact .cons (.push _ _) (.cons (.push _ _) (.cons (.two _ _ _ _ (of_decide_eq_true q)) (.nil _)))|mF=>cases hv;exact .cons (.var _) (.nil _)|neg n=>cases hv;exact .cons (.push _ _) (.cons (.one _ (of_decide_eq_true q)) (.nil _))|t4 n=>cases hv;exact .cons (.push _ _) (.nil _)|t5 n=>cases hv|tb n=>cases hv;exact .cons (.push _ _) (.cons (.push _ _) (.cons (.two _ _ _ _ (of_decide_eq_true q)) (.nil _)))|tn n=>cases hv;exact .cons (.var _) (.cons (.push _ _) (.cons (.less _ (of_decide_eq_true q)) (.nil _)))
theorem MN(he:e∈gz){v:KV}(hv:e.val=some v):oj [] e.f [] [v]:=by have q:=Gu he;cases e with|mF=>cases hv;exact .cons (.var _) (.nil _)|t5 n=>cases hv|tn n=>cases hv;exact .cons (.var _) (.cons (.push _ _) (.cons (.less _ (of_decide_eq_true q)) (.nil _)))|_=>cases hv;exact .cons (.push _ _) (.nil _)
theorem Ys{α β:Type}{f:β->α->β}{I:List α->β->Prop}(hs:∀pre a b,I pre b->I (pre++[a]) (f b a)):∀(l pre:List α)(b:β),I pre b->I (pre++l) (l.foldl f b):=by intro l;induction l with|nil=>exactλpre b h=>by rw[cG];exact h|cons a l ih=>intro pre b h;have :=ih (pre++[a]) (f b a) (hs pre a b h);rwa[cS]at this
noncomputable def mS(va:List KV):Od->Od|.push v=>.kept (va.idxOf v:Nat)|o=>o
structure rY(os:List Od)(st:tS):Prop where
 nd:st.va.Nodup
 has:∀v,Od.push v∈os->v∈st.va
 fo:st.fo=os.map (mS st.va)fst:eC (di st.fo)=(cA st.va.length).map λ(k:Nat)=>(k:Int)lt:∀i,i∈di st.fo->0<=i/\i<st.va.length
 vV:∀v,v∈st.va->Od.push v∈os
 nk:∀i,Od.kept i∉os
theorem Yt a b:di (a++b)=di a++di b:=wt
theorem asY{v w:KV}(h:v∈va):(va++[w]).idxOf v=va.idxOf v:=by rw[Hz,if_pos h]
theorem Yu l x:eC (l++[x])=if((eC l).any (·==x))=true then eC l else eC l++[x]:=by unfold eC dW;rw[qL];rfl
theorem GC l i:di (l++[.kept i])=di l++[i]:=Yt _ _
theorem Yv(h:Od.push v=.push w):w=v:=by cases h;rfl
theorem Yw(h:kl o=false) l:di (l++[o])=di l:=by rw[Yt];cases o with|kept i=>exact bZ h.symm|_=>exact cG _
theorem asZ va(h:nW o=false):mS va o=o:=by cases o with|push v=>exact bZ h.symm|_=>rfl
theorem Yx{α:Type}{l:List α}{x y:α}{Q:α->Prop}(h:x∈l++[y])(h1:x∈l->Q x)(h2:Q y):Q x:=(cV.mp h).elim h1 λm=>bM.mp m▸h2
section
variable{st:tS}
theorem as0(I:rY pre st)(ho:nW o=false)(dX:kl o=false)(hk:∀i,Od.kept i∉pre++[o]):rY (pre++[o]) ⟨st.fo++[o],st.va⟩where
 nd:=I.nd;has v m:=(cV.mp m).elim (I.has v) λm=>bZ (ho.symm.trans (congrArg nW (bM.mp m).symm));fo:=by show st.fo++[o]=_;rw[cH,I.fo,ef,asZ _ ho];rfl
 fst:=(congrArg eC (Yw dX _)).trans I.fst;lt i m:=I.lt i (Yw dX st.fo▸m);vV v m:=eG _ (I.vV v m);nk:=hk
theorem as1(I:rY pre st)(hv:v∈st.va)(hk:∀i,Od.kept i∉pre++[.push v]):rY (pre++[.push v]) ⟨st.fo++[.kept (st.va.idxOf v:Nat)],st.va⟩where
 nd:=I.nd;has w m:=(cV.mp m).elim (I.has w) λm=>Yv (bM.mp m)▸hv;fo:=by show _++[_]=_;rw[cH,I.fo];rfl
 fst:=by show eC (di (st.fo++[_]))=_;rw[GC,Yu,I.fst,if_pos];exact zj.mpr ⟨_,dS.mpr ⟨_,oA.mpr (CQ hv),rfl⟩,beq_self_eq_true _⟩
 lt i m:=Yx (Q:=λi=>0<=i/\i<(st.va.length:Int)) (GC st.fo _▸m) (I.lt i) ⟨dK _,eX.mpr (CQ hv)⟩;vV w m:=eG _ (I.vV w m);nk:=hk
theorem as2(I:rY pre st)(hv:v∉st.va)(hk:∀i,Od.kept i∉pre++[.push v]):rY (pre++[.push v]) ⟨st.fo++[.kept (st.va.length:Nat)],st.va++[v]⟩where
 nd:=gH.mpr ⟨I.nd,Hr _ _,λa ha b hb e=>hv (bM.mp hb▸e▸ha)⟩;has w m:=(cV.mp m).elim (λm=>eG _ (I.has w m)) λm=>Yv (bM.mp m)▸gi _ (.head _);fo:=by
  show st.fo++[_]=_;have e:pre.map (mS st.va)=pre.map (mS (st.va++[v])):=kE λo m=>by cases o with|push w=>exact congrArg (λ(n:Nat)=>Od.kept (n:Int)) (asY (I.has w m)).symm|_=>rfl
  rw[cH,I.fo,e];refine congrArg (λ(n:Nat)=>_++[Od.kept (n:Int)]) ?_;rw[Hz,if_neg hv,List.idxOf_cons_self];exact(eu _).symm
 fst:=by show eC (di (st.fo++[_]))=_;rw[GC,Yu,I.fst,if_neg,aX,sL,HI,cH];rfl;intro h;obtain⟨x,m,e⟩:=zj.mp h;obtain⟨n,m',r⟩:=dS.mp m;exact gh (oA.mp m') (lg (r.trans (eq_of_beq e)))
 lt i m:=Yx (Q:=λi=>0<=i/\i<((st.va++[v]).length:Int)) (GC st.fo _▸m) (λm=>⟨(I.lt i m).1,sT (I.lt i m).2 (gI.mpr (aX▸cy _ _))⟩) ⟨dK _,eX.mpr (aX▸eR _)⟩;vV w m:=(cV.mp m).elim (λm=>eG _ (I.vV w m)) λm=>gi _ (bM.mp m▸.head _);nk:=hk
end
theorem as3 os(hk:∀i,Od.kept i∉os):rY os (gb os):=by
 refine Ys (f:=lJ) (I:=λpre st=>(∀i,Od.kept i∉pre)->rY pre st) (λpre o st I hk=>?_) os [] ⟨[],[]⟩ (λ_=>⟨wy,λ_ m=>absurd m eH,rfl,rfl,λ_ m=>absurd m eH,λ_ m=>absurd m eH,λ_ m=>absurd m eH⟩) hk
 have I:=I λi m=>hk i (eG _ m);cases o with
 |push v=>
  by_cases hv:v∈st.va;.rw[show lJ st (.push v)=⟨st.fo++[.kept (st.va.idxOf v:Nat)],st.va⟩from if_pos hv];exact as1 I hv hk
  .rw[show lJ st (.push v)=⟨st.fo++[.kept (st.va.length:Nat)],st.va++[v]⟩from if_neg hv];exact as2 I hv hk|kept i=>exact absurd (gi _ (.head _)) (hk i)|_=>exact as0 I rfl rfl hk
section
variable{K:List aS}
abbrev cR(K:List aS)(M:Nat)(pl:List (Int×Nat)):List Od:=b9 (dP K M pl)
abbrev gc(K:List aS)(M:Nat)(pl:List (Int×Nat)):List Od:=(gb (cR K M pl)).fo
abbrev jR(K:List aS)(M:Nat)(pl:List (Int×Nat)):List KV:=(gb (cR K M pl)).va
abbrev eQ(K:List aS)(M:Nat)(pl:List (Int×Nat))(j:Nat):Bool:=(jQ K M pl).getD j false
theorem GF(H:cu K M):(dP K M pl).length=M+1:=(B4 _ _).trans (uf H)
theorem MP(H:cu K M) pl:Ym (fy K M) (jQ K M pl):=asU (fy K M) (gW pl pl) (by rw[uf H];exact sg _) MG
theorem B9{j:Nat}(h:K[j]?=some k):(fy K M)[j]?=some ((k.o2 j M).map (lS (fS K))):=by rw[cQ,uc h];rfl
theorem B_(h:K[j]?=some k)(hl:eQ K M pl j=false):(dP K M pl)[j]?=some ((k.o2 j M).map (lS (fS K))):=(B5 (B9 h)).trans (congrArg some (if_pos hl))
theorem as4{e:Ex}(h:o∈e.f):kl o=false:=(Dd _).mp (jV.mp (show e.f.all (λo=>!kl o)=true by cases e<;>rfl) o h)
theorem Yy(h:o∈k.o1 a last):o∈(MA k).f\/(nW o=false/\kl o=false):=by cases k with|lt b e=>exact(bX.mp h).elim (λr=>.inr (r▸⟨rfl,rfl⟩)) λh=>(cV.mp h).elim .inl λh=>.inr (bM.mp h▸⟨rfl,rfl⟩)|cU e g=>exact(bX.mp h).elim (λr=>.inr (r▸⟨rfl,rfl⟩)) λh=>(cV.mp h).elim .inl λh=>.inr (bM.mp h▸⟨rfl,rfl⟩)|jmp g=>exact .inr (bM.mp h▸⟨rfl,rfl⟩)|rem b=>exact .inr (bM.mp h▸⟨rfl,rfl⟩)|jv=>exact(bX.mp h).elim (λr=>.inr (r▸⟨rfl,rfl⟩)) λh=>.inr (bM.mp h▸⟨rfl,rfl⟩)
theorem Yz(h:o∈k.o2 a last):o∈(MA k).f\/(nW o=false/\kl o=false):=by cases k with
 |cU e g=>cases e with
  |tb n=>cases n with|zero=>exact .inr (bM.mp h▸⟨rfl,rfl⟩)|succ n=>exact(bX.mp h).elim (λr=>.inr (r▸⟨rfl,rfl⟩)) λh=>.inr (bM.mp h▸⟨rfl,rfl⟩)
  |_=>exact Yy (k:=.cU _ g) (a:=a) (last:=last) h
 |_=>exact Yy (a:=a) (last:=last) h
theorem as5{k:aS}(h:o∈k.o2 a last):kl o=false:=(Yz h).elim as4 DF
theorem YA(h:o∈cR K M pl):o=.fin\/∃(j:Nat)(k:aS)(o':Od),K[j]?=some k/\eQ K M pl j=false/\o'∈k.o2 j M/\o=bU (bq (dP K M pl)) (lS (fS K) o'):=by
 unfold cR b9 at h;refine(cV.mp h).elim (λh=>?_) λh=>.inl (bM.mp h);obtain⟨w8,m,e1⟩:=dS.mp h;obtain⟨s,hs,ho⟩:=CV.mp m;obtain⟨j,e⟩:=lZ.mp hs;have hj:=(cn.mp e).1;rw[B4,bw,iR]at hj;have ek:=cp hj;by_cases hl:eQ K M pl j=false;.rw[aJ (e.symm.trans (B_ ek hl))]at ho;obtain⟨o',m',e2⟩:=dS.mp ho;exact .inr ⟨j,_,o',ek,hl,m',by rw[<-e1,<-e2]⟩
 .rw[aJ (e.symm.trans ((B5 (lf:=jQ K M pl) (B9 (M:=M) ek)).trans (congrArg some (if_neg hl))))]at ho;exact absurd ho eH
theorem as6:kl (bU le (lS T o))=kl o:=by cases o<;>rfl
theorem as7:∀i,Od.kept i∉cR K M pl:=by
 intro i h;rcases YA h with h|⟨j,k,o',_,_,m,e⟩;.cases h
 .have :=as5 m;rw[<-as6 (le:=bq (dP K M pl)) (T:=fS K),<-e]at this;cases this
theorem rZ:rY (cR K M pl) (gb (cR K M pl)):=as3 _ as7
abbrev om(K:List aS)(M:Nat)(pl:List (Int×Nat))(o:Od):Od:=mS (jR K M pl) (bU (bq (dP K M pl)) (lS (fS K) o))
theorem qB(h:K[j]?=some k)(hl:eQ K M pl j=false):hK (gc K M pl) (aY (dP K M pl) j) ((k.o2 j M).map (om K M pl)):=by intro i o e;rw[cQ]at e;cases q:(k.o2 j M)[i]? with|none=>rw[q]at e;cases e|some o'=>rw[q]at e;cases e;unfold gc;rw[rZ.fo,cQ];have :=B2 (i:=i) (o:=lS (fS K) o') (B_ (pl:=pl) h hl) (by rw[cQ,q];rfl);rw[show cR K M pl=b9 (dP K M pl)from rfl,this];rfl
theorem as8(H:cu K M):(gc K M pl)[aY (dP K M pl) (M+1)]?=some .fin:=by unfold gc;rw[rZ.fo,cQ,show cR K M pl=b9 (dP K M pl)from rfl,<-GF (pl:=pl) H,Ye];rfl
theorem GG(h:oj [] l q q')(hv:∀v,Od.push v∈l->v∈va):oj va (l.map (mS va)) q q':=by induction h with|nil=>exact .nil _|cons h t ih=>refine .cons ?_ (ih λv m=>hv v (.tail _ m));cases h with|push v _=>have m:=hv v (.head _);have lt:=CQ m;exact .kept _ v _ (by rw[cp lt,Oa])|kept i v _ h=>cases h|var _=>exact .var _|one a ha=>exact .one a ha|two op a b v hm=>exact .two op a b v hm|less n hn=>exact .less n hn
theorem YB(e:Ex):e.f.map (om K M pl)=e.f.map (mS (jR K M pl)):=by cases e<;>rfl
theorem B'(h:K[j]?=some k)(hl:eQ K M pl j=false){v:KV}(m:Od.push v∈k.o2 j M):v∈jR K M pl:=by refine rZ.has v ?_;unfold cR b9;refine eG _ (dS.mpr ⟨.push v,CV.mpr ⟨_,ez (B_ h hl),dS.mpr ⟨_,m,rfl⟩⟩,rfl⟩)
end
inductive uh:Tl->Prop|row(i:Nat)(h:i<=7):uh (.row i)|st(b:Bool)(e:Ex)(v:KV)(he:e∈qz)(hv:e.val=some v):uh (.st (kX b) v)
theorem jS(h:j<g)(hg:g<=M+1)(ha:a<=20):20*(M+1-g)+a<=20*(M+1-j):=(aaA h hg ha)
theorem YC(h:j<g)(hg:g<=M+1)(hl:n<=2*(M+1-g)):n+2<=2*(M+1-j):=(aaB h hg hl)
theorem Ca(h:j<g)(hg:g<=M+1)(hl:n<=2*(M+1-g)):n+1<=2*(M+1-j):=vZ (YC h hg hl)
theorem as9(h:j<g)(hg:g<=M+1)(hf:M+1-j<=f+1):M+1-g<=f:=(aaC h hf)
theorem as_(h:j<M+1)(ha:a<=2):a<=2*(M+1-j):=(aaD h ha)
theorem YD(h:j<M+1)(ha:a<=20):a<=20*(M+1-j):=(aaE h ha)
theorem YE{j:Nat}(h:(j:Int)<g):∃n:Nat,g=n:=⟨g.toNat,((zr (uz (dK _) (qP h))).symm)⟩
theorem yM(h:a<=5):a+2<=20:=ax (mT h 2) ai
section
variable{K:List aS}{j:Nat}
def Qf(K:List aS)(M:Nat)(pl:List (Int×Nat))(p:Nat)(T:List Tl)(r:Bool)(n:Nat):Prop:=cF (jR K M pl) (gc K M pl) p T r n/\∀i:Nat,eQ K M pl i=true->Tl.row i∉T
structure jy(K:List aS)(M:Nat)(pl:List (Int×Nat))(j:Nat)(T:List Tl)(r:Bool):Prop where
 len:T.length<=2*(M+1-j)ok:∀t,t∈T->uh t
 pn:cF [] (b9 (dj K M)) (aY (dj K M) j) T r (20*(M+1-j))ph:eQ K M pl j=false->Qf K M pl (aY (dP K M pl) j) T r (20*(M+1-j))th:∀t,kz K j t->eQ K M pl t=false->Qf K M pl (aY (dP K M pl) t) T r (20*(M+1-j))
theorem ui(hl:eQ K M pl j=false)(h:∀i:Nat,eQ K M pl i=true->Tl.row i∉T):∀i:Nat,eQ K M pl i=true->Tl.row i∉Tl.row j::T:=by intro i hi m;cases m with|head=>rw[hl]at hi;cases hi|tail _ m=>exact h i hi m
theorem as'(h:∀i:Nat,eQ K M pl i=true->Tl.row i∉T):∀i:Nat,eQ K M pl i=true->Tl.row i∉Tl.st x v::T:=by intro i hi m;cases m with|tail _ m=>exact h i hi m
theorem ata(h:kz K j t)(hk:K[j]?=some k)(hn:∀g,k≠.jmp g):t=j:=by cases h with|stop=>rfl|jmp _ _ g h r=>cases hk.symm.trans h;exact absurd rfl (hn g)
theorem atb{t g:Nat}(h:kz K j t)(hk:K[j]?=some (.jmp g)):kz K g t:=by cases h with|stop _ _ h q=>cases hk.symm.trans h;exact absurd rfl (q g)|jmp _ _ g h r=>have e:=aJ (hk.symm.trans h);injection e with e;exact lg e▸r
theorem Cb(H:cu K M){o:Od}{g:Nat}(h:K[j]?=some k)(ho:o∈k.o2 j M)(ht:fX o=some (g:Int))(hg:g<=M):∃t,kz K g t/\eQ K M pl t=false/\ldI (bq (dP K M pl)) (fS K g)=(aY (dP K M pl) t:Nat):=by
 obtain⟨t,h1,h2⟩:=MD H hg;have hM:=MC H h1;refine⟨t,h1,?_,by rw[h2,yK (by rw[GF H];exact oq hM)]⟩;refine(MP H pl).goal (bU (bq (fy K M)) (lS (fS K) o)) ?_ t (by rw[uf H];exact oq hM) ?_;.unfold b9;exact eG _ (dS.mpr ⟨_,CV.mpr ⟨_,ez (B9 h),dS.mpr ⟨_,ho,rfl⟩⟩,rfl⟩)
 .have e:=yK (S:=fy K M) (j:=t) (by rw[uf H];exact oq hM);cases o with|go p=>cases ht;show some (ldI _ (fS K _))=_;rw[h2,e]|bf p=>cases ht;show some (ldI _ (fS K _))=_;rw[h2,e]|_=>cases ht
theorem GH(H:cu K M){i:Nat}{o:Od}(h:K[j]?=some k)(hl:eQ K M pl j=false)(ho:(k.o2 j M)[i]?=some o)(hi:i+1=(k.o2 j M).length)(hg:oY o=false):eQ K M pl (j+1)=false:=by
 have hj:=(cn.mp h).1;rw[H.len]at hj;rcases pB (j+1) (M+1)with q|q;.refine(MP H pl).next j _ i (lS (fS K) o) (by rw[uf H];exact q) (B9 h) (by rw[cQ,ho];rfl) (by rw[bw];exact hi) ?_ hl;cases o<;>first|rfl|cases hg
 .unfold eQ jQ;rw[jA,l0 (by rw[vu,oa,uf H];exact q)];rfl
theorem Cd(h:K[j]?=some k):hK (b9 (dj K M)) (aY (dj K M) j) ((k.o j M).map (bU (bq (dj K M)))):=by intro i o e;rw[cQ]at e;cases q:(k.o j M)[i]? with|none=>rw[q]at e;cases e|some o'=>rw[q]at e;cases e;exact B2 (uc h) q
theorem MQ(h:K[j]?=some k):aY (dj K M) (j+1)=aY (dj K M) j+(k.o j M).length:=rV (uc h)
theorem GI(h:K[j]?=some k)(hl:eQ K M pl j=false):aY (dP K M pl) (j+1)=aY (dP K M pl) j+(k.o2 j M).length:=(rV (B_ h hl)).trans (by rw[bw])
theorem jy.mk'(hk:K[j]?=some k)(hn:∀g,k≠.jmp g)(len:T.length<=2*(M+1-j))(ok:∀t,t∈T->uh t)(pn:cF [] (b9 (dj K M)) (aY (dj K M) j) T r (20*(M+1-j)))(ph:eQ K M pl j=false->Qf K M pl (aY (dP K M pl) j) T r (20*(M+1-j))):jy K M pl j T r:=⟨len,ok,pn,ph,λt ht hl=>by cases ata ht hk hn;exact ph hl⟩
theorem uj(H:cu K M)(hj:j<M+1)(h:∀t,t∈T->uh t):∀t,t∈Tl.row j::T->uh t:=λt m=>by cases m with|head=>exact .row j (ax (qG hj) H.iy)|tail _ m=>exact h t m
theorem MR(H:cu K M){g:Nat}(hg:g<=M):ldI (bq (dj K M)) (g:Int)=(aY (dj K M) g:Nat):=yK (by rw[iR,H.len];exact oq hg)
theorem atc(H:cu K M){b:Bool}{e:Ex}(hk:K[j]?=some (.lt b e))(hj:j<M+1)(ih:∃T r,jy K M pl (j+1) T r):∃T r,jy K M pl j T r:=by
 obtain⟨T,r,I⟩:=ih;have G:=H.ok j _ hk;have he:=X8 G.1;have a0:hK (b9 (dj K M)) (aY (dj K M) j) (.row j::(e.o++[.store (kX b)])):=by have :=Cd (M:=M) hk;rw[show aS.o (.lt b e) j M=.row j::(e.o++[.store (kX b)])from rfl,ef,cH,Gv]at this;exact this
 have a1:eQ K M pl j=false->hK (gc K M pl) (aY (dP K M pl) j) (.row j::(e.f.map (mS (jR K M pl))++[.store (kX b)])):=λhl=>by have :=qB (M:=M) hk hl;rw[show aS.o2 (.lt b e) j M=.row j::(e.f++[.store (kX b)])from rfl,ef,cH,YB]at this;exact this
 have n0:=MJ (e:=e);have n1:=GA (e:=e);cases hv:e.val with
 |some v=>
  refine⟨.row j::.st (kX b) v::T,r,.mk' hk (λg e=>nomatch e) ?_ (uj H hj λt m=>?_) ?_ λhl=>?_⟩;.exact YC (eR j) hj I.len
  .cases m with
   |head=>exact .st b e v G.1 hv|tail _ m=>exact I.ok t m
  .refine(cF.lt a0 (B8 he hv) (k:=20*(M+1-(j+1))) ?_).up (jS (eR j) hj (yM n1));have :=I.pn;rw[MQ hk,show aS.o (.lt b e) j M=.row j::(e.o++[.store (kX b)])from rfl,oi]at this;exact this
  .have hn:eQ K M pl (j+1)=false:=GH H hk hl (i:=e.f.length+1) (o:=.store (kX b)) (by show(e.f++[_])[e.f.length]?=_;rw[eS (br _),pC];rfl) (oi _ _ _).symm rfl;have Q:=I.ph hn;refine⟨(cF.lt (a1 hl) (GG (MN he hv) λv m=>B' hk hl (.tail _ (eG _ m))) (k:=20*(M+1-(j+1))) ?_).up (by rw[bw];exact jS (eR j) hj (yM (ax n0 ai))),ui hl (as' Q.2)⟩
   have :=Q.1;rw[GI hk hl,show aS.o2 (.lt b e) j M=.row j::(e.f++[.store (kX b)])from rfl,oi]at this;rw[bw];exact this|none=>have q:=Gu he;cases e with
   |t5 n=>
   have q:((("+":Str),KV.i n,KV.s "A",none)∈fO):=of_decide_eq_true q;refine⟨[.row j],false,.mk' hk (λg e=>nomatch e) (as_ (a:=1) hj ai) (uj H hj λt m=>nomatch m) ?_ λhl=>⟨?_,ui hl λ_ _ m=>nomatch m⟩⟩;.exact(cF.err (l:=[.push (.i n),.push (.s "A")]) a0 (.cons (.push _ _) (.cons (.push _ _) (.nil _))) q).up (YD (a:=3) hj ai)
   .have hv:∀v,Od.push v∈[Od.push (.i n),.push (.s "A")]->v∈jR K M pl:=λv m=>B' hk hl (.tail _ (eG _ (by
    show _∈[_,_,_];rcases bX.mp m with e|m;.rw[e];exact .head _
    .rw[bM.mp m];exact .tail _ (.head _))));exact(cF.err (l:=[Od.push (.i n),.push (.s "A")].map (mS (jR K M pl))) (a1 hl) (GG (.cons (.push _ _) (.cons (.push _ _) (.nil _))) hv) q).up (YD (a:=3) hj ai)|_=>cases hv
end
section
variable{K:List aS}
theorem atd(H:cu K M){e:Ex}{g:Nat}(hk:K[j]?=some (.cU e g))(hg:g<=M):hK (b9 (dj K M)) (aY (dj K M) j) (.row j::(e.o++[.bf (aY (dj K M) g:Nat)])):=by have :=Cd (M:=M) hk;rw[show aS.o (.cU e g) j M=.row j::(e.o++[.bf g])from rfl,ef,cH,Gv,show([Od.bf (g:Int)].map (bU (bq (dj K M))))=[.bf (aY (dj K M) g:Nat)]from congrArg (λx=>[Od.bf x]) (MR H hg)]at this;exact this
theorem ate(hk:K[j]?=some (.cU e g)):aY (dj K M) (j+1)=aY (dj K M) j+(e.o.length+2):=by rw[MQ hk,show aS.o (.cU e g) j M=.row j::(e.o++[.bf g])from rfl,oi]
theorem atf(H:cu K M){e:Ex}{g:Nat}(hk:K[j]?=some (.cU e g))(hj:j<M+1)(ih:∃T r,jy K M pl (j+1) T r)(ig:∃T r,jy K M pl g T r):∃T r,jy K M pl j T r:=by
 obtain⟨he,g1,g2⟩:=H.ok j _ hk;have g1:j<g:=eX.mp g1;have g2:g<=M:=gI.mp g2;have g3:g<=M+1:=pz g2;have hs:j<j+1:=eR j;have a0:=atd H hk g2;have n0:=ate (M:=M) hk;have n1:=GA (e:=e);have nx:∀{T r},jy K M pl (j+1) T r->(Tl.row j::T).length<=2*(M+1-j):=λI=>Ca hs hj I.len;have ng:∀{T r},jy K M pl g T r->(Tl.row j::T).length<=2*(M+1-j):=λI=>Ca g1 g3 I.len;have ea:=X9 he;rcases Gx he with rfl|rfl|⟨n,rfl,hn⟩
 .obtain⟨T,r,I⟩:=ih;refine⟨.row j::T,r,.mk' hk (λg e=>nomatch e) (nx I) (uj H hj I.ok) ?_ λhl=>?_⟩;.exact(cF.if1 (.inl rfl) a0 (B8 ea rfl) (k:=20*(M+1-(j+1))) (by have :=I.pn;rwa[n0]at this)).up (jS hs hj (yM n1))
  .have hn:eQ K M pl (j+1)=false:=GH H hk hl (i:=0) (o:=.row j) rfl rfl rfl;have Q:=I.ph hn;refine⟨(cF.rw_ (qB hk hl).hd (k:=20*(M+1-(j+1))) (by have :=Q.1;rwa[GI hk hl]at this)).up (jS (eR j) hj ai),ui hl Q.2⟩
 .obtain⟨T,r,I⟩:=ig;refine⟨.row j::T,r,.mk' hk (λg e=>nomatch e) (ng I) (uj H hj I.ok) ?_ λhl=>?_⟩;.exact(cF.MM a0 (B8 ea rfl) I.pn).up (jS g1 g3 (yM n1))
  .obtain⟨t,h1,h2,h3⟩:=Cb (pl:=pl) H hk (o:=.go g) (.tail _ (.head _)) rfl g2;have Q:=I.th t h1 h2;have A:=qB (M:=M) (pl:=pl) hk hl;refine⟨(cF.rw_ A.hd (cF.go (g:=aY (dP K M pl) t) (A.tl.hd.trans (congrArg (λx=>some (Od.go x)) h3)) Q.1)).up (jS (a:=2) g1 g3 ai),ui hl Q.2⟩
 .have hv:vG n=0\/vG n=-1:=by
   unfold vG;split;.exact .inr rfl
   .exact .inl rfl
  have a1:∀(hl:eQ K M pl j=false)(p:Nat),ldI (bq (dP K M pl)) (fS K g)=(p:Nat)->hK (gc K M pl) (aY (dP K M pl) j) (.row j::((Ex.tn n).f.map (mS (jR K M pl))++[.bf p])):=λhl p hp=>by have :=qB (M:=M) hk hl;rw[show aS.o2 (.cU (.tn n) g) j M=.row j::((Ex.tn n).f++[.bf g])from rfl,ef,cH,YB,show([Od.bf (g:Int)].map (om K M pl))=[.bf p]from congrArg (λx=>[Od.bf x]) hp]at this;exact this
  have pv:eQ K M pl j=false->∀v,Od.push v∈(Ex.tn n).f->v∈jR K M pl:=λhl v m=>B' hk hl (.tail _ (eG _ m));have gk:=λ(x:Od)=>Cb (pl:=pl) H hk (o:=.bf g) (.tail _ (gi _ (.head _))) rfl g2;obtain⟨t,h1,h2,h3⟩:=gk .fin;rcases hv with hv|hv
  .obtain⟨T,r,I⟩:=ig;refine⟨.row j::T,r,.mk' hk (λg e=>nomatch e) (ng I) (uj H hj I.ok) ?_ λhl=>?_⟩;.exact(cF.MM a0 (B8 ea (congrArg (λx=>some (KV.i x)) hv)) I.pn).up (jS g1 g3 (yM n1))
   .have Q:=I.th t h1 h2;exact⟨(cF.MM (a1 hl _ h3) (GG (MN ea (congrArg (λx=>some (KV.i x)) hv)) (pv hl)) Q.1).up (by rw[bw];exact jS (a:=5) g1 g3 ai),ui hl Q.2⟩
  .obtain⟨T,r,I⟩:=ih;refine⟨.row j::T,r,.mk' hk (λg e=>nomatch e) (nx I) (uj H hj I.ok) ?_ λhl=>?_⟩;.exact(cF.if1 (.inr rfl) a0 (B8 ea (congrArg (λx=>some (KV.i x)) hv)) (k:=20*(M+1-(j+1))) (by have :=I.pn;rwa[n0]at this)).up (jS hs hj (yM n1))
   .have hn:eQ K M pl (j+1)=false:=GH H hk hl (i:=4) (o:=.bf g) rfl rfl rfl;have Q:=I.ph hn;refine⟨(cF.if1 (.inr rfl) (a1 hl _ h3) (GG (MN ea (congrArg (λx=>some (KV.i x)) hv)) (pv hl)) (k:=20*(M+1-(j+1))) (by have :=Q.1;rw[GI hk hl]at this;rw[bw];exact this)).up (by rw[bw];exact jS (a:=5) hs hj ai),ui hl Q.2⟩
theorem atg(H:cu K M){g:Nat}(hk:K[j]?=some (.jmp g))(hj:j<M+1)(ig:∃T r,jy K M pl g T r):∃T r,jy K M pl j T r:=by
 obtain⟨T,r,I⟩:=ig;obtain⟨g1,g2⟩:=H.ok j _ hk;have g1:j<g:=eX.mp g1;have g2:g<=M:=gI.mp g2;have g3:g<=M+1:=pz g2;have hs:j<j+1:=eR j;have A0:=Cd (M:=M) hk;refine⟨T,r,vZ (Ca g1 g3 I.len),I.ok,(cF.go (g:=aY (dj K M) g) (A0.hd.trans (congrArg (λx=>some (Od.go x)) (MR H g2))) I.pn).up (jS g1 g3 ai),λhl=>?_,λt ht hl=>?_⟩;.obtain⟨t,h1,h2,h3⟩:=Cb (pl:=pl) H hk (o:=.go g) (.head _) rfl g2;have Q:=I.th t h1 h2;have A:=qB (M:=M) (pl:=pl) hk hl;exact⟨(cF.go (g:=aY (dP K M pl) t) (A.hd.trans (congrArg (λx=>some (Od.go x)) h3)) Q.1).up (jS g1 g3 ai),Q.2⟩
 .have Q:=I.th t (atb ht hk) hl;exact⟨Q.1.up (Nat.le_of_add_right_le (jS (a:=1) g1 g3 ai)),Q.2⟩
theorem ath(H:cu K M){b:Bool}(hk:K[j]?=some (.rem b))(hj:j<M+1)(ih:∃T r,jy K M pl (j+1) T r):∃T r,jy K M pl j T r:=by
 obtain⟨T,r,I⟩:=ih;refine⟨.row j::T,r,.mk' hk (λg e=>nomatch e) (Ca (eR j) hj I.len) (uj H hj I.ok) ?_ λhl=>?_⟩;.exact(cF.rw_ (Cd (M:=M) hk).hd (k:=20*(M+1-(j+1))) (by have :=I.pn;rwa[MQ hk]at this)).up (jS (eR j) hj ai)
 .have hn:eQ K M pl (j+1)=false:=GH H hk hl (i:=0) (o:=.row j) rfl rfl rfl;have Q:=I.ph hn;exact⟨(cF.rw_ (qB hk hl).hd (k:=20*(M+1-(j+1))) (by have :=Q.1;rwa[GI hk hl]at this)).up (jS (eR j) hj ai),ui hl Q.2⟩
theorem ati(H:cu K M)(hk:K[j]?=some .jv)(hj:j<M)(ig:∃T r,jy K M pl M T r):∃T r,jy K M pl j T r:=by
 have g1:=hj;have g3:M<=M+1:=dI M;obtain⟨T,r,I⟩:=ig;refine⟨.row j::T,r,.mk' hk (λg e=>nomatch e) (Ca g1 g3 I.len) (uj H (se hj) I.ok) ?_ λhl=>?_⟩;.have A0:=Cd (M:=M) hk;exact(cF.rw_ A0.hd (cF.go (g:=aY (dj K M) M) (A0.tl.hd.trans (congrArg (λx=>some (Od.go x)) (MR H (br _)))) I.pn)).up (jS (a:=2) g1 g3 ai)
 .obtain⟨t,h1,h2,h3⟩:=Cb (pl:=pl) H hk (o:=.go M) (.tail _ (.head _)) rfl (br _);have Q:=I.th t h1 h2;have A:=qB (M:=M) (pl:=pl) hk hl;exact⟨(cF.rw_ A.hd (cF.go (g:=aY (dP K M pl) t) (A.tl.hd.trans (congrArg (λx=>some (Od.go x)) h3)) Q.1)).up (jS (a:=2) g1 g3 ai),ui hl Q.2⟩
theorem YF(H:cu K M):jy K M pl (M+1) [] true where len:=dC _;ok t m:=nomatch m;pn:=(cF.end (by have :=Ye (dj K M);rwa[iR,H.len]at this)).up (dC _);ph hl:=⟨(cF.end (as8 H)).up (dC _),λ_ _ m=>nomatch m⟩;th t ht:=by have n:K[M+1]?=none:=l0 (bo H.len);cases ht with|stop _ _ h=>rw[n]at h;cases h|jmp _ _ _ h=>rw[n]at h;cases h
theorem atj(H:cu K M) pl:∀(f j:Nat),M+1-j<=f->j<=M+1->∃T r,jy K M pl j T r:=by intro f;induction f with|zero=>exactλj h hj=>⟨[],true,ot hj (vY (yP.mp h))▸YF H⟩|succ f ih=>
 intro j h hj;rcases GP hj with q|rfl;.have hg:∀g,j<g->g<=M+1->∃T r,jy K M pl g T r:=λg a b=>ih g (as9 a b h) b;obtain⟨k,e⟩:∃k,K[j]?=some k:=⟨_,cp (H.len▸q)⟩;have G:=H.ok j k e;have nx:=hg (j+1) (eR j) q;cases k with|lt b e'=>exact atc H e q nx|cU e' g=>obtain⟨g',rfl⟩:=YE G.2.1;exact atf H e q nx (hg g' (eX.mp G.2.1) (pz (gI.mp G.2.2)))|jmp g=>obtain⟨g',rfl⟩:=YE G.1;exact atg H e q (hg g' (eX.mp G.1) (pz (gI.mp G.2)))|rem b=>exact ath H e q nx|jv=>exact ati H e G (hg M G (dI M))
 .exact⟨[],true,YF H⟩
end
theorem atk:∀(ts:List Str)(k:Nat)(acc:Str)(b:Nat),(∀t,t∈ts->t.length<=b)->(textFrom k acc ts).length<=acc.length+(b+2)*ts.length:=by intro ts;induction ts with|nil=>exactλk acc b h=>br _|cons t ts ih=>
 intro k acc b h;have i:=ih (k+1) (acc++(if k>0 then", "else"":String)++t) b λx m=>h x (.tail _ m);have e:(acc++(if k>0 then", "else"":String)++t).length=acc.length+(if k>0 then 2 else 0)+t.length:=by rw[Cs,Cs];split<;>rfl
 rw[e]at i;have :=h t (.head _);refine ax i ?_;rw[eU,M'];split<;>omega
def qC(v:V):Bool:=match uO v with|some d=>d.showable&&!d.hasDict&&decide (d.depth<=10)&&decide (d.shown.length<=100)|none=>false
theorem atl:∀l:List V,(∀v,v∈l->qC v=true)->∃xs,l_ l=some xs/\H6 xs=true/\H7 xs=false/\H8 xs<=10/\(∀t,t∈uE xs->t.length<=100)/\(uE xs).length=l.length:=by intro l;induction l with|nil=>exactλ_=>⟨[],rfl,by unfold H6;rfl,by unfold H7;rfl,by unfold H8;decide,λt m=>by unfold uE at m;exact absurd m eH,by unfold uE;rfl⟩|cons v l ih=>intro h;obtain⟨xs,h1,h2,h3,h4,h5,h6⟩:=ih λw m=>h w (.tail _ m);have q:=h v (.head _);unfold qC at q;cases e:uO v with|none=>rw[e]at q;cases q|some d=>
 rw[e]at q;simp only[iV,decide_eq_true_eq,Dd]at q;obtain⟨⟨⟨q1,q2⟩,q3⟩,q4⟩:=q;refine⟨d::xs,by show aU (uO v) (λx=>aU (l_ l) (λxs=>some (x::xs)) none) none=_;rw[e,h1];rfl,by unfold H6;rw[q1,h2];rfl,by unfold H7;rw[q2,h3];rfl,by unfold H8;exact Nat.max_le.mpr ⟨q3,h4⟩,λt m=>?_,by unfold uE;rw[eU,eU,h6]⟩;unfold uE at m;rcases bX.mp m with rfl|m;.exact q4
 .exact h5 t m
theorem atm(h:∀v,v∈l->qC v=true)(hl:l.length<=100):∃x,BR l x:=by
 obtain⟨xs,h1,h2,h3,h4,h5,h6⟩:=atl l h;refine⟨O1 (.list xs),⟨xs,h1,?_⟩⟩;refine if_pos ⟨?_,?_,?_,?_⟩;.unfold PyData.showable;exact h2
 .unfold PyData.hasDict;exact h3
 .unfold PyData.depth;exact bD h4 ai
 .unfold O1 listText;rw[Cs];have :=atk (uE xs) 0 "[" 100 h5;rw[h6]at this;have a:(("[":String):Str).length=1:=rfl;have b:(("]":String):Str).length=1:=rfl;rw[b];refine ax (gf this) (ax (show _<=20000 by omega) ai)
theorem atn:∀i:Nat,i<=7->qC (V.int i)=true:=by
 have :((cA 8).all λi=>qC (V.int (i:Nat)))=true:=ak
 exactλi h=>jV.mp this i (oA.mpr (oq h))
theorem ato:(qz.all λe=>match e.val with|some v=>qC (Tl.st (kX false) v).v&&qC (Tl.st (kX true) v).v|none=>true)=true:=ak
theorem atp:qC (V.tup [.str "error",.str "TM"])=true:=ak
noncomputable def qD:List KV:=[.i (-3),.i (-2),.i (-1),.i 0,.i 1,.i 2,.i 3,.i 4,.s "A",.s "AB",.s "ABB",.s "ABBB",.s "1",.p 1 0,.p 5 (-1)]
def qE:KV->Str|.i n=>qR (toString n)|.s x=>reprText x|.p a b=>(uP (.tuple [.int a,.int b])).getD ""
theorem atq:fF (λv=>lx none "repr" [dw v] u=some (.ok (.str (qE v)),u)) qD:=by refine⟨?_,?_,?_,?_,?_,?_,?_,?_,?_,?_,?_,?_,?_,?_,?_,trivial⟩<;>kernel_rfl
theorem atr:(qD.all λv=>qD.all λw=>decide (v=w)||!(qE v==qE w))=true:=ak
theorem ats:(gz.all λe=>e.f.all λo=>match o with|.push v=>decide (v∈qD)|_=>true)=true:=ak
theorem atu{va:List KV}(hn:va.Nodup)(hv:∀v,v∈va->v∈qD):dW (va.map qE)=va.map qE:=by
 have h:=Ys (f:=λ(acc:List Str)(v:KV)=>if acc.any (·==qE v)then acc else acc++[qE v]) (I:=λpre acc=>pre.Nodup->(∀v,v∈pre->v∈qD)->acc=pre.map qE) (λpre v acc I hn hv=>?_) va [] [] (λ_ _=>rfl) hn hv;.unfold dW;rw[List.foldl_map];exact h
 .obtain⟨n1,_,n2⟩:=gH.mp hn;have e:=I n1 λw m=>hv w (eG _ m);subst e;rw[if_neg,cH];rfl;intro h;obtain⟨x,m,e⟩:=zj.mp h;obtain⟨w,m',rfl⟩:=dS.mp m;have q:=jV.mp (jV.mp atr w (hv w (eG _ m'))) v (hv v (gi _ (.head _)));rw[e,zv,Dg]at q;exact n2 w m' v (.head _) (of_decide_eq_true q)
theorem atv(hn:va.Nodup)(hv:∀v,v∈va->v∈qD):Mq va:=⟨qE,λv m u=>@fF.get _ (λv=>lx none "repr" [dw v] u=some (.ok (.str (qE v)),u)) v qD atq (hv v m),by rw[atu hn hv,bw]⟩
theorem atw(h:uh t):qC t.v=true:=by cases h with|row i h=>exact atn i h|st b e v he hv=>
 have q:=jV.mp ato e he;rw[hv]at q;have q:=(iV _ _).mp q;cases b;.exact q.1
 .exact q.2
theorem atx(h:∀t,t∈e.aB->uh t)(hl:e.aB.length<=90):∃x,BR (eN r e) x:=by
 have h1:∀v,v∈gD e.aB->qC v=true:=λv m=>by obtain⟨t,m',rfl⟩:=dS.mp m;exact atw (h t m')
 have l1:(gD e.aB).length<=90:=by unfold gD;rw[bw];exact hl
 refine atm (λv m=>?_) ?_;.cases r with|true=>exact h1 v m|false=>
  rcases cV.mp m with m|m;.exact h1 v m
  .rw[bM.mp m];exact atp
 .cases r with|true=>exact ax l1 ai|false=>show(_++[_]).length<=_;rw[aX];exact Nat.succ_le_of_lt (bD l1 ai)
theorem aty{i:Nat}:∀(l:List V),(∀v,v∈l->(∃a:Int,v=.int a/\a≠(i:Int))\/∃t,v=.tup t)->j5 (.int (i:Nat)) l=some false:=by intro l;induction l with|nil=>exactλ_=>rfl|cons v l ih=>
 intro h;have e:=ih λw m=>h w (.tail _ m);rw[show j5 (.int (i:Nat)) (v::l)=aU (IL (.int (i:Nat)) v) (λa=>(j5 (.int (i:Nat)) l).map λb=>a||b) none from rfl];rw[e];rcases h v (.head _)with⟨a,rfl,ha⟩|⟨t,rfl⟩;.show(match some ((i:Int)==a),some false with|some a,some b=>some (a||b)|_,_=>none)=_;rw[beq_false_of_ne (hY ha)];rfl
 .rfl
theorem atz{i:Nat}(h:Tl.row i∉e.aB):j5 (.int (i:Nat)) (eN r e)=some false:=by
 have h1:∀v,v∈gD e.aB->(∃a:Int,v=.int a/\a≠(i:Int))\/∃t,v=.tup t:=λv m=>by obtain⟨t,m',rfl⟩:=dS.mp m;cases t with|row a=>exact .inl ⟨a,rfl,λe=>h (e▸m')⟩|st x v=>exact .inr ⟨_,rfl⟩
 refine aty _ λv m=>?_;cases r with|true=>exact h1 v m|false=>
  rcases cV.mp m with m|m;.exact h1 v m
  .exact .inr ⟨_,bM.mp m⟩
theorem atA:∀n,(S.take n).flatten[p]?=some o->∃j s i,S[j]?=some s/\s[i]?=some o/\p=aY S j+i:=by intro n;induction n with|zero=>exactλh=>nomatch h|succ n ih=>intro h;cases e:S[n]? with|none=>have e:=zd.mp e;rw[lY (pz e)]at h;rw[lY e]at ih;exact ih h|some s=>
 rw[BV e]at h;rcases pB p (S.take n).flatten.length with q|q;.rw[ew q]at h;exact ih h
 .rw[eS q]at h;exact⟨n,s,_,e,h,(M5 q).symm⟩
theorem atB{α:Type}[DecidableEq α]:∀(l L:List α),l.Nodup->(∀a,a∈l->a∈L)->l.length<=L.length:=by intro l;induction l with|nil=>exactλL _ _=>dC _|cons a l ih=>intro L hn h;obtain⟨h1,h2⟩:=jg.mp hn;have m:=h a (.head _);have :=ih (L.erase a) h2 λb hb=>(List.mem_erase_of_ne (show b≠a fromλe=>h1 (e▸hb))).mpr (h b (.tail _ hb));rw[List.length_erase_of_mem m]at this;have :=List.length_pos_of_mem m;rw[eU];omega
theorem atD(ha:po[q]?=some a)(hb:po[q+1]?=some b):lO po (q+2)=[a,b]:=by obtain⟨h1,rfl⟩:=cn.mp ha;obtain⟨h2,rfl⟩:=cn.mp hb;unfold lO;rw[M4,jb,CR h1,CR h2];rfl
section
variable{K:List aS}{j i:Nat}
theorem atE(H:cu K M){j i:Nat}{s:List Od}{x:Od}(e1:(dP K M pl)[j]?=some s)(e2:s[i]?=some x):∃k o,K[j]?=some k/\eQ K M pl j=false/\(k.o2 j M)[i]?=some o/\x=lS (fS K) o:=by
 have hj:=(cn.mp e1).1;rw[GF H,<-H.len]at hj;have ek:=cp hj;by_cases hl:eQ K M pl j=false;.rw[aJ (e1.symm.trans (B_ ek hl)),cQ]at e2;obtain⟨o,h,r⟩:=sW.mp e2;exact⟨_,o,ek,hl,h,r.symm⟩
 .rw[aJ (e1.symm.trans ((B5 (lf:=jQ K M pl) (B9 (M:=M) ek)).trans (congrArg some (if_neg hl))))]at e2;exact aE e2
inductive GJ(K:List aS)(M:Nat)(pl:List (Int×Nat))(p:Nat)(o:Od):Prop|fin(h:o=.fin)|row(j:Nat)(k:aS)(i:Nat)(o':Od)(hk:K[j]?=some k)(hl:eQ K M pl j=false)(ho:(k.o2 j M)[i]?=some o')(hp:p=aY (dP K M pl) j+i)(e:om K M pl o'=o)
theorem MT(H:cu K M){p:Nat}{o:Od}(h:(gc K M pl)[p]?=some o):GJ K M pl p o:=by
 unfold gc at h;rw[rZ.fo,cQ]at h;obtain⟨x,e,r⟩:=sW.mp h;unfold cR b9 at e;rcases pB p (dP K M pl).flatten.length with q|q;.rw[ew (by rw[bw];exact q),cQ]at e;obtain⟨y,e,r'⟩:=sW.mp e;obtain⟨j,s,i,e1,e2,e3⟩:=atA (dP K M pl).length ((congrArg (·[p]?) (congrArg Ot eV)).trans e);obtain⟨k,o',ek,hl,h,atF⟩:=atE H e1 e2;exact .row j k i o' ek hl h e3 (by rw[<-r,<-r',atF])
 .rw[eS (by rw[bw];exact q)]at e;exact .fin (r.symm.trans (congrArg _ (bM.mp (ez e))))
noncomputable def MU:Od->Od->Bool|.var,_=>true|.push (.i _),.push (.s _)=>true|_,_=>false
noncomputable def YG:Od->Bool|.two _=>true|_=>false
def Ce(x y:Od):Od->Bool|.two _=>MU x y|.one=>false|.bf _=>!atG x&&YG y|_=>true where atG:Od->Bool|.fin=>true|_=>false
def MV:Od->Od->List Od->Bool|_,_,[]=>true|x,y,o::l=>Ce x y o&&MV y o l
theorem atH:∀(l:List Od)(x y:Od),MV x y l=true->∀(i:Nat)(o:Od),l[i]?=some o->∃a b,(x::y::l)[i]?=some a/\(x::y::l)[i+1]?=some b/\Ce a b o=true:=by intro l;induction l with|nil=>exactλx y _ i o h=>nomatch h|cons c l ih=>intro x y h i o ho;have h:=(iV _ _).mp h;cases i with|zero=>exact⟨x,y,rfl,rfl,aJ ho▸h.1⟩|succ i=>exact ih y c h.2 i o ho
theorem atJ(G:mR M j k):MV .fin .fin (k.o2 j M)=true:=by cases k with|lt b e=>cases e<;>rfl|cU e g=>rcases Gx G.1 with rfl|rfl|⟨n,rfl,_⟩<;>rfl|_=>rfl
noncomputable def MW:Od->Bool|.two _=>true|.one=>true|.bf _=>true|_=>false
theorem YH(h:Ce .fin y o=true)(ho:MW o=true):False:=by cases o with|two=>exact bZ h|one=>exact bZ h|bf=>exact bZ h|_=>exact bZ ho
theorem YI(G:mR M j k){o:Od}(h:(k.o2 j M)[i]?=some o)(ho:MW o=true):∃q a b,i=q+2/\(k.o2 j M)[q]?=some a/\(k.o2 j M)[q+1]?=some b/\Ce a b o=true:=by obtain⟨a,b,ha,hb,c⟩:=atH _ _ _ (atJ G) i o h;cases i with|zero=>exact(YH (aJ ha▸c) ho).elim|succ i=>cases i with|zero=>exact(YH (aJ ha▸c) ho).elim|succ q=>exact⟨q,a,b,rfl,ha,hb,c⟩
theorem atL(h:kz K j t):∃k,K[t]?=some k/\∀g,k≠.jmp g:=by induction h with|stop j k h hk=>exact⟨k,h,hk⟩|jmp _ _ _ _ _ ih=>exact ih
theorem YJ(h:v∈va):mQ va (mS va (.push v))=[v]:=by have lt:=CQ h;show(va[((va.idxOf v:Nat):Int).toNat]?).toList=_;rw[fU,cp lt,Oa];rfl
theorem atN va o:(mQ va o).length<=1:=by cases o with
 |kept i=>show(va[i.toNat]?).toList.length<=1;cases va[i.toNat]? with|none=>exact dC _|some v=>exact br _
 |_=>exact dC _
theorem atO{Q:Od->Od->Prop}(h:MU a b=true)(hv:∀b,Q .var b)(hp:∀i s,Q (.push (.i i)) (.push (.s s))):Q a b:=by cases a with
 |var=>exact hv b|push v=>cases v with
  |i n=>cases b with
   |push w=>cases w with|s x=>exact hp n x|_=>exact bZ h
   |_=>exact bZ h
  |_=>exact bZ h
 |_=>exact bZ h
theorem atP{f:Od->Od}(hf:∀v,f (.push v)=mS va (.push v)){a b:Od}(h:MU a b=true)(n:mQ va (f .var)=[]):(∀v,a=.push v->v∈va)->(∀v,b=.push v->v∈va)->∀x y,mQ va (f a)++(mQ va (f b)++[])=[x,y]->(i8 x==i8 y)=false:=by
 refine atO (Q:=λa b=>(∀v,a=.push v->v∈va)->(∀v,b=.push v->v∈va)->∀x y,mQ va (f a)++(mQ va (f b)++[])=[x,y]->(i8 x==i8 y)=false) h (λb _ _ x y e=>?_) λi s ha hb x y e=>?_;.rw[n,cG]at e;exact absurd (ax (bo (congrArg wB e).symm) (atN va (f b))) (show¬2<=1 by decide)
 .rw[hf,hf,YJ (ha _ rfl),YJ (hb _ rfl)]at e;rw[<-(qQ e).1,<-(qQ (qQ e).2).1];rfl
theorem atQ(h:om K M pl o=.two op):o=.two op:=by cases o with|two=>exact h|_=>exact Od.noConfusion h
theorem YL{Q:Od->Prop}(h:t_ (om K M pl o)=true)(h1:Q .one)(h2:∀g,Q (.bf g)):Q o:=by cases o with|one=>exact h1|bf g=>exact h2 g|_=>exact bZ h
theorem atR{Q:Od->Prop}(h:YG b=true)(h1:∀op,Q (.two op)):Q b:=by cases b with|two op=>exact h1 op|_=>exact bZ h
theorem atU o:nW (mS (jR K M pl) o)=false:=by cases o<;>rfl
theorem atV{Q:Od->Prop}(h:fX (om K M pl o)=some q)(h1:∀g,q=ldI (bq (dP K M pl)) (fS K g)->Q (.go g))(h2:∀g,q=ldI (bq (dP K M pl)) (fS K g)->Q (.bf g)):Q o:=by cases o with|go g=>exact h1 g (aJ h).symm|bf g=>exact h2 g (aJ h).symm|_=>exact aE h
theorem YM(H:cu K M)(hk:K[j]?=some k){o:Od}(m:o∈k.o2 j M){q g:Int}(hg:0<=g/\g<(M+1:Nat))(e1:fX o=some g)(e2:q=ldI (bq (dP K M pl)) (fS K g)):0<=q/\∃o',(gc K M pl)[q.toNat]?=some o'/\oY o'=false:=by obtain⟨n,e,hn⟩:=vQ hg;rw[e]at e1 e2;obtain⟨t,h1,h2,h3⟩:=Cb (pl:=pl) H hk m e1 (qG hn);obtain⟨k',dX,J7⟩:=atL h1;rw[e2,h3,fU];exact⟨dK _,_,qB (M:=M) (pl:=pl) dX h2 0 _ (by rw[cQ,Yi J7];rfl),rfl⟩
theorem YN{f:Od->Od}{l:List Od}(h:l[i]?=some o):(l.map f)[i]?=some (f o):=by rw[cQ,h];rfl
theorem YO(hk:K[j]?=some k)(hl:eQ K M pl j=false){a b:Od}(ha:(k.o2 j M)[i]?=some a)(hb:(k.o2 j M)[i+1]?=some b):lO (gc K M pl) (aY (dP K M pl) j+(i+2))=[om K M pl a,om K M pl b]:=atD (qB hk hl i _ (YN ha)) (qB hk hl (i+1) _ (YN hb))
theorem atW(H:cu K M){p:Nat}{op:Str}(h:GJ K M pl p (.two op)){x y:KV}(e:pj (jR K M pl) (lO (gc K M pl) p)=[x,y]):(i8 x==i8 y)=false:=by cases h with|fin h=>cases h|row j k i o' hk hl ho hp h=>rw[atQ h]at ho;obtain⟨i,a,b,r,ha,hb,c⟩:=YI (H.ok j k hk) ho rfl;rw[hp,r,YO hk hl ha hb]at e;exact atP (f:=om K M pl) (λ_=>rfl) c rfl (λv q=>B' hk hl (q▸ez ha)) (λv q=>B' hk hl (q▸ez hb)) x y e
theorem atX(H:cu K M){p:Nat}{o:Od}(h:GJ K M pl p o)(ho:t_ o=true):∃l x,lO (gc K M pl) p=l++[x]/\kl x=false:=by cases h with|fin h=>rw[h]at ho;exact bZ ho|row j k i o' hk hl Ab hp h=>obtain⟨i,a,b,r,ha,hb,c⟩:=YI (H.ok j k hk) Ab (YL (Q:=λo=>MW o=true) (h▸ho) rfl λ_=>rfl);refine⟨[_],_,by rw[hp,r,YO hk hl ha hb];rfl,YL (Q:=λo=>Ce a b o=true->kl (om K M pl b)=false) (h▸ho) bZ (λg c=>?_) c⟩;exact atR (Q:=λb=>kl (om K M pl b)=false) ((iV _ _).mp c).2 λ_=>rfl
theorem atY(H:cu K M){p:Nat}{o:Od}(h:GJ K M pl p o){q:Int}(e:fX o=some q):0<=q/\∃o',(gc K M pl)[q.toNat]?=some o'/\oY o'=false:=by cases h with|fin h=>rw[h]at e;exact aE e|row j k i o' hk hl ho hp h=>have m:=ez ho;exact atV (Q:=λo=>o∈k.o2 j M->ft (M+1) o->0<=q/\∃o',(gc K M pl)[q.toNat]?=some o'/\oY o'=false) (h▸e) (λg r m G=>YM H hk m G rfl r) (λg r m G=>YM H hk m G rfl r) m (Yd (H.ok j k hk) o' m)
theorem atZ(h:o∈gc K M pl):nW o=false:=by unfold gc at h;rw[rZ.fo]at h;obtain⟨o,_,r⟩:=dS.mp h;exact r▸atU o
theorem at0(H:cu K M):Gn (jR K M pl) (gc K M pl)where kept i h:=rZ.lt i (List.mem_flatMap.mpr ⟨_,h,.head _⟩);two p op h x y e:=atW H (MT H h) e;one p o h ho:=atX H (MT H h) ho;push o h:=atZ h;go o h q e:=(lZ.mp h).elim λp h=>atY H (MT H h) e
end
open PySem.PyData(keyHash)
noncomputable def loose:List Str:=["BasicError"]
abbrev RW:=Ow.row.toRowW
def GK:aF->Bool:=λs=>xlAt view [] s&&recOk (RowW.records RW) s
def S1(w:d5)(os:sE):Shared:=⟨H1 w.params,#[],dr,1217,os⟩
theorem l1(w:d5)(os:sE):staticsOk (Co cB.main.body) (oB w.params) (H1 w.params)=true:=ak
theorem l2(w:d5)(os:sE):namesBound cB (H1 w.params)=true:=ak
theorem l3(w:d5) os:gensDone ⟨H1 w.params,#[],dr,1217,os⟩=true:=ak
theorem l4(w:d5)(os:sE):laidKept (oB w.params) (H1 w.params)=true:=ak
theorem at1 w os:Y3 ((OV view).map (·.name)) (Y4 view) [] {S1 w os with gens:=#[]}=expectedOf view:=ak
theorem m1 w os:seen ((recsOf view).map (·.name)) (ownsOf view) [] {S1 w os with gens:=#[]}=expectedOf view:=by rw[Y5,OW,Y6];exact at1 w os
theorem m2 w os:(S1 w os).heap.bltView=bltViewBooted:=ak
theorem at3 w os:Y7 (S1 w os).heap (Dp view loose) ((OV view).map (·.name)) ((Y8 view).map (·.1)) ((Y9 view (Dp view loose)).map (·.name))=true:=ak
theorem at4 w os:Heap.keysOk (S1 w os).heap (looseW view loose) ((recsOf view).map (·.name)) ((litsOf view).map (·.1)) ((clssOf view (looseW view loose)).map (·.name))=true:=by rw[Y_,OY,OW,Y',Za];exact at3 w os
theorem at5 w os:Zb (S1 w os).heap (Zc cB.main.body)=true:=ak
theorem at6 w os:Heap.accountedOkI (S1 w os).heap (Co cB.main.body)=true:=by rw[Zd,Ze];exact at5 w os
theorem at7 w os:((S1 w os).heap.isNs fK&&(S1 w os).heap.isNs hV)=true:=ak
theorem at8 w os:Zf view (S1 w os).heap=true:=ak
theorem at9 w os:tablesOk view (S1 w os).heap=true:=by rw[Zg];exact at8 w os
theorem aua w os:GK (S1 w os)=true:=ak
theorem aub w os:Zh view (S1 w os)=true:=ak
theorem m4 w os:tabsOk view (S1 w os)=true:=by rw[Zi];exact aub w os
theorem auc w os:Zj view (OX view) (S1 w os)=pinGoodD (OX view):=ak
theorem m5 w os:pinSeenD view (drecsOf view) (S1 w os)=pinGoodD (drecsOf view):=by rw[Zk,Zl];exact auc w os
theorem aud w os:Zm view (Dp view loose) (S1 w os)=plainGoodE view (Dp view loose):=ak
theorem m6 w os:plainSeenE view (looseW view loose) (S1 w os)=plainGoodE view (looseW view loose):=by rw[Zn,OY];exact aud w os
theorem aue w os:Zo view loose (S1 w os)=plainGoodD view loose:=ak
theorem m7 w os:plainSeenD view loose (S1 w os)=plainGoodD view loose:=by rw[Zp];exact aue w os
theorem auf w os:Zq view (S1 w os)=wideGood view:=ak
theorem m8 w os:wideSeen view (S1 w os)=wideGood view:=by rw[Zr];exact auf w os
theorem auh w os:Zs view loose (S1 w os)=clsGoodW view loose:=ak
theorem m9 w os:clsSeenW view loose (S1 w os)=clsGoodW view loose:=by rw[Zt];exact auh w os
theorem aui w os:HK.obs (S1 w os)=HK.val w:=ak
theorem auj:∀w:d5,(λos=>((staticsOk (Co cB.main.body) (oB w.params) (H1 w.params)&&namesBound cB (H1 w.params)&&gensDone ⟨H1 w.params,#[],dr,1217,os⟩&&laidKept (oB w.params) (H1 w.params)),openSeen view loose (Co cB.main.body) GK true ⟨H1 w.params,#[],dr,1217,os⟩,HK.obs ⟨H1 w.params,#[],dr,1217,os⟩))=λ_=>(true,openGood view loose,HK.val w):=λw=>by funext os;have e1:=l1 w os;have e2:=l2 w os;have e3:=l3 w os;have e4:=l4 w os;refine pK (by rw[e1,e2,e3,e4];rfl) (pK ?_ (aui w os));unfold openSeen openGood;have c1:=at4 w os;have c2:=at6 w os;have c3:=eA.mp (at7 w os);have c4:=at9 w os;have c5:=aua w os;refine pK (m1 w os) (pK (m2 w os) (pK ?_ (pK (m4 w os) (pK (m5 w os) (pK (m6 w os) (pK (m7 w os) (pK (m8 w os) (m9 w os))))))));unfold S1 at c1 c2 c3 c4 c5;dsimp only at c1 c2 c3 c4;rw[c1,c2,c3.1,c3.2,c4,c5];rfl
theorem auk:LeftO cB view loose GK HK.obs HK.val 8334 true:=LeftO.of_pieces (H₀:=oB) (H₁:=H1) (gs₀:=zx []) (gs₁:=#[]) (d₀:=Ds) (d₁:=dr) (k₀:=Du) (k₁:=1217) (m₀:=11) (ann:=some (.ref 6)) (M:=4131) aiY aiZ run ai auj
noncomputable abbrev LL:=Ow
theorem aul:Zu LL=true:=by
 delta PySem.W.Fast.tw9446332074065402090
 iterate 18 refine PySem.W.look_both ?_ (by decide+kernel)
 delta PySem.W.Fast.tw17960256430627541270
 iterate 2 refine PySem.W.look_both ?_ (by decide+kernel)
 delta PySem.W.Fast.tw2436336058641802641
 iterate 13 refine PySem.W.look_both ?_ (by decide+kernel)
 delta PySem.W.Fast.tw12908688711261696721
 iterate 5 refine PySem.W.look_both ?_ (by decide+kernel)
 decide+kernel
theorem aum:LL.wellSaid=true:=by rw[Zv];exact aul
open PySem.PyData(keyHash)
noncomputable def aun(s:bj):Pos:=if h:s.ctorIdx=0 then Dr (motive_2:=λ_=>Pos) s h (λ_ _ _ _ _ _ _ _ _ p=>p)else default
def vW:DefRec:={name:="law",params:=Vx (st 92),body:=Vy (st 92),scope:=Vz (st 92),pos:=aun (st 92)}
theorem auo:defOf view RW.name=some (vW,[]):=ak
theorem aup:cB.theDef RW.name=some (vW.params,vW.body,vW.scope):=ak
theorem auq:kwWritten? vW.params.kwonlyargs vW.params.kw_defaults=some []:=ak
theorem fC:(chainsOk view&&opensWell RW.prog&&(frees RW&&RW.within.isEmpty))=true:=by decide+kernel
theorem aur:RW.prog.bare:=⟨rfl,rfl,rfl,rfl,rfl,by decide+kernel⟩
theorem aus:RW.promised:=by w_witness2
theorem head(call:WalkO view loose (XL view []) HK.says RW vW [] λf vs=>PySem.call f vs):PySem.Challenge.rw_pq0151_01.Holds:=by refine holds_law aum λaut=>?_;exact holds_open (q:=view) (loose:=loose) (Xt:=GK) (XP:=XL view []) (Yf:=HK.obs) (Ya:=HK.val) (YP:=HK.says) (N:=8334) auk HK.of HK.keeps (λs e=>xl_of s (eA.mp e).1) XL.keeps auo aup auq (λs e=>recFacts_of (eA.mp e).2) (by rfl) aut fC aur aus call
theorem int_has(h:Dw [] x .int=true):∃i,x=.int i:=by cases x with|int i=>exact⟨i,rfl⟩|_=>exact bZ h
theorem list_has(h:Dw [] x (.list .int)=true):∃xs,x=.list xs/\zM [] xs .int=true:=by cases x with|list xs=>exact⟨xs,rfl,(Dg _).symm.trans h⟩|_=>exact bZ h
theorem YQ(h:zM [] (x::xs) .int=true):Dw [] x .int=true/\zM [] xs .int=true:=eA.mp h
theorem auu(h:O7 [] xs [.list .int]=true):∃x,xs=[x]/\Dw [] x (.list .int)=true:=by cases xs with|nil=>exact bZ h|cons x r=>have h':_/\O7 [] r []=true:=eA.mp h;cases r with|nil=>exact⟨x,rfl,h'.1⟩|cons y r=>exact bZ h'.2
inductive YR(as:List aa):List WData->Prop|mk(ns:List Int)(h:∀h al,aQ h al (ns.map .int) as):YR as (ns.map .int)
theorem auv{cl:Str->Option aj}(r:ReadsW [] cl h v (.int i) as):∀h al,VR h al (.int i) v:=by cases r;exactλ_ _=>.int _ _
theorem auw{cl:Str->Option aj}:∀{xs:List WData}{vs:List aa}{as:List aj},ReadsAllW [] cl h vs xs as->zM [] xs .int=true->YR vs xs:=by intro xs;induction xs with|nil=>intro vs as r _;cases r;exact⟨[],λ_ _=>.nil⟩|cons x xs ih=>intro vs as r e;obtain⟨i,rfl⟩:=int_has (YQ e).1;cases r with|cons r1 r2=>obtain⟨ns,h2⟩:=ih r2 (YQ e).2;exact⟨i::ns,λh' al=>.cons (auv r1 h' al) (h2 h' al)⟩
noncomputable def auy(b:Bool):Bool:=(WTm.and (.not (.var 0)) (.lit (.bool true))).holds [] {args:=[],vars:=[.bool b]}
theorem auz(ns:List Int):(DE LL).holds [] {args:=[.list (ns.map .int)]}=auy (decide ((63:Int)<((ns.map Ir).length:Int))):=ak
theorem auA(ns:List Int)(h:(DE LL).holds [] {args:=[.list (ns.map .int)]}=true):ns.length<=63:=by have h5:=(auz ns).symm.trans h;cases e:decide ((63:Int)<((ns.map Ir).length:Int))with|true=>rw[e]at h5;exact bZ h5|false=>exact bw (as:=ns) Ir▸gI.mp (uA.mp (of_decide_eq_false e))
inductive MX(h:a_)(as:List aj):List aa->Prop|mk(a:aj)(ns:List Int)(items:Array aa)(m:a∈as)(len:ns.length<=63)(l:h.IsList a items)(vs:∀h' al,aQ h' al (ns.map .int) items.toList):MX h as [.ref a]
theorem auB{cl:Str->Option aj}(hx:zM [] xs .int=true)(hp:(DE LL).holds [] {args:=[.list xs]}=true)(r:ReadsW [] cl h v (.list xs) as):MX h (as++[]) [v]:=by cases r with|@list a o vs n xs as ho hc hd rr=>obtain⟨ns,hv⟩:=auw rr hx;exact⟨a,ns,vs,.head _,auA ns hp,⟨o,ho,hc,n,hd⟩,hv⟩
theorem auC{cl:Str->Option aj}(hp:RW.claim.pre args=true)(r:ReadsAllW RW.records cl h vals args as):MX h as vals:=by have hq:_/\(DE LL).holds [] {args:=args}=true:=eA.mp hp;obtain⟨x,rfl,hx⟩:=auu hq.1;obtain⟨xs,rfl,hi⟩:=list_has hx;cases r with|cons r1 r2=>cases r2;exact auB hi hq.2 r1
theorem YS:callerA.depth+311<yU/\callerA.units+8*311<dJ/\callerA.handled=none/\callerA.frames=some []/\callerA.guards=some []:=by refine⟨by decide,by decide,rfl,rfl,rfl⟩
theorem auD P:codeHdIn (KF P) 688 684=true:=ak
theorem auE P:(tC (KF P) fK).map (λes=>hX es "law")=some (some (.ref 694)):=ak
theorem auF args:RW.claim.post args (.bool true) args=true:=ak
theorem auG{w:d5}(YK:(KF w.params).In h)(hg:h.Ns fK mg)(h5:mg "law"=some (.ref a)):a=694:=by obtain⟨es,e1,e2⟩:=ya (auE w.params);obtain⟨o1,avk,u1,u2,u3⟩:=J3 e1;obtain⟨o2,es',xx,e,d,_,f⟩:=hg;cases aJ ((YK _ _ u1).symm.trans e);cases u2.symm.trans d;exact H9 (aJ (h5.symm.trans ((f "law").symm.trans e2)))
theorem YT(hb:b≠684)(e:h.get? b=some o):(kQ w h).B.get? b=some o:=hideAll_get [684] e λm=>hb (bM.mp m)
def YU(a0:aj)(ns:List Int):aj->Option (List V):=λb=>if b=a0 then some (aK ns)else none
theorem auH{a0:aj}(MY:a0≠684)(hl:h.IsList a0 items)(hv:∀h al,aQ h al (aK ns) items.toList) b l(e:YU a0 ns b=some l):∃items,(kQ w h).B.IsList b items/\aQ (kQ w h).B [] l items.toList:=by
 unfold YU at e;by_cases q:b=a0;.rw[if_pos q]at e;rw[q,<-aJ e];exact⟨items,let⟨o,ho,r⟩:=hl;⟨o,YT MY ho,r⟩,hv _ _⟩
 .rw[if_neg q]at e;exact aE e
theorem auI(vX:h.get? 684=some (wV #[])):SR (kQ w h) h [684] [.tab []] []:=⟨λb o e=>of_hideAll _ e,λb hb=>bM.mp hb▸hideAll_none [684] (.head _),rfl,by simp,λi mo b e eb=>by cases i with|zero=>cases e;cases eb;exact⟨#[],vX,.nil,λpos=>rfl⟩|succ i=>exact aE e,λp hp=>absurd hp eH⟩
theorem auJ:Cx (kQ w h) 311 none callerA [684] []:=⟨YS.1,YS.2.1,rfl,⟨[],rfl,λe he=>absurd he eH⟩,rfl,rfl⟩
theorem join(PL:∀ns:List Int,ns.length<=63->Mr (mO ns)):PySem.Challenge.rw_pq0151_01.Holds:=by
 refine head λw avl cq mg mb G cD a o pm cd doc dV kV h1 h2 h3 h4 h5 auK args vals as hp hl hr hw avm=>?_;obtain⟨a0,ns,items,hm,hlen,YV,hv⟩:=auC hp hr;have YK:(KF w.params).In cq.heap:=cD.1;have vX:cq.heap.get? 684=some (wV #[]):=cD.2 684 (by simp);cases auG YK G.T.g h5;have MY:a0≠684:=λq=>by obtain⟨o,ho,hc,_⟩:=YV;rw[q,vX]at ho;cases ho;cases hc
 have Z:=ajf YK G.T.g G.T.b G.T.builtins G.T.bmain vX (auH MY YV hv) (afO _);have hw:=(arY Z (if_pos rfl) hlen (PL ns hlen) callerA ⟨cq,[684],[]⟩ (.ref 694) [.ref a0] auJ (auI vX) (.st _) (.cons (.st _) .nil)).2;refine b_ hw (λq s' y=>?_) λq s' y=>?_;rotate_left;.obtain⟨i,a,d,aM,z',N',R',ea,ed,h⟩:=y;exact nomatch h.1
 obtain⟨v,aM,z',N',R',k',Le,cs,Md⟩:=y;cases Le;cases k';obtain⟨s',aT,Fm⟩:=z';have oN:Fm=[]:=N'.f;subst oN;have T':=N'.T;have m':=N'.m;have keep:∀b o,b≠684->cq.heap.get? b=some o->s'.heap.get? b=some o:=λb o hb e=>R'.base b o (YT hb e);obtain⟨nw,I4,_⟩:=T'.ext;obtain⟨ps,hP,_⟩:=R'.obj 0 _ 684 Md (by rw[I4];rfl);have hT:isCodeTable cq.heap 684:=((codeHd_of_K YK (auD w.params)).tab vX).isCodeTable;refine⟨.inl ⟨.bool true,.bool true,[],rfl,λ_=>rfl,.bool true,auF _,λ_=>⟨wy,λa ha=>by cases ha⟩⟩,⟨λb o e=>?_,λb o e=>?_⟩,m'.2.2,.of_eq (m'.1.trans auK)⟩
 .by_cases hb:b=684;.subst hb;rw[vX]at e;cases e;exact .inr (.inl ⟨hT,rfl,#[],ps,rfl,by rw[Array.empty_append];exact hP⟩)
  .exact .inl (keep b o hb e)
 .by_cases hb:b=684;.subst hb;exact⟨_,hP⟩
  .exact⟨o,keep b o hb e⟩
theorem auL{K:List aS}(H:cu K M){af:List V}{pl:List (Int×Nat)}(R:Rows af K)(hp:pl.lookup 900=some M):Mm af pl K M where
 rn:=R.bY;len:=R.len;row j h:=by obtain⟨l,e⟩:=R.get h;exact⟨_,e⟩
 ok k m:=by obtain⟨j,h⟩:=lZ.mp m;have :=(H.ok j k h).ex;cases k with|lt b e=>exact this|cU e g=>exact this|_=>exact trivial
 XJ k _ a:=ax (Yn k a M) ai;iy:=by have :=H.iy;rw[H.len];exact bD this ai
 l9:=hp;tgt o m:=by have h:=My M K K.length (br _);rw[eV,lY (bo (iR _ _ _))]at h;rw[h]at m;have g:=H.g0.fl m;rwa[iR]at g
theorem auM{st:List Nat}(h:.push v=bU st (lS T o)):o=.push v:=by cases o with|push w=>exact h.symm|_=>exact Od.noConfusion h
theorem YW{K:List aS}(H:cu K M):∀v,v∈jR K M pl->v∈qD:=by
 intro v m;rcases YA (rZ.vV v m)with e|⟨j,k,o,hk,_,ho,e⟩;.exact Od.noConfusion e
 .rw[auM e]at ho;exact(Yz ho).elim (λh=>of_decide_eq_true (jV.mp (jV.mp ats _ (H.ok j k hk).ex) _ h)) λh=>bZ h.1.symm
theorem auN(h:i∈n_ ((cA n).map f).zipIdx):∃j:Nat,i=j/\j<n/\f j<0:=by
 unfold n_ at h;obtain⟨e,m,rfl⟩:=dS.mp h;obtain⟨m,q⟩:=List.mem_filter.mp m;obtain⟨a,j⟩:=e;have :=List.mk_mem_zipIdx_iff_getElem?.mp m;rw[cQ]at this;have q:=of_decide_eq_true q;rcases pB j n with w|w;.rw[mX w]at this;cases this;exact⟨j,rfl,w,q⟩
 .rw[l0 (by rw[fe];exact w)]at this;cases this
section
variable{K:List aS}
theorem auO(H:cu K M):(ay (bq (dj K M)))[0]?=some (.int (aY (dj K M) 0:Nat)):=by unfold ay bq;rw[cQ,cQ,mX (by rw[iR,H.len];exact sg _)];rfl
abbrev MZ(K:List aS)(M:Nat)(pl:List (Int×Nat)):List Int:=(cA (M+1)).map λj=>if(jQ K M pl).getD j false=true then-1 else(aY (dP K M pl) j:Int)
theorem auP(z:(jQ K M pl).getD 0 false=false):(aK (MZ K M pl))[0]?=some (.int (aY (dP K M pl) 0:Nat)):=by unfold aK;rw[cQ,cQ,mX (sg _)];show some (V.int (if(jQ K M pl).getD 0 false=true then-1 else _))=_;rw[z,if_neg ai]
theorem auQ(h:(if(jQ K M pl).getD j false=true then-1 else(aY (dP K M pl) j:Int))<0):(jQ K M pl).getD j false=true:=by
 by_cases w:(jQ K M pl).getD j false=true;.exact w
 .rw[if_neg w]at h;exact absurd h (uA.mpr (dK _))
theorem auR(H:cu K M):XS (b9 (dj K M)) (bq (dj K M)) (gc K M pl) (MZ K M pl) (jR K M pl):=by have iy:=H.iy;obtain⟨T,r,Q⟩:=atj H pl (M+1) 0 (br _) (dC _);have z:=(MP H pl).zero;obtain⟨q1,q2⟩:=Q.ph z;obtain⟨n,e,a1,a2,a3⟩:=Q.pn [] 0 0;obtain⟨n',e',b1,b2,b3⟩:=q1 [] 0 0;have hT:=Q.len;obtain⟨x,hx⟩:=atx (r:=r) (e:=e) (by rw[a3];exact Q.ok) (by rw[a3];show T.length<=90;exact aaF iy hT);refine .mk _ _ n n' r e e' x (auO H) (PN iy a1) a2 (auP z) (PN iy b1) b2 (b3.trans a3.symm) (by rw[a3];show T.length<=9000;exact aaG iy hT) hx λi hi=>?_;obtain⟨j,e,_,hj⟩:=auN hi;rw[e];refine atz ?_;rw[a3];exact q2 j (auQ hj)
theorem auS(no:(gc K M pl).length<=57)(nv:(jR K M pl).length<=15):oK (di (gc K M pl))=true:=by unfold oK;have e1:eC (di (gb (cR K M pl)).fo)=_:=(rZ (K:=K) (M:=M) (pl:=pl)).fst;rw[e1,bw,fe];rw[beq_self_eq_true,decide_eq_true (show(gb (cR K M pl)).va.length<=32 from ax nv ai),decide_eq_true (show(di (gb (cR K M pl)).fo).length<1000 from bD (XR (gc K M pl)) (bD no ai))];rfl
theorem auT(H:cu K M)(j8:pl.length<=900):XT pl (vN K M) (vO K M) (gc K M pl) (MZ K M pl) (jR K M pl):=by
 rw[ash,X0];obtain⟨jM,jN,fQ,I,fj⟩:=asW H j8;have P:=rZ (K:=K) (M:=M) (pl:=pl);have n4:(cR K M pl).length<=57:=yL H (Yq (MK (K:=K) (M:=M))) (GF H);have no:(gc K M pl).length<=57:=by unfold gc;rw[P.fo,bw];exact n4
 have nv:(jR K M pl).length<=15:=atB _ qD P.nd (YW H);exact⟨.mk _ _ _ _ _ _ _ _ _ _ _ I rfl fj.symm rfl,ax nv ai,ax no ai,by rw[bw,fe];exact bD H.iy ai,auR H,at0 H,⟨auS no nv,P.fst⟩,atv P.nd (YW H)⟩
end
theorem auU J:Mr J where
 n:=⟨(vP J).pos (cw ai (yI J).1),ax (vP J).iy (by have :=(yI J).2;exact this)⟩;e:=(vP J).ne;c:=by rw[(vP J).cat,HJ,yJ];have :=(yI J).2;exact ax this ai
 x:=by have H:=ar4 J;have R:=ar9 J;rw[<-ar8]at H;exact⟨MF J,_,_,_,auL H R (ar_ J),auT H (pl:=(lP J).pl) (ax (ar' J) ai)⟩
theorem law_holds:PySem.Challenge.rw_pq0151_01.Holds:=join λns _=>auU (mO ns)
end
end Internal
theorem PySem.Challenge.cw_pq0151_01_holds : PySem.Challenge.rw_pq0151_01.Holds :=
  Internal.law_holds
