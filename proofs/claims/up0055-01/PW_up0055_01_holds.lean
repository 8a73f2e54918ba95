import PyProof.Rows.All
import OpenK.ZHead
import KE.KDictOf
import KE.KRevSl
import KE.KBoundM
import KE.KDictSum
import PySem.Challenge.RW_up0055_01
open PySem PySem.W PySem.Calls PyProof.Rows
set_option Elab.async false
set_option linter.all false
set_option maxRecDepth 100000
set_option maxHeartbeats 0
set_option genInjectivity false
set_option genSizeOf false
set_option tactic.hygienic false
noncomputable section
namespace Mine.Internal
open PySem renaming W.BT.nil->OT,W.BT.node->QJ,Expr.Name.elim->Al,Expr.Tuple.elim->Hj,Expr.Attribute.elim->Me,Expr.Call.elim->Mf,Expr.DictComp.elim->Mg,Expr.ListComp.elim->Mh,Heap.SameBut.update->Ry,Expr.Subscript.elim->Ta,Builtin.Str.strSliceIndices->M6,Builtin.Str.occurrences->aHU,Expr.Constant.elim->Q5,Value.type.inj->R5,Value.type.elim->fe,Data.cls.elim->cg,Data.dict.elim->cj,Data.fields.elim->cm,Data.func.elim->cn,Data.seq.elim->co,Expr.BinOp.elim->cq,Expr.BoolOp.elim->cr,Expr.Compare.elim->cu,Expr.Dict.elim->cv,Expr.IfExp.elim->cy,Expr.List.elim->cz,Expr.SetComp.elim->da,Expr.Slice.elim->db,Expr.UnaryOp.elim->dc,FuncBody.stmts.elim->dn,Stmt.Assign.elim->du,Stmt.Expr.elim->dv,Stmt.For.elim->dw,Stmt.If.elim->dx,Stmt.Raise.elim->dy,Stmt.Return.elim->dz,Stmt.Try.elim->ee,Stmt.While.elim->eg,Value.builtin.elim->ej,Value.int.elim->ez,Value.ref.elim->fa,Value.ref.inj->fq,Value.str.elim->fc,W.WShape.has->ft,W.WShape.hasItems->fu,Builtin.BaseException.bexcPut->aeL,Heap.IsSliceOf.new->afV,W.Looks.ld->agU,W.Looks.of_pure->agV,W.WData.int->ajF,Builtin.Int.intBits->aHK,Stmt.ClassDef.elim->aI6,Stmt.FunctionDef.elim->aI7,Value.none.elim->aI8,Str.ofString->LB,Str.append->aj5,Code.builtin->Lp,Code.quiet_builtin->aeZ,Expr.casesOn->Q6,Around.in1_units->y7,Around.under_plainId->ae8,NameKind.free->bj,IsL.update->dq,Builtin.divisionGoesByPylong->aeY,EntryCells.newEntry->afL,Env.blockKind->afM,ExceptHandler.casesOn->ai2,P.len_tuple->aiE,Shared.TypeIs->aj0,Shared.heap->aj1,callAny.viaDunder->alX,AutoIntOps.floordiv_1->aHD,AutoIntOps.mod_1->aHE,AutoIntOps.pow_4->aHF,AutoSeq1.list_extend_list_list_0->aI1,AutoSeq1.list_extend_list_tuple_0->aI2,Challenge.pw_up0055_01->aI3,Challenge.rw_up0055_01->aI4,MeetsSeq.list_pop_last->aI5,Value->DS,wpAny_bind->DV,wpAny->DW,Addr->DZ,Str->EA,Shared->EB,model->ED,wpAny_pure->EK,Heap->ES,World->EV,Stmt->EY,DictEntry->FL,Pos->FS,sysModules->GQ,Obj->GT,wpAny_holding->HE,Around->HG,eval->HM,wpAny_mono->IF,wpAny_field->IT,sizeLine->JC,Sem->JN,rawInt->JS,NameKind->KR,Tok->KT,cLine->KU,mainGlobals->KW,codeAny->MC,nsFind->ND,Model->NM,assign->OJ,wpAny_standAt->OS,hashStr->PI,notedBy->PQ,pyNext->PU,Result->QL,Scope->QM,builtinsNs->QP,getMethod->QU,starEach->RI,swapsWith->RJ,wpAny_call_entry->SP,BoolOp->SU,Flow->SX,IsPair->SY,Program->TK,backTo->TR,field->TY,wpAny_newObj_type->UR,Comprehension->UX,IsZip->UZ,letOwnedTupleGo->VU,wpAny_seqItems->WI,compareOp->XD,wpAny_callSpecial?_slot->XZ,wpAny_rule->YA,Data->YE,FuncData->YG,Reads->YR,wpAny_setField_rec->ZS,assignEach->At,attributeBase->Av,builtinLookup_eq_fast->Ay,pyIter->Cm,recursionLimit->Cn,typeLookup_type->Dg,wpAny_call->Dh,Const->Dn,cellsFrom->Ek,dictSet->El,findBy->Et,getAttr->Ew,specialOf->Gb,wpAny_of_eq->Gn,wpAny_specialOf->Go,ClassData->Gv,CmpOp->Gw,ExceptHandler->Gy,OsState->Hf,assignInOrder->Hv,binaryOp->Hz,call_meets->Ig,isSubtype_type->Jf,standAt->Km,typeLookup->La,wpAny_attempt->Ld,Keyword->Lw,argsOk->My,compPost->Np,getItem->Oa,holding->Oc,treeTable->Qs,wpAny_execs_cons->Qz,wpAny_isInstance->Ra,BindsTo->Rj,Operator->Sv,entryFor->Wf,eqIsQuiet->Wi,execs->Wm,seqItems?->Zm,setAttr->Zo,table->A3,wpAny_letGo->D2,wpAny_loadPart->D3,wpAny_loadPart_at->D4,wpAny_mkText->D5,wpAny_onRaise->D6,wpAny_sequenceKey->D7,wpAny_setField->D8,wpAny_truthy_bool->D9,wpAny_typeOf->E0,UnaryOp->R1,cStatics->V5,cameBackBy->V6,contains->W1,dictFind->W9,dictGet->X8,evalThenUse->Y9,firstArgMember->e_,isSubtype->C!,leaving->H!,newExc->O!,newTuple->O?,noteFrame->Q?,refuseLoop->Y!,setField->d8,slot_dict_getitem->i6,slot_dict_setitem->i7,swappedStores->k6,tableMayTell->l8,truthy->o6,typeOf->r8,wpAny_isSubtype_exc->s9,wpAny_pyIter_zip->t9,Arguments->y6,GenState->af,strKind->ff,backToKw->jg,behindInMarks->ji,callWith->ky,checkBuiltinCall->lg,codeAny_call_builtin->me,comprehension->mz,entryFor_of_tree->px,excClassObj->qn,getAttrBy->tc,getMethod_builtin->te,importedModules->ue,interactive->um,keywordEach->vj,plainId_quiet->zi,slot_dict_contains->abB,storeName->abI,typeIs_str->acG,updateSeq->acM,wpAny_Expr_any->acU,wpAny_dictEntries->acV,wpAny_execs_nil->acW,wpAny_newList->acX,wpAny_newTuple->acY,wpAny_notOrdered_dict->acZ,wpAny_pyIter_list->ad0,wpAny_updateSeq->ad2,wpAny_updateSeq_pair->ad3,Scope->aiF,seqSlot_of->aiH,wpAny_pyIter_enum->aiI,wpAt_bind->aiJ,wpAt_of_wpAny->aiK,aRefKeyMayBeTheName_at->ajG,args_dict_setitem->ak7,arm_allTrue_cons->akB,arm_eval_Attribute->akC,arm_eval_Slice->akD,arm_isTrue_BoolOp->akE,boundAndCalled->alP,callGetattribute->alY,callType_codes->alZ,call_list_seq->am3,codeAny_builtin->an4,dictSetHashed->anO,entryFor_alias->ao8,entry_dict_setitem->aoA,fastBuiltinOwn->aoZ,getAttrByItsOwn->asE,getattributeRaised->asK,isSubtype_stop->atY,isSubtype_tuple_tuple->atZ,methodCallForm->aw9,methodCallPos->awA,noFill_tuple_add->ax3,opaqueClassAbove->ayC,pastItsLine_dict->ayV,placesWithHash->az1,seq_tuple_add->aBF,slot_list_setitem->aBY,theTreesLotGoes->aCZ,wpAny_Return_some->aEE,wpAny_askSetting->aEF,wpAny_dictEpoch->aEG,wpAny_handled->aEH,wpAny_loadName_local->aEI,wpAny_lookBehind->aEJ,wpAny_pyIter_listiter->aEK,wpAny_release->aEL,wpAny_storeName_local->aEM,wpAny_updateDictKeys->aEN,wpAny_updatePart->aEO
open PySem.Builtin.SmallTypes renaming nextOf->YD,ownedTupleIsFree->M5,newClass->aeV,ownedTupleHandOut->aeW,refuseKeywords->aHT
open PySem.Builtin.Slice renaming slicePlaces->Ll,sliceAdjust->Ro,sliceApplied->Rp,sliceFields->aeU
open PySem.Builtin.Tuple renaming tupleExact->M7,tupleIsExact->aeX,tupleItemsOf->aHV
open PySem.Builtin.List renaming listExtendWith->z5,listItems->aeO,listLengthHint->aeP,listSameRef->aeQ,listTooLong->aeR,listSubscript?->aHL,listTouch->aHM,listUpdate->aHN
open _root_ renaming PyProof.Rows.IsTup.typeIs->am,Option.some.inj->EJ,Prod.mk.inj->YQ,Prod.mk.injEq->ahW,Nat.succ.inj->Q0,Nat->DL,List->DM,Option->DQ,Bool->DU,congrArg->DX,Int->DY,cond->EN,absurd->EP,Array->FM,if_neg->FU,if_pos->GG,String->HB,Unit->HI,dif_neg->XE,decide_eq_true->Bg,beq_iff_eq->Eg,dif_pos->En,beq_eq_false_iff_ne->Nc,decide_eq_false->Nq,if_false->Od,congrFun->Vw,Decidable->N4,beq_false_of_ne->jn,or_false->yt,LawfulBEq.eq_of_beq->GW,Ne.symm->JY,True.intro->RR,ForInStep.yield->Lq,Array.getElem?_eq_some_iff->Rh,Array.mk->M2,Array.toArray_toList->y8,Array.eq_empty_of_size_eq_zero->ae9,Array.getElem?_toList->aeA,ForIn.forIn->Wt,Prod.ext->cc
open PySem.Builtin.Dict renaming notOrdered->aeM,updateFrom->aeN,addKeywords->aHG,pairItems->aHH,pendingKey?->aHI,selfAndRest->aHJ
open PySem.Builtin.ObjectAttr renaming storeInDict->aeS,setByDescriptor->aHO,storeInOwnDict->aHP,storeTaker?->aHQ
open PySem.Builtin.Range renaming small->aeT,rangeFitsLong->aHR,rangeSize->aHS
open PySem.W.Fast renaming te10110043849684766642->aI9,te14364793385576792824->aIA,te16335722595253787840->aIB,te4187177175401517315->aIC,te9446332074065402090->aID,tw10110043849684766642->aIE,tw14364793385576792824->aIF,tw16335722595253787840->aIG,tw4187177175401517315->aIH
open PySem.W renaming Frag->EQ,findIn->GM,hashW->UB,fnIn->XG,Looks->YN,boot_heap->YV,emptyDict->YZ,WData->Aq,clsIn->Bf,instObj->Bw,typeIn->Gj,WRecords->Hn,keepIn->Ji,takerIn->Ko,looks_findIn->Ov,specialIn->Qj,ReadsAllW->Tc,alongIn->Up,callWith_of->Vp,lookIn->R6,codeIn->V8,copiedNames->W2,keeps_K->E!,looks_clsIn->I?,topFrame->n8,any_some->gu,check_slot->lh,handedIn->tu,set_plain->aaX,lookIn->aiG,cellsFrom_some->amJ
open PySem.Heap renaming get?_push_size->HH,lt_size->HV,get?_update_other->OU,get?_push_of_some->RM,SameBut->WL,get?_update_self->WM,size_push->ZZ,ExtBut->Gz
open PySem.Value renaming none->LC,ref->NO,type->Dv,bool->R3,str->R4,builtin->fp,int->ajC,isStr->ajD,isStrOf->ajE
open PySem.Obj renaming mapSeq->TH,mapFields->Ds,putName->Mb,data_mapFields->Su,cls->Q4,cls_mapFields->ahH,isFreed_of_fields->ahI,mapDictKeys->ahJ
open PySem.PyData renaming eqv->Dt,eqvAll->Hi,canLayAll0->ce,depthAll->cf,int->ai0
open PyProof.Rows renaming subscriptTail->Ge,slot_tuple_getitem->Kl,Call_->Rq,tail_any->A4,IsTupIter->N9,args_cons->S3,seqObj->a9,slicePart_none->i4,slot_tupleiter_next->i9,Subscript_->fi,args_nil->gz,Attribute_any_->aeB,getItem_tuple->ai1,args_tupleiter_next->akA,assign_Tuple_tuple->akN,entry_tupleiter_next->aoD,get?_update_seq->as9,slicePart_int->aBV,add_str->aHX,callWith_type1->aHY,evalArgs_nil3->aHZ,len_list->aI0
open PySem.Calls renaming Name_function_global->Sl,callWith_builtin->z6,loadGlobal_global->wi,evalArgs_plain->aoQ,loadGlobal_builtin->av8
open PySem.F renaming slot_zip_next->N5,excBase_Exception->de,slot_dict_get->dg,slot_list_extend->dh,slot_list_getattribute->di,slot_tuple_mul->dj,args_zip_next_1->afP,entry_zip_next->afQ,slot_tuple_eq->afR,args_list_extend_2->ai3,args_tuple_add_2->ai4,entry_dict_get->ai5,entry_list_extend->ai6,entry_tuple_add->ai7,slot_int_rmul->ai8,slot_list_append->ai9,slot_list_pop->aiA,slot_str_index->aiB,slot_tuple_add->aiC,slot_tuple_rmul->aiD
open _root_.Option renaming some->DK,none->DP,map->NN,isSome_iff_exists->Md,bind_some->Sw,isNone_iff_eq_none->Sx,map_eq_some_iff->Sy,some_ne_none->bz,bind_eq_some_iff->ahK,isSome->ahL
open _root_.Bool renaming true->DN,false->DT,false_ne_true->FJ,and_eq_true->Gu,and_eq_true_iff->Lk,false_eq_true->Rk,and_false->M3,or_true->M4,not_true->y9,false_and->aeI,or_eq_true_iff->aeJ
open _root_.Nat renaming beq->EG,le_trans->EZ,le_refl->FG,ble->FW,succ->GH,zero_le->GI,le_of_ble_eq_true->GO,eq_of_beq_eq_true->GV,blt->HC,le_add_right->HD,not_lt->IG,lt_of_lt_of_le->IW,lt_of_le_of_lt->JX,ble_eq->MS,le_of_eq->MT,add_le_add->OF,add_le_add_left->RP,beq_refl->RQ,add_assoc->TB,blt_eq->TC,le_succ->TD,lt_or_ge->TE,not_succ_le_zero->TF,succ_le_succ->TG,lt_irrefl->VB,ne_of_lt->VC,le_of_lt->WQ,ne_of_gt->YO,add_sub_cancel_left->Ah,le_of_succ_le_succ->Ai,zero_add->Aj,add_sub_cancel'->Dq,lt_succ_of_lt->Dr,add_comm->Ly,le_of_not_lt->Lz,succ_pos->Ma,add_le_add_right->Sn,lt_succ_self->Sp,mul_le_mul_left->Sq,not_lt_zero->St,le_add_left->P7,le_of_lt_succ->P8,le_succ_of_le->P9,succ_add_eq_add_succ->Q1,succ_ne_zero->Q2,add_left_cancel->bk,lt_of_lt_of_eq->bl,lt_trans->bn,min_le_right->bp,sub_add_cancel->bq,sub_eq_zero_of_le->br,sub_le->bv,sub_lt->bw,add_lt_add_left->agW,add_mul_mod_self_left->agX,add_right_comm->agY,add_zero->agZ,le_antisymm->ah0,le_sub_of_add_le->ah1,le_sub_one_of_lt->ah2,le_total->ah3,log2_lt->ah4,lt_of_le_of_ne->ah5,lt_of_succ_lt_succ->ah6,lt_trichotomy->ah7,min_eq_left->ah8,min_eq_right->ah9,mod_eq_of_lt->ahA,not_succ_le_self->ahB,one_le_of_lt->ahC,one_pos->ahD,sub_le_of_le_add->ahE,sub_sub_right->ahF,succ_add->ahG
open _root_.List renaming toArray->ER,all_eq_true->FQ,length_append->GC,mem_singleton->GY,size_toArray->HW,mem_cons->IV,mem_of_getElem?->JK,getElem?_eq_getElem->JU,getElem?_eq_some_iff->JV,replicate->JW,not_mem_nil->KG,append_nil->KP,getElem?_append_left->KQ,length_map->LM,mem_map->LN,getElem?_eq_none->MQ,range->MR,forall_mem_cons->NJ,getElem?_concat_length->NK,length_set->NL,getElem?_set_self->OV,mem_append->OW,mem_append_left->RO,getElem?_map->SZ,getElem?_set_ne->TA,length_replicate->VA,append_assoc->WN,lookup->WO,mem_append_right->WP,getElem?_of_mem->YK,map_append->YL,mem_range->YM,any_eq_true->Ab,forIn_cons->Ac,getElem?_append_right->Ad,getElem?_take_of_lt->Ae,lookup_cons->Af,nodup_cons->Ag,length_take_of_le->Dp,contains_cons->Ha,nodup_nil->Hb,getElem_of_mem->Lx,drop->Sg,ext_getElem?->Sh,filterMap_cons->Si,map->Sj,any_toArray->O1,cons->O2,drop_eq_nil_iff->O3,eq_nil_of_length_eq_zero->O4,getElem?_eq_none_iff->O5,length->O6,length_reverse->O7,length_take_le->O8,pairwise_map->O9,reverse_cons->P4,filterMap->ao,getElem?_drop->aq,getElem?_range->au,getElem_mem->av,isEmpty_iff->aw,map_congr_left->ax,map_cons->ay,map_map->az,map_reverse->ba,mem_filterMap->bb,mem_map_of_mem->bc,mem_replicate->be,mem_reverse->bf,take_of_length_le->bg,append_toArray->agA,drop_drop->agB,drop_zero->agC,filter->agD,filterMap_map->agE,findIdx?_cons->agF,findIdx?_toArray->agG,foldl_cons->agH,forIn_nil->agI,getElem?_zip_eq_some->agJ,length_drop->agK,length_range->agL,mem_cons_self->agM,mem_toArray->agN,pairwise_cons->agO,pairwise_iff_getElem->agP,take->agQ,take_nil->agR,zipIdx_cons->agS,zipIdx_nil->agT
open _root_.Int renaming fmod->KO,ofNat->RN,ofNat_lt->UY,fdiv->YH,natCast_nonneg->YI,fmod_lt_of_pos->Ls,fmod_nonneg_of_pos->Lu,ofNat_le->Sa,natCast_sub->N6,sub_sub->N7,sub_zero->N8,eq_ofNat_of_zero_le->ah,le_of_lt->ai,negSucc_lt_zero->aj,sub_add_cancel->ak,ediv_one->ag1,le_trans->ag2,lt_of_le_of_lt->ag3,lt_trans->ag4,negSucc->ag5,not_lt->ag6,subNatNat_of_le->ag7,toNat_natCast->ag8
abbrev aJ:=DS->EB->Prop
abbrev aK:=HI->EB->Prop
abbrev aL:=Expr->Prop
abbrev aN:=DS->Prop
variable {Y:TK}{n a k i f d j tk pl N ca bX bY:DL}{mg:EA->DQ DS}{A:HG}{s:EB}{h h' h0:ES}{x y value slice kx target vx ex:Expr}{π hH as:DM DZ}{xs ys bm:DM DS}{Mo:NM}{Q E2 Q':aJ}{fr:DM Env}{Z:Env}{kp:DM DL}{name fK:EA}{pos tp np:FS}{z sl it TI TO i1 i2 a1 a2:DZ}{H_:DM (EA×DL)}{body:DM EY}{names:DM EA}{scope:QM}{use:DQ (DS->JN HI)}{dd:DQ DZ}{fd:YG}{cl:EA->DQ DZ}
noncomputable abbrev RG:OpenLaw:=aI4
theorem aIP:RG.wellSaid=DN:=by
 rw[aID];kernel_rfl
noncomputable abbrev Tx:=DM DL
variable {gn:DL->Tx}{ps:DM Tx}{bt:DM (Tx×DS)}{xn t0:Tx}
set_option genInjectivity true in
inductive V where
 |none
 |bool (b:DU)
 |int (i:DY)
 |str (t:Tx)
 |aR (B:DM V)
 |aX (B:DM V)
 |bZ (ks B:DM V)
 |obj (c:DL) (ks:DM DL) (B:DM V)
 |ref (i:DL)
 |fn (a:DL)
 |cls (c:DL)
 |dW (f:DL) (i:DL)
 |bD (k:DL) (v:V)
open Mine.Internal renaming V->aI
variable {b v v' u e1 e2 u1 ev r' sp e5 its bG v0 lX:V}{ks B ks' vs' args us ab W W' iO sab tab ow la li:DM V}{pre:DL->DM V}{kn':DL->Tx->DQ V}{sb:DM (DL×V×V)}
noncomputable def og{α:Type}(c:DU)(x:DQ α):DQ α:=match c with|true=>x|false=>DP
noncomputable def oo{α:Type}(x y:DQ α):DQ α:=match x with|some a=>DK a|none=>y
noncomputable def oe{α β:Type}(x:DQ α)(d:β)(f:α->β):β:=match x with|some a=>f a|none=>d
inductive UW where|add|sub|jE|fdiv|hM|oU
inductive SV where|eq|ne|lt|gt|ge|is|iV|isIn|kY
inductive Bi where|bQ|tuple|list|dict|str|max|all|sorted|lV
set_option genCtorIdx false in
mutual
inductive E where
 |loc (x:DL)
 |bJ (g:DL)
 |k (v:V)
 |aR (H:Es)
 |aX (H:Es)
 |fE
 |kA (a b:E)
 |aU (e:E) (a:DL)
 |sub (e i:E)
 |jI (e:E) (k:DY)
 |jB (e:E)
 |bV (o:UW) (a b:E)
 |aW (o:SV) (a b:E)
 |or (a b:E)
 |and (a b:E)
 |not (a:E)
 |cH (c a b:E)
 |call (f:E) (H:Es)
 |bi (b:Bi) (H:Es)
 |bK (o:E) (m:DL) (H:Es)
 |comp (fF:E) (x:T) (it:It) (ifs:Es)
 |iG (a b:E) (x:T) (it:It)
 |bL
inductive Es where
 |nil
 |cons (e:E) (H:Es)
inductive It where
 |seq (e:E)
 |zip (H:Es)
 |dT (H:Es)
 |range (H:Es)
 |gO (H:Es)
inductive T where
 |loc (x:DL)
 |aR (ts:Ts)
 |aU (e:E) (a:DL)
 |sub (e i:E)
inductive Ts where
 |nil
 |cons (t:T) (ts:Ts)
end
open Mine.Internal renaming E->aA,Es->aE,It->aF,T->aG
variable {t:T}{e:E}{ifs:Es}{fM:It}
mutual
inductive S where
 |aV (t:T) (e:E)
 |ex (e:E)
 |ret (e:E)
 |bH (c:E) (a b:Ss)
 |for (t:T) (it:It) (body:Ss)
 |jJ (c:E) (body:Ss)
 |raise (H:Es)
 |try(body:Ss) (x:DL) (h:Ss)
 |bL
inductive Ss where
 |nil
 |cons (s:S) (ss:Ss)
end
noncomputable def LL:Ts->DL
 |.nil=>0|.cons _ ts=>GH (LL ts)
noncomputable def HX(v:V):DQ DY:=match v with|.int i=>DK i|_=>DP
noncomputable def VF(v:V):DQ DU:=match v with|.bool i=>DK i|_=>DP
noncomputable def GJ(v:V):DQ Tx:=match v with|.str i=>DK i|_=>DP
noncomputable def UE(v:V):DU:=match v with|.none=>DN|_=>DT
noncomputable def bN{α:Type}(l:DM α):DQ α:=match l with|v::r=>(match r with|[]=>DK v|_::_=>DP)|[]=>DP
def eM{α:Type}(l:DM α):DQ (α×α):=match l with|v::r=>(bN r).map λ u=>(v,u)|[]=>DP
noncomputable def FV{α:Type}(l:DM α):DU:=match l with|[]=>DN|_::_=>DT
noncomputable def FT:Tx->Tx->DU
 |[],b=>FV b|a::x,b=>match b with|c::y=>EG a c&&FT x y|[]=>DT
noncomputable def Lb:DL->DL->Tx
 |0,_=>[]|f+1,n=>match n with
  |0=>[]|n=>(n%256)::Lb f (n/256)
noncomputable abbrev EU(a:DL):Tx:=Lb 60 a
set_option genCtorIdx false in
inductive Kp where
 |no
 |all
 |at(p:DM DL)
structure Fn where
 np:DL
 fZ:DM V
 ns:DL
 body:Ss
 keep:Kp
variable {fn:Fn}
structure Fx where
 fn:Fn
 nm:DM (Tx×DL)
 cs:DM DL
set_option genCtorIdx false in
inductive Tr(α:Type) where
 |nI
 |node (l:Tr α) (k:DL) (v:α) (r:Tr α)
variable {gT:Tr (V×Tx)}{cT:Tr (Tr DL)}{iT:Tr DL}
noncomputable def Tr.get{α:Type}:Tr α->DL->DQ α
 |.nI,_=>DP|.node l k v r,a=>match EG a k with
  |true=>DK v|false=>match HC a k with
   |true=>Tr.get l a|false=>Tr.get r a
noncomputable def Tr.all{α:Type}(p:DL->α->DU):Tr α->DU
 |.nI=>DN|.node l k v r=>p k v&&(Tr.all p l&&Tr.all p r)
noncomputable abbrev sx(t:Tx):EA:=⟨t.toArray⟩
structure Mx where
 sc:DM (EA×KR)
 nm:DM (Tx×DL)
 cs:DM DL
variable {mi:Mx}
def LD(n:EA)(t:Tx):DU:=FT n.cps.toList t
noncomputable def GK(n:EA):DM (Tx×DL)->DQ DL
 |[]=>DP|(t,i)::r=>match LD n t with
  |true=>DK i|false=>GK n r
noncomputable def Ux(v:DS):DQ HB:=match v with|.type a=>DK a|_=>DP
noncomputable def Eb(v:DS):DQ DZ:=match v with|.ref a=>DK a|_=>DP
noncomputable def Xj:DM HB->DM DS->DU
 |[],l=>FV l|t::ts,l=>match l with|v::r=>oe (Ux v) DT (λ a=>decide (a=t))&&Xj ts r|[]=>DT
noncomputable def Jw:DM DS->DU
 |[]=>DT|v::r=>(oe (Eb v) DT λ J=>Jw r)||Xj ["Exception", "BaseException", "object"] (v::r)
def Gd(K:EQ)(C:DZ):DU:=(Bf K C).any λ cd=>onlyObject cd.mro||Jw cd.mro
def mK(v:V)(k:Dn):DU:=match k with
 |.none=>UE v|.bool b=>oe (VF v) DT (·==b)|.int i=>oe (HX v) DT (·==i)|.str u=>oe (GJ v) DT (LD u)|_=>DT
noncomputable def UH(x:Expr):DU:= !EG x.ctorIdx 22
noncomputable def Js(x:Expr):DU:= !EG x.ctorIdx 26
section
variable {w:EV}{K:EQ}{D:Tb}{o:JM}{L:Mx}{mb:EA->DQ DS}{Ex:aJ}{c:Cx}{U:aS}
noncomputable def JR(n:DL)(x:Expr):DU:=EG x.ctorIdx n
def v3(x:Expr):DU:=if h:x.ctorIdx=16 then Mf (motive_1:=λ J=>DU) x h λ f as J J=> !FV as&&(JR 23 f||JR 20 f)else DT
end
def Jt(x:Expr):DU:=JR 23 x||(JR 20 x||(JR 21 x||(JR 19 x||v3 x)))
noncomputable def IB:DM Expr->DU
 |[]=>DN|x::r=>UH x&&IB r
noncomputable def Vh:UW->Sv
 |.add=>.Add|.sub=>.Sub|.jE=>.Mult|.fdiv=>.FloorDiv|.hM=>.Mod|.oU=>.Pow
noncomputable def Il:SV->Gw
 |.eq=>.Eq|.ne=>.NotEq|.lt=>.Lt|.gt=>.Gt|.ge=>.GtE|.is=>.Is|.iV=>.IsNot|.isIn=>.In|.kY=>.NotIn
noncomputable def Jc:DM (Tx×DL)->DU
 |[]=>DN|(_,i)::r=>(r.all λ p=> !EG i p.2)&&Jc r
def KC(L:Mx):DU:=Jc L.nm&&L.nm.all (λ p=>L.cs.all λ i=> !EG i p.2)
def Pf(x:Expr):DU:= !(JR 8 x||JR 9 x||JR 10 x)
noncomputable def Yo(sc:DM (EA×KR))(ts:DM Expr):DM EA:=ts.filterMap λ
 |.Name id pos=>if sc.lookup id==DK .local&&pos.line==(ts.head?.map (·.pos.line)).getD 0 then DK id else DP
 |_=>DP
def j9(sc:DM (EA×KR))(ts B:DM Expr):DQ (DQ (DM EA)):=
 if(!(ts.length==2||ts.length==3)||B.length !=ts.length||ScopeKind.function !=.function)=DN then DK DP
 else if(B.any λ|.Starred .. =>DN|_=>DT)=DN then DK DP
 else if((Yo sc ts).length !=ts.length||(Yo sc ts).eraseDups.length !=(Yo sc ts).length)=DN then DK DP
 else if B.all (foldedForSure 8)=DN then DK DP
 else if B.all (constantsAlone 8)=DN then DP
 else DK (DK (Yo sc ts))
def Qn(sc:DM (EA×KR))(ts:DM Expr)(x:Expr):DQ (DQ (DM EA)):=if h:x.ctorIdx=25 then Hj (motive_1:=λ J=>DQ (DQ (DM EA))) x h λ B J J=>j9 sc ts B else DK DP
noncomputable def Qo(t:T):DQ DL:=match t with|.loc i=>DK i|_=>DP
noncomputable def Xu:Ts->DQ (DM DL)
 |.nil=>DK []|.cons t ts=>(Qo t).bind λ i=>(Xu ts).map (i::·)
noncomputable def QW(sc:DM (EA×KR))(n:EA)(k:KR):DU:=sc.lookup n==DK k
def Ol(L:Mx)(x:EA)(i:DL):DU:=oe (GK x L.nm) DT (EG i)&&QW L.sc x .local
noncomputable def Mr(L:Mx):DM EA->DM DL->DU
 |[],l=>FV l|x::xs,l=>match l with|i::is=>Ol L x i&&Mr L xs is|[]=>DT
noncomputable def Ym:DM DL->DU
 |[]=>DN|i::r=>(r.all λ j=> !EG i j)&&Ym r
def dK(x:Expr):DU:=JR 25 x
def UG(x:Expr):DU:= !JR 7 x
noncomputable def UK:It->DU
 |.zip _=>DT|.dT _=>DT|_=>DN
noncomputable def PO(x:Expr):DQ EA:=if h:x.ctorIdx=23 then DK (Al (motive_1:=λ J=>EA) x h λ id J=>id)else DP
noncomputable def Dd(x:Expr):DQ (DM Expr):=if h:x.ctorIdx=25 then DK (Hj (motive_1:=λ J=>DM Expr) x h λ xs J J=>xs)else DP
noncomputable def Qp(t:T):DQ Ts:=match t with|.aR ts=>DK ts|_=>DP
noncomputable def A7:Ts->DM Expr->DQ (DM (EA×DL))
 |.nil,l=>og (FV l) (DK [])|.cons t ts,l=>match l with|x::xs=>(Qo t).bind λ i=>(PO x).bind λ id=>(A7 ts xs).map ((id,i)::·)|[]=>DP
def QC(t:T)(x:Expr):DQ (DM (EA×DL)):=oo ((Qo t).bind λ i=>(PO x).map λ id=>[(id,i)]) ((Qp t).bind λ ts=>(Dd x).bind λ xs=>A7 ts xs)
def RK(t:T)(x:Expr):DU:=oe (Qp t) DN λ ts=>oe (Dd x) DN λ xs=>IB xs&&EG (LL ts) xs.length
noncomputable def aA2(sc:DM (EA×KR))(names:DM (EA×KR)):DM (EA×KR):=names.map λ (n,k)=>if(k==.free&&ScopeKind.function==.function&&sc.lookup n==DK .cell)then(n,.cell)else(n,k)
def II(L:Mx)(names:DM (EA×KR))(H_:DM (EA×DL)):Mx:=⟨aA2 L.sc names,H_.map (λ q=>(q.1.cps.toList,q.2))++L.nm,[]⟩
def ut(k:DQ KR)(x:KR):DU:=oe k DT λ y=>y==x
def Zs(n:EA)(L:Mx)(i:DL):DU:=oe (GK n L.nm) DT (EG i)
def ab8(L wN:Mx)(names:DM (EA×KR))(n:EA)(i:DL):DU:=(!ut (wN.sc.lookup n) .local||L.cs.any λ j=>EG i j)&&
 (!ut (wN.sc.lookup n) .cell||(Zs n L i&&QW L.sc n .cell&&names.any λ q=>q.2==.free&&q.1==n))
def XB(L:Mx)(scope:QM)(H_:DM (EA×DL)):DU:=
 scope.kind==.function&&scope.names.all (λ q=> !(q.2==.cell))&&scope.names.all (λ q=> !(q.2==.local)||QW scope.names q.1 .local)&&
 KC (II L scope.names H_)&&H_.all (λ q=>Zs q.1 (II L scope.names H_) q.2&&QW (II L scope.names H_).sc q.1 .local)&&
 (II L scope.names H_).nm.all (λ q=>oe (GK (sx q.1) (II L scope.names H_).nm) DN (ab8 L (II L scope.names H_) scope.names (sx q.1)))&&
 scope.names.all (λ q=> !(q.2==.free)||((GK q.1 L.nm).isSome&&QW L.sc q.1 .cell))
def Gg(L:Mx)(id:EA)(tp:FS)(sc:QM)(p:FS):DU:=DN&&QW L.sc id .local&&tp.line==p.line&& !(sc.names.any λ (n,k)=>n==id&&(k==.local||k==.cell))
def SO(L:Mx)(x:Expr)(id:EA)(tp:FS):DU:=
 if h:x.ctorIdx=8 then Mh (motive_1:=λ J=>DU) x h λ J J s p=>Gg L id tp s p else
 if h:x.ctorIdx=9 then da (motive_1:=λ J=>DU) x h λ J J s p=>Gg L id tp s p else
 if h:x.ctorIdx=10 then Mg (motive_1:=λ J=>DU) x h λ J J J s p=>Gg L id tp s p else DT
noncomputable def Im(x:Expr):DQ (Dn):=if h:x.ctorIdx=19 then DK (Q5 (motive_1:=λ J=>Dn) x h λ a0 J J=>a0)else DP
noncomputable def r9(x:Expr):DQ (R1×Expr):=if h:x.ctorIdx=3 then DK (dc (motive_1:=λ J=>R1×Expr) x h λ a0 a1 J=>(a0,a1))else DP
noncomputable def wd(x:Expr):DQ (DM Expr):=if h:x.ctorIdx=24 then DK (cz (motive_1:=λ J=>DM Expr) x h λ a0 J=>a0)else DP
noncomputable def W8(x:Expr):DQ ((DM (DQ Expr))×(DM Expr)):=if h:x.ctorIdx=6 then DK (cv (motive_1:=λ J=>(DM (DQ Expr))×(DM Expr)) x h λ a0 a1 J=>(a0,a1))else DP
noncomputable def Ed(x:Expr):DQ (Expr×EA×FS):=if h:x.ctorIdx=20 then DK (Me (motive_1:=λ J=>Expr×EA×FS) x h λ a0 a1 a2=>(a0,a1,a2))else DP
noncomputable def Qk(x:Expr):DQ (Expr×Expr×FS):=if h:x.ctorIdx=21 then DK (Ta (motive_1:=λ J=>Expr×Expr×FS) x h λ a0 a1 a2=>(a0,a1,a2))else DP
noncomputable def i3(x:Expr):DQ ((DQ Expr)×(DQ Expr)×(DQ Expr)):=if h:x.ctorIdx=26 then DK (db (motive_1:=λ J=>(DQ Expr)×(DQ Expr)×(DQ Expr)) x h λ a0 a1 a2 J=>(a0,a1,a2))else DP
noncomputable def jq(x:Expr):DQ (Expr×Sv×Expr):=if h:x.ctorIdx=2 then DK (cq (motive_1:=λ J=>Expr×Sv×Expr) x h λ a0 a1 a2 J=>(a0,a1,a2))else DP
noncomputable def ly(x:Expr):DQ (Expr×(DM Gw)×(DM Expr)):=if h:x.ctorIdx=15 then DK (cu (motive_1:=λ J=>Expr×(DM Gw)×(DM Expr)) x h λ a0 a1 a2 J=>(a0,a1,a2))else DP
noncomputable def jx(x:Expr):DQ (SU×(DM Expr)×FS):=if h:x.ctorIdx=0 then DK (cr (motive_1:=λ J=>SU×(DM Expr)×FS) x h λ a0 a1 a2=>(a0,a1,a2))else DP
noncomputable def Oe(x:Expr):DQ (Expr×Expr×Expr):=if h:x.ctorIdx=5 then DK (cy (motive_1:=λ J=>Expr×Expr×Expr) x h λ a0 a1 a2 J=>(a0,a1,a2))else DP
noncomputable def Ni(x:Expr):DQ (Expr×(DM Expr)×(DM Lw)×FS):=if h:x.ctorIdx=16 then DK (Mf (motive_1:=λ J=>Expr×(DM Expr)×(DM Lw)×FS) x h λ a0 a1 a2 a3=>(a0,a1,a2,a3))else DP
noncomputable def vy(x:Expr):DQ (Expr×(DM UX)×QM):=if h:x.ctorIdx=8 then DK (Mh (motive_1:=λ J=>Expr×(DM UX)×QM) x h λ a0 a1 a2 J=>(a0,a1,a2))else DP
noncomputable def nk(x:Expr):DQ (Expr×Expr×(DM UX)×QM):=if h:x.ctorIdx=10 then DK (Mg (motive_1:=λ J=>Expr×Expr×(DM UX)×QM) x h λ a0 a1 a2 a3 J=>(a0,a1,a2,a3))else DP
noncomputable def tyO(x:DS):DQ HB:=if h:x.ctorIdx=8 then DK (fe (motive:=λ J=>HB) x h λ T=>T)else DP
noncomputable def jv(x:DS):DQ HB:=if h:x.ctorIdx=9 then DK (ej (motive:=λ J=>HB) x h λ T=>T)else DP
noncomputable def WW(l:DM (Tx×DS))(id:EA):DQ DS:=match l with
 |[]=>DP|p::r=>EN (LD id p.1) (DK p.2) (WW r id)
def D!(T:HB)(v:DQ DS):DU:=oe v DT λ v=>oe (tyO v) DT λ B_=>decide (B_=T)
def uo(T:HB)(v:DQ DS):DU:=oe v DT λ v=>oe (jv v) DT λ B_=>decide (B_=T)
noncomputable def jp(b:Bi):DU×HB:=match b with
 |.bQ=>(DT, "len")|.max=>(DT, "max")|.all=>(DT, "all")|.sorted=>(DT, "sorted")|.tuple=>(DN, "tuple")|.list=>(DN, "list")|.dict=>(DN, "dict")|.str=>(DN, "str")|.lV=>(DN, "list")
noncomputable def atP(b:Bi):DU:=EG b.ctorIdx 8
noncomputable def anH:Tx:=[95,95,100,101,98,117,103,95,95]
def N_(id:EA):DU:= !(LD id anH)
def Om(L:Mx)(id:EA)(x:DL):DU:=Zs id L x&&(QW L.sc id .local||QW L.sc id .cell)&&N_ id
def Je(L:Mx)(id:EA):DU:=QW L.sc id .globalImplicit&&N_ id
noncomputable def u_(k:Dn):DQ DY:=match k with
 |.int i=>DK i|_=>DP
def O_(x:Expr):DQ DY:=(r9 x).bind λ p=>og (decide (p.1=.USub)) ((Im p.2).bind u_)
def Xx(k:DY)(x:Expr):DU:=oe (Im x) (oe (O_ x) DT λ i=>k== -i) λ c=>mK (.int k) c
def Bd(x:Expr):DQ (EA×DM Expr):=(Ni x).bind λ p=>og (FV p.2.2.1) ((PO p.1).map λ id=>(id,p.2.1))
def Fr(op:SU)(r:DM Expr)(pos:FS):Expr:=oe (bN r) (.BoolOp op r pos) id
def aE1(l:DM Expr):DQ (Expr×DM Expr):=match l with
 |y::r=>og (!FV r) (DK (y,r))|[]=>DP
def Jx(op:SU)(x:Expr):DQ (Expr×DM Expr×FS):=(jx x).bind λ p=>og (decide (p.1=op)) ((aE1 p.2.1).map λ q=>(q.1,q.2,p.2.2))
def T_(l:DM UX):DQ UX:=(bN l).bind λ g=>og (decide (g.is_async=0)) (DK g)
noncomputable abbrev HQ(b:DU):DU×DU:=(b,b)
noncomputable def TT(a b:DU×DU):DU×DU:=(a.1&&b.1,a.2&&b.2)
def Da(t:T)(x:Expr):DM (EA×DL):=(QC t x).getD []
def l9(L:Mx)(sc:QM)(t:T)(x iter:Expr)(it:It):DU:=UG iter&&(QC t x).isSome&&RK t x&&XB L sc (Da t x)&&(UK it||dK x)
section
variable (gn:DL->Tx)(bt:DM (Tx×DS))
def Ef(p:DU)(T:HB)(L:Mx)(id:EA):DU:=EN p (D! T (WW bt id)) (uo T (WW bt id))&&Je L id
mutual
noncomputable def mX:E->Mx->Expr->DU×DU
 |.bL,_,_=>(DN,DN)|.loc i,L,x=>HQ (oe (PO x) DT λ id=>Om L id i)|.bJ g,L,x=>HQ (oe (PO x) DT λ id=>LD id (gn g)&&Je L id)|.k v,_,x=>HQ (oe (Im x) (oe (O_ x) DT λ i=>oe (HX v) DT λ j=>j== -i) λ c=>mK v c)|.aR H,L,x=>HQ (oe (Dd x) DT λ xs=>(OM H L xs).1)|.aX H,L,x=>HQ (oe (wd x) DT λ xs=>(OM H L xs).1)|.fE,_,x=>HQ (oe (W8 x) DT λ p=>FV p.1&&FV p.2)|.kA a b,L,x=>HQ (oe (W8 x) DT λ p=>oe (bN p.1) DT λ y=>oe y DT λ y=>oe (bN p.2) DT λ z=>(mX a L y).1&&(mX b L z).1)|.aU e a,L,x=>HQ (oe (Ed x) DT λ p=>(mX e L p.1).1&&LD p.2.1 (EU a)&&Jt p.1)|.sub a b,L,x=>HQ (oe (Qk x) DT λ p=>(mX a L p.1).1&&(mX b L p.2.1).1&&Js p.2.1)|.jI e k,L,x=>HQ (oe (Qk x) DT λ p=>oe (i3 p.2.1) DT λ q=> !q.1.isSome&& !q.2.2.isSome&&oe q.2.1 DT λ z=>(mX e L p.1).1&&Xx k z)|.jB e,L,x=>HQ (oe (Qk x) DT λ p=>oe (i3 p.2.1) DT λ q=> !q.1.isSome&& !q.2.1.isSome&&oe q.2.2 DT λ z=>(mX e L p.1).1&&Xx (-1) z)|.bV o a b,L,x=>HQ (oe (jq x) DT λ p=>decide (p.2.1=Vh o)&&(mX a L p.1).1&&(mX b L p.2.2).1)|.aW o a b,L,x=>HQ (oe (ly x) DT λ p=>oe (bN p.2.1) DT λ op=>oe (bN p.2.2) DT λ z=>decide (op=Il o)&&(mX a L p.1).1&&(mX b L z).1&& !(ji op z))|.or a b,L,x=>oe (Jx .Or x) (HQ DT) λ p=>TT (mX a L p.1) (mX b L (Fr .Or p.2.1 p.2.2))
 |.and a b,L,x=>oe (Jx .And x) (HQ DT) λ p=>TT (mX a L p.1) (mX b L (Fr .And p.2.1 p.2.2))
 |.not a,L,x=>(DN,oe (r9 x) DT λ p=>decide (p.1=.Not)&&(mX a L p.2).2)|.cH c a b,L,x=>oe (Oe x) (HQ DT) λ p=>TT (HQ (mX c L p.1).2) (TT (mX a L p.2.1) (mX b L p.2.2))
 |.call f H,L,x=>HQ (oe (Ni x) DT λ p=>FV p.2.2.1&&(mX f L p.1).1&&(OM H L p.2.1).1&&IB p.2.1&&JR 23 p.1)|.bi b H,L,x=>HQ (oe (Bd x) DT λ p=>Ef bt (jp b).1 (jp b).2 L p.1&&EN (atP b)
   (oe (bN p.2) DT λ y=>oe (Bd y) DT λ q=>Ef bt DN "zip" L q.1&&(OM H L q.2).1&&IB q.2) ((OM H L p.2).1&&IB p.2))
 |.bK e a H,L,x=>HQ (oe (Ni x) DT λ p=>oe (Ed p.1) DT λ q=>FV p.2.2.1&&(mX e L q.1).1&&(OM H L p.2.1).1&&IB p.2.1&&HC p.2.1.length 30&&LD q.2.1 (EU a)&&Jt q.1&&(q.2.2.endLine==p.2.2.2.line))|.comp fF t it ifs,L,x=>HQ (oe (vy x) DT λ p=>oe (T_ p.2.1) DT λ g=>l9 L p.2.2 t g.target g.iter it&&Xy it L g.iter&&(OM ifs (II L p.2.2.names (Da t g.target)) g.ifs).2&&(mX fF (II L p.2.2.names (Da t g.target)) p.1).1)|.iG a b t it,L,x=>HQ (oe (nk x) DT λ p=>oe (T_ p.2.2.1) DT λ g=>FV g.ifs&&l9 L p.2.2.2 t g.target g.iter it&&Xy it L g.iter&&(mX a (II L p.2.2.2.names (Da t g.target)) p.1).1&&(mX b (II L p.2.2.2.names (Da t g.target)) p.2.1).1)
noncomputable def OM:Es->Mx->DM Expr->DU×DU
 |.nil,_,xs=>HQ (FV xs)|.cons e H,L,xs=>oe xs.head? (HQ DT) λ x=>TT ((mX e L x).1&&UH x,(mX e L x).2) (OM H L xs.tail)
noncomputable def Xy:It->Mx->Expr->DU
 |.seq e,L,x=>(mX e L x).1|.range H,L,x=>oe (Bd x) DT λ p=>Ef bt DN "range" L p.1&&(OM H L p.2).1&&IB p.2
 |.zip H,L,x=>oe (Bd x) DT λ p=>Ef bt DN "zip" L p.1&&(OM H L p.2).1&&IB p.2
 |.dT H,L,x=>oe (Bd x) DT λ p=>Ef bt DN "enumerate" L p.1&&(OM H L p.2).1&&IB p.2
 |.gO H,L,x=>oe (Bd x) DT λ p=>Ef bt DN "reversed" L p.1&&(OM H L p.2).1&&IB p.2
end
end
section
variable (gn:DL->Tx)(bt:DM (Tx×DS))
mutual
noncomputable def mT:T->Mx->Expr->DU
 |.loc i,L,x=>oe (PO x) DT λ id=>Om L id i
 |.aR ts,L,x=>oe (Dd x) DT λ xs=>K! ts L xs&&EG (LL ts) xs.length&&IB xs
 |.aU e a,L,x=>oe (Ed x) DT λ p=>(mX gn bt e L p.1).1&&LD p.2.1 (EU a)
 |.sub a b,L,x=>oe (Qk x) DT λ p=>(mX gn bt a L p.1).1&&(mX gn bt b L p.2.1).1
noncomputable def K! :Ts->Mx->DM Expr->DU
 |.nil,_,xs=>FV xs|.cons t ts,L,xs=>oe xs.head? DT λ x=>mT t L x&&K! ts L xs.tail
end
end
noncomputable def uv(s:S):DU:=match s with|.bL=>DN|_=>DT
noncomputable def Z!(x:EY):DQ (DQ Expr):=if h:x.ctorIdx=3 then DK (dz (motive_2:=λ J=>DQ Expr) x h λ a0 J=>a0)else DP
noncomputable def Wn(x:EY):DQ (Expr):=if h:x.ctorIdx=24 then DK (dv (motive_2:=λ J=>Expr) x h λ a0 J=>a0)else DP
noncomputable def ab2(x:EY):DQ (Expr×(DM EY)×(DM EY)):=if h:x.ctorIdx=12 then DK (dx (motive_2:=λ J=>Expr×(DM EY)×(DM EY)) x h λ a0 a1 a2 J=>(a0,a1,a2))else DP
noncomputable def acS(x:EY):DQ (Expr×(DM EY)×(DM EY)):=if h:x.ctorIdx=11 then DK (eg (motive_2:=λ J=>Expr×(DM EY)×(DM EY)) x h λ a0 a1 a2 J=>(a0,a1,a2))else DP
noncomputable def rc(x:EY):DQ (Expr×Expr×(DM EY)×(DM EY)):=if h:x.ctorIdx=9 then DK (dw (motive_2:=λ J=>Expr×Expr×(DM EY)×(DM EY)) x h λ a0 a1 a2 a3 J=>(a0,a1,a2,a3))else DP
noncomputable def T7(x:EY):DQ ((DM Expr)×Expr):=if h:x.ctorIdx=5 then DK (du (motive_2:=λ J=>(DM Expr)×Expr) x h λ a0 a1 J=>(a0,a1))else DP
noncomputable def zz(x:EY):DQ ((DQ Expr)×(DQ Expr)):=if h:x.ctorIdx=16 then DK (dy (motive_2:=λ J=>(DQ Expr)×(DQ Expr)) x h λ a0 a1 J=>(a0,a1))else DP
noncomputable def ac0(x:EY):DQ ((DM EY)×(DM Gy)×(DM EY)×(DM EY)):=if h:x.ctorIdx=17 then DK (ee (motive_2:=λ J=>(DM EY)×(DM Gy)×(DM EY)×(DM EY)) x h λ a0 a1 a2 a3 J=>(a0,a1,a2,a3))else DP
noncomputable def YY(x:Gy):DQ Expr×DQ EA×DM EY:=ai2 (motive_4:=λ J=>DQ Expr×DQ EA×DM EY) x λ t n b J=>(t,n,b)
noncomputable def Qa{β:Type}(p:DL->DQ β)(q:aA->DL->DQ β)(r:Es->DQ β)(u:aA->T->It->Es->DQ β)(v:aA->aA->T->It->DQ β)(e:aA):DQ β:=match e with|.loc a=>p a|.aU a b=>q a b|.aR a=>r a|.comp a b c d=>u a b c d|.iG a b c d=>v a b c d|_=>DP
def Vu:aA->DQ (aA×T×It×Es):=Qa (λ J=>DP) (λ J J=>DP) (λ J=>DP) (λ a b c d=>DK (a,b,c,d)) λ J J J J=>DP
def Vz:aA->DQ (aA×aA×T×It):=Qa (λ J=>DP) (λ J J=>DP) (λ J=>DP) (λ J J J J=>DP) λ a b c d=>DK (a,b,c,d)
def B0:aA->DQ Es:=Qa (λ J=>DP) (λ J J=>DP) DK (λ J J J J=>DP) λ J J J J=>DP
noncomputable def Yt(l:Ss):DQ S:=match l with|.cons s r=>(match r with|.nil=>DK s|.cons _ _=>DP)|.nil=>DP
noncomputable def Z7(s:S):DQ aA:=match s with|.ex e=>DK e|_=>DP
noncomputable def Z?(s:S):DQ aA:=match s with|.ret e=>DK e|_=>DP
def U2:aA->DQ (aA×DL):=Qa (λ J=>DP) (λ a b=>DK (a,b)) (λ J=>DP) (λ J J J J=>DP) λ J J J J=>DP
def I! :aA->DQ DL:=Qa DK (λ J J=>DP) (λ J=>DP) (λ J J J J=>DP) λ J J J J=>DP
noncomputable def xl(x:Expr):DQ (EA×FS):=if h:x.ctorIdx=23 then DK (Al (motive_1:=λ J=>EA×FS) x h λ id p=>(id,p))else DP
def io(t:T)(e:aA)(L:Mx)(tx x:Expr):DU:=oe (xl tx) DT λ p=> !SO L x p.1 p.2||(Vu e).isSome||(Vz e).isSome
section
variable (gn:DL->Tx)(bt:DM (Tx×DS))(xn:Tx)
def iq(t:T)(e:aA)(L:Mx)(tx x:Expr):DU:=oe (Dd tx) DT λ xs=>oe (Qn L.sc xs x) DT λ r=>oe r (mT gn bt t L tx) λ names=>oe (Qp t) DT λ ts=>(B0 e).isSome&&EG (LL ts) names.length&&oe (Xu ts) DT λ is=>Mr L names is&&Ym is
def avW(b:Ss)(i:DL)(h:Ss)(L:Mx)(s:EY):DU:=oe (ac0 s) DT λ p=>FV p.2.2.1&&FV p.2.2.2&&oe (bN p.1) DT λ bs=>oe (Wn bs) DT λ ex=>oe (bN p.2.1) DT λ hd=>oe (YY hd).1 DT λ tx=>oe (PO tx) DT λ fK=>oe (YY hd).2.1 DT λ gL=>oe (bN (YY hd).2.2) DT λ rs=>oe (Z! rs) DT λ rv=>oe rv DT λ ra=>
 oe (Ed ra) DT λ q=>oe (PO q.1) DT λ vM=>oe (Yt b) DT λ s1=>oe (Z7 s1) DT λ e=>oe (Yt h) DT λ s2=>oe (Z? s2) DT λ e2=>oe (U2 e2) DT λ aa=>oe (I! aa.1) DT λ j=>
 (mX gn bt e L ex).1&&Pf ex&&LD fK xn&&Je L fK&&EG i j&&Om L gL i&&QW L.sc gL .local&&vM==gL&&LD q.2.1 (EU aa.2)
mutual
noncomputable def mS:S->Mx->EY->DU
 |.bL,_,_=>DN|.ret e,L,s=>oe (Z! s) DT λ v=>oe v DT λ x=>(mX gn bt e L x).1
 |.ex e,L,s=>oe (Wn s) DT λ x=>(mX gn bt e L x).1&&Pf x
 |.bH c a b,L,s=>oe (ab2 s) DT λ p=>(mX gn bt c L p.1).2&&Ce a L p.2.1&&Ce b L p.2.2
 |.jJ c a,L,s=>oe (acS s) DT λ p=>FV p.2.2&&(mX gn bt c L p.1).2&&Ce a L p.2.1
 |.for t it b,L,s=>oe (rc s) DT λ p=>FV p.2.2.2&&Xy gn bt it L p.2.1&&mT gn bt t L p.1&&Ce b L p.2.2.1&&UG p.2.1&&(UK it||dK p.1)
 |.aV t e,L,s=>oe (T7 s) DT λ p=>oe (bN p.1) DT λ tx=>(mX gn bt e L p.2).1&&((mT gn bt t L tx&&(JR 20 tx||JR 21 tx||io t e L tx p.2))||iq gn bt t e L tx p.2)
 |.raise H,L,s=>oe (zz s) DT λ p=> !p.2.isSome&&oe p.1 DT λ y=>oe (Bd y) DT λ q=>LD q.1 xn&&Je L q.1&&(OM gn bt H L q.2).1&&IB q.2
 |.try b i h,L,s=>avW gn bt xn b i h L s
noncomputable def Ce:Ss->Mx->DM EY->DU
 |.nil,_,xs=>FV xs|.cons s ss,L,xs=>uv s||oe xs.head? DT λ x=>mS s L x&&Ce ss L xs.tail
end
end
noncomputable def ul(x:DS):DQ DY:=if h:x.ctorIdx=4 then DK (ez (motive:=λ J=>DY) x h λ i J=>i)else DP
noncomputable def A0(x:DS):DQ EA:=if h:x.ctorIdx=6 then DK (fc (motive:=λ J=>EA) x h λ i J=>i)else DP
noncomputable def Y_(x:DS):DQ DZ:=if h:x.ctorIdx=10 then DK (fa (motive:=λ J=>DZ) x h λ i=>i)else DP
noncomputable def a7(x:YE):DQ (FM DS×DL):=if h:x.ctorIdx=2 then DK (co (motive:=λ J=>FM DS×DL) x h λ a n=>(a,n))else DP
noncomputable def sk(x:YE):DQ YG:=if h:x.ctorIdx=7 then DK (cn (motive:=λ J=>YG) x h λ f=>f)else DP
def ac4(K:EQ)(a:DZ):DQ (DM DS):=(K.lookup a).bind λ ob=>og (decide (ob.cls=.type "tuple")) (og (!ob.dict.isSome) (og (EG ob.slots.size 0) ((a7 ob.data).bind λ p=>og (EG p.2 0) (DK p.1.toList))))
mutual
noncomputable def C9(K:EQ):V->DS->DU
 |.none,x=>EG x.ctorIdx 0|.bool a,x=>decide (x=.bool a)|.int i,x=>oe (ul x) DT λ j=>i==j
 |.str t,x=>oe (A0 x) DT λ u=>LD u t
 |.fn a,x=>decide (x=.ref a)|.cls a,x=>decide (x=.ref a)|.aR B,x=>oe (Y_ x) DT λ a=>oe (ac4 K a) DT λ xs=>D1 K B xs
 |.aX _,_=>DT|.bZ _ _,_=>DT|.obj _ _ _,_=>DT|.ref _,_=>DT|.dW _ _,_=>DT|.bD _ _,_=>DT
noncomputable def D1(K:EQ):DM V->DM DS->DU
 |[],xs=>FV xs|v::B,xs=>oe xs.head? DT λ x=>C9 K v x&&D1 K B xs.tail
end
noncomputable def Wb:DM Tx->DU
 |[]=>DN|t::r=>r.all (λ u=> !(FT t u))&&Wb r
noncomputable def Hs(p:y6):DM Tx:=p.args.map (λ a=>a.arg.cps.toList)
def qE(K:EQ)(a:DZ):DQ (FM DS):=(K.lookup a).bind λ ob=>(a7 ob.data).map (·.1)
def W5(K:EQ)(fd:YG)(fZ:DM V):DU:=(FV fZ&&EG fd.defaults.ctorIdx 0)||oe (Y_ fd.defaults) DT λ T=>oe (qE K T) DT λ xs=>D1 K fZ xs.toList
noncomputable def Qm(x:FuncBody):DQ (DM EY):=if h:x.ctorIdx=0 then DK (dn (motive:=λ J=>DM EY) x h λ l=>l)else DP
def Er(K:EQ)(a:DL):DQ YG:=(K.lookup a).bind λ ob=>sk ob.data
def qx(K:EQ)(a:DL)(x:Fx)(fd:YG):DU:=fd.closure.isEmpty&&EG fd.globals KW&&EG fd.builtins QP&&V8 K fd.code fd.qualname&&W5 K fd x.fn.fZ&&XG K a
def Wq(gn:DL->Tx)(bt:DM (Tx×DS))(xn:Tx)(x:Fx)(p:y6)(sc:aiF)(body:DM EY):DU:=(sc.kind==.function)&& !sc.isCoroutine&& !sc.isGenerator&&
    (p.posonlyargs.isEmpty&&p.kwonlyargs.isEmpty&&p.vararg.isNone&&p.kwarg.isNone)&&FW x.fn.fZ.length x.fn.np&&
    (EG (Hs p).length x.fn.np&&Wb (Hs p)&&(Hs p).all (λ t=>QW sc.names (sx t) .local||QW sc.names (sx t) .cell))&&
    (x.nm.all (λ q=>HC q.2 x.fn.ns&&(FW x.fn.np q.2||oe ((Hs p)[q.2]?) DT λ t=>FT t q.1)))&&FW x.fn.np x.fn.ns&&x.cs.all (λ i=>FW x.fn.np i)&&
    Wb ((Ek 0 sc.names []).map (λ q=>q.1.cps.toList))&&KC ⟨sc.names,x.nm,x.cs⟩&&Ce gn bt xn x.fn.body ⟨sc.names,x.nm,x.cs⟩ body
def Ev(K:EQ)(gn:DL->Tx)(bt:DM (Tx×DS))(xn:Tx)(a:DL)(x:Fx):DU:=oe (Er K a) DT λ fd=>oe (Qm fd.body) DT λ body=>qx K a x fd&&Wq gn bt xn x fd.params fd.scope body
def Ic(K:EQ)(a:DL):DM EY:=((Er K a).bind λ fd=>Qm fd.body).getD []
def Fu(K:EQ)(a:DL):DM (EA×KR):=oe (Er K a) [] λ fd=>fd.scope.names
noncomputable def oi(x:YE):DQ (FM FL×DL):=if h:x.ctorIdx=3 then DK (cj (motive:=λ J=>FM FL×DL) x h λ a n=>(a,n))else DP
def vi(H:FM FL):DU:=H.toList.all λ e=>(A0 e.key).isSome
def R_(K:EQ)(a:DZ):DQ (FM FL×DL):=(K.lookup a).bind λ ob=>oi ob.data
def KJ(K:EQ)(a:DZ):FM FL:=oe (R_ K a) #[] (·.1)
def Fi(K:EQ)(a:DZ):DU:=oe (R_ K a) DT λ p=>vi p.1
def XJ(gT:Tr (V×Tx))(g:DL):Tx:=oe (gT.get g) [] (·.2)
def Nm(K:EQ)(C:DL):DU:=(Bf K C).any (·.hasDict)&&(GM K (.ref C) "__getattribute__" ==DK (DK (.builtin "object.__getattribute__"))||(GM K (.ref C) "__getattribute__" ==DK (DK (.builtin "BaseException.__getattribute__"))&&subIn K (.ref C) (.type "BaseException")==DK DN))&&
 GM K (.ref C) "__getattr__" ==DK DP&&GM K (.ref C) "__setattr__" ==DK (DK (.builtin "object.__setattr__"))&&Gd K C
def Nb(K:EQ)(C a:DL):DU:=decide (a<256^60)&&GM K (.ref C) (sx (EU a))==DK DP
noncomputable def uh(K:EQ)(C f:DL):DU:=Ji K (.ref C)&&makesIn K C&&GM K (.ref C) "__init__" ==DK (DK (.ref f))&&Gj K (.ref f)==DK (.type "function")
noncomputable def Vt(x:YE):DQ Gv:=if h:x.ctorIdx=8 then DK (cg (motive:=λ J=>Gv) x h λ c=>c)else DP
noncomputable def qu(x:YE):DQ (FM DS):=if h:x.ctorIdx=9 then DK (cm (motive:=λ J=>FM DS) x h λ c=>c)else DP
noncomputable def six(l:DM (DQ DS)):DU:=EG l.length 6&&decide (l[4]? =DK (DK (.builtin "Exception.__new__")))
def xcO(K:EQ)(C:DL):DU:=oe (K.lookup C) DT λ ob=>oe (Vt ob.data) DT λ cd=>decide (ob.cls=.type "type")&& !cd.hasDel&&six ob.slots.toList&&decide (cd.mro.head? =DK (.ref C))&&cd.mro.tail.contains (.type "Exception")&&cd.mro.tail.contains (.type "BaseException")&& !(cd.mro.tail.contains (.type "AttributeError"))&& !(cd.mro.tail.contains (.type "NameError"))
def xcB(K:EQ)(C f:DL):DU:=xcO K C&&
 Qj K (.ref C) "__call__" ==DK (DK (.builtin "type.__call__"))&&instIn K (.ref C) (.type "type")==DK DN&&GM K (.ref C) "__init__" ==DK (DK (.ref f))&&Gj K (.ref f)==DK (.type "function")&&
 GM K (.ref C) "__setattr__" ==DK (DK (.builtin "object.__setattr__"))&&Gd K C&&Ji K (.ref C)&&(Bf K C).any (·.hasDict)
def Mz(s:EY):DQ (EA×EA×EA):=(T7 s).bind λ p=>(bN p.1).bind λ t=>(Ed t).bind λ q=>(PO q.1).bind λ n=>(PO p.2).map λ v=>(n,q.2.1,v)
structure Lr where
 x:EA
 f:EA
 p:FS
 a:EA
 b:EA
 q:FS
def s_(s:EY):DQ Lr:=(Wn s).bind λ e=>(Ni e).bind λ c=>og (FV c.2.2.1) ((Ed c.1).bind λ q=>(PO q.1).bind λ x=>(eM c.2.1).bind λ a=>(PO a.1).bind λ n0=>(PO a.2).map λ n1=>⟨x,q.2.1,q.2.2,n0,n1,c.2.2.2⟩)
def fO(a b:EA):DU:=LD a b.cps.toList
def Xk(mi:Mx)(n:EA)(i:DL):DU:=Om mi n i&&QW mi.sc n .local
def v4(mi:Mx)(mg mb:EA->DQ DS)(i:Lr)(u v:EA×EA×EA):DU:=(fO i.f "__init__" &&(i.p.endLine==i.q.line)&&(Je mi i.x&&(mg i.x).isNone&&D! "Exception" (mb i.x)))&&(LD u.2.1 (EU 28542640894207341)&&LD v.2.1 (EU 1953460339)&&(fO u.1 i.a&&fO v.1 i.a&&fO u.2.2 i.b))&&(Xk mi i.a 0&&Xk mi i.b 1&&Xk mi v.2.2 2)
def xbB(mi:Mx)(mg mb:EA->DQ DS)(body:DM EY):DU:=oe body.head? DT λ s=>oe (eM body.tail) DT λ q=>oe (s_ s) DT λ i=>oe (Mz q.1) DT λ u=>oe (Mz q.2) DT λ v=>v4 mi mg mb i u v
def v5(K:EQ)(gn:DL->Tx)(bt:DM (Tx×DS))(xn:Tx)(mg mb:EA->DQ DS)(le:DL)(lx:Fx):DU:=xcB K 88 le&&Ev K gn bt xn le lx&&(EG lx.fn.np 3&&EG lx.fn.ns 3)&&xbB ⟨Fu K le,lx.nm,lx.cs⟩ mg mb (Ic K le)&&
 (GM K (.ref 88) (sx (EU 28542640894207341))==DK DP&&GM K (.ref 88) (sx (EU 1953460339))==DK DP&&mg (sx xn)==DK (.ref 88))
noncomputable def Tr.jH{α:Type}:Tr α->DM (DL×α)
 |.nI=>[]|.node l k v r=>(k,v)::(l.jH++r.jH)
noncomputable abbrev Pt:=y6×aiF×DM EY
def Ka(K:EQ)(a:DL):DQ Pt:=(Er K a).bind λ fd=>(Qm fd.body).map λ b=>(fd.params,fd.scope,b)
noncomputable def VX(H:FM FL)(n:EA):DQ DS:=aIG H n
def Pm(K:EQ)(C:DL)(n:EA):DQ (DQ DS):=(K.lookup C).bind λ o=>(Vt o.data).bind λ cd=>(R_ K cd.ns).bind λ p=>oe (VX p.1 n) (og (!(p.1.toList.any (·.refKey))) (DK DP)) λ v=>DK (DK v)
def z_(x:DQ (DQ DS)):DU:=oe x DT (!·.isSome)
def A!(f:DL)(x:DQ (DQ DS)):DU:=oe x DT λ y=>oe y DT λ v=>oe (Eb v) DT λ g=>EG g f
def Yj(K:EQ)(C:DL):DU:=oe (K.lookup C) DT λ o=>oe (Vt o.data) DT λ cd=>oe (eM cd.mro) DT λ p=>oe (Eb p.1) DT (EG C)&&oe (Ux p.2) DT λ T=>decide (T= "object")
def lu(K:EQ)(C:DL)(t:Tr DL):DU:=EN (EG C 88) (Nm K C&&t.all (λ a f=>EG f 0&&Nb K C a))
 (Nm K C&&GM K (.ref C) "__getattribute__" ==DK (DK (.builtin "object.__getattribute__"))&&Yj K C&&t.all (λ a f=>EN (EG f 0) (z_ (Pm K C (sx (EU a)))) (A! f (Pm K C (sx (EU a)))&&XG K f&&Gj K (.ref f)==DK (.type "function"))))
def lc(K:EQ)(cd:DS)(q:EA):DU:=oe (Eb cd) DT λ c=>oe (K.lookup c) DT λ o=>oe (qu o.data) DT λ B=>oe B.toList.tail.head? DT λ v=>oe (A0 v) DT λ n=>fO n q
def tn(K:EQ)(gT:Tr (V×Tx))(cT:Tr (Tr DL))(iT:Tr DL):DU:=
 Fi K V5&&(VX (KJ K V5) "sys.recursionlimit").isNone&&Fi K KW&&Fi K QP&&gT.all (λ J p=>oe (VX (KJ K KW) (sx p.2)) DT (C9 K p.1))&&
 cT.all (lu K)&&iT.all (uh K)
def kc(K:EQ)(bt:DM (Tx×DS)):DU:=bt.all (λ p=>(VX (KJ K KW) (sx p.1)).isNone&&VX (KJ K QP) (sx p.1)==DK p.2)
def Wr(K:EQ)(a:DL)(x:Fx)(fd:YG):DU:=fd.closure.isEmpty&&EG fd.globals KW&&EG fd.builtins QP&&lc K fd.code fd.qualname&&W5 K fd x.fn.fZ&&XG K a
def S0(K:EQ)(gT:Tr (V×Tx))(cT:Tr (Tr DL))(iT:Tr DL)(fT:Tr Fx)(le:DL)(lx:Fx)(bt:DM (Tx×DS))(xn:Tx):DU:=
 tn K gT cT iT&&kc K bt&&fT.jH.all (λ q=>oe (Er K q.1) DT (Wr K q.1 q.2))&&v5 K (XJ gT) bt xn (VX (KJ K KW)) (VX (KJ K QP)) le lx
noncomputable def H:DM E->Es
 |[]=>.nil|e::l=>.cons e (H l)
noncomputable def ts:DM T->Ts
 |[]=>.nil|e::l=>.cons e (ts l)
noncomputable def ss:DM S->Ss
 |[]=>.nil|e::l=>.cons e (ss l)
noncomputable abbrev kI(i:DY):E:=.k (.int i)
noncomputable abbrev lE(i:DL):E:=.loc i
noncomputable abbrev lT(i:DL):T:=.loc i
noncomputable abbrev kS(i:Tx):E:=.k (.str i)
noncomputable abbrev kN(i:DL):DL:=i
def bR:E:=kI 0
def FF:E:=kI 1
def GL:E:=kI 2
def HU:E:=kI 3
def YB:E:=kI 4
def Lg:E:=kI 5
def K6:E:=kI 6
def w9:E:=kI 7
def zI8:E:=kI 8
def aT:E:=lE 0
def bC:E:=lE 1
def bA:E:=lE 2
def bF:E:=lE 3
def bP:E:=lE 4
def bU:E:=lE 5
def cG:E:=lE 6
def cM:E:=lE 7
def eU:E:=lE 8
def fD:E:=lE 9
def jK:E:=lE 10
def iX:E:=lE 11
def nV:E:=lE 12
def sD:E:=lE 13
def CW:E:=lE 14
def ae6:E:=lE 15
def aHA:E:=lE 16
def aHB:E:=lE 17
def aHC:E:=lE 18
def ae7:E:=lE 19
def QI:T:=lT 1
def gW:T:=lT 2
def dP:T:=lT 3
def dA:T:=lT 4
def eE:T:=lT 5
def fL:T:=lT 6
def fC:T:=lT 7
def MP:T:=lT 8
def OE:T:=lT 9
def mO:T:=lT 10
def Gs:T:=lT 11
def sB:T:=lT 12
def ae3:T:=lT 13
def ae4:T:=lT 14
def ae5:T:=lT 15
def aH6:T:=lT 16
def aH7:T:=lT 17
def aH8:T:=lT 18
def aH9:T:=lT 19
def UU:E:=kS [114,101,102]
def Dj:E:=kS [98,111,120]
def WJ:E:=kS [97,114,114,97,121]
def jR:E:=kS [116,117,112,108,101]
def UV:E:=kS [97,100,116]
def L5:E:=kS [39,95]
def zK6:E:=kS [109,117,116]
def zK7:E:=kS [112,97,116,104]
def x8:E:=kS [110,101,118,101,114]
def zK9:E:=kS [105,110,102,101,114]
def Rg:E:=kS [83,101,108,102]
def nU:E:=kS [112,97,114,97,109]
def adT:E:=kS [105,110,116]
def uN:E:=kS [98,111,111,108]
def x6:E:=kS [66,111,120]
def lG:E:=kS [116,121,112,101]
def Dl:E:=kS [115,116,114,117,99,116]
def Lh:E:=kS [101,110,117,109]
def Li:E:=kS [116,114,97,105,116]
def kJ:E:=kS []
def adU:E:=kS [58,58]
def Lj:E:=kS [109,111,100]
def adV:E:=kS [117,115,101]
def xM:E:=kS [110,97,109,101,100]
def x7:E:=kS [118,97,108,117,101]
def K7:E:=kS [102,110]
def adW:E:=kS [99,111,110,115,116]
def aGH:E:=kS [118,97,114,105,97,110,116]
def aGI:E:=kS [99,114,97,116,101]
def aGJ:E:=kS [115,101,108,102]
def aGK:E:=kS [115,117,112,101,114]
def uO:E:=kS [118,97,114]
def adX:E:=kS [105,110,116,118,97,114]
def ZY:E:=kS [121,101,115]
def YC:E:=kS [109,97,121,98,101]
def QH:E:=kS [110,111]
def aGL:E:=kS [98,111,117,110,100]
def xN:E:=kS [39,115,116,97,116,105,99]
def adY:E:=kS [115,116,114,117,99,116,32]
def aGM:E:=kS [116,104,101,32,116,121,112,101,115,32,111,102,32]
def aGN:E:=kS [32,108,97,99,107,32,97,32,116,114,97,105,116,32,116,104,97,116,32,105,115,32,97,115,107,101,100,32,111,102,32,116,104,101,109]
def aGO:E:=kS [105,109,112,108,35]
def K8:E:=kS [88]
def qK:E:=kS [89]
def K9:E:=kS [84,114]
def adZ:E:=kS [79,116,104,101,114]
def xO:E:=kS [65,115,107]
def aGP:E:=kS [65]
def qL:E:=kS [78]
def CU:E:=kS [117,110,105,116]
def ae0:E:=kS [84]
def xP:E:=kS [71]
def aGQ:E:=kS [48]
def L6:E:=kS [105,109,112,108]
def L7:E:=kS [117,56]
def aGR:E:=kS [110,97,109,101]
def CV:E:=kS [97]
def aGS:E:=kS [98,108,111,99,107]
def aGT:E:=kS [102]
def aGU:E:=kS [75]
def aGW:E:=kS [120]
def aGX:E:=kS [82]
def ae1:E:=kS [109]
def aGY:E:=kS [88,89]
def zA2:DL:=kN 1953460339
def Gq:DL:=kN 110425311311973
def Rc:DL:=kN 474148661607
def OD:DL:=kN 110425311047777
def zA6:DL:=kN 1852994932
def UT:DL:=kN 32481138822115181
def ZX:DL:=kN 111516500389741
def Lf:DL:=kN 8314605277104989543
def QF:DL:=kN 1871225788402183726451
def aFA:DL:=kN 448612627046
def J6:DL:=kN 1752457584
def Le:DL:=kN 1684104562
def aFB:DL:=kN 31093567915781749
def aFC:DL:=kN 111516266162547
def aFD:DL:=kN 431198396782
def J7:DL:=kN 1701994850
def adE:DL:=kN 1684957542
def ZW:DL:=kN 495606196587
def adG:DL:=kN 495622906222
def adH:DL:=kN 108256535999337
def adI:DL:=kN 495623108980
def adJ:DL:=kN 126879598928246
def Gp:DL:=kN 1936028533
def v6:DL:=kN 435459027059
def J8:DL:=kN 32478926762833264
def Di:DL:=kN 126879447277940
def Rb:DL:=kN 495756604521
def v8:DL:=kN 1953523051
def J9:DL:=kN 7368560
def aFE:DL:=kN 491328400997
def aFF:DL:=kN 1871440812276234612325
def v9:DL:=kN 28554735403623780
def w0:DL:=kN 31393959236793456355155600740
def aFG:DL:=kN 2341701732386440044922704168775269
def aFH:DL:=kN 7954882383128261481
def aFI:DL:=kN 1802264951
def aFJ:DL:=kN 474214786402
def aFK:DL:=kN 1885697139
def w2:DL:=kN 1802465132
def Rd:DL:=kN 7628135
def adK:DL:=kN 28540518844490083
def aFL:DL:=kN 131320444120934
def aFM:DL:=kN 133507783090625746317173101
def RL:DL:=kN 126913623515504
def adM:DL:=kN 544980402143347936948852
def QG:DL:=kN 431316168567
def adN:DL:=kN 126875187113826
def K2:DL:=kN 474450194027
def K3:DL:=kN 495740546409
def adO:DL:=kN 499984200308
def aFN:DL:=kN 7381223263493776750
def w3:DL:=kN 431198270305
def adP:DL:=kN 125779768604014
def aFO:DL:=kN 1889593154359493095009
def aFP:DL:=kN 7381223199238090594
def aFQ:DL:=kN 544943652775838824161635
def SR:DL:=kN 32491047110534514
def w4:DL:=kN 8319395776320135542
def aFS:DL:=kN 30809889469068137
def aFT:DL:=kN 7239535
def aFU:DL:=kN 126944023703145
def aFV:DL:=kN 128047746676079
def aFW:DL:=kN 1852630415645166298483
def aFX:DL:=kN 8747238844559221096
def adQ:DL:=kN 32480051978331501
def aFY:DL:=kN 8319393663061222756
def adR:DL:=kN 1937007713
def K4:DL:=kN 1936157043
def w5:DL:=kN 126943821394548
def aFZ:DL:=kN 126943990017891
def adS:DL:=kN 126879397080930
def aG0:DL:=kN 500069396323
def w6:DL:=kN 1702125932
def w7:DL:=kN 1684371311
def aG1:DL:=kN 1871225788402166882676
def aG2:DL:=kN 549738441943340443984244
def w8:DL:=kN 31074807347634548
def aG3:DL:=kN 549923845269683404759412
def aG4:DL:=kN 2000349607123785310580
def aG5:DL:=kN 35713422874524077526389975139
def aG6:DL:=kN 599130449782741071223488706387470435
def aG7:DL:=kN 474108375640736948119651
def aG8:DL:=kN 121399003081079
def K5:DL:=kN 110386806616175
def aG9:DL:=kN 126875152509286
def Re:DL:=kN 1871225788402150174580
def aGA:DL:=kN 549960882598141009618291
def aGB:DL:=kN 110386891156579
def aGC:DL:=kN 8591436143163179713962992300660
def aGD:DL:=kN 35723009223291556975771740259
def aGE:DL:=kN 7239026
def aGF:DL:=kN 517097156201
def tA:Ss:=(ss [.aV (.aU aT ZW) (.kA kJ Lj),.aV (.aU aT J8) (.kA kJ (.k (.bool DN))),.aV (.aU aT Di) (.kA kJ (.call (.bJ 12) .nil)),.aV (.aU aT Lf) .fE,.aV (.aU aT Rb) .fE,.aV (.aU aT v8) .fE,.aV gW (.aX (H [.aR (H [kJ,.bi .list (H [bC])])])),.jJ (.aW .ne bA (.aX .nil)) (ss [.aV (.aR (ts [dP,dA])) (.bK bA J9 .nil),.for eE (.seq bP) (ss [.bH (.aW .eq (.sub bU bR) Lj) (ss [.ex (.bK bA OD (H [.aR (H [.call (.bJ 13) (H [bF,.sub bU GL]),.bi .list (H [.sub bU HU])])]))]) .nil,.ex (.bK aT aFE (H [bF,bU]))])])])
def iR:Ss:=(ss [.aV QI (.comp (.aR (H [kJ,bP])) dA (.gO (H [.aU aT Rb])) .nil),.jJ (.aW .ne bC (.aX .nil)) (ss [.aV (.aR (ts [gW,dP])) (.bK bC J9 .nil),.bH (.aW .eq (.sub bF bR) Lj) (ss [.ex (.bK bC Gq (H [.comp (.aR (H [.call (.bJ 13) (H [bA,.sub bF GL]),bU])) eE (.gO (H [.sub bF HU])) .nil]))]) (ss [.bH (.aW .isIn (.sub bF bR) (.aR (H [Dl,Lh]))) (ss [.ex (.bK aT aG1 (H [bA,bF]))]) (ss [.bH (.aW .eq (.sub bF bR) Li) (ss [.ex (.bK aT aG2 (H [bA,bF]))]) (ss [.bH (.aW .ne (.sub bF bR) adV) (ss [.ex (.bK (.aU aT w6) OD (H [.aR (H [bA,bF])]))]) .nil])])])]),.for (.aR (ts [gW,dP])) (.seq (.aU aT w6)) (ss [.bH (.aW .eq (.sub bF bR) K7) (ss [.ex (.bK aT w8 (H [.call (.bJ 13) (H [bA,.sub bF GL]),bF,.call (.bJ 32) (H [bA,.aR .nil,.aX .nil,.k .none]),.k (.bool DN)]))]) (ss [.bH (.aW .eq (.sub bF bR) adW) (ss [.ex (.bK aT aG3 (H [bA,bF]))]) (ss [.ex (.bK aT aG4 (H [bA,bF]))])])]),.ex (.bK (.aU aT UT) aG5 .nil),.ex (.bK (.aU aT UT) aG6 .nil),.ex (.bK aT aG7 .nil),.ret (.aU aT QG)])
def qW:Ss:=(ss [.for (.aR (ts [QI,gW,dP])) (.seq (.aU aT w7)) (ss [.for dA (.seq (.call (.bJ 35) (H [bC]))) (ss [.aV eE (.bK (.aU (.aU aT QG) K4) Rd (H [.bV .add adY (.sub bP FF)])),.aV fL (.cH (.aW .is bU (.k .none)) (.aX .nil) (.aU bU RL)),.aV fC (.iG (.sub eU bR) fD (.aR (ts [MP,OE])) (.zip (H [cG,.sub bP HU]))),.bH (.aW .ne (.call (.bJ 36) (H [.aU aT QG,cG,cM,.bi .dict (H [.aU bA RL])])) (.aX .nil)) (ss [.raise (H [.bV .add (.bV .add aGM (.sub bP FF)) aGN,bF])]) .nil])])])
def vC:Ss:=(ss [.bH (.not (.call (.bJ 61) (H [.aX .nil,.aX (H [.aR (H [bR,.aX (H [.k (.bool DN),.k (.bool DT)]),.aX .nil,qK])]),.k (.bool DN)]))) (ss [.ret (.k (.bool DT))]) .nil,.aV QI (.call (.bJ 62) (H [aT])),.aV gW (.comp bP dA (.seq (.aX (H [qL,L7]))) (H [.aW .eq (.call (.bJ 48) (H [bC,GL])) bR])),.aV dP (.comp (.call (.bJ 63) (H [bC])) eE (.range (H [GL])) .nil),.ret (.call (.bJ 61) (H [bA,bF,.aW .eq (.call (.bJ 48) (H [bC,GL])) bR]))])
noncomputable abbrev zL{α:Type}:Tr α:=.nI
noncomputable abbrev zN{α:Type}:= @Tr.node α
def gv(v:V)(n:DL):V×Tx:=(v,Lb 60 n)
def Bq:Tr (V×Tx):=(zN (zN (zN (zN (zN (zN zL 1 (gv (.fn 110) 483735847807366285714802) zL) 2 (gv (.fn 115) 2036277186502395103287738221684082) (zN zL 3 (gv (.cls 139) 491327938894) zL)) 4 (gv (.fn 156) 133507967195822392278281839) (zN (zN zL 5 (gv ((.str [39,115,116,97,116,105,99])) 73982225241171) zL) 6 (gv (.fn 170) 121404653515747476889888114) (zN zL 7 (gv ((.int 10000)) 6602028852991543001156397780813) zL))) 8 (gv ((.aR [(.str [105,56]),(.str [105,49,54]),(.str [105,51,50]),(.str [105,54,52]),(.str [117,56]),(.str [117,49,54]),(.str [117,51,50]),(.str [117,54,52]),(.str [117,115,105,122,101])])) 1536001710148726050377) (zN (zN (zN zL 9 (gv (.cls 223) 125779801367890) zL) 10 (gv (.fn 240) 28266723620647785) (zN zL 11 (gv (.fn 245) 7381223267872371316) zL)) 12 (gv (.cls 325) 435610083668) (zN (zN zL 13 (gv (.fn 261) 110386806878058) zL) 14 (gv ((.aR [(.str [105,56]),(.str [105,49,54]),(.str [105,51,50]),(.str [105,54,52]),(.str [117,56]),(.str [117,49,54]),(.str [117,51,50]),(.str [117,54,52]),(.str [117,115,105,122,101]),(.str [98,111,111,108]),(.str [66,111,120])])) 100668111420429353145683024) (zN zL 15 (gv ((.aR [(.str [99,114,97,116,101]),(.str [115,101,108,102]),(.str [115,117,112,101,114])])) 1398358359) zL)))) 16 (gv (.cls 292) 6648661) (zN (zN (zN (zN zL 17 (gv (.fn 275) 2036737296875934151529) zL) 18 (gv (.fn 268) 1889593156596868997488) (zN zL 19 (gv ((.aR [(.str [67,108,111,110,101]),(.str [67,111,112,121]),(.str [68,101,102,97,117,108,116]),(.str [68,114,111,112]),(.str [69,114,114]),(.str [78,111,110,101]),(.str [79,107]),(.str [79,112,116,105,111,110]),(.str [82,97,110,103,101,56]),(.str [82,101,115,117,108,116]),(.str [83,111,109,101]),(.str [86,101,99,56]),(.str [115,119,97,112,112,101,100])])) 6597385350049255549069032772176) zL)) 20 (gv ((.int 30)) 1536075188397501796173) (zN (zN zL 21 (gv (.fn 21) 465674794847) zL) 22 (gv (.fn 467) 545182667828413820134760) (zN zL 23 (gv (.fn 474) 7305506430469369699) zL))) 24 (gv (.fn 481) 479033801830967473889645) (zN (zN (zN zL 25 (gv (.fn 488) 2000057988091418534253) zL) 26 (gv (.fn 500) 7381223263511077230) (zN zL 27 (gv (.fn 507) 33560297434234818975619113325) zL)) 28 (gv ((.int 60)) 1480730996835001519949) (zN (zN zL 29 (gv ((.str [67,111,112,121])) 1498435395) zL) 30 (gv (.fn 514) 630548374838799545206481129507353449) (zN zL 31 (gv (.cls 562) 2037169923889067484499) zL))))) 32 (gv (.cls 720) 435678045011) (zN (zN (zN (zN (zN zL 33 (gv (.cls 456) 32481138822115149) zL) 34 (gv (.cls 687) 431316168535) (zN zL 35 (gv (.fn 843) 133479615488061220555351137) zL)) 36 (gv (.fn 573) 35712190338024400545261645429) (zN (zN zL 37 (gv (.fn 235) 28832903138933108) zL) 38 (gv (.fn 250) 1889593155454558891874) (zN zL 39 (gv (.cls 594) 7627841) zL))) 40 (gv (.cls 615) 6777171) (zN (zN (zN zL 41 (gv (.fn 163) 9145416728742529355620513310819) zL) 42 (gv ((.aR [(.str [116,117,112,108,101]),(.aR [])])) 1414090325) (zN zL 43 (gv (.fn 149) 110386639105125) zL)) 44 (gv (.cls 636) 8606188072865985108) (zN (zN zL 45 (gv (.cls 658) 33617922025876809) zL) 46 (gv (.fn 836) 34170781564943672461918822766) (zN zL 47 (gv (.fn 495) 7381223263763063152) zL)))) 48 (gv (.fn 857) 1870858745032837524575) (zN (zN (zN (zN zL 49 (gv (.fn 883) 1871363128399893720159) zL) 50 (gv (.fn 871) 1926847491202261019743) (zN zL 51 (gv (.fn 876) 9142005182544626597685413112927) zL)) 52 (gv (.fn 902) 31074807648971871) (zN (zN zL 53 (gv (.cls 825) 2110959977725659213635) zL) 54 (gv (.fn 864) 7308901701084343391) (zN zL 55 (gv (.fn 928) 544924633516017899891807) zL))) 56 (gv (.fn 909) 2018005687988215966815) (zN (zN (zN zL 57 (gv (.fn 895) 34166002530061627308759936095) zL) 58 (gv (.fn 888) 521663505133675827260511) (zN zL 59 (gv (.fn 916) 474274252229857635298399) zL)) 60 (gv (.fn 933) 7310859931293412447) (zN (zN zL 61 (gv (.fn 940) 549720425009357449686111) zL) 62 (gv (.fn 850) 2000278120176583535711) (zN zL 63 (gv (.fn 921) 521662497445562621717599) zL))))))
def VK:Tr (Tr DL):=(zN (zN (zN (zN zL 88 (zN (zN zL 1953460339 0 zL) 28542640894207341 0 zL) zL) 139 (zN (zN zL 1852994932 136 zL) 474148661607 0 zL) (zN zL 223 (zN (zN (zN (zN zL 1684104562 189 zL) 1701994850 215 zL) 1752457584 201 (zN (zN zL 431198396782 220 zL) 448612627046 0 zL)) 111516266162547 208 (zN (zN (zN zL 111516500389741 0 zL) 31093567915781749 196 zL) 32481138822115181 0 (zN (zN zL 8314605277104989543 0 zL) 1871225788402183726451 0 zL))) zL)) 292 (zN (zN zL 1953460339 0 zL) 495622906222 0 (zN zL 108256535999337 0 zL)) (zN (zN zL 325 (zN (zN (zN zL 1936028533 0 zL) 435459027059 317 zL) 495623108980 0 (zN (zN zL 126879598928246 0 zL) 7954882383128261481 322 zL)) zL) 456 (zN (zN (zN (zN (zN zL 1684957542 391 zL) 1802264951 398 zL) 1802465132 419 (zN (zN zL 1885697139 412 zL) 1953523051 0 zL)) 474214786402 405 (zN (zN (zN zL 491328400997 350 zL) 495606196587 0 zL) 495756604521 0 (zN (zN zL 126879447277940 0 zL) 131320444120934 426 zL))) 28540518844490083 383 (zN (zN (zN (zN zL 28554735403623780 357 zL) 32478926762833264 0 zL) 8314605277104989543 0 (zN (zN zL 1871440812276234612325 376 zL) 133507783090625746317173101 453 zL)) 145568835712381032271341926 434 (zN (zN (zN zL 31393959236793456355155600740 362 zL) 35713422874524077526389975139 441 zL) 2341701732386440044922704168775269 369 (zN zL 599130449782741071223488706387470435 448 zL)))) (zN zL 562 (zN (zN (zN (zN zL 431198270305 554 zL) 431316168567 0 zL) 474450194027 0 (zN zL 126875187113826 0 zL)) 7381223199238090594 535 (zN (zN zL 7381223263493776750 540 zL) 1889593154359493095009 559 (zN zL 544943652775838824161635 547 zL))) zL))) 594 (zN (zN (zN zL 1752457584 0 zL) 111516500389741 0 (zN zL 126913623515504 0 zL)) 30809889469068137 0 (zN (zN zL 32478926762833264 0 zL) 32491047110534514 0 (zN zL 8319395776320135542 0 zL))) (zN (zN (zN zL 615 (zN (zN (zN (zN zL 7239535 0 zL) 1752457584 0 zL) 126913623515504 0 (zN zL 126944023703145 0 zL)) 128047746676079 0 (zN (zN zL 32491047110534514 0 zL) 8747238844559221096 0 (zN zL 1852630415645166298483 0 zL))) zL) 636 (zN (zN (zN zL 1752457584 0 zL) 126913623515504 0 zL) 32480051978331501 0 (zN zL 8319393663061222756 0 zL)) (zN zL 658 (zN (zN (zN (zN zL 1953460339 0 zL) 499984200308 0 zL) 125779768604014 0 (zN zL 126913623515504 0 zL)) 32480051978331501 0 (zN (zN zL 32491047110534514 0 zL) 1871225788402183726451 0 (zN zL 544980402143347936948852 0 zL))) zL)) 687 (zN (zN (zN (zN zL 1936157043 0 zL) 1937007713 0 zL) 495740546409 0 (zN zL 126879397080930 0 zL)) 126943821394548 0 (zN (zN (zN zL 126943990017891 0 zL) 32481138822115181 0 zL) 8319395776320135542 0 (zN zL 8746478508900636551993930773353 684 zL))) (zN (zN zL 720 (zN (zN (zN zL 495622906222 710 zL) 111516500389741 0 (zN zL 121399003081079 717 zL)) 126913623515504 0 (zN (zN zL 32491047110534514 0 zL) 1871225788402183726451 0 zL)) zL) 825 (zN (zN (zN (zN (zN zL 7239026 743 zL) 1684371311 0 zL) 1702125932 0 (zN zL 431316168567 0 zL)) 495756604521 0 (zN (zN (zN zL 110386806616175 762 zL) 110386891156579 817 zL) 126875152509286 772 (zN zL 31074807347634548 777 zL))) 32481138822115181 0 (zN (zN (zN (zN zL 1871225788402150174580 755 zL) 1871225788402166882676 767 zL) 2000349607123785310580 803 (zN zL 474108375640736948119651 748 zL)) 549738441943340443984244 796 (zN (zN (zN zL 549923845269683404759412 791 zL) 549960882598141009618291 784 zL) 35723009223291556975771740259 810 (zN zL 8591436143163179713962992300660 822 zL)))) zL)))
def Bv:Tr DL:=(zN (zN (zN (zN zL 139 129 zL) 223 184 (zN zL 292 289 zL)) 325 310 (zN (zN zL 456 343 zL) 562 528 zL)) 594 591 (zN (zN (zN zL 615 612 zL) 636 633 (zN zL 658 655 zL)) 687 677 (zN (zN zL 720 705 zL) 825 738 zL)))
def vE:Fn:=⟨2,[],6,tA,.no⟩
def vF:Fn:=⟨1,[],6,iR,.no⟩
def vG:Fn:=⟨1,[],10,qW,.no⟩
def vH:Fn:=⟨1,[],3,(ss [.aV (.loc 1) (.cH (.aW .ne (.loc 0) (.aX .nil)) (.sub (.loc 0) (.k (.int 0))) (.k (.int 0))),.aV (.loc 2) (.bi .max (H [.loc 1,.bV .sub (.k (.int (-1))) (.loc 1)])),.ret (.aX (H [.cH (.aW .ge (.loc 2) (.bV .oU (.k (.int 10)) (.k (.int 18)))) (.loc 2) (.k (.int 0)),.bV .hM (.bV .jE (.bV .add (.bV .hM (.loc 2) (.k (.int 2147483629))) (.k (.int 17))) (.k (.int 48271))) (.k (.int 2147483647))]))]),.at []⟩
def vI:Fn:=⟨2,[],3,(ss [.bH (.aW .gt (.sub (.loc 0) (.k (.int 0))) (.k (.int 0))) (ss [.aV (.loc 2) (.bV .hM (.sub (.loc 0) (.k (.int 0))) (.loc 1)),.aV (.sub (.loc 0) (.k (.int 0))) (.bV .fdiv (.sub (.loc 0) (.k (.int 0))) (.loc 1)),.ret (.loc 2)]) .nil,.aV (.sub (.loc 0) (.k (.int 1))) (.bV .hM (.bV .add (.bV .jE (.sub (.loc 0) (.k (.int 1))) (.k (.int 39373))) (.k (.int 7))) (.k (.int 2147483647))),.ret (.bV .hM (.bV .fdiv (.bV .hM (.bV .jE (.sub (.loc 0) (.k (.int 1))) (.sub (.loc 0) (.k (.int 1)))) (.k (.int 2147483629))) (.k (.int 32))) (.loc 1))]),.no⟩
def vJ:Fn:=⟨1,[],2,(ss [.try (ss [.ex (.bK (.call (.bJ 53) (H [.bi .tuple (H [aT])])) aGE .nil)]) 1 (ss [.ret (.aU bC zA2)]),.ret (.k .none)]),.no⟩
def vK:Fn:=⟨1,[],6,vC,.no⟩
noncomputable def FA:DL->DM DL->DM (Tx×DL)
 |_,[]=>[]|i,n::l=>(Lb 60 n,i)::FA (GH i) l
def apT:Fx:=⟨⟨1,[],5,(ss [.aV QI (.sub aT bR),.bH (.aW .eq bC UU) (ss [.ret (.bV .add (.aX (H [.sub aT FF])) (.call (.bJ 1) (H [.sub aT HU])))]) .nil,.bH (.aW .isIn bC (.aR (H [Dj,WJ]))) (ss [.ret (.call (.bJ 1) (H [.sub aT FF]))]) .nil,.aV gW (.cH (.aW .eq bC jR) (.sub aT FF) (.cH (.aW .eq bC UV) (.sub aT HU) (.aR .nil))),.aV dP (.cH (.aW .eq bC UV) (.bi .list (H [.sub aT GL])) (.aX .nil)),.for dA (.seq bA) (ss [.ex (.bK bF Gq (H [.call (.bJ 1) (H [bP])]))]),.ret bF]),.no⟩,(FA 0 [1684828020,1684957547,491328007785,431349919590,6647407]),[]⟩
def apU:Fx:=⟨⟨2,[],8,(ss [.aV gW (.sub aT bR),.bH (.aW .eq bA UU) (ss [.aV dP (.call bC (H [.sub aT FF])),.ret (.aR (H [UU,bF,.sub aT GL,.call (.bJ 2) (H [.sub aT HU,bC])]))]) .nil,.bH (.aW .eq bA Dj) (ss [.ret (.aR (H [Dj,.call (.bJ 2) (H [.sub aT FF,bC])]))]) .nil,.bH (.aW .eq bA WJ) (ss [.ret (.aR (H [WJ,.call (.bJ 2) (H [.sub aT FF,bC]),.sub aT GL]))]) .nil,.bH (.aW .eq bA jR) (ss [.ret (.aR (H [jR,.bi .tuple (H [.comp (.call (.bJ 2) (H [bU,bC])) eE (.seq (.sub aT FF)) .nil])]))]) .nil,.bH (.aW .eq bA UV) (ss [.aV dA (.bi .tuple (H [.comp (.call bC (H [cG])) fL (.seq (.sub aT GL)) .nil])),.ret (.aR (H [UV,.sub aT FF,bP,.bi .tuple (H [.comp (.call (.bJ 2) (H [cM,bC])) fC (.seq (.sub aT HU)) .nil])]))]) .nil,.ret aT]),.no⟩,(FA 0 [1684828020,1852994932,1684957547,121424788809074,32491047110534514]),[5,6,7]⟩
def apV:Fx:=⟨⟨1,[],1,(ss [.aV (.aU aT Rc) (.aX .nil)]),.all⟩,(FA 0 [1718379891]),[]⟩
def apW:Fx:=⟨⟨2,[],2,(ss [.bH (.aW .iV bC (.k .none)) (ss [.ret bC]) .nil,.ex (.bK (.aU aT Rc) OD (H [.bV .add L5 (.bi .str (H [.bV .add (.bi .bQ (H [.aU aT Rc])) FF]))])),.ret (.sub (.aU aT Rc) (.k (.int (-1))))]),.no⟩,(FA 0 [1718379891,121424788809074]),[]⟩
def apX:Fx:=⟨⟨4,[(.int 0)],8,(ss [.aV dA (.call (.bJ 3) .nil),.aV eE (.bi .tuple (H [.comp (.call (.bJ 2) (H [cM,.aU bP zA6])) fC (.seq aT) .nil])),.bH (.aW .kY (.k .none) (.call (.bJ 1) (H [bC]))) (ss [.ret (.aR (H [bU,bC,.bi .tuple (H [.aU bP Rc])]))]) .nil,.bH (.aW .isIn bA (.aR (H [UU,zK6]))) (ss [.aV fL (.sub (.sub bU bR) FF)]) (ss [.aV fL (.call (.bJ 4) (H [bU,bF]))]),.bL]),.no⟩,(FA 0 [126944023703145,128047746676079,1852630415645166298483,1953460339,491327938926,1684828020,7239535]),[7]⟩
def apY:Fx:=⟨⟨3,[],4,(ss [.for dP (.seq (.call (.bJ 1) (H [aT]))) (ss [.bH (.aW .is bF (.k .none)) (ss [.bL]) .nil,.bH (.and (.aW .ne bF (.bJ 5)) (.aW .kY bF bC)) (ss [.bL]) .nil])]),.no⟩,(FA 0 [1684828020,474450194027,1953460339,121424788809074]),[]⟩
def apZ:Fx:=⟨⟨2,[],2,(ss [.bH (.or (.aW .is aT (.k .none)) (.aW .eq aT L5)) (ss [.ret (.k .none)]) .nil,.bH (.aW .eq (.jI aT (2)) L5) (ss [.bL]) .nil,.ret aT]),.no⟩,(FA 0 [121424788809074,1953460339]),[]⟩
def aq0:Fx:=⟨⟨6,[],6,(ss [.aV (.aU aT UT) bC,.aV (.aU aT ZX) bA,.aV (.aU aT Lf) bF,.aV (.aU aT QF) bP,.aV (.aU aT aFA) bU]),.no⟩,(FA 0 [1718379891,32481138822115181,111516500389741,8314605277104989543,1871225788402183726451,448612627046]),[]⟩
def aq1:Fx:=⟨⟨2,[],5,(ss [.aV (.aR (ts [gW,dP])) (.aR (H [.sub bC bR,.sub bC FF])),.bH (.aW .eq bA zK7) (ss [.ret (.bK aT J6 (H [bF,.sub bC GL]))]) .nil,.bH (.aW .eq bA UU) (ss [.ret (.aR (H [UU,.call (.bJ 6) (H [.sub bC GL,bF]),.sub bC HU,.bK aT Le (H [.sub bC YB])]))]) .nil,.bH (.aW .eq bA jR) (ss [.ret (.aR (H [jR,.bi .tuple (H [.comp (.bK aT Le (H [bP])) dA (.seq (.sub bC GL)) .nil])]))]) .nil,.bH (.aW .eq bA WJ) (ss [.bH (.aW .gt (.sub bC HU) (.bJ 7)) (ss [.bL]) .nil,.ret (.aR (H [WJ,.bK aT Le (H [.sub bC GL]),.sub bC HU]))]) .nil,.bH (.aW .eq bA x8) (ss [.ret (.aR (H [x8]))]) .nil,.ret (.bK aT aFB .nil)]),.no⟩,(FA 0 [1718379891,31073798281851511,1684957547,1953460339]),[4]⟩
def aq2:Fx:=⟨⟨3,[],7,(ss [.aV dP (.bi .tuple (H [.comp (.sub cG bR) fL (.seq bA) .nil])),.bH (.aW .eq (.bi .bQ (H [bA])) FF) (ss [.aV dA (.bK aT aFC (H [bC,.sub bA bR])),.bH (.aW .iV bP (.k .none)) (ss [.ret bP]) .nil]) .nil,.for eE (.seq (.jI bA (-1))) (ss [.bH (.or (.aW .ne (.sub bU FF) (.aR .nil)) (.aW .ne (.sub bU GL) (.aR .nil))) (ss [.bL]) .nil]),.ret (.bK aT aFD (H [bC,bF,.sub bA (.k (.int (-1)))]))]),.no⟩,(FA 0 [1718379891,1953460339,448629141619,495622906222,1684828020,7827314]),[6]⟩
def aq3:Fx:=⟨⟨3,[],6,(ss [.aV (.aR (ts [dP,dA,eE])) bA,.bH (.and (.aW .isIn bF (.aU aT Lf)) (.aW .ne bF Rg)) (ss [.ret (.bK aT J7 (H [bC,bA,.aR (H [nU,bF])]))]) .nil,.bH (.and (.aW .eq bF Rg) (.aW .iV (.aU aT QF) (.k .none))) (ss [.ret (.bK aT J7 (H [bC,bA,.aU aT QF]))]) .nil,.bH (.aW .isIn bF (.bJ 8)) (ss [.ret (.bK aT J7 (H [bC,bA,.aR (H [adT,bF])]))]) .nil,.bH (.aW .eq bF uN) (ss [.ret (.bK aT J7 (H [bC,bA,.aR (H [uN])]))]) .nil,.bH (.aW .ne bF x6) (ss [.ret (.k .none)]) .nil,.bH (.or (.aW .ne bP (.aR .nil)) (.aW .ne (.bi .bQ (H [bU])) FF)) (ss [.bL]) .nil,.ret (.aR (H [Dj,.bK aT Le (H [.sub bU bR])]))]),.no⟩,(FA 0 [1718379891,1953460339,7827314,1701667182,32491047110534514,495623108980]),[]⟩
def aq4:Fx:=⟨⟨4,[],4,(ss [.bH (.or (.aW .ne (.sub bA FF) (.aR .nil)) (.aW .ne (.sub bA GL) (.aR .nil))) (ss [.bL]) .nil,.ret bF]),.no⟩,(FA 0 [1718379891,1953460339,7827314,1684828020]),[]⟩
def aq5:Fx:=⟨⟨4,[],10,(ss [.aV dA (.bK (.aU aT UT) adE (H [.aU aT ZX,bA,lG,bC])),.bH (.aW .kY (.sub (.aU (.aU aT UT) ZW) bP) (.aR (H [Dl,Lh]))) (ss [.bL]) .nil,.aV (.aR (ts [eE,fL])) (.sub (.aU (.aU aT UT) Lf) bP),.bH (.and (.aW .ne (.sub bF FF) (.aR .nil)) (.aW .ne (.bi .bQ (H [.sub bF FF])) (.bi .bQ (H [bU])))) (ss [.bL]) .nil,.bH (.aW .ne (.bi .bQ (H [.sub bF GL])) (.bi .bQ (H [cG]))) (ss [.bL]) .nil,.aV fC (.cH (.aW .ne (.sub bF FF) (.aR .nil)) (.bi .tuple (H [.comp (.call (.bJ 6) (H [eU,bC])) MP (.seq (.sub bF FF)) .nil])) (.bV .jE (.aR (H [.k .none])) (.bi .bQ (H [bU])))),.ret (.aR (H [UV,bP,cM,.bi .tuple (H [.comp (.bK aT Le (H [fD])) OE (.seq (.sub bF GL)) .nil])]))]),.no⟩,(FA 0 [1718379891,1953460339,495622906222,7827314,1752457584,32491047110534514,126913623515504,1684828020]),[8,9]⟩
def aq6:Fx:=⟨⟨6,[.none],6,(ss [.ret (.bK (.call (.bJ 9) (H [aT,bC,bA,bF,bU])) Le (H [bP]))]),.no⟩,(FA 0 [32481138822115181,111516500389741,8314605277104989543,1871225788402183726451,31073798281851511,448612627046]),[]⟩
def aq7:Fx:=⟨⟨1,[],4,(ss [.aV QI (.sub aT bR),.bH (.aW .eq bC UU) (ss [.ret (.call (.bJ 10) (H [.sub aT HU]))]) .nil,.bH (.aW .isIn bC (.aR (H [Dj,WJ]))) (ss [.ret (.call (.bJ 10) (H [.sub aT FF]))]) .nil,.aV gW (.cH (.aW .eq bC jR) (.sub aT FF) (.cH (.aW .eq bC UV) (.sub aT HU) (.aR .nil))),.ret (.and (.aW .ne bC zK9) (.bi .all (H [.comp (.call (.bJ 10) (H [bF])) dP (.seq bA) .nil])))]),.no⟩,(FA 0 [1684828020,1684957547,491328007785]),[3]⟩
def aq8:Fx:=⟨⟨4,[],7,(ss [.bH (.aW .ne (.comp bU eE (.seq (.jI bA (-1))) (H [.or (.aW .ne (.sub bU FF) (.aR .nil)) (.aW .ne (.sub bU GL) (.aR .nil))])) (.aX .nil)) (ss [.bL]) .nil,.bH (.aW .ne (.sub (.sub bA (.k (.int (-1)))) FF) (.aR .nil)) (ss [.bL]) .nil,.aV dA (.bK aT adE (H [bC,.bi .tuple (H [.comp (.sub cG bR) fL (.seq bA) .nil]),lG,bF])),.bH (.aW .ne (.sub (.aU aT ZW) bP) Li) (ss [.bL]) .nil,.ret bP]),.no⟩,(FA 0 [32481138822115181,111516500389741,448629141619,1953460339,1752457584]),[5,6]⟩
def aq9:Fx:=⟨⟨4,[],12,(ss [.aV dA (.aX .nil),.for eE (.seq (.sub bA bR)) (ss [.bH (.aW .eq (.jI bU (2)) L5) (ss [.bL]) .nil]),.for (.aR (ts [fL,fC])) (.seq (.sub bA FF)) (ss [.bH (.or (.aW .isIn cG (.comp (.sub iX bR) Gs (.seq bP) .nil)) (.or (.aW .isIn cG (.bJ 8)) (.aW .isIn cG (.aR (H [Rg,uN,x6]))))) (ss [.bL]) .nil,.aV MP (.aX .nil),.for OE (.seq cM) (ss [.bH (.or (.aW .ne (.sub (.sub fD (.k (.int (-1)))) FF) (.aR .nil)) (.aW .ne (.sub (.sub fD (.k (.int (-1)))) GL) (.aR .nil))) (ss [.bL]) .nil,.aV mO (.call (.bJ 11) (H [aT,bC,fD,bF])),.bH (.aW .ne (.sub (.sub (.aU aT Lf) jK) FF) (.aR .nil)) (ss [.bL]) .nil,.ex (.bK eU OD (H [jK]))]),.ex (.bK bP OD (H [.aR (H [cG,.bi .tuple (H [eU])])]))]),.ret bP]),.no⟩,(FA 0 [32481138822115181,111516500389741,8314605277104989543,1953460339,431349919590,121424788809074,1701667182,126875187113826,495673696624,448629141619,1752457584]),[11]⟩
def aqA:Fx:=⟨⟨2,[],2,(ss [.ret (.cH (.aW .eq aT kJ) bC (.bV .add (.bV .add aT adU) bC))]),.no⟩,(FA 0 [111516500389741,1701667182]),[]⟩
def aqB:Fx:=⟨⟨1,[],1,(ss [.aV (.aU aT adI) .fE,.aV (.aU aT adJ) .fE,.aV (.aU aT Gp) .fE]),.all⟩,(FA 0 [1718379891]),[]⟩
def aqC:Fx:=⟨⟨2,[],2,(ss [.ret (.cH (.aW .eq bC lG) (.aU aT adI) (.aU aT adJ))]),.no⟩,(FA 0 [1718379891,435459027059]),[]⟩
def aqD:Fx:=⟨⟨3,[],4,(ss [.ret (.or (.aW .isIn bC (.aU aT Gp)) (.aW .ne (.comp bF dP (.seq bA) (H [.aW .isIn bC (.bK aT v6 (H [bF]))])) (.aX .nil)))]),.no⟩,(FA 0 [1718379891,1701667182,126879296221299]),[3]⟩
def aqE:Fx:=⟨vE,(FA 0 [1718379891,495756604521,1952867692,111516500389741,491328007785,1835365481]),[]⟩
def aqF:Fx:=⟨⟨3,[],6,(ss [.aV (.aR (ts [dP,dA])) (.aR (H [.sub bA bR,.sub bA FF])),.bH (.aW .eq bF adV) (ss [.ex (.bK aT aFF (H [bC,bA]))]) (ss [.bH (.aW .eq bF Lj) (ss [.ex (.bK aT v9 (H [bC,.sub bA GL,bF,.aR (H [lG]),.sub bA YB,bP])),.aV (.sub (.aU aT Di) (.call (.bJ 13) (H [bC,.sub bA GL]))) (.call (.bJ 12) .nil)]) (ss [.bH (.aW .eq bF Dl) (ss [.aV eE (.cH (.aW .eq (.sub bA YB) xM) (.aR (H [lG])) (.aR (H [lG,x7]))),.ex (.bK aT w0 (H [bC,bA,bU,.sub bA K6]))]) (ss [.bH (.aW .eq bF Lh) (ss [.ex (.bK aT w0 (H [bC,bA,.aR (H [lG]),.sub bA Lg])),.ex (.bK aT aFG (H [.call (.bJ 13) (H [bC,.sub bA GL]),bA]))]) (ss [.bH (.aW .eq bF Li) (ss [.ex (.bK aT w0 (H [bC,bA,.aR (H [lG]),.sub bA Lg]))]) (ss [.bH (.aW .isIn bF (.aR (H [K7,adW]))) (ss [.ex (.bK aT v9 (H [bC,.sub bA GL,bF,.aR (H [x7]),.cH (.aW .eq bF K7) (.sub bA zI8) (.sub bA Lg),bP])),.aV (.sub (.aU aT Rb) (.call (.bJ 13) (H [bC,.sub bA GL]))) bA]) .nil])])])])])]),.no⟩,(FA 0 [1718379891,111516500389741,1835365481,1684957547,1953460339,126879296221299]),[]⟩
def aqG:Fx:=⟨⟨7,[],10,(ss [.aV (.aR (ts [fC,MP])) (.aR (H [.sub (.aU aT Di) bC,.call (.bJ 13) (H [bC,bA])])),.bH (.and (.aW .isIn lG bP) (.aW .isIn bA (.bJ 14))) (ss [.bL]) .nil,.bH (.or (.bK cM aFH (H [bA,bP])) (.aW .isIn eU (.aU aT ZW))) (ss [.bL]) .nil,.for OE (.seq bP) (ss [.aV (.sub (.bK cM v6 (H [fD])) bA) eU]),.aV (.sub (.aU aT ZW) eU) bF,.aV (.sub (.aU aT J8) eU) bU]),.no⟩,(FA 0 [1718379891,111516500389741,1701667182,1684957547,126879296221299,108256535999337,1953460339,435610083700,1752457584,435459027059]),[]⟩
def aqH:Fx:=⟨⟨5,[],9,(ss [.ex (.bK aT v9 (H [bC,.sub bA GL,.sub bA bR,bF,bP,.sub bA FF])),.aV eE (.call (.bJ 13) (H [bC,.sub bA GL])),.aV (.aR (ts [fL,fC])) (.sub bA HU),.aV (.sub (.aU aT Lf) bU) (.aR (H [.bi .tuple (H [cG]),.bi .tuple (H [.comp (.sub eU bR) MP (.seq cM) .nil])])),.aV (.sub (.aU aT Rb) bU) bA]),.no⟩,(FA 0 [1718379891,111516500389741,1835365481,126879296221299,108256535999337,1752457584,32491047110534514,126913623515504]),[8]⟩
def aqI:Fx:=⟨⟨4,[],4,(ss [.ret (.or bF (.call (.bJ 17) (H [bC,bA])))]),.no⟩,(FA 0 [1718379891,491327812449,491328010095,108256535999337]),[]⟩
def aqJ:Fx:=⟨⟨5,[(.int 0)],5,(ss [.aV (.aU aT v8) .fE,.ret (.bK aT aFI (H [bC,.bi .tuple (H [bA]),bF,bP,.aX .nil]))]),.no⟩,(FA 0 [1718379891,111516500389741,495622906222,435459027059,1953460339]),[]⟩
def aqK:Fx:=⟨⟨6,[],10,(ss [.aV (.aR (ts [fL,fC])) (.bK aT aFJ (H [bC,bA,bP])),.jJ (.aW .lt cM (.bi .bQ (H [bA]))) (ss [.aV MP (.cH (.aW .eq (.bV .add cM FF) (.bi .bQ (H [bA]))) bF lG),.aV OE (.bK aT aFK (H [bC,cG,.sub bA cM,eU,bP,bU])),.bH (.aW .is fD (.k .none)) (ss [.bL]) .nil,.aV (.aR (ts [fL,fC])) (.aR (H [fD,.bV .add cM FF]))]),.bH (.or (.aW .is cG (.k .none)) (.and (.aW .eq bF x7) (.aW .eq (.sub (.aU aT ZW) cG) Lj))) (ss [.bL]) .nil,.ret cG]),.no⟩,(FA 0 [1718379891,111516500389741,495622906222,435459027059,1953460339,1852138867,1701995880,29793,110386907865463,431349919590]),[]⟩
def aqL:Fx:=⟨⟨4,[],6,(ss [.bH (.aW .eq bA (.aR .nil)) (ss [.bL]) .nil,.bH (.aW .eq (.sub bA bR) aGI) (ss [.ret (.aR (H [kJ,FF]))]) .nil,.bH (.aW .kY (.sub bA bR) (.bJ 15)) (ss [.ret (.aR (H [.k .none,bR]))]) .nil,.aV (.aR (ts [dA,eE])) (.aR (H [bC,.cH (.aW .eq (.sub bA bR) aGJ) FF bR])),.jJ (.and (.aW .lt bU (.bi .bQ (H [bA]))) (.aW .eq (.sub bA bU) aGK)) (ss [.bH (.aW .eq bP kJ) (ss [.bL]) .nil,.aV (.aR (ts [dA,eE])) (.aR (H [.call (.bJ 18) (H [bP]),.bV .add bU FF]))]),.ret (.aR (H [bP,bU]))]),.no⟩,(FA 0 [1718379891,111516500389741,495622906222,1953460339,1701995880,29793]),[]⟩
def aqM:Fx:=⟨⟨7,[],8,(ss [.bH (.aW .iV bA (.k .none)) (ss [.ret (.bK aT w2 (H [bC,bA,bF,bP,bU,cG]))]) .nil,.aV fC (.bK aT w2 (H [bC,bC,bF,bP,bU,cG])),.bH (.and (.aW .is cM (.k .none)) (.aW .isIn bF (.bJ 19))) (ss [.aV fC (.bK aT w2 (H [bC,kJ,bF,bP,bU,cG]))]) .nil,.ret cM]),.no⟩,(FA 0 [1718379891,111516500389741,1701995880,1701667182,435459027059,1953460339,1852138867,431349919590]),[]⟩
def aqN:Fx:=⟨⟨7,[],10,(ss [.bH (.aW .eq (.sub (.aU aT ZW) bA) Lh) (ss [.aV fC (.call (.bJ 13) (H [bA,bF])),.ret (.cH (.aW .eq (.bK (.aU aT ZW) Rd (H [cM])) aGH) cM (.k .none))]) .nil,.bH (.aW .ne (.sub (.aU aT ZW) bA) Lj) (ss [.ret (.k .none)]) .nil,.aV MP (.sub (.aU aT Di) bA),.aV fC (.bK (.bK eU v6 (H [bP])) Rd (H [bF])),.bH (.aW .iV cM (.k .none)) (ss [.bH (.not (.bK aT adK (H [bC,bA,.sub (.aU aT J8) cM]))) (ss [.bL]) .nil,.ret cM]) .nil,.aV OE (.bK (.aU eU Gp) Rd (H [bF])),.bH (.aW .is fD (.k .none)) (ss [.ret (.k .none)]) .nil,.bH (.not (.bK aT adK (H [bC,bA,.aU fD adH]))) (ss [.bL]) .nil,.ret (.bK aT aFL (H [bA,bF,fD,bP,cG]))]),.no⟩,(FA 0 [1718379891,491327812449,491328010095,1701667182,435459027059,1953460339,1852138867,1752457584,435610083700,6648693]),[]⟩
def aqO:Fx:=⟨⟨1,[],5,(ss [.for QI (.seq (.bi .sorted (H [.aU aT Di]))) (ss [.aV gW (.sub (.aU aT Di) bC),.for dP (.seq (.bi .sorted (H [.aU bA Gp]))) (ss [.aV (.aR (ts [dA,.aU aT v8])) (.aR (H [.sub (.aU bA Gp) bF,.fE])),.bL])])]),.no⟩,(FA 0 [1718379891,111516500389741,435610083700,1701667182,6648693]),[]⟩
def aqP:Fx:=⟨⟨1,[],5,(ss [.for QI (.seq (.bi .sorted (H [.aU aT Di]))) (ss [.aV gW (.sub (.aU aT Di) bC),.for dP (.seq (.bi .sorted (H [.aU bA Gp]))) (ss [.aV dA (.sub (.aU bA Gp) bF),.bH (.and (.aU bP adH) (.not (.bK aT aFM (H [bC,bP])))) (ss [.bL]) .nil])])]),.no⟩,(FA 0 [1718379891,111516500389741,435610083700,1701667182,6648693]),[]⟩
def aqQ:Fx:=⟨⟨2,[],4,(ss [.bH (.aW .ne (.sub aT bR) (.sub bC bR)) (ss [.ret (.k .none)]) .nil,.aV gW (.sub aT bR),.bH (.aW .isIn bA (.aR (H [adT,nU,uO,adX]))) (ss [.ret (.cH (.aW .eq (.sub aT FF) (.sub bC FF)) (.aX .nil) (.k .none))]) .nil,.bH (.aW .eq bA jR) (ss [.ret (.cH (.aW .eq (.bi .bQ (H [.sub aT FF])) (.bi .bQ (H [.sub bC FF]))) (.bi .lV (H [.sub aT FF,.sub bC FF])) (.k .none))]) .nil,.bH (.aW .eq bA UU) (ss [.ret (.cH (.aW .eq (.sub aT GL) (.sub bC GL)) (.aX (H [.aR (H [.sub aT HU,.sub bC HU])])) (.k .none))]) .nil,.bH (.aW .eq bA Dj) (ss [.ret (.aX (H [.aR (H [.sub aT FF,.sub bC FF])]))]) .nil,.bH (.aW .eq bA WJ) (ss [.ret (.cH (.aW .eq (.sub aT GL) (.sub bC GL)) (.aX (H [.aR (H [.sub aT FF,.sub bC FF])])) (.k .none))]) .nil,.bH (.aW .eq bA UV) (ss [.aV dP (.and (.aW .eq (.sub aT FF) (.sub bC FF)) (.aW .eq (.bi .bQ (H [.sub aT HU])) (.bi .bQ (H [.sub bC HU])))),.ret (.cH bF (.bi .lV (H [.sub aT HU,.sub bC HU])) (.k .none))]) .nil,.ret (.aX .nil)]),.no⟩,(FA 0 [6647407,491327616111,1684957547,435593768033]),[]⟩
def aqR:Fx:=⟨⟨4,[],10,(ss [.aV dA ZY,.aV eE (.aX (H [.aR (H [aT,bC])])),.jJ (.aW .ne bU (.aX .nil)) (ss [.aV (.aR (ts [fL,fC])) (.bK bU J9 .nil),.bH (.and (.aW .eq (.sub cG bR) nU) (.aW .isIn (.sub cG FF) bA)) (ss [.aV MP ZY,.bH (.aW .isIn (.sub cG FF) bF) (ss [.aV MP (.call (.bJ 23) (H [.sub bF (.sub cG FF),cM]))]) (ss [.aV (.sub bF (.sub cG FF)) cM])]) (ss [.bH (.aW .isIn (.sub cM bR) (.aR (H [uO,adX]))) (ss [.aV MP (.call (.bJ 23) (H [cG,cM]))]) (ss [.aV OE (.call (.bJ 22) (H [cG,cM])),.aV MP (.cH (.aW .is fD (.k .none)) QH ZY),.ex (.bK bU Gq (H [.or fD (.aX .nil)]))])]),.bH (.aW .eq eU QH) (ss [.ret QH]) .nil,.aV dA (.cH (.aW .eq eU YC) YC bP)]),.ret bP]),.no⟩,(FA 0 [31088027509219696,32760384526120307,495622906222,431349919590,125780121316961,1952867692,1701995880,435710945396,1684828020,495840747888]),[]⟩
def aqS:Fx:=⟨⟨4,[],8,(ss [.bH (.aW .ne (.bi .bQ (H [aT])) (.bi .bQ (H [bC]))) (ss [.ret QH]) .nil,.aV dA ZY,.for (.aR (ts [eE,fL])) (.zip (H [aT,bC])) (ss [.aV fC (.call (.bJ 24) (H [bU,cG,bA,bF])),.bH (.aW .eq cM QH) (ss [.ret QH]) .nil,.aV dA (.cH (.aW .eq cM YC) YC bP)]),.ret bP]),.no⟩,(FA 0 [8317711341870932336,8319383698887832947,495622906222,431349919590,125780121316961,31088027509219696,32760384526120307,1684828020]),[]⟩
def aqT:Fx:=⟨⟨1,[],2,(ss [.aV QI (.sub aT bR),.bH (.aW .eq bC UU) (ss [.ret (.aR (H [.sub aT HU]))]) .nil,.bH (.or (.aW .eq bC Dj) (.aW .eq bC WJ)) (ss [.ret (.aR (H [.sub aT FF]))]) .nil,.bH (.aW .eq bC jR) (ss [.ret (.sub aT FF)]) .nil,.ret (.cH (.aW .eq bC UV) (.sub aT HU) (.aR .nil))]),.no⟩,(FA 0 [1684828020,1684957547]),[]⟩
def aqU:Fx:=⟨⟨1,[],3,(ss [.ret (.comp bC (.aR (ts [QI,gW])) (.seq (.aU aT RL)) .nil)]),.no⟩,(FA 0 [1819307369]),[1,2]⟩
def aqV:Fx:=⟨⟨3,[],5,(ss [.aV dP .fE,.aV dA (.aR (H [.aU aT QF])),.bH (.aW .gt (.bi .bQ (H [bC])) bR) (ss [.aV dA (.bV .add (.bi .tuple (H [.aU aT adM])) bP)]) .nil,.ret (.aR (H [.call (.bJ 25) (H [bP,.bV .add (.bi .tuple (H [bC])) (.aR (H [bA])),.call (.bJ 26) (H [aT]),bF]),bF]))]),.no⟩,(FA 0 [1819307369,544980402143347936948852,84,431349919590,8317711341870932336]),[]⟩
def aqW:Fx:=⟨⟨1,[],1,(ss [.bH (.or (.and (.aW .eq (.sub aT bR) UU) (.not (.sub aT GL))) (.aW .eq (.sub aT bR) x8)) (ss [.ret (.aX .nil)]) .nil,.bH (.aW .eq (.sub aT bR) jR) (ss [.ret (.bi .list (H [.sub aT FF]))]) .nil,.ret (.cH (.aW .eq (.sub aT bR) WJ) (.aX (H [.sub aT FF])) (.k .none))]),.no⟩,(FA 0 [84]),[]⟩
def aqX:Fx:=⟨⟨3,[],3,(ss [.aV (.aU aT QG) bC,.aV (.aU aT adN) bA,.aV (.aU aT K2) .fE]),.all⟩,(FA 0 [1718379891,431316168567,126875187113826]),[]⟩
def aqY:Fx:=⟨⟨3,[],3,(ss [.bH (.and (.aW .eq (.sub bA bR) nU) (.aW .isIn bC (.bK (.aU aT adN) Rd (H [.sub bA FF,.aR .nil])))) (ss [.ret (.aR (H [aGL,.sub bA FF]))]) .nil,.ret (.k .none)]),.no⟩,(FA 0 [1718379891,499984200308,84]),[]⟩
def aqZ:Fx:=⟨⟨3,[],7,(ss [.aV dP (.aX .nil),.for (.aR (ts [dA,eE])) (.seq (.aU bC RL)) (ss [.bH (.aW .isIn bP bA) (ss [.ex (.bK bF Gq (H [.comp (.aR (H [cG,.sub bA bP])) fL (.seq bU) .nil]))]) .nil]),.ret bF]),.no⟩,(FA 0 [1718379891,1819307369,431349919590,495605605742,1701667182,126943821394548]),[6]⟩
def ar0:Fx:=⟨⟨5,[],12,(ss [.aV eE (.aX .nil),.for fL (.seq (.aU (.aU aT QG) K3)) (ss [.bH (.aW .eq (.aU cG adO) bC) (ss [.aV (.aR (ts [fC,MP])) (.call (.bJ 27) (H [cG,bA,bF])),.for (.aR (ts [OE,mO])) (.seq (.cH (.aW .ne cM QH) (.bK aT aFN (H [cG,eU])) (.aX .nil))) (ss [.aV Gs (.bK aT w3 (H [fD,.aR .nil,jK,.bV .add bP FF])),.aV fC (.cH (.aW .eq iX QH) QH (.cH (.and (.aW .eq iX YC) (.aW .eq cM ZY)) YC cM)),.bH (.aW .eq cM QH) (ss [.bL]) .nil]),.bH (.aW .ne cM QH) (ss [.ex (.bK bU OD (H [.aR (H [cM,.aU cG adP,eU])]))]) .nil]) .nil]),.ret bU]),.no⟩,(FA 0 [1718379891,499984200308,1936159329,84,1885693284,1937207154,1819307369,125780121316961,431349919590,491327616111,1953653104,1684828020]),[]⟩
def ar1:Fx:=⟨⟨5,[],5,(ss [.bH (.aW .gt bP (.bJ 28)) (ss [.bL]) .nil,.bH (.aW .kY (.aR (H [bC,bA,bF])) (.aU aT K2)) (ss [.aV (.sub (.aU aT K2) (.aR (H [bC,bA,bF]))) (.bK aT aFO (H [bC,bA,bF,bP]))]) .nil,.ret (.sub (.aU aT K2) (.aR (H [bC,bA,bF])))]),.no⟩,(FA 0 [1718379891,499984200308,1936159329,84,1885693284]),[]⟩
def ar2:Fx:=⟨⟨5,[],12,(ss [.bH (.aW .iV (.bK aT aFP (H [bC,bF])) (.k .none)) (ss [.ret ZY]) .nil,.bH (.aW .eq (.sub bF bR) uO) (ss [.ret YC]) .nil,.aV eE (.cH (.aW .eq bC (.bJ 29)) (.call (.bJ 30) (H [bF])) (.k .none)),.bH (.aW .iV bU (.k .none)) (ss [.aV fL (.comp (.bK aT w3 (H [bC,.aR .nil,eU,.bV .add bP FF])) MP (.seq bU) .nil),.ret (.cH (.aW .isIn QH cG) QH (.cH (.aW .isIn YC cG) YC ZY))]) .nil,.aV fC (.bK aT aFQ (H [bC,bA,bF,bP])),.bH (.aW .eq cM (.aX .nil)) (ss [.ret QH]) .nil,.ret (.cH (.aW .isIn ZY (.comp fD (.aR (ts [OE,mO,Gs])) (.seq cM) .nil)) ZY YC)]),.no⟩,(FA 0 [1718379891,499984200308,1936159329,84,1885693284,495874892144,32495402443042401,1937207154]),[8,9,10,11]⟩
def ar3:Fx:=⟨⟨4,[],8,(ss [.aV dA (.aX .nil),.for (.aR (ts [eE,fL])) (.seq bC) (ss [.for fC (.seq cG) (ss [.bH (.aW .eq (.bK (.call (.bJ 31) (H [aT,bF])) w3 (H [cM,.aR .nil,.sub bA bU,bR])) QH) (ss [.ex (.bK bP OD (H [.aR (H [cM,.sub bA bU])]))]) .nil])]),.ret bP]),.no⟩,(FA 0 [431316168567,126913623515504,431349919590,126875187113826,499917876853,1701667182,126943821394548,499984200308]),[]⟩
def ar4:Fx:=⟨⟨8,[(.str []),(.aR [])],8,(ss [.aV (.aU aT J6) bC,.aV (.aU aT ZX) cG,.aV (.aU aT SR) bA,.aV (.aU aT RL) bF,.aV (.aU aT w4) bP,.aV (.aU aT J8) cM,.aV (.aU aT aFS) bU]),.no⟩,(FA 0 [1718379891,1752457584,32491047110534514,126913623515504,8319395776320135542,30809889469068137,111516500389741,32478926762833264]),[]⟩
def ar5:Fx:=⟨⟨9,[],9,(ss [.aV (.aU aT J6) bC,.aV (.aU aT SR) bA,.aV (.aU aT RL) bF,.aV (.aU aT aFT) bP,.aV (.aU aT aFU) bU,.aV (.aU aT aFV) cG,.aV (.aU aT aFW) cM,.aV (.aU aT aFX) eU]),.no⟩,(FA 0 [1718379891,1752457584,32491047110534514,126913623515504,7239535,126944023703145,128047746676079,1852630415645166298483,8747238844559221096]),[]⟩
def ar6:Fx:=⟨⟨5,[],5,(ss [.aV (.aU aT J6) bC,.aV (.aU aT RL) bA,.aV (.aU aT adQ) bF,.aV (.aU aT aFY) bP]),.no⟩,(FA 0 [1718379891,1752457584,126913623515504,32480051978331501,8319393663061222756]),[]⟩
def ar7:Fx:=⟨⟨9,[(.int 0)],9,(ss [.aV (.aU aT adP) bC,.aV (.aU aT SR) bA,.aV (.aU aT RL) bF,.aV (.aU aT adO) bP,.aV (.aU aT adM) bU,.aV (.aU aT QF) cG,.aV (.aU aT adQ) cM,.aV (.aU aT zA2) eU]),.no⟩,(FA 0 [1718379891,125779768604014,32491047110534514,126913623515504,499984200308,544980402143347936948852,1871225788402183726451,32480051978331501,1953460339]),[]⟩
def ar8:Fx:=⟨⟨2,[.none],2,(ss [.aV (.aU aT UT) bC,.aV (.aU aT adR) .fE,.aV (.aU aT w4) .fE,.aV (.aU aT K4) .fE,.aV (.aU aT w5) .fE,.aV (.aU aT K3) (.aX .nil),.aV (.aU aT aFZ) .fE,.aV (.aU aT adS) .fE]),.all⟩,(FA 0 [1718379891,32481138822115181]),[]⟩
def ar9:Fx:=⟨⟨5,[],5,(ss [.aV (.aU aT ZX) bC,.aV (.aU aT SR) (.bi .tuple (H [bA])),.aV (.aU aT RL) (.bi .list (H [bF])),.aV (.aU aT QF) bP]),.no⟩,(FA 0 [1718379891,111516500389741,32491047110534514,126913623515504,1871225788402183726451]),[]⟩
def arA:Fx:=⟨⟨1,[],2,(ss [.ret (.comp (.sub bC bR) QI (.seq (.aU aT RL)) .nil)]),.no⟩,(FA 0 [1718379891]),[1]⟩
def arB:Fx:=⟨⟨4,[],6,(ss [.for dA (.seq bA) (ss [.bH (.or (.aW .isIn bP (.aU aT SR)) (.or (.aW .gt (.bK bA aG0 (H [bP])) FF) (.aW .eq bP xN))) (ss [.bL]) .nil]),.for (.aR (ts [dA,eE])) (.seq bF) (ss [.bH (.aW .isIn bP (.bK aT adG .nil)) (ss [.bL]) .nil]),.ret (.call (.bJ 32) (H [.aU aT ZX,.bV .add (.aU aT SR) (.bi .tuple (H [bA])),.bV .add (.aU aT RL) (.bi .list (H [bF])),.aU aT QF]))]),.at []⟩,(FA 0 [1718379891,1953460339,32491047110534514,126913623515504,1701667182,126875187113826]),[]⟩
def arC:Fx:=⟨⟨2,[],2,(ss [.aV (.aU aT Rb) bC,.aV (.aU aT UT) (.call (.bJ 33) (H [bC])),.aV (.aU aT QG) (.call (.bJ 34) (H [.aU aT UT])),.aV (.aU aT w6) (.aX .nil),.aV (.aU aT w7) (.aX .nil)]),.all⟩,(FA 0 [1718379891,495756604521]),[]⟩
def arD:Fx:=⟨vF,(FA 0 [1718379891,1952867692,111516500389741,1835365481]),[4,5]⟩
def arE:Fx:=⟨vG,(FA 0 [1718379891,1684828020,435678045043,1953460339,1953653104,6777203,126913623515504,431349919590]),[8,9]⟩
def arF:Fx:=⟨⟨3,[],4,(ss [.aV dP (.call (.bJ 37) (H [.aU aT UT,.aU bC ZX,.bK bC adG .nil,.aU bC QF,bA])),.bH (.not (.call (.bJ 10) (H [bF]))) (ss [.bL]) .nil,.ex (.bK (.aU aT w7) OD (H [.aR (H [bF,bC,.sub bA FF])])),.ret bF]),.no⟩,(FA 0 [1718379891,435678045043,31073798281851511,1684828020]),[]⟩
def arG:Fx:=⟨⟨4,[],5,(ss [.aV dA (.call (.bJ 38) (H [.aU aT UT,.aU bC ZX,bA,bF])),.ret (.aR (H [.bK bC aG8 (H [bF,.sub bA bR,bP]),bP]))]),.at [0]⟩,(FA 0 [1718379891,435678045043,8314605277104989543,1953460339,1937207154]),[]⟩
def arH:Fx:=⟨⟨3,[],20,(ss [.aV (.aR (ts [dP,dA])) (.aR (H [.sub bA FF,.call (.bJ 13) (H [bC,.sub bA GL])])),.aV (.aR (ts [eE,fL])) (.bK aT K5 (H [.call (.bJ 32) (H [bC,.aR .nil,.aX .nil,.k .none]),.sub bA HU,bF])),.aV (.aU bU QF) (.aR (H [UV,bP,.bi .tuple (H [.sub (.sub bA HU) bR]),.bi .tuple (H [.comp (.aR (H [nU,.sub aHA bR])) aH6 (.seq cG) .nil])])),.aV fC (.cH (.aW .eq (.sub bA bR) Dl) (.aX (H [.aR (H [kJ,.sub bA YB,.sub bA Lg])])) (.bi .list (H [.sub bA YB]))),.aV (.aR (ts [MP,OE])) (.aR (H [.aX .nil,.aX .nil])),.for (.aR (ts [mO,.aR (ts [Gs,sB,ae3])])) (.dT (H [cM])) (ss [.ex (.bK eU OD (H [.aR (H [.cH (.aW .ne iX kJ) iX (.sub bA GL),nV,.bK aT aG9 (H [bU,sD,bF])])])),.ex (.bK fD OD (H [.comp (.or (.aW .eq (.sub bA bR) Lh) (.sub aHB GL)) aH7 (.seq sD) .nil])),.aV (.sub (.aU (.aU aT QG) w4) (.cH (.aW .eq (.sub bA bR) Dl) bP (.call (.bJ 13) (H [bP,iX])))) (.aR (H [bP,jK]))]),.aV ae4 (.bi .tuple (H [.comp (.sub aHC bR) aH8 (.seq cG) .nil])),.aV (.sub (.aU (.aU aT QG) adR) bP) (.call (.bJ 39) (H [bP,.bi .tuple (H [.sub (.sub bA HU) bR]),CW,eU,.aW .eq (.sub bA bR) Lh,bC,fD])),.bH (.aW .ne (.comp ae7 aH9 (.seq cG) (H [.aW .ne (.sub ae7 FF) (.aR .nil)])) (.aX .nil)) (ss [.aV ae5 (.call (.bJ 40) (H [bP,.aU bU SR,.aU bU RL,cG,.aR .nil,.aU bU QF,.k .none,.k (.bool DT)])),.aV (.sub (.aU (.aU aT QG) K4) (.bV .add adY bP)) ae6]) .nil]),.no⟩,(FA 0 [1718379891,111516500389741,1835365481,1953460339,1752457584,435678045043,1937207154,495757455206,8319395776320135542,32478926762833264,125779768604014,1701667182,1836216166,126875152509286,495622906222,6777203]),[16,17,18,19]⟩
def arI:Fx:=⟨⟨4,[],10,(ss [.aV dA (.aX .nil),.for (.aR (ts [eE,fL,fC])) (.seq bA) (ss [.bH (.aW .isIn bU (.comp (.sub fD bR) OE (.seq bP) .nil)) (ss [.bL]) .nil,.aV MP (.bK aT Re (H [bC,cG])),.ex (.call (.bJ 41) (H [eU,.aU bC SR,.sub cG FF])),.ex (.bK bP OD (H [.aR (H [bU,eU])]))]),.ret bP]),.no⟩,(FA 0 [1718379891,435678045043,126875152509286,1953460339,431349919590,1701667182,31073798281851511,108256535999337,1684828020]),[9]⟩
def arJ:Fx:=⟨⟨5,[],16,(ss [.aV (.aR (ts [eE,fL])) (.aR (H [.sub bA FF,.sub bA YB])),.bH (.and (.aW .iV cG (.k .none)) (.aW .is (.aU bF QF) (.k .none))) (ss [.bL]) .nil,.aV (.aR (ts [fC,MP])) (.bK aT K5 (H [bF,.sub bA HU,bU])),.aV OE (.cH (.aW .is cG (.k .none)) (.aX .nil) (.aX (H [.bK aT aGA (H [.aU bF QF,cG])]))),.aV OE (.bV .add fD (.comp (.bK aT Re (H [cM,ae6])) (.aR (ts [ae4,ae5])) (.seq (.sub bA Lg)) .nil)),.aV mO (.cH (.aW .is (.sub bA K6) (.k .none)) (.bJ 42) (.bK aT Re (H [cM,.sub bA K6]))),.aV (.aR (ts [OE,mO,Gs])) (.call (.bJ 43) (H [fD,jK,cG,bU])),.for sB (.seq (.bV .add fD (.aR (H [jK])))) (ss [.ex (.call (.bJ 41) (H [nV,.bV .add (.aU cM SR) iX,bU]))]),.aV ae3 (.call (.bJ 40) (H [bC,.bV .add (.aU cM SR) iX,.aU cM RL,eU,fD,jK,cG,.aW .iV (.sub bA w9) (.k .none)])),.bH bP (ss [.aV (.sub (.aU (.aU aT QG) K4) bC) sD,.bH (.aW .iV (.sub bA w9) (.k .none)) (ss [.aV (.sub (.aU (.aU aT QG) adS) bC) (.aR (H [bA,.aU bF ZX,.aU bF QF]))]) .nil]) .nil,.ret sD]),.no⟩,(FA 0 [1718379891,1752457584,1835365481,435678045043,32774678193861481,1953460339,1852630415645166298483,491328007785,1937207154,126944023703145,128047746676079,474148661607,1684828020,6777203]),[14,15]⟩
def arK:Fx:=⟨⟨3,[],13,(ss [.aV (.aR (ts [dP,dA])) (.aR (H [.call (.bJ 13) (H [bC,.sub bA GL]),.sub bA FF])),.bH (.aW .ne (.sub (.sub bA HU) bR) (.aR .nil)) (ss [.bL]) .nil,.aV eE (.call (.bJ 32) (H [bC,.aR .nil,.aX (H [.aR (H [Rg,.aR (H [bF])])]),.aR (H [nU,Rg])])),.aV (.aR (ts [fL,fC])) (.bK aT K5 (H [bU,.sub bA HU,bP])),.aV (.aR (ts [MP,OE])) (.aR (H [.fE,.fE])),.for mO (.seq (.sub bA YB)) (ss [.aV Gs (.sub jK GL),.bH (.aW .isIn iX eU) (ss [.bL]) .nil,.aV (.sub eU iX) (.bK aT w8 (H [.call (.bJ 13) (H [bF,iX]),jK,cG,.k (.bool DN)])),.bH (.aW .iV (.sub jK w9) (.k .none)) (ss [.aV (.sub fD iX) (.call (.bJ 13) (H [bF,iX]))]) .nil]),.aV (.sub (.aU (.aU aT QG) w5) bF) (.call (.bJ 44) (H [bF,.bi .tuple (H [.comp (.sub nV bR) sB (.seq cM) .nil]),eU,fD]))]),.no⟩,(FA 0 [1718379891,111516500389741,1835365481,1752457584,1953460339,435610937463,435678045043,1937207154,32480051978331501,8319393663061222756,491328007785,1701667182]),[12]⟩
def arL:Fx:=⟨⟨3,[],13,(ss [.aV (.aR (ts [dP,dA])) (.aR (H [.sub bA FF,.bi .bQ (H [.aU (.aU aT QG) K3])])),.aV (.aR (ts [eE,fL])) (.bK aT K5 (H [.call (.bJ 32) (H [bC,.aR .nil,.aX .nil,.k .none]),.sub bA GL,bF])),.aV fC (.bK aT Re (H [bU,.sub bA YB])),.aV (.aU bU QF) (.bK aT aGB (H [cM,bU,bF])),.aV (.aR (ts [MP,OE])) (.bK aT aGC (H [bU,bA])),.bH (.and (.aW .is eU (.k .none)) (.aW .ne (.sub cM bR) UV)) (ss [.bL]) .nil,.ex (.bK aT aGD (H [cG,.bV .add (.aR (H [cM])) fD,bF])),.aV mO .fE,.for Gs (.seq (.sub bA Lg)) (ss [.aV sB (.sub iX GL),.bH (.aW .isIn nV jK) (ss [.bL]) .nil,.aV (.sub jK nV) (.bV .add (.bV .add (.bV .add aGO (.bi .str (H [bP]))) adU) nV),.ex (.bK aT w8 (H [.sub jK nV,iX,bU,.k (.bool DN)]))]),.ex (.bK (.aU (.aU aT QG) K3) OD (H [.call (.bJ 45) (H [bP,.aU bU SR,cG,eU,fD,.aU bU QF,jK,bF])]))]),.no⟩,(FA 0 [1718379891,111516500389741,1835365481,1953460339,125779768604014,435678045043,1937207154,7239535,499984200308,1936159329,32480051978331501,491328007785,1701667182]),[]⟩
def arM:Fx:=⟨⟨4,[],8,(ss [.aV dA (.aX .nil),.for eE (.seq bA) (ss [.ex (.bK bP Gq (H [.call (.bJ 46) (H [bU])]))]),.for (.aR (ts [fL,fC])) (.seq bC) (ss [.bH (.aW .kY cG bP) (ss [.bL]) .nil])]),.no⟩,(FA 0 [1718379891,1937207154,495623108980,1953460339,474450194027,1684828020,1701667182,126875187113826]),[]⟩
def arN:Fx:=⟨⟨4,[],4,(ss [.ex (.call (.bJ 41) (H [bC,.aU bA SR,bF])),.ret bC]),.no⟩,(FA 0 [1718379891,7239535,435678045043,1953460339]),[]⟩
def arO:Fx:=⟨⟨3,[],8,(ss [.aV dP (.sub bA HU),.bH (.aW .is bF (.k .none)) (ss [.ret (.aR (H [.k .none,.aR .nil]))]) .nil,.aV dA (.call (.bJ 11) (H [.aU aT UT,.aU bC ZX,bF,.sub bA FF])),.aV eE (.bi .tuple (H [.comp (.bK aT Re (H [bC,cM])) fC (.seq (.sub (.sub bF (.k (.int (-1)))) GL)) .nil])),.bH (.aW .ne (.bi .bQ (H [bU])) (.bi .bQ (H [.aU (.sub (.aU (.aU aT QG) w5) bP) RL]))) (ss [.bL]) .nil,.for fL (.seq bU) (ss [.ex (.call (.bJ 41) (H [cG,.aU bC SR,.sub bA FF]))]),.ret (.aR (H [bP,bU]))]),.no⟩,(FA 0 [1718379891,435678045043,1835365481,448629141619,1752457584,1936159329,1684828020]),[7]⟩
def arP:Fx:=⟨⟨1,[],4,(ss [.aV QI (.sub aT bR),.bH (.aW .eq bC nU) (ss [.ret (.aX (H [.sub aT FF]))]) .nil,.bH (.aW .eq bC UU) (ss [.ret (.call (.bJ 46) (H [.sub aT HU]))]) .nil,.bH (.aW .isIn bC (.aR (H [Dj,WJ]))) (ss [.ret (.call (.bJ 46) (H [.sub aT FF]))]) .nil,.aV gW (.aX .nil),.for dP (.seq (.cH (.aW .eq bC jR) (.sub aT FF) (.cH (.aW .eq bC UV) (.sub aT HU) (.aR .nil)))) (ss [.ex (.bK bA Gq (H [.call (.bJ 46) (H [bF])]))]),.ret bA]),.no⟩,(FA 0 [1684828020,1684957547,431349919590,6647407]),[]⟩
def arQ:Fx:=⟨⟨1,[],4,(ss [.aV (.aR (ts [QI,gW])) (.aR (H [.aX .nil,.aX (H [aT])])),.jJ (.aW .ne bA (.aX .nil)) (ss [.aV dP (.bK bA J9 .nil),.bH (.aW .eq (.sub bF bR) UV) (ss [.ex (.bK bC OD (H [bF]))]) .nil,.ex (.bK bA Gq (H [.jB (.call (.bJ 47) (H [bF]))]))]),.ret bC]),.no⟩,(FA 0 [1684828020,431349919590,1952867692,1701995880]),[]⟩
def arR:Fx:=⟨vH,(FA 0 [128026154263411,1819043171,499850244711]),[]⟩
def arS:Fx:=⟨vI,(FA 0 [111477796466547,7368564,474449277540]),[]⟩
def arT:Fx:=⟨⟨2,[],2,(ss [.ret (.sub bC (.call (.bJ 48) (H [aT,.bi .bQ (H [bC])])))]),.no⟩,(FA 0 [111477796466547,126888071227508]),[]⟩
def arU:Fx:=⟨⟨3,[],3,(ss [.ret (.aR (H [zK7,.loc 1,.aR (H [.aR (H [.loc 0,.aR .nil,.loc 2])])]))]),.no⟩,(FA 0 [1701667182,1953460339,495623108980]),[]⟩
def arV:Fx:=⟨⟨1,[],4,(ss [.aV QI (.comp (.aR (H [bA,.cH bF (.aR (H [.aR (H [.aR (H [K9,.aR .nil,.aR .nil])])])) (.aR .nil)])) (.aR (ts [gW,dP])) (.zip (H [.aX (H [K8,qK]),aT])) .nil),.ret (.aR (H [.aR .nil,.bi .tuple (H [bC])]))]),.no⟩,(FA 0 [126875187113826,1937207154]),[2,3]⟩
def arW:Fx:=⟨⟨0,[],0,(ss [.ret (.aR (H [.aR .nil,.aR .nil]))]),.no⟩,(FA 0 []),[]⟩
def arX:Fx:=⟨⟨1,[],5,(ss [.aV QI (.comp (.aR (H [Li,bR,bF,.call (.bJ 49) .nil,.aR .nil,.k (.bool DN)])) dP (.seq (.aX (H [K9,adZ]))) .nil),.ex (.bK bC OD (H [.aR (H [Li,bR,xO,.aR (H [.aR .nil,.aR (H [.aR (H [aGP,.aR .nil])])]),.aR .nil,.k (.bool DN)])])),.ex (.bK bC OD (H [.aR (H [Dl,bR,qL,.call (.bJ 49) .nil,CU,.aR .nil,.k (.bool DN)])])),.aV gW (.aR (H [.aR .nil,.aR (H [.aR (H [ae0,.aR (H [.aR (H [.aR (H [K9,.aR .nil,.aR .nil])])])])])])),.ex (.bK bC OD (H [.aR (H [Dl,bR,xP,bA,jR,.aR (H [.aR (H [aGQ,.call (.bJ 50) (H [ae0,bR,.aR .nil]),.k (.bool DN)])]),.k (.bool DN)])])),.ret (.bV .add bC (.comp (.aR (H [L6,bR,.call (.bJ 49) .nil,.aR (H [.aR (H [K9,.aR .nil,.aR .nil])]),.call (.bJ 50) (H [bP,bR,.aR .nil]),.aR .nil])) dA (.seq aT) .nil))]),.no⟩,(FA 0 [126935165204335,495756604521,435610937463]),[3,4]⟩
def arY:Fx:=⟨⟨3,[],5,(ss [.aV dP (.call (.bJ 50) (H [xP,bA,.aR (H [.call (.bJ 50) (H [bC,bA,.aR .nil])])])),.for dA (.seq (.jB aT)) (ss [.bH (.aW .eq bP bR) (ss [.aV dP (.call (.bJ 50) (H [x6,bA,.aR (H [bF])]))]) (ss [.bH (.aW .eq bP FF) (ss [.aV dP (.aR (H [WJ,bA,bF,HU]))]) (ss [.bH (.aW .eq bP GL) (ss [.aV dP (.aR (H [UU,bA,xN,.k (.bool DN),bF]))]) (ss [.aV dP (.aR (H [jR,bA,.aR (H [.call (.bJ 50) (H [L7,bA,.aR .nil]),bF])]))])])])]),.ret bF]),.no⟩,(FA 0 [1937334647,491328007785,1953460339,1684828020,7954807]),[]⟩
def arZ:Fx:=⟨⟨4,[],5,(ss [.aV dA (.aR (H [.aR (H [.aR (H [aGR,bR,CV,.k (.bool DT),.k (.bool DT),.k .none]),bA])])),.ret (.aR (H [K7,bR,aT,bC,.k .none,bP,.call (.bJ 50) (H [L7,bR,.aR .nil]),bF,.k (.bool DT)]))]),.no⟩,(FA 0 [1701667182,8314605277104989543,431198599540,2036625250,126913623515504]),[]⟩
def as0:Fx:=⟨⟨4,[],8,(ss [.aV (.aR (ts [dA,eE,fL])) (.aR (H [.call (.bJ 51) (H [bA]),.aR (H [aGS,bR,.aR .nil,.k .none]),.bi .str (H [bC])])),.bH (.aW .eq aT bR) (ss [.ret (.call (.bJ 52) (H [.bV .add aGT cG,bP,bF,bU]))]) .nil,.bH (.aW .eq aT FF) (ss [.ret (.aR (H [Dl,bR,.bV .add aGU cG,bP,xM,.aR (H [.aR (H [aGW,bF,.k (.bool DN)])]),.k (.bool DN)]))]) .nil,.bH (.aW .eq aT GL) (ss [.ret (.aR (H [Li,bR,.bV .add aGX cG,.call (.bJ 49) .nil,.aR (H [.call (.bJ 52) (H [ae1,bP,bF,.k .none])]),.k (.bool DN)]))]) .nil,.bH (.aW .eq aT HU) (ss [.ret (.aR (H [L6,bR,.call (.bJ 49) .nil,.k .none,.call (.bJ 50) (H [qL,bR,.aR .nil]),.aR (H [.call (.bJ 52) (H [.bV .add ae1 cG,bP,bF,bU])])]))]) .nil,.aV fC (.aR (H [jR,.sub bF FF,.aR (H [.call (.bJ 50) (H [K8,bR,.aR .nil]),.call (.bJ 50) (H [qK,bR,.aR .nil]),bF])])),.bH (.aW .eq aT YB) (ss [.ret (.aR (H [L6,bR,bP,.aR (H [.aR (H [xO,.aR .nil,.aR (H [cM])])]),.call (.bJ 50) (H [qL,bR,.aR .nil]),.aR .nil]))]) .nil,.ret (.aR (H [L6,bR,bP,.aR (H [.aR (H [adZ,.aR .nil,.aR .nil])]),cM,.aR .nil]))]),.no⟩,(FA 0 [435459026032,29793,126875187113826,431198599540,8314605277104989543,461229747298,1802658157,435610937463]),[]⟩
def as1:Fx:=⟨vJ,(FA 0 [495756604521,500035838310]),[]⟩
def as2:Fx:=⟨⟨1,[],5,(ss [.aV (.aR (ts [QI,gW])) (.aR (H [.call (.bJ 48) (H [aT,K6]),.aX (H [.aW .eq (.call (.bJ 48) (H [aT,GL])) bR,.aW .eq (.call (.bJ 48) (H [aT,GL])) bR])])),.aV dP (.comp (.call (.bJ 48) (H [aT,YB])) dA (.range (H [.call (.bJ 48) (H [aT,HU])])) .nil),.ret (.aR (H [bC,bA,bF,.call (.bJ 54) (H [aT,.aX (H [K8,qK,qL,L7])])]))]),.no⟩,(FA 0 [111477796466547,435459026032,126875187113826,1937334647]),[4]⟩
def as3:Fx:=⟨⟨2,[],6,(ss [.aV (.aR (ts [gW,dP,dA,eE])) bC,.ret (.cH (.aW .isIn bU (.aX (H [K8,qK]))) (.sub bF (.bK aGY aGF (H [bU]))) (.aW .isIn bU aT))]),.no⟩,(FA 0 [126935165204335,7827314,435459026032,126875187113826,1937334647,491328007785]),[]⟩
def as4:Fx:=⟨⟨2,[],6,(ss [.aV gW (.comp bP dA (.range (H [.bi .bQ (H [bC])])) (H [.not (.call (.bJ 55) (H [aT,.sub bC bP]))])),.aV dP (.comp bU eE (.seq bA) (H [.aW .isIn (.sub (.sub bC bU) bR) (.aX (H [FF,GL]))])),.ret (.cH (.aW .eq bA (.aX .nil)) (.k .none) (.bV .add (.k (.int 10)) (.sub (.bV .add bF bA) bR)))]),.no⟩,(FA 0 [126935165204335,1937207154,144388391230172265716081004,521510478181]),[4,5]⟩
def as5:Fx:=⟨⟨3,[],10,(ss [.aV dP (.aX .nil),.for (.aR (ts [dA,.aR (ts [eE,fL,fC,MP])])) (.dT (H [bC])) (ss [.ex (.bK bF OD (H [.call (.bJ 56) (H [bU,bP,cG,.call (.bJ 57) (H [cM,eU,.bV .add (.k (.int 10)) bP])])]))]),.aV OE (.call (.bJ 58) (H [aT])),.ret (.aW .eq (.call (.bJ 59) (H [.cH bA (.bV .add fD bF) (.bV .add bF fD)])) (.call (.bJ 60) (H [aT,bC])))]),.no⟩,(FA 0 [126935165204335,1937207154,1852630412372333261673,495756604521,29793,435459026032,126875187113826,1937334647,491328007785,474450194027]),[]⟩
def as6:Fx:=⟨vK,(FA 0 [128026154263411,111477796466547,126935165204335,1937207154]),[4,5]⟩
def SA:Tr Fx:=(zN (zN (zN (zN (zN (zN (zN zL 110 apT zL) 115 apU zL) 129 apV (zN (zN zL 136 apW zL) 149 apX zL)) 163 apY (zN (zN (zN zL 170 apZ zL) 184 aq0 zL) 189 aq1 (zN zL 201 aq2 zL))) 208 aq3 (zN (zN (zN (zN zL 215 aq4 zL) 220 aq5 zL) 235 aq6 (zN (zN zL 240 aq7 zL) 245 aq8 zL)) 250 aq9 (zN (zN (zN zL 261 aqA zL) 310 aqB zL) 317 aqC (zN zL 322 aqD zL)))) 343 aqE (zN (zN (zN (zN (zN zL 350 aqF zL) 357 aqG zL) 362 aqH (zN (zN zL 383 aqI zL) 391 aqJ zL)) 398 aqK (zN (zN (zN zL 405 aqL zL) 412 aqM zL) 419 aqN (zN zL 441 aqO zL))) 448 aqP (zN (zN (zN (zN zL 467 aqQ zL) 481 aqR zL) 488 aqS (zN (zN zL 495 aqT zL) 500 aqU zL)) 507 aqV (zN (zN (zN zL 514 aqW zL) 528 aqX zL) 535 aqY (zN zL 540 aqZ zL))))) 547 ar0 (zN (zN (zN (zN (zN (zN zL 554 ar1 zL) 559 ar2 zL) 573 ar3 (zN (zN zL 591 ar4 zL) 612 ar5 zL)) 633 ar6 (zN (zN (zN zL 655 ar7 zL) 677 ar8 zL) 705 ar9 (zN zL 710 arA zL))) 717 arB (zN (zN (zN (zN zL 738 arC zL) 743 arD zL) 748 arE (zN (zN zL 755 arF zL) 762 arG zL)) 767 arH (zN (zN (zN zL 772 arI zL) 777 arJ zL) 796 arK (zN zL 803 arL zL)))) 810 arM (zN (zN (zN (zN (zN zL 817 arN zL) 822 arO zL) 836 arP (zN (zN zL 843 arQ zL) 850 arR zL)) 857 arS (zN (zN (zN zL 864 arT zL) 871 arU zL) 876 arV (zN zL 883 arW zL))) 888 arX (zN (zN (zN (zN zL 895 arY zL) 902 arZ zL) 909 as0 (zN zL 916 as1 zL)) 921 as2 (zN (zN (zN zL 928 as3 zL) 933 as4 zL) 940 as5 (zN zL 945 as6 zL))))))
def m_:Fx:=⟨⟨3,[.int 0],3,.cons .bL .nil,.no⟩,(FA 0 [1718379891,28542640894207341,1953460339]),[]⟩
noncomputable def R8:DL:=36
noncomputable def XY{α:Type}(l:DM α):DQ (α×DM α):=match l with|a::r=>DK (a,r)|[]=>DP
noncomputable abbrev pw:TK:=aI3
noncomputable def VP:DM GT->DL->DM DL->EQ
 |[],_,_=>[]|o::os,n,as=>oe (XY as) [] λ p=>EN (EG n p.1) (EN o.isFreed (VP os (GH n) p.2) ((p.1,o)::VP os (GH n) p.2)) (VP os (GH n) as)
noncomputable def Vi:DM (Tx×DS):=(["len", "max", "all", "sorted"].map λ s=>((LB s).cps.toList,fp s))++(["tuple", "list", "dict", "str", "zip", "range", "enumerate", "reversed"].map λ s=>((LB s).cps.toList,Dv s))
noncomputable def E9:Tx:=(LB "TraitFault").cps.toList
noncomputable def awO:DM DL:=[0,2,3,29,38,39,87,88,103,138,139,144,222,223,228,251,252,254,291,292,324,325,384,455,456,561,562,574,575,583,584,593,594,614,615,635,636,648,657,658,670,686,687,719,720,824,825]
noncomputable def awP:DM DL:=[35,36,109,110,114,115,128,129,135,136,148,149,162,163,169,170,183,184,188,189,196,200,201,207,208,214,215,219,220,234,235,239,240,244,245,249,250,260,261,289,309,310,316,317,321,322,342,343,349,350,356,357,361,362,369,376,382,383,390,391,397,398,404,405,411,412,418,419,426,434,440,441,447,448,453,466,467,480,481,487,488,494,495,499,500,506,507,513,514,527,528,534,535,539,540,546,547,553,554,558,559,572,573,590,591,611,612,632,633,654,655,676,677,684,704,705,709,710,716,717,737,738,742,743,747,748,754,755,761,762,766,767,771,772,776,777,784,791,795,796,802,803,809,810,816,817,821,822,835,836,842,843,849,850,856,857,863,864,870,871,875,876,882,883,887,888,894,895,901,902,908,909,915,916,920,921,927,928,932,933,939,940,944,945]
noncomputable abbrev YJ(s:EB):EQ:=VP s.heap.objs.toList 0 awO++VP s.heap.objs.toList 0 awP
def oh(s:EY)(e:DM (DQ Pt)):DM (DQ Pt):=if h:s.ctorIdx=0 then aI7 (motive_2:=λ J=>DM (DQ Pt)) s h λ J args body J J J scope J J J=>[DK (args,scope,body)]else e
def ajX(p:TK):DM (DQ Pt):=p.main.body.flatMap λ s=>oh s (if h:s.ctorIdx=2 then aI6 (motive_2:=λ J=>DM (DQ Pt)) s h λ J J J body J J J J J J J=>body.flatMap λ s=>oh s []else[])
noncomputable def ajS:DM DL:=[21,36,110,115,129,136,149,156,163,170,184,189,196,201,208,215,220,235,240,245,250,261,268,275,289,310,317,322,343,350,357,362,369,376,383,391,398,405,412,419,426,434,441,448,453,467,474,481,488,495,500,507,514,528,535,540,547,554,559,573,591,612,633,655,677,684,705,710,717,738,743,748,755,762,767,772,777,784,791,796,803,810,817,822,836,843,850,857,864,871,876,883,888,895,902,909,916,921,928,933,940,945]
noncomputable def nh(a:DL):DM DL->DM (DQ Pt)->DQ Pt
 |b::bs,d::ds=>EN (EG a b) d (nh a bs ds)|_,_=>DP
noncomputable def Yr(K:EQ):DM (DL×Fx)->DM (DQ Pt)
 |[]=>[]|q::r=>Ka K q.1::Yr K r
noncomputable def Wa:DM (DL×Fx)->DM (DQ Pt)
 |[]=>[]|q::r=>nh q.1 ajS (ajX pw)::Wa r
noncomputable def B7:Tx:=(LB "law").cps.toList
def yg(K:EQ)(s:EB):DU:=S0 K Bq VK Bv SA R8 m_ Vi E9&&oe (VX (KJ K KW) (sx B7)) DT (λ v=>v==.ref 945)&&(s.heap.get? GQ).isSome
def Yf(s:EB):DU×DM (DQ Pt):=(yg (YJ s) s,Yr (YJ s) SA.jH)
noncomputable abbrev Ya(_:EV):DU×DM (DQ Pt):=(DN,Wa SA.jH)
noncomputable def mI:FS:=⟨0,0,0,0⟩
noncomputable def wS:GT:={cls:=.type "tuple",data:=.seq #[]}
noncomputable def wT:GT:={cls:=.none,data:=.fields #[]}
noncomputable def wU:GT:={cls:=.type "code",data:=.fields #[.str (LB "<module>") 182,.str (LB "<module>") 183,
     .str (LB "/claim/cut.py") 184,.int 1 0,.int 0 0,.int 0 0,.int 0 0,
     .int 0 0,.ref 11,.bool DT,.int 181 0,.ref 12,.none,.none,
     .none,.none,.int 185 0,.int 1 0,.str (LB "/claim/cut.py") 186]}
noncomputable def ye:GT:={cls:=.type "frame",slots:= #[DK (.ref 13),DK (.ref 3),DK (.ref 3),DP,DK (.str (LB "__main__") 164),DP,DK (.ref 0)]}
def aD5(P:Params):BT:=
 QJ (boot_o_0 P)
  (QJ (boot_o_1 P) (QJ (boot_o_3 P) (QJ (boot_o_7 P) OT OT) (QJ wS OT OT))
   (QJ (boot_o_5 P) (QJ (boot_o_9 P) OT OT) (QJ wU OT OT)))
  (QJ (boot_o_2 P) (QJ (boot_o_4 P) (QJ (boot_o_8 P) OT OT) (QJ wT OT OT))
   (QJ (boot_o_6 P) (QJ (boot_o_10 P) OT OT) (QJ ye OT OT)))
def Ia:DM EY:=behindTheImports pw
def Wg:PySem.Env:={scope:=pw.main.scope,locals:=mainNs,globals:=mainNs,cells:=[],code:=.ref 13,frame:=DK 14}
def nZ:Code:=.body Ia Wg
def fh(w:EV)(os:Hf):SharedT:=⟨aD5 w.params,15,{},#[],boot_drawn,187,os⟩
def auU:DM EY:=pw.main.body.drop (pw.main.body.length-1)
def q:TK:={pw with main:={pw.main with body:=auU}}
def Ox:DM EA:=((pw.main.body.take (pw.main.body.length-1)).foldl boundBehind []).eraseDups
def V7(w:EV)(s:EB):=
 ((staticsOk (ue pw.main.body) (YV w.params) s.heap&&namesBound pw s.heap&&gensDone s&&laidKept (YV w.params) s.heap),
  aIH q Ox (ue pw.main.body) (λ J=>DN) DN s,Yf s)
theorem aB0:∀(w:EV) (os:Hf),(aIE aIF pw w 11 (DK (.ref 6)) 1 7312 (fh w os) (piecesOf Ia Wg nZ mI [n8 mI])).map (λ r=>(r.1,r.2.2.1,V7 w r.2.1.abs))=DK (.next,nZ,(DN,openGood q Ox,Ya w)):=λ w os=>by
 kernel_rfl
theorem aIK:(defOf q RG.row.name).isSome=DN:=by decide+kernel
theorem aIL:(defOf q RG.row.name).map (λ x=>(x.1.params,x.1.body,x.1.scope))=pw.theDef RG.row.name:=by kernel_rfl
theorem aIJ:(defOf q RG.row.name).bind (λ x=>kwWritten? x.1.params.kwonlyargs x.1.params.kw_defaults)=(defOf q RG.row.name).map (·.2):=by kernel_rfl
theorem aIO:(chainsOk q&&opensWell pw&&(frees RG.row.toRowW&&RG.row.within.isEmpty))=DN:=by decide+kernel
theorem aIQ:RG.row.toRowW.promised:=⟨[.list []],by decide+kernel,by decide+kernel⟩
theorem BI:sx B7=RG.row.name:=by decide+kernel
theorem FB{P:Prop}(h:DT=DN):P:=Bool.noConfusion h
theorem EW{α:Type}{a:α}{P:Prop}(h:(DP:DQ α)=DK a):P:=by cases h
theorem Ch{α:Type}{a:α}{P:Prop}(h:DK a=(DP:DQ α)):P:=by cases h
theorem IK{α:Type}{a:α}{P:Prop}(h:a∈([]:DM α)):P:=EP h KG
theorem Mt{a b:DU}(h:a=DN)(k:b=DN):(a&&b)=DN:=Lk.mpr ⟨h,k⟩
theorem p63:((2^63:DL):DY)=2^63:=rfl
theorem wq(h:k<2^63):(k:DY)<2^63:=p63▸UY.mpr h
theorem gj{n:DY}(h:n.natAbs<2^63):n<2^63:=ag3 Int.le_natAbs (wq h)
theorem ajI{n:DY}(h:n.natAbs<2^63): -(2^63)<=n:=Int.neg_le_of_neg_le (ai (gj (n:= -n) ((Int.natAbs_neg n).symm▸h)))
theorem av4(n:DL): -(2^63)<=(n:DY):=ag2 (by decide) (YI n)
theorem aAA:(n:DY)-1=(n:DY)-1-((0:DL):DY):=(N8 _).symm
theorem aAD:((n:DY)-1-(n:DY))= -1:=by rw[N7,Int.add_comm,<-N7,Int.sub_self];rfl
theorem aAH:(n:DY)-(k:DY)-1=(n:DY)-((k+1:DL):DY):=N7 _ _ _
theorem up1(m:DL):(((m+1:DL):DY)-0-1)/1+1=((m+1:DL):DY):=by
 rw[N8,ag1];exact ak _ 1
theorem bk1(m:DL):((((m+1:DL):DY)-1-(-1)-1)/(- -1)+1).toNat=m+1:=by
 rw[show(- -1:DY)=1 from rfl,ag1,Int.sub_neg,ak,ak];rfl
theorem aBC(h:i<n):PySem.seqIndex? (i:DY) n=DK i:=by
 show(if(decide (0<=if(i:DY)<0 then(i:DY)+n else i)&&decide ((if(i:DY)<0 then(i:DY)+n else i)<n))=DN then DK (if(i:DY)<0 then(i:DY)+n else i).toNat else DP)=DK i;rw[FU (ag6.mpr (YI i)),GG (Lk.mpr ⟨Bg (YI i),Bg (UY.mpr h)⟩)];rfl
theorem ax1(i:DL):¬(i:DY)<0:=ag6.mpr (YI i)
set_option genInjectivity true in
inductive O where
 |list (B:DM V)
 |dict (ks B:DM V)
 |inst (c:DL) (ks:DM DL) (B:DM V)
open Mine.Internal renaming O->aH
variable {o':O}
noncomputable abbrev aS:=DM O
variable {U G τ cI dY:aS}
set_option genInjectivity true in
inductive R(α:Type) where
 |ok (a:α) (U:aS)
 |cD (e:V) (U:aS)
 |bL
open Mine.Internal renaming R->aD
noncomputable abbrev M(α:Type):=aS->R α
open Mine.Internal renaming M->aB
noncomputable def R.bind{α β:Type}(r:R α)(f:α->M β):R β:=match r with
 |.ok a U=>f a U|.cD e U=>.cD e U|.bL=>.bL
noncomputable def M.pure{α:Type}(a:α):M α:=λ U=>.ok a U
noncomputable def M.bind{α β:Type}(x:M α)(f:α->M β):M β:=λ U=>R.bind (x U) f
noncomputable def M.none{α:Type}:M α:=λ J=>.bL
def M.eH{α:Type}(x:DQ α):M α:=λ U=>oe x .bL λ a=>.ok a U
def M.o2{α:Type}(x:DQ (α×aS)):R α:=oe x .bL λ p=>.ok p.1 p.2
def M.st{α:Type}(f:aS->DQ (α×aS)):M α:=λ U=>M.o2 (f U)
def M.rd{α:Type}(f:aS->DQ α):M α:=λ U=>M.eH (f U) U
noncomputable def cQ{α:Type}(t:DU)(x y:M α):M α:=match t with|true=>x|false=>y
theorem ob{α β:Type}{x:DQ α}{f:α->DQ β}{b:β}(h:x.bind f=DK b){P:Prop}(k:∀a,x=DK a->f a=DK b->P):P:=
 match x,h,k with
 |some a,h,k=>k a rfl h
theorem om{α β:Type}{x:DQ α}{f:α->β}{b:β}(h:x.map f=DK b){P:β->Prop}(k:∀a,x=DK a->P (f a)):P b:=
 match x,h,k with
 |some a,h,k=>EJ h▸k a rfl
theorem EO{α:Type}{c:DU}{x:DQ α}{b:α}(h:og c x=DK b){P:Prop}(k:c=DN->x=DK b->P):P:=
 match c,h,k with
 |true,h,k=>k rfl h
theorem FH{α:Type}{x y:DQ α}{b:α}(h:oo x y=DK b){P:Prop}(k:x=DK b->P)(k':y=DK b->P):P:=
 match x,h,k with
 |none,h,_=>k' h|some _,h,k=>k h
theorem KD{α β:Type}{x:DQ α}{d:DQ β}{f:α->DQ β}{b:β}(h:oe x d f=DK b){P:Prop}(k:x=DP->d=DK b->P)(k':∀a,x=DK a->f a=DK b->P):P:=
 match x,h,k,k' with
 |none,h,k,_=>k rfl h|some a,h,_,k'=>k' a rfl h
theorem WA{α β:Type}{a c:α}{b d:β}(h:DK (a,b)=DK (c,d)){P:α->β->Prop}(k:P a b):P c d:=(YQ (EJ h)).1▸(YQ (EJ h)).2▸k
theorem HS{β α:Type}(f:β->DQ α)(g:α->β)(G_:∀v,oe (f v) v g=v){v:β}{i:α}(h:f v=DK i):v=g i:=(G_ v).symm.trans (by rw[h];rfl)
noncomputable abbrev Lv:=DM (DQ V)
variable {m m':Lv}
noncomputable def GZ(v:V):DQ (DM V):=match v with|.aR i=>DK i|_=>DP
noncomputable def QO(v:V):DQ (DM V):=match v with|.aX i=>DK i|_=>DP
noncomputable def FI(v:V):DQ DL:=match v with|.ref i=>DK i|_=>DP
noncomputable def Dz(v:V):DQ (DM V×DM V):=match v with|.bZ a b=>DK (a,b)|_=>DP
noncomputable def Uv(v:V):DQ (DL×DM DL×DM V):=match v with|.obj c a b=>DK (c,a,b)|_=>DP
noncomputable def VG(i:DY):DQ DL:=match i with|.ofNat n=>DK n|.negSucc _=>DP
noncomputable def oL(o:O):DQ (DM V):=match o with|.list i=>DK i|_=>DP
noncomputable def oD(o:O):DQ (DM V×DM V):=match o with|.dict a b=>DK (a,b)|_=>DP
noncomputable def oI(o:O):DQ (DL×DM DL×DM V):=match o with|.inst c a b=>DK (c,a,b)|_=>DP
theorem Ea{i:DY}(h:HX v=DK i):v=.int i:=HS HX .int (λ v=>by cases v<;>rfl) h
theorem Ut{i:DU}(h:VF v=DK i):v=.bool i:=HS VF .bool (λ v=>by cases v<;>rfl) h
theorem IP{i:Tx}(h:GJ v=DK i):v=.str i:=HS GJ .str (λ v=>by cases v<;>rfl) h
theorem MB{i:DM V}(h:GZ v=DK i):v=.aR i:=HS GZ .aR (λ v=>by cases v<;>rfl) h
theorem OI{i:DM V}(h:QO v=DK i):v=.aX i:=HS QO .aX (λ v=>by cases v<;>rfl) h
theorem IX(h:FI v=DK i):v=.ref i:=HS FI .ref (λ v=>by cases v<;>rfl) h
theorem Uu{i:DM V×DM V}(h:Dz v=DK i):v=.bZ i.1 i.2:=HS Dz (λ i=>.bZ i.1 i.2) (λ v=>by cases v<;>rfl) h
theorem T6{i:DL×DM DL×DM V}(h:Uv v=DK i):v=.obj i.1 i.2.1 i.2.2:=HS Uv (λ i=>.obj i.1 i.2.1 i.2.2) (λ v=>by cases v<;>rfl) h
theorem Bz(h:UE v=DN):v=.none:=
 have G_:∀v,(match UE v with|true=>V.none|false=>v)=v:=λ v=>by cases v<;>rfl
 (G_ v).symm.trans (by rw[h])
theorem XP{v:O}{i:DM V}(h:oL v=DK i):v=.list i:=HS oL .list (λ v=>by cases v<;>rfl) h
theorem Ju{v:O}{i:DM V×DM V}(h:oD v=DK i):v=.dict i.1 i.2:=HS oD (λ i=>.dict i.1 i.2) (λ v=>by cases v<;>rfl) h
theorem pZ{v:O}{i:DL×DM DL×DM V}(h:oI v=DK i):v=.inst i.1 i.2.1 i.2.2:=HS oI (λ i=>.inst i.1 i.2.1 i.2.2) (λ v=>by cases v<;>rfl) h
theorem Ht{i:DY}(h:VG i=DK n):i=.ofNat n:=HS VG .ofNat (λ v=>by cases v<;>rfl) h
theorem LH{α:Type}{l:DM α}{v:α}(h:bN l=DK v):l=[v]:=HS bN (λ v=>[v]) (λ l=>by cases l with|nil=>rfl|cons a l=>cases l<;>rfl) h
theorem Gi{α:Type}{l:DM α}{v:α×α}(h:eM l=DK v):l=[v.1,v.2]:=HS eM (λ v=>[v.1,v.2]) (λ l=>by cases l with|nil=>rfl|cons a l=>cases l with|nil=>rfl|cons b l=>cases l<;>rfl) h
theorem HN{α:Type}{l:DM α}(h:FV l=DN):l=[]:=by cases l with|nil=>rfl|cons=>cases h
noncomputable def LG(t:Tx):DU:=t.all (λ c=>HC c 1114112)&&HC t.length 100000
noncomputable def IZ(a:DL):DM DL->DM V->DQ V
 |k::ks,l=>(match l with
  |v::B=>(match EG a k with|true=>DK v|false=>IZ a ks B)|[]=>DP)
 |[],_=>DP
theorem avD{ks:DM DL}(h:EG a k=DN):IZ a (k::ks) (v::B)=DK v:=DX (λ b=>match b with|true=>DK v|false=>IZ a ks B) h
theorem avC{ks:DM DL}(h:EG a k=DT):IZ a (k::ks) (v::B)=IZ a ks B:=DX (λ b=>match b with|true=>DK v|false=>IZ a ks B) h
noncomputable def IL(a:DL)(v:V):DM DL->DM V->DM DL×DM V
 |k::ks,l=>(match l with
  |w::B=>(match EG a k with
   |true=>(k::ks,v::B)|false=>(k::(IL a v ks B).1,w::(IL a v ks B).2))
  |[]=>([a],[v]))
 |[],_=>([a],[v])
theorem Zd{ks:DM DL}{w:V}(h:EG a k=DN):IL a v (k::ks) (w::B)=(k::ks,v::B):=DX (λ b=>match b with|true=>(k::ks,v::B)|false=>(k::(IL a v ks B).1,w::(IL a v ks B).2)) h
theorem Pq{ks:DM DL}{w:V}(h:EG a k=DT):IL a v (k::ks) (w::B)=(k::(IL a v ks B).1,w::(IL a v ks B).2):=DX (λ b=>match b with|true=>(k::ks,v::B)|false=>(k::(IL a v ks B).1,w::(IL a v ks B).2)) h
mutual
noncomputable def dp:V->DL
 |.aR B=>GH (VL B)|.aX B=>GH (VL B)|_=>0
noncomputable def VL:DM V->DL
 |[]=>0|v::B=>Nat.max (dp v) (VL B)
end
mutual
noncomputable def NT:V->V->DU
 |.none,b=>UE b|.bool x,b=>oe (VF b) (oe (HX b) DT λ j=>(if x then 1 else 0)==j) λ y=>x==y
 |.int x,b=>oe (HX b) (oe (VF b) DT λ y=>x==(if y then 1 else 0)) λ y=>x==y
 |.str x,b=>oe (GJ b) DT (FT x)|.aR x,b=>oe (GZ b) DT (VN x)|.aX x,b=>oe (QO b) DT (VN x)|_,_=>DT
noncomputable def VN:DM V->DM V->DU
 |[],l=>FV l|a::x,l=>match l with|b::y=>NT a b&&VN x y|[]=>DT
noncomputable def ID:V->DU
 |.none=>DN|.bool _=>DN|.int _=>DN|.str t=>LG t|.aR B=>IE B|.aX B=>IE B|_=>DT
noncomputable def IE:DM V->DU
 |[]=>DN|v::B=>ID v&&IE B
end
def GU(U:aS)(v:V):DQ (DM V):=oo (QO v) ((FI v).bind λ i=>(U[i]?).bind oL)
def TX(U:aS)(v:V):V:=oe (GU U v) v .aX
def Bx(v:V):DU:=ID v&&FW (dp v) 60
def Wh(x y:V):DQ DU:=oo ((GJ x).bind λ a=>(GJ y).bind λ b=>DK (FT a b)) (og (Bx x) (og (Bx y) (DK (NT x y))))
def VM(U:aS)(a b:V):DQ DU:=oo ((GU U a).bind λ x=>(GU U b).bind λ y=>og (!EG x.length y.length) (DK DT)) (Wh (TX U a) (TX U b))
noncomputable def Dy(x:V):DM V->DU
 |[]=>DT|v::B=>NT v x||Dy x B
noncomputable def GN:DM V->DU
 |[]=>DN|v::B=>oe (GJ v) DT LG&&GN B
noncomputable def KV(t:Tx):DM V->DQ DL
 |[]=>DP|u::ks=>match oe (GJ u) DT (FT t)with
  |true=>DK 0|false=>(KV t ks).map GH
mutual
noncomputable def MF:V->DU
 |.none=>DN|.int _=>DN|.str t=>LG t|.aR B=>JF B|_=>DT
noncomputable def JF:DM V->DU
 |[]=>DN|v::B=>MF v&&JF B
end
def JZ(U:aS)(v:V):DQ (DM V×DM V):=oo (Dz v) ((FI v).bind λ i=>(U[i]?).bind oD)
def VO(ks B:DM V)(t:Tx):DQ (DQ V):=og (GN ks) (og (LG t) (oe (KV t ks) (DK DP) λ n=>(B[n]?).map DK))
def Nx(ks B:DM V)(k:V)(ts:DM V):DQ (DQ V):=og (JF ts) (og (FW (VL ts) 50) (match ks with
 |[]=>DK DP|k'::r=>og (FV r) (og (NT k' k) (og (MF k') (og (FW (dp k') 50) ((bN B).map DK))))))
def HY(ks B:DM V)(k:V):DQ (DQ V):=oo ((GJ k).bind (VO ks B)) ((GZ k).bind (Nx ks B k))
def XS(ks B:DM V)(k v:V)(t:Tx):DQ (DM V×DM V):=og (GN ks) (og (LG t) (og (HC ks.length 100000) (oe (KV t ks) (DK (ks++[k],B++[v])) λ n=>DK (ks,B.set n v))))
def W?(ks:DM V)(k v:V)(ts:DM V):DQ (DM V×DM V):=og (JF ts) (og (FW (VL ts) 50) (og (FV ks) (DK ([k],[v]))))
def XF(ks B:DM V)(k v:V):DQ (DM V×DM V):=oo ((GJ k).bind (XS ks B k v)) ((GZ k).bind (W? ks k v))
def XU(U:aS)(v:V):DQ (DM V):=oo (GZ v) (GU U v)
def Jb(B:DM V)(i:DY):DQ V:=match i with
 |.ofNat n=>B[n]?|.negSucc n=>og (FW (GH n) B.length) (B[B.length-GH n]?)
noncomputable def cR(B:DM V)(k:DY):DM V:=match k with
 |.ofNat n=>B.take n|.negSucc n=>B.take (B.length-GH n)
noncomputable def GE(n:DL):DU:=HC n 1000000
noncomputable def WG:DM V->DU
 |[]=>DT|_::_=>DN
def Dc(U:aS)(v:V):DQ DU:=oo (VF v) (oo (og (UE v) (DK DT)) ((GU U v).bind λ B=>og (GE B.length) (DK (WG B))))
noncomputable def Ms:DM V->DQ DU
 |[]=>DK DN|v::B=>(VF v).bind λ b=>(Ms B).map λ r=>b&&r
noncomputable def Pn:DM V->DQ (DM V×DM V)
 |[]=>DK ([],[])|v::r=>(GZ v).bind λ l=>(eM l).bind λ p=>(Pn r).map λ q=>(p.1::q.1,p.2::q.2)
noncomputable def Io:DM V->DM V->DM V->DM V->DQ (DM V×DM V)
 |[],q,ks,B=>og (FV q) (DK (ks,B))|k::r,q,ks,B=>match q with
  |v::q=>(XF ks B k v).bind λ p=>Io r q p.1 p.2
  |[]=>DP
noncomputable def ZM:DL->DL->DM V
 |a,GH n=>.int a::ZM (GH a) n|_,0=>[]
def QX(v:V):DU:=oe (GZ v) DT λ J=>DN
noncomputable def RD(o:O)(U:aS):DQ (V×aS):=DK (.ref U.length,U++[o])
noncomputable def here(v:V)(U:aS):DQ (V×aS):=DK (v,U)
noncomputable def NQ(x:DY):DU:=HC x.natAbs (2^63)
def YU(o:UW)(x y:DY):DQ DY:=match o with
 |.add=>DK (x+y)|.sub=>DK (x-y)|.jE=>og (NQ x) (og (NQ y) (DK (x * y)))|.fdiv=>og (decide (0<y)) (og (NQ y) (DK (YH x y)))|.hM=>og (decide (0<y)) (og (NQ y) (DK (KO x y)))|.oU=>og (decide (x=10)) (og (decide (y=18)) (DK 1000000000000000000))
def Hp(a b:V)(U:aS):DQ (V×aS):=(GJ a).bind λ x=>(GJ b).bind λ y=>og (LG (x++y)) (here (.str (x++y)) U)
def Hq(a b:V)(U:aS):DQ (V×aS):=(GZ a).bind λ x=>(GZ b).bind λ y=>og (GE (x.length+y.length)) (here (.aR (x++y)) U)
def Ho(a b:V)(U:aS):DQ (V×aS):=(GU U a).bind λ x=>(GU U b).bind λ y=>og (GE (x.length+y.length)) (RD (.list (x++y)) U)
def M?(a b:V)(U:aS):DQ (V×aS):=(GZ a).bind λ x=>(HX b).bind λ y=>og (WG x) (og (decide (y=0)) (here (.aR []) U))
def Ve(o:UW)(a b:V)(U:aS):DQ (V×aS):=oo ((HX a).bind λ x=>(HX b).bind λ y=>(YU o x y).bind λ v=>here (.int v) U) (match o with
 |.add=>oo (Hp a b U) (oo (Hq a b U) (Ho a b U))|.jE=>M? a b U|_=>DP)
def Fb(a:V):DQ DU:=match a with
 |.fn _=>DP|.cls _=>DP|.bZ _ _=>DP|.dW _ _=>DP|.bD _ _=>DP|a=>DK (UE a)
def Oo(a b:V):DQ DU:=og (UE b) (Fb a)
def Oh(U:aS)(x c:V):DQ DU:=oo ((JZ U c).bind λ d=>(HY d.1 d.2 x).map ahL)
 ((XU U c).bind λ B=>og (Bx x) (og (IE B) (og (FW (VL B) 60) (DK (Dy x B)))))
def wt(a b:V):DQ DU:=(HX a).bind λ x=>(HX b).map λ y=>decide (x<y)
def geV(a b:V):DQ DU:=(HX a).bind λ x=>(HX b).map λ y=>decide (y<=x)
def mU(U:aS)(o:SV)(a b:V):DQ DU:=match o with
 |.eq=>VM U a b|.ne=>(VM U a b).map not|.is=>Oo a b|.iV=>(Oo a b).map not|.isIn=>Oh U a b|.kY=>(Oh U a b).map not|.lt=>wt a b|.gt=>wt b a|.ge=>geV a b
def fX(U:aS)(v i:V):DQ V:=oo ((JZ U v).bind λ d=>(HY d.1 d.2 i).bind id)
 ((HX i).bind λ n=>oo ((GZ v).bind λ B=>og (NQ n) (og (GE B.length) (Jb B n)))
  ((GU U v).bind λ B=>(VG n).bind λ n=>og (GE n) B[n]?))
structure Tb where
 glob:DL->DQ V
 fH:DL->DL->DQ (DQ DL)
 init:DL->DQ DL
def Oi(U:aS)(v:V):DQ (DL×DM DL×DM V):=(FI v).bind λ i=>(U[i]?).bind oI
def OL(U:aS)(v:V):DQ (DL×DM DL×DM V):=oo (Uv v) (Oi U v)
def GR(D:Tb)(U:aS)(v:V)(a:DL):DQ V:=(OL U v).bind λ x=>(D.fH x.1 a).bind λ m=>oe m (IZ a x.2.1 x.2.2)
 λ f=>oe (IZ a x.2.1 x.2.2) ((FI v).bind λ i=>DK (.dW f i)) λ J=>DP
def KA(D:Tb)(U:aS)(o:V)(m:DL):DQ DL:=(OL U o).bind λ x=>(D.fH x.1 m).bind λ f=>f.bind λ f=>oe (IZ m x.2.1 x.2.2) (DK f) λ J=>DP
def gJ(b:Bi)(B:DM V)(U:aS):DQ (V×aS):=match b with
 |.bQ=>(bN B).bind λ v=>(XU U v).bind λ xs=>og (GE xs.length) (here (.int xs.length) U)
 |.tuple=>(bN B).bind λ v=>oo ((GZ v).bind λ xs=>here (.aR xs) U) ((GU U v).bind λ xs=>og (GE xs.length) (here (.aR xs) U))
 |.list=>(bN B).bind λ v=>(XU U v).bind λ xs=>og (GE xs.length) (RD (.list xs) U)
 |.dict=>(bN B).bind λ v=>(GU U v).bind λ xs=>(Pn xs).bind λ p=>og (GN p.1) ((Io p.1 p.2 [] []).bind λ q=>RD (.dict q.1 q.2) U)
 |.str=>(bN B).bind λ v=>(HX v).bind λ i=>(VG i).bind λ n=>og (HC n 10) (here (.str [48+n]) U)
 |.max=>(eM B).bind λ p=>(HX p.1).bind λ x=>(HX p.2).bind λ y=>here (.int (if x<y then y else x)) U
 |.all=>(bN B).bind λ v=>(GU U v).bind λ xs=>(Ms xs).bind λ r=>og (GE xs.length) (here (.bool r) U)
 |.sorted=>(bN B).bind λ v=>(JZ U v).bind λ d=>oo (og (FV d.1) (RD (.list []) U)) ((bN d.1).bind λ k=>(GJ k).bind λ t=>og (LG t) (RD (.list [.str t]) U))
 |.lV=>(eM B).bind λ p=>(GZ p.1).bind λ x=>(GZ p.2).bind λ y=>og (FV x) (og (FV y) (RD (.list []) U))
noncomputable def acB:DL:=110425311047777
noncomputable def acC:DL:=110425311311973
noncomputable def acE:DL:=7368560
noncomputable def r7:DL:=7628135
noncomputable def acD:DL:=517097156201
inductive Bm where|append|extend|pop|get|index
def U6:Bm->DL
 |.append=>acB|.extend=>acC|.pop=>acE|.get=>r7|.index=>acD
def QV(b:Bm)(a:DL):DQ Bm:=og (EG a (U6 b)) (DK b)
def RB(U:aS)(v:V):DQ (DM V):=(FI v).bind λ i=>(U[i]?).bind oL
def iP(U:aS)(x:V)(a:DL):DQ Bm:=oo ((RB U x).bind λ J=>oo (QV .append a) (oo (QV .extend a) (QV .pop a)))
 (oo ((JZ U x).bind λ J=>QV .get a) ((GJ x).bind λ J=>QV .index a))
def UA(ks B:DM V)(k d:V):DQ V:=(GJ k).bind λ J=>(HY ks B k).map λ r=>r.getD d
def ZR(o:V)(U:aS)(u:V)(B:DM V):DQ (V×aS):=(FI o).map λ i=>(u,U.set i (.list B))
def Xm(o v:V):DU:=oe (FI o) DN λ i=>oe (FI v) DT (EG i)
def gK(b:Bm)(o:V)(B:DM V)(U:aS):DQ (V×aS):=match b with
 |.append=>(bN B).bind λ v=>(RB U o).bind λ xs=>og (GE xs.length) (ZR o U .none (xs++[v]))
 |.extend=>(bN B).bind λ v=>(RB U o).bind λ xs=>(XU U v).bind λ ys=>og (!Xm o v) (og (GE (xs.length+ys.length)) (ZR o U .none (xs++ys)))
 |.pop=>og (FV B) ((RB U o).bind λ xs=>og (GE xs.length) ((xs[xs.length-1]?).bind λ v=>ZR o U v (xs.take (xs.length-1))))|.get=>(JZ U o).bind λ d=>(oo ((bN B).bind λ k=>UA d.1 d.2 k .none) ((eM B).bind λ p=>UA d.1 d.2 p.1 p.2)).bind λ v=>here v U
 |.index=>(bN B).bind λ v=>(GJ v).bind λ t=>(bN t).bind λ c=>(GJ o).bind λ u=>og (FT u [88,89]) (oo (og (EG c 88) (here (.int 0) U)) (og (EG c 89) (here (.int 1) U)))
noncomputable abbrev JM:=DL->DM V->M V
variable {o oa:JM}
def Co(v:V)(r:R V):R V:=match r with
 |.ok u U=>M.o2 (og (UE u) (here v U))|_=>.bL
def Xz(D:Tb)(o:JM)(c:DL)(B:DM V):M V:=λ U=>oe (D.init c) .bL λ f=>Co (.ref U.length) (o f (.ref U.length::B) (U++[.inst c [] []]))
def WY(D:Tb)(o:JM)(f:V)(B:DM V):M V:=match f with
 |.fn a=>o a B|.cls c=>Xz D o c B|.dW a i=>o a (.ref i::B)|_=>M.none
inductive Fl where
 |next
 |ret (v:V)
def Kg(D:Tb)(o:V)(a:DL)(v:V)(U:aS):DQ (HI×aS):=(Oi U o).bind λ x=>(D.fH x.1 a).bind λ m=>og (oe m DN λ J=>DT) (og (HC x.2.1.length 900)
 ((FI o).map λ i=>((),U.set i (.inst x.1 (IL a v x.2.1 x.2.2).1 (IL a v x.2.1 x.2.2).2))))
def Nr(U:aS)(v:V):DQ (DM V×DM V):=(FI v).bind λ i=>(U[i]?).bind oD
def lC(o i v:V)(U:aS):DQ (HI×aS):=oo ((Nr U o).bind λ d=>(XF d.1 d.2 i v).bind λ p=>(FI o).map λ j=>((),U.set j (.dict p.1 p.2)))
 ((RB U o).bind λ xs=>(HX i).bind λ n=>(VG n).bind λ n=>og (HC n xs.length) (og (GE xs.length) ((FI o).map λ j=>((),U.set j (.list (xs.set n v))))))
def LJ(k:Lv->M (Fl×Lv))(r:Fl×Lv):M (Fl×Lv):=match r.1 with
 |.next=>k r.2|.ret _=>M.pure r
noncomputable def Df(f:V->Lv->M (Fl×Lv)):DM V->Lv->M (Fl×Lv)
 |[],a=>M.pure (.next,a)|v::B,a=>M.bind (f v a) (LJ (Df f B))
set_option genCtorIdx false in
inductive JO where
 |dX (B:DM V)
 |cX (i:DL)
set_option genCtorIdx false in
inductive HP where
 |bN (s:JO)
 |zip (a b:JO)
 |dT (a:JO)
variable {bE:HP}
def SN(U:aS)(v:V):DQ JO:=oo ((GZ v).map .dX) (oo ((QO v).map .dX) ((FI v).bind λ i=>((U[i]?).bind oL).map λ J=>.cX i))
def PB(U:aS)(s:JO)(k:DL):DQ (DQ V):=match s with
 |.dX B=>DK (B[k]?)|.cX i=>((U[i]?).bind oL).map λ B=>B[k]?
def MN(U:aS)(s:HP)(k:DL):DQ (DQ V):=match s with
 |.bN s=>PB U s k|.zip a b=>(PB U a k).bind λ x=>(PB U b k).map λ y=>x.bind λ x=>y.map λ y=>.aR [x,y]
 |.dT a=>(PB U a k).map λ x=>x.map λ x=>.aR [.int k,x]
noncomputable def KZ(f:V->Lv->M (Fl×Lv))(s:HP):DL->DL->Lv->M (Fl×Lv)
 |0,_,_=>M.none|n+1,k,a=>λ U=>oe (MN U s k) .bL λ x=>oe x (.ok (.next,a) U) λ v=>M.bind (f v a) (LJ (KZ f s n (GH k))) U
noncomputable def Gm(c:Lv->M DU)(f:Lv->M (Fl×Lv)):DL->Lv->M (Fl×Lv)
 |0,_=>M.none|n+1,a=>M.bind (c a) λ b=>cQ b (M.bind (f a) (LJ (Gm c f n))) (M.pure (.next,a))
noncomputable def Yp{α:Type}(r:R α):R α:=match r with
 |.ok a U=>.ok a U|_=>.bL
def ZK{α:Type}(x:M α):M α:=λ U=>Yp (x U)
def WC(f:V->Lv->M (Fl×Lv))(s:HP)(a:Lv):M (Fl×Lv):=match s with
 |.bN s1=>(match s1 with
  |.dX B=>Df f B a|.cX i=>KZ f (.bN (.cX i)) 1000 0 a)
 |.zip x y=>KZ f (.zip x y) 1000 0 a|.dT x=>KZ f (.dT x) 1000 0 a
def C8(v:V)(k:DY)(U:aS):DQ (V×aS):=oo ((GZ v).bind λ B=>og (GE B.length) (here (.aR (cR B k)) U))
 ((GJ v).bind λ t=>(VG k).bind λ n=>og (LG t) (og (FW n t.length) (here (.str (t.take n)) U)))
def Vc(v:V)(U:aS):DQ (V×aS):=oo ((GZ v).bind λ B=>og (GE B.length) (here (.aR B.reverse) U)) ((GU U v).bind λ B=>og (GE B.length) (RD (.list B.reverse) U))
def aDD(B:DM V)(U:aS):DQ (V×aS):=og (GE B.length) (here (.aR B) U)
def avR(B:DM V)(U:aS):DQ (V×aS):=og (GE B.length) (RD (.list B) U)
structure QK where
 D:Tb
 aU:aS->V->DL->DQ V
 sub:aS->V->V->DQ V
 aW:aS->SV->V->V->DQ DU
 bi:Bi->DM V->aS->DQ (V×aS)
 dW:aS->V->DL->DQ DL
 iP:aS->V->DL->DQ Bm
 bm:Bm->V->DM V->aS->DQ (V×aS)
 setItem:V->V->V->aS->DQ (HI×aS)
 nr:O->DU
 bx:DL->DU
 kp:V->Kp->DU
 ru:DL->DM V->DQ (M V)
def EE(D:Tb):QK:=⟨D,GR D,fX,mU,gJ,KA D,iP,gK,lC,λ J=>DN,λ J=>DN,λ J J=>DN,λ J J=>DP⟩
def LW(r:M V):M V×M DU:=(r,M.bind r λ v=>M.rd λ U=>Dc U v)
noncomputable def ZN(m:Lv)(x:DL):DQ V:=(m[x]?).bind id
def ayE(x y:M V):M V:=M.bind x λ v=>M.bind (M.rd λ U=>Dc U v) λ t=>cQ t (M.pure v) y
def ak0(x y:M V):M V:=M.bind x λ v=>M.bind (M.rd λ U=>Dc U v) λ t=>cQ t y (M.pure v)
def Kb(d k v:V):M HI:=M.st λ U=>(GJ k).bind λ J=>lC d k v U
noncomputable def Uo(o:O)(f:V->M V):M V:=λ U=>f (.ref U.length) (U++[o])
def anL(x y:M V):M V:=Uo (.dict [] []) λ d=>M.bind x λ k=>M.bind y λ v=>M.bind (Kb d k v) λ J=>M.pure d
def K?(P:QK)(o:JM)(x:V)(a:DL)(H:M (DM V)):M V:=λ U=>oe (P.dW U x a) (oe (P.iP U x a) .bL λ b=>M.bind H (λ B=>M.st (P.bm b x B)) U) λ f=>M.bind H (λ B=>o f (x::B)) U
def pg(d:V)(r:Fl×Lv):M V:=match r.1 with|.next=>M.pure d|.ret _=>M.none
def Vv(o:O)(bE:M HP)(m:Lv)(f:V->V->Lv->M (Fl×Lv)):M V:=M.bind bE λ s=>Uo o λ d=>M.bind (ZK (WC (f d) s m)) (pg d)
def aC7(B:DM V)(U:aS):DQ HP:=(eM B).bind λ p=>(SN U p.1).bind λ u=>(SN U p.2).map λ v=>.zip u v
def aC4(B:DM V)(U:aS):DQ HP:=(bN B).bind λ x=>og (!QX x) ((SN U x).map .dT)
def aC5(B:DM V):DQ HP:=(bN B).bind λ x=>(HX x).bind λ i=>(VG i).bind λ n=>og (HC n 1000) (DK (.bN (.dX (ZM 0 n))))
def aC6(B:DM V):DQ HP:=(bN B).bind λ x=>(GZ x).bind λ u=>og (GE u.length) (DK (.bN (.dX u.reverse)))
section
variable (P:QK)(o:JM)
mutual
noncomputable def EX:E->Lv->M V×M DU
 |.loc x,m=>LW (M.eH (ZN m x))|.bJ g,_=>LW (M.eH (P.D.glob g))|.k v,_=>LW (M.pure v)|.aR H,m=>LW (M.bind (HL H m).1 λ B=>M.st (aDD B))|.aX H,m=>LW (M.bind (HL H m).1 λ B=>M.st (avR B))|.fE,_=>LW (M.st (RD (.dict [] [])))|.kA a b,m=>LW (anL (EX a m).1 (EX b m).1)|.aU e a,m=>LW (M.bind (EX e m).1 λ v=>M.rd λ U=>P.aU U v a)|.sub e i,m=>LW (M.bind (EX e m).1 λ v=>M.bind (EX i m).1 λ j=>M.rd λ U=>P.sub U v j)|.jI e k,m=>LW (M.bind (EX e m).1 λ v=>M.st (C8 v k))|.jB e,m=>LW (M.bind (EX e m).1 λ v=>M.st (Vc v))|.bV op a b,m=>LW (M.bind (EX a m).1 λ x=>M.bind (EX b m).1 λ y=>M.st (Ve op x y))|.aW c a b,m=>(M.bind (EX a m).1 λ x=>M.bind (EX b m).1 λ y=>M.rd λ U=>(P.aW U c x y).map .bool,
  M.bind (EX a m).1 λ x=>M.bind (EX b m).1 λ y=>M.rd λ U=>P.aW U c x y)
 |.or a b,m=>(ayE (EX a m).1 (EX b m).1,M.bind (EX a m).2 λ t=>cQ t (M.pure DN) (EX b m).2)|.and a b,m=>(ak0 (EX a m).1 (EX b m).1,M.bind (EX a m).2 λ t=>cQ t (EX b m).2 (M.pure DT))|.not a,m=>(M.none,M.bind (EX a m).2 λ b=>M.pure (!b))|.cH c a b,m=>(M.bind (EX c m).2 λ t=>cQ t (EX a m).1 (EX b m).1,M.bind (EX c m).2 λ t=>cQ t (EX a m).2 (EX b m).2)|.call f H,m=>LW (M.bind (EX f m).1 λ g=>M.bind (HL H m).1 λ B=>WY P.D o g B)|.bi b H,m=>LW (M.bind (HL H m).1 λ B=>M.st (P.bi b B))|.bK e a H,m=>LW (M.bind (EX e m).1 λ x=>K? P o x a (HL H m).1)|.comp fF x it ifs,m=>LW (Vv (.list []) (NU it m) m λ d v m=>M.bind (IY x v m) λ m'=>M.bind (HL ifs m').2 λ b=>
   cQ b (M.bind (EX fF m').1 λ y=>M.bind (M.st (gK .append d [y])) λ J=>M.pure (.next,m')) (M.pure (.next,m')))
 |.iG a b x it,m=>LW (Vv (.dict [] []) (NU it m) m λ d v m=>M.bind (IY x v m) λ m'=>M.bind (EX a m').1 λ k=>M.bind (EX b m').1 λ y=>M.bind (Kb d k y) λ J=>M.pure (.next,m'))|.bL,_=>(M.none,M.none)
noncomputable def HL:Es->Lv->M (DM V)×M DU
 |.nil,_=>(M.pure [],M.pure DN)|.cons e H,m=>(M.bind (EX e m).1 λ v=>M.bind (HL H m).1 λ B=>M.pure (v::B),
  M.bind (EX e m).2 λ b=>cQ b (HL H m).2 (M.pure DT))
noncomputable def NU:It->Lv->M HP
 |.seq e,m=>M.bind (EX e m).1 λ v=>M.rd λ U=>(SN U v).map .bN
 |.zip H,m=>M.bind (HL H m).1 λ B=>M.rd (aC7 B)
 |.dT H,m=>M.bind (HL H m).1 λ B=>M.rd (aC4 B)
 |.range H,m=>M.bind (HL H m).1 λ B=>M.eH (aC5 B)
 |.gO H,m=>M.bind (HL H m).1 λ B=>M.eH (aC6 B)
noncomputable def IY:T->V->Lv->M Lv
 |.loc x,v,m=>M.pure (m.set x (DK v))|.aR ts,v,m=>M.bind (M.eH (GZ v)) λ B=>cQ (EG (LL ts) B.length) (MY ts B m) M.none
 |.aU e a,v,m=>M.bind (EX e m).1 λ x=>M.bind (M.st (Kg P.D x a v)) λ J=>M.pure m
 |.sub e i,v,m=>M.bind (EX e m).1 λ x=>M.bind (EX i m).1 λ j=>M.bind (M.st (P.setItem x j v)) λ J=>M.pure m
noncomputable def MY:Ts->DM V->Lv->M Lv
 |.nil,B,m=>cQ (FV B) (M.pure m) M.none|.cons t ts,l,m=>match l with
  |v::B=>M.bind (IY t v m) λ m'=>MY ts B m'
  |[]=>M.none
end
def Kt(x:DL)(h:Lv->M (Fl×Lv))(m:Lv)(r:R (Fl×Lv)):R (Fl×Lv):=match r with
 |.ok r G=>.ok r G|.cD e G=>M.bind (h (m.set x (DK e))) (λ r=>M.pure (r.1,r.2.map λ J=>DP)) G|.bL=>.bL
def Zf{α:Type}(B:DM V)(U:aS):R α:=oe (eM B) .bL λ p=>oe (GJ p.1) .bL λ t=>oe (HX p.2) .bL λ i=>.cD (.obj 88 [28542640894207341,1953460339] [.str t,.int i]) U
mutual
noncomputable def JE:S->Lv->M (Fl×Lv)
 |.aV t e,m=>M.bind (EX P o e m).1 λ v=>M.bind (IY P o t v m) λ m'=>M.pure (.next,m')
 |.ex e,m=>M.bind (EX P o e m).1 λ J=>M.pure (.next,m)
 |.ret e,m=>M.bind (EX P o e m).1 λ v=>M.pure (.ret v,m)
 |.bH c a b,m=>M.bind (EX P o c m).2 λ t=>cQ t (FC a m) (FC b m)
 |.for t it body,m=>M.bind (NU P o it m) λ bE=>WC (λ v m=>M.bind (IY P o t v m) λ m'=>FC body m') bE m
 |.jJ c body,m=>ZK<|Gm (λ m=>(EX P o c m).2) (λ m=>FC body m) 1000 m|.raise H,m=>M.bind (HL P o H m).1 λ B=>Zf B
 |.try body x h,m=>λ U=>Kt x (FC h) m (FC body m U)
 |.bL,_=>M.none
noncomputable def FC:Ss->Lv->M (Fl×Lv)
 |.nil,m=>M.pure (.next,m)|.cons s ss,m=>M.bind (JE s m) (LJ (FC ss))
end
end
section
variable (D:Tb)(o:JM)
noncomputable abbrev MW(e:E)(m:Lv):M V:=(EX (EE D) o e m).1
noncomputable abbrev Bn(e:E)(m:Lv):M DU:=(EX (EE D) o e m).2
noncomputable abbrev MX(H:Es)(m:Lv):M (DM V):=(HL (EE D) o H m).1
noncomputable abbrev aoI(H:Es)(m:Lv):M DU:=(HL (EE D) o H m).2
end
noncomputable def GA{α β:Type}(f:α->DQ β):DM α->DQ (DM β)
 |[]=>DK []|a::r=>(f a).bind λ b=>(GA f r).map (b::·)
noncomputable def UL(i:DL):DM DL->DQ DL
 |[]=>DP|j::r=>match EG i j with
  |true=>DK 0|false=>(UL i r).map GH
theorem azB{r:DM DL}(h:EG i j=DN):UL i (j::r)=DK 0:=DX (λ b=>match b with|true=>DK 0|false=>(UL i r).map GH) h
def LU(f:V->DQ V):O->DQ O
 |.list B=>(GA f B).map .list|.dict ks B=>og (JF ks) ((GA f B).map (.dict ks))|.inst c ks B=>(GA f B).map (.inst c ks)
noncomputable def Ec:O->V
 |.list B=>.aX B|.dict ks B=>.bZ ks B|.inst c ks B=>.obj c ks B
section
variable (P:QK)
def QT(U:aS)(n:DL)(keep:DM DL)(g:V->DQ V)(i:DL):DQ V:=match HC i n with
 |true=>DK (.ref i)|false=>oe (UL i keep) ((U[i]?).bind λ o=>og (P.nr o) ((LU g o).map Ec)) λ j=>DK (.ref (n+j))
noncomputable def eA(U:aS)(n:DL)(keep:DM DL):DL->V->DQ V
 |0,_=>DP|f+1,v=>match v with
  |.aR B=>(GA (eA U n keep f) B).map .aR|.aX B=>(GA (eA U n keep f) B).map .aX|.bZ ks B=>og (JF ks) ((GA (eA U n keep f) B).map (.bZ ks))|.obj c ks B=>(GA (eA U n keep f) B).map (.obj c ks)|.ref i=>QT P U n keep (eA U n keep f) i|.dW a i=>og (HC i n) (DK (.dW a i))|.bD k v=>og (P.bx f) (DK (.bD k v))|v=>DK v
def Xr(U:aS)(g:V->DQ V)(i:DL):DQ O:=(U[i]?).bind λ o=>og (P.nr o) (LU g o)
def cY(n:DL)(keep:DM DL)(v:V)(U:aS):DQ (V×aS):=og (FW n U.length) ((eA P U n keep 100 v).bind λ x=>(GA (LU (eA P U n keep 100)) (U.take n)).bind λ a=>(GA (Xr P U (eA P U n keep 100)) keep).map λ b=>(x,a++b))
end
noncomputable def IQ(fn:Fn)(args:DM V):DM V:=args++fn.fZ.drop (fn.fZ.length-(fn.np-args.length))
noncomputable def QS(n:DL):DM DL->V->DM DL
 |[],v=>oe (FI v) [] λ i=>match FW n i with
  |true=>[i]|false=>[]
 |k::p,v=>oe ((GZ v).bind λ B=>B[k]?) [] (QS n p)
noncomputable def ZQ:DL->DL->DM DL
 |0,_=>[]|k+1,n=>n::ZQ k (GH n)
def Fd(G:aS)(n:DL)(v:V):Kp->DM DL
 |.no=>[]|.all=>ZQ (G.length-n) n|.at p=>QS n p v
noncomputable def Cp(r:Fl):V:=match r with
 |.next=>.none|.ret v=>v
def aoX(P:QK)(n:DL)(e:V)(U:aS):R V:=oe (cY P n [] .none U) .bL λ p=>.cD e p.2
def LS(P:QK)(k:Kp)(n:DL)(r:R (Fl×Lv)):R V:=match r with
 |.ok r U=>M.o2 (og (P.kp (Cp r.1) k) (cY P n (Fd U n (Cp r.1) k) (Cp r.1) U))|.cD e U=>aoX P n e U|.bL=>.bL
def frame(fn:Fn)(args:DM V):Lv:=(IQ fn args).map DK++JW (fn.ns-fn.np) DP
def WX(P:QK)(o:JM)(fn:Fn)(args:DM V):M V:=cQ (EG (IQ fn args).length fn.np) (λ U=>LS P fn.keep U.length (FC P o fn.body (frame fn args) U)) M.none
noncomputable def UO(P:QK)(fU:DL->DQ Fn):DL->JM
 |0,f,args=>oe (P.ru f args) M.none id|n+1,f,args=>oe (P.ru f args) (oe (fU f) M.none λ fn=>WX P (UO P fU n) fn args) id
noncomputable abbrev Cr(D:Tb)(fU:DL->DQ Fn):DL->JM:=UO (EE D) fU
theorem Tr.lO{α:Type}{p:DL->α->DU}{a:DL}{v:α}{t:Tr α}(h:t.all p=DN)(e:t.get a=DK v):p a v=DN:=by
 induction t with
 |nI=>exact EW e|node l k u r i j=>
  have h:(p k u&&(l.all p&&r.all p))=DN:=h;have h:=Lk.mp h;have h2:=Lk.mp h.2;have e:(match EG a k with|true=>DK u|false=>match HC a k with|true=>l.get a|false=>r.get a)=DK v:=e;cases q:EG a k with
  |true=>rw[q]at e;exact GV q▸EJ e▸h.1|false=>
   rw[q]at e;cases q2:HC a k with
   |true=>rw[q2]at e;exact i h2.1 e|false=>rw[q2]at e;exact j h2.2 e
structure Cx where
 ρ:DM (DZ×DZ)
 fz:DZ->Prop
variable {c c' c0:Cx}
mutual
noncomputable def JT:V->Aq
 |.none=>.none|.int i=>.int i|.str t=>.str (sx t)|.aR B=>.tuple (ZO B)|_=>.none
noncomputable def ZO:DM V->DM Aq
 |[]=>[]|v::B=>JT v::ZO B
end
mutual
noncomputable def jX:V->DU
 |.aR B=>PP B|.aX B=>PP B|.bZ ks B=>PP ks&&PP B|.obj _ _ B=>PP B|.ref _=>DT|.dW _ _=>DT|.bD _ v=>jX v|_=>DN
noncomputable def PP:DM V->DU
 |[]=>DN|v::B=>jX v&&PP B
end
noncomputable abbrev FK(H:FM FL)(n:DL):GT:={cls:=.type "dict",data:=.dict H n}
section
variable (w:EV)
def hK:V->DY
 |.str t=>PI w (sx t)|k=>UB w.params (JT k)
mutual
inductive VR(c:Cx)(h:ES):V->DS->Prop
 |none:VR c h .none .none
 |bool (b:DU):VR c h (.bool b) (.bool b)
 |int (i:DY) (t:KT):VR c h (.int i) (.int i t)
 |str (x:Tx) (t:KT):VR c h (.str x) (.str (sx x) t)
 |aR {a:DZ} {xs:DM DS} {B:DM V}:IsT h a xs.toArray 0->c.fz a->bI c h B xs->VR c h (.aR B) (.ref a)
 |aX {a:DZ} {xs:DM DS} {n:DL} {B:DM V}:IsL h a xs.toArray n->c.fz a->bI c h B xs->VR c h (.aX B) (.ref a)
 |bZ {a:DZ} {H:DM FL} {n:DL} {ks B:DM V}:h.get? a=DK (FK H.toArray n)->c.fz a->DR c h ks B H->VR c h (.bZ ks B) (.ref a)
 |obj {a d:DZ} {ox:GT} {C:DL} {ks:DM DL} {B:DM V} {H:DM FL} {n:DL}:h.get? a=DK ox->ox.cls=.ref C->ox.dict=DK d->notCls ox=DN->
   h.get? d=DK (FK H.toArray n)->c.fz a->c.fz d->AR c h ks B H->VR c h (.obj C ks B) (.ref a)
 |ref {i:DL} {p:DZ×DZ}:c.ρ[i]? =DK p->VR c h (.ref i) (.ref p.1)
 |fn (a:DZ):VR c h (.fn a) (.ref a)
 |cls (a:DZ):VR c h (.cls a) (.ref a)
 |bD {k:DL} {v:V} {x:DS}:jX v=DN->VR c h v x->VR c h (.bD k v) x
 |dW {a f:DZ} {i:DL} {p:DZ×DZ}:h.get? a=DK (methodObj (.ref f) (.ref p.1))->c.fz a->c.ρ[i]? =DK p->VR c h (.dW f i) (.ref a)
inductive bI(c:Cx)(h:ES):DM V->DM DS->Prop
 |nil:bI c h [] []
 |cons {v:V} {x:DS} {B:DM V} {xs:DM DS}:VR c h v x->bI c h B xs->bI c h (v::B) (x::xs)
inductive AR(c:Cx)(h:ES):DM DL->DM V->DM FL->Prop
 |nil:AR c h [] [] []
 |cons {k:DL} {v:V} {x:DS} {t:KT} {ks:DM DL} {B:DM V} {H:DM FL}:k<256^60->VR c h v x->AR c h ks B H->AR c h (k::ks) (v::B) (⟨PI w (sx (EU k)),.str (sx (EU k)) t,x⟩::H)
inductive DR(c:Cx)(h:ES):DM V->DM V->DM FL->Prop
 |nil:DR c h [] [] []
 |cons {k v:V} {kx x:DS} {ks B:DM V} {H:DM FL}:VR c h k kx->VR c h v x->DR c h ks B H->DR c h (k::ks) (v::B) (⟨hK w k,kx,x⟩::H)
end
def OR(c:Cx)(h:ES):O->DZ×DZ->Prop
 |.list B,p=>∃xs n,IsL h p.1 (ER xs) n/\bI w c h B xs/\p.2=p.1|.dict ks B,p=>∃H n,h.get? p.1=DK (FK (ER H) n)/\DR w c h ks B H/\p.2=p.1|.inst C ks B,p=>h.get? p.1=DK (Bw C p.2)/\∃H n,h.get? p.2=DK (FK (ER H) n)/\AR w c h ks B H
structure aZ(K:EQ)(U:aS)(c:Cx)(h:ES):Prop where
 bQ:c.ρ.length=U.length
 obj:∀(i:DL) (o:O) (p:DZ×DZ),U[i]? =DK o->c.ρ[i]? =DK p->OR w c h o p
 apart:∀(i j:DL) (p q:DZ×DZ),c.ρ[i]? =DK p->c.ρ[j]? =DK q->i≠j->p.1≠q.1/\p.1≠q.2/\p.2≠q.1/\p.2≠q.2
 jQ:∀p∈c.ρ,¬c.fz p.1/\¬c.fz p.2
 dom:∀a,c.fz a->∃o,h.get? a=DK o
 gV:∀a o,K.lookup a=DK o->h.get? a=DK o/\c.fz a
 cC:¬c.fz GQ/\(∀p∈c.ρ,p.1≠GQ/\p.2≠GQ)/\∃o,h.get? GQ=DK o
end
def PL(o:GT):Prop:=∃H n,o.data=.dict H n
structure bM(π:DM DZ)(c:Cx)(h:ES)(c':Cx)(h':ES):Prop where
 ρ:∀(i:DL) (p:DZ×DZ),c.ρ[i]? =DK p->c'.ρ[i]? =DK p
 fz:∀a,c.fz a->c'.fz a
 newfz:∀a,c'.fz a->c.fz a∨h.get? a=DP
 newρ:∀p∈c'.ρ,p∈c.ρ∨(h.get? p.1=DP/\h.get? p.2=DP)
 kf:∀a o,c.fz a->h.get? a=DK o->h'.get? a=DK o
 keep:∀a o,h.get? a=DK o->a∉π->(∀p∈c.ρ,a≠p.1/\a≠p.2)->h'.get? a=DK o∨((a≠GQ/\∃H n,o.data=.dict H n)/\∃sl,h'.get? a=DK {o with slots:=sl})
 dk:∀a o,h.get? a=DK o->PL o->(∀p∈c.ρ,a≠p.1/\a≠p.2)->∃o',h'.get? a=DK o'/\PL o'
 dom:∀a o,h.get? a=DK o->∃o',h'.get? a=DK o'
section
variable {w:EV}{eG:Cx}{cV:ES}{K:EQ}
theorem FZ{a b:DZ}{o:GT}(e:h.get? a=DK o)(n:h.get? b=DP):a≠b:=λ z=>by rw[z,n]at e;cases e
theorem KI{a:DZ}(ha:h.objs.size<=a):h.get? a=DP:=by
 cases q:h.get? a with
 |none=>rfl|some o=>exact EP (HV q) (IG.mpr ha)
theorem JP(d:∀a o,h.get? a=DK o->∃o',h'.get? a=DK o'){a:DZ}(n:h'.get? a=DP):h.get? a=DP:=by
 cases q:h.get? a with
 |none=>rfl|some o=>obtain⟨o',e⟩:=d a o q;rw[n]at e;cases e
theorem Xv{b:DL}(h:a<n)(h':n<=b):a≠b:=λ e=>EP (e▸h) (IG.mpr h')
theorem bM.refl(π:DM DZ)(c:Cx)(h:ES):bM π c h c h:=⟨λ J J e=>e,λ J e=>e,λ J e=>.inl e,λ J e=>.inl e,λ J J J e=>e,λ J J e J J=>.inl e,λ J o e d J=>⟨o,e,d⟩,λ J o e=>⟨o,e⟩⟩
theorem bM.trans(x:bM π c h c' h')(y:bM π c' h' eG cV):bM π c h eG cV where
 ρ i p e:=y.ρ i p (x.ρ i p e)
 fz a e:=y.fz a (x.fz a e)
 newfz a e:=(y.newfz a e).elim (λ q=>x.newfz a q) λ q=>.inr (JP x.dom q)
 newρ p e:=(y.newρ p e).elim (λ q=>x.newρ p q) λ q=>.inr ⟨JP x.dom q.1,JP x.dom q.2⟩
 kf a o f e:=y.kf a o (x.fz a f) (x.kf a o f e)
 keep a o e n q:=by
  have nq:∀p∈c'.ρ,a≠p.1/\a≠p.2:=λ p hp=>(x.newρ p hp).elim (λ r=>q p r) λ r=>⟨FZ e r.1,FZ e r.2⟩;rcases x.keep a o e n q with e1|⟨f1,sl,e1⟩
  ·exact y.keep a o e1 n nq
  ·rcases y.keep a _ e1 n nq with e2|⟨f2,xB,e2⟩
   ·exact .inr ⟨f1,sl,e2⟩
   ·exact .inr ⟨f1,xB,e2⟩
 dk a o e d q:=by
  have nq:∀p∈c'.ρ,a≠p.1/\a≠p.2:=λ p hp=>(x.newρ p hp).elim (λ r=>q p r) λ r=>⟨FZ e r.1,FZ e r.2⟩;obtain⟨o',e1,d1⟩:=x.dk a o e d q;exact y.dk a o' e1 d1 nq
 dom a o e:=by obtain⟨o',e1⟩:=x.dom a o e;exact y.dom a o' e1
theorem bM.dL(x:bM π c h c' h')(q:∀a∈π,a∈hH):bM hH c h c' h' where
 ρ:=x.ρ
 fz:=x.fz
 newfz:=x.newfz
 newρ:=x.newρ
 kf:=x.kf
 keep a o e n r:=x.keep a o e (λ m=>n (q a m)) r
 dk:=x.dk
 dom:=x.dom
theorem bM.drop(x:bM hH c h c' h')(q:∀a∈hH,a∈π∨h.get? a=DP):bM π c h c' h' where
 ρ:=x.ρ
 fz:=x.fz
 newfz:=x.newfz
 newρ:=x.newρ
 kf:=x.kf
 keep a o e n r:=x.keep a o e (λ m=>(q a m).elim n λ z=>FZ e z rfl) r
 dk:=x.dk
 dom:=x.dom
structure dR(c:Cx)(h:ES)(c':Cx)(h':ES):Prop where
 ρ:∀(i:DL) (p:DZ×DZ),c.ρ[i]? =DK p->c'.ρ[i]? =DK p
 fz:∀a,c.fz a->c'.fz a
 keep:∀a o,c.fz a->h.get? a=DK o->h'.get? a=DK o
def TQ(w:EV)(c:Cx)(h:ES)(v:V)(x:DS):Prop:=match v with
 |.none=>x=.none|.bool b=>x=.bool b|.int i=>∃t,x=.int i t|.str i=>∃t,x=.str (sx i) t|.aR B=>∃a xs,x=.ref a/\IsT h a (ER xs) 0/\c.fz a/\bI w c h B xs|.aX B=>∃a xs n,x=.ref a/\IsL h a (ER xs) n/\c.fz a/\bI w c h B xs|.bZ ks B=>∃a H n,x=.ref a/\h.get? a=DK (FK (ER H) n)/\c.fz a/\DR w c h ks B H|.obj C ks B=>∃a d ox H n,x=.ref a/\h.get? a=DK ox/\ox.cls=.ref C/\ox.dict=DK d/\notCls ox=DN/\h.get? d=DK (FK (ER H) n)/\c.fz a/\c.fz d/\AR w c h ks B H|.ref i=>∃p:DZ×DZ,x=.ref p.1/\c.ρ[i]? =DK p|.fn a=>x=.ref a|.cls a=>x=.ref a|.bD _ v=>jX v=DN/\VR w c h v x|.dW f i=>∃a,∃p:DZ×DZ,x=.ref a/\h.get? a=DK (methodObj (.ref f) (.ref p.1))/\c.fz a/\c.ρ[i]? =DK p
set_option tactic.hygienic true in
theorem VR.bW{x:DS}(r:VR w c h v x):TQ w c h v x:=by
 cases r
 case int t=>exact⟨t,rfl⟩
 case str t=>exact⟨t,rfl⟩
 case aR h1 h2 h3=>exact⟨_,_,rfl,h1,h2,h3⟩
 case aX h1 h2 h3=>exact⟨_,_,_,rfl,h1,h2,h3⟩
 case bZ h1 h2 h3=>exact⟨_,_,_,rfl,h1,h2,h3⟩
 case obj h1 h2 h3 h4 h5 h6 h7 h8=>exact⟨_,_,_,_,_,rfl,h1,h2,h3,h4,h5,h6,h7,h8⟩
 case ref e=>exact⟨_,rfl,e⟩
 case bD a b=>exact⟨a,b⟩
 case dW h1 h2 h3=>exact⟨_,_,rfl,h1,h2,h3⟩
 all_goals rfl
@[elab_as_elim] theorem VR.eI{P:aN}{v:V}{x:DS}(r:VR w c h v x){i:DY}(e:HX v=DK i)(k:∀t,P (.int i t)):P x:=by
 obtain⟨t,e⟩:=(Ea e▸r.bW:TQ w c h (.int i) x);exact e▸k t
@[elab_as_elim] theorem VR.eB{P:aN}{v:V}{x:DS}(r:VR w c h v x){i:DU}(e:VF v=DK i)(k:P (.bool i)):P x:=(Ut e▸r.bW:TQ w c h (.bool i) x)▸k
theorem VR.sK{x:DS}(r:VR w c h v x)(e:UE v=DN):x=.none:=(Bz e▸r.bW:TQ w c h .none x)
@[elab_as_elim] theorem VR.eS{P:aN}{v:V}{x:DS}(r:VR w c h v x){i:Tx}(e:GJ v=DK i)(k:∀t,P (.str (sx i) t)):P x:=by
 obtain⟨t,e⟩:=(IP e▸r.bW:TQ w c h (.str i) x);exact e▸k t
@[elab_as_elim] theorem VR.eT{P:aN}{v:V}{x:DS}(r:VR w c h v x){i:DM V}(e:GZ v=DK i)(k:∀a xs,IsT h a (ER xs) 0->c.fz a->bI w c h i xs->P (.ref a)):P x:=by
 obtain⟨a,xs,e,h1,h2,h3⟩:=(MB e▸r.bW:TQ w c h (.aR i) x);exact e▸k a xs h1 h2 h3
@[elab_as_elim] theorem VR.eR{P:aN}{v:V}{x:DS}(r:VR w c h v x){i:DL}(e:FI v=DK i)(k:∀p:DZ×DZ,c.ρ[i]? =DK p->P (.ref p.1)):P x:=by
 obtain⟨p,e,h1⟩:=(IX e▸r.bW:TQ w c h (.ref i) x);exact e▸k p h1
theorem bI.zero(r:bI w c h [] xs):xs=[]:=by cases r;rfl
@[elab_as_elim] theorem bI.el{P:DM DS->Prop}{v:V}{B:DM V}{xs:DM DS}(r:bI w c h (v::B) xs)(k:∀y ys,VR w c h v y->bI w c h B ys->P (y::ys)):P xs:=by cases r with|cons a b=>exact k _ _ a b
@[elab_as_elim] theorem AR.e0{P:DM V->DM FL->Prop}{B:DM V}{H:DM FL}(r:AR w c h [] B H)(k:P [] []):P B H:=by cases r;exact k
@[elab_as_elim] theorem AR.el{P:DM V->DM FL->Prop}{i:DL}{ks:DM DL}{B:DM V}{H:DM FL}(r:AR w c h (i::ks) B H)(k:∀v us x t fs,i<256^60->VR w c h v x->AR w c h ks us fs->P (v::us) (⟨PI w (sx (EU i)),.str (sx (EU i)) t,x⟩::fs)):P B H:=by cases r with|cons a b d=>exact k _ _ _ _ _ a b d
@[elab_as_elim] theorem DR.e0{P:DM V->DM FL->Prop}{B:DM V}{H:DM FL}(r:DR w c h [] B H)(k:P [] []):P B H:=by cases r;exact k
@[elab_as_elim] theorem DR.el{P:DM V->DM FL->Prop}{i:V}{ks B:DM V}{H:DM FL}(r:DR w c h (i::ks) B H)(k:∀v us kx x fs,VR w c h i kx->VR w c h v x->DR w c h ks us fs->P (v::us) (⟨hK w i,kx,x⟩::fs)):P B H:=by cases r with|cons a b d=>exact k _ _ _ _ _ a b d
theorem VR.bB(m:dR c h c' h'){x:DS}(r:VR w c h v x):VR w c' h' v x:=
 VR.rec (motive_1:=λ v x J=>VR w c' h' v x) (motive_2:=λ B xs J=>bI w c' h' B xs) (motive_3:=λ ks B H J=>AR w c' h' ks B H) (motive_4:=λ ks B H J=>DR w c' h' ks B H)
  .none .bool .int .str (λ a b J r=>.aR (m.keep _ _ b a) (m.fz _ b) r) (λ a b J r=>.aX (m.keep _ _ b a) (m.fz _ b) r) (λ a b J r=>.bZ (m.keep _ _ b a) (m.fz _ b) r)
  (λ a e1 e2 e3 b f1 f2 J r=>.obj (m.keep _ _ f1 a) e1 e2 e3 (m.keep _ _ f2 b) (m.fz _ f1) (m.fz _ f2) r) (λ e=>.ref (m.ρ _ _ e)) .fn .cls (λ a J r=>.bD a r) (λ a b e=>.dW (m.keep _ _ b a) (m.fz _ b) (m.ρ _ _ e))
  .nil (λ J J a r=>.cons a r) .nil (λ z J J a r=>.cons z a r) .nil (λ J J J a b r=>.cons a b r) r
theorem bI.imp(G_:∀{v:V} {x:DS},VR w c h v x->VR w c' h' v x){B:DM V}:∀{xs:DM DS},bI w c h B xs->bI w c' h' B xs:=by
 induction B with
 |nil=>exact λ r=>r.zero▸ .nil
 |cons v B ih=>exact λ r=>r.el λ J J a r=>.cons (G_ a) (ih r)
theorem AR.imp(G_:∀{v:V} {x:DS},VR w c h v x->VR w c' h' v x){ks:DM DL}:∀{B:DM V} {H:DM FL},AR w c h ks B H->AR w c' h' ks B H:=by
 induction ks with
 |nil=>exact λ r=>r.e0 .nil
 |cons v B ih=>exact λ r=>r.el λ J J J J J z a r=>.cons z (G_ a) (ih r)
theorem DR.imp(G_:∀{v:V} {x:DS},VR w c h v x->VR w c' h' v x){ks:DM V}:∀{B:DM V} {H:DM FL},DR w c h ks B H->DR w c' h' ks B H:=by
 induction ks with
 |nil=>exact λ r=>r.e0 .nil
 |cons v B ih=>exact λ r=>r.el λ J J J J J a b r=>.cons (G_ a) (G_ b) (ih r)
theorem bI.bB(m:dR c h c' h'){B:DM V}{xs:DM DS}(r:bI w c h B xs):bI w c' h' B xs:=r.imp (.bB m)
theorem AR.bB(m:dR c h c' h'){ks:DM DL}{B:DM V}{H:DM FL}(r:AR w c h ks B H):AR w c' h' ks B H:=r.imp (.bB m)
theorem DR.bB(m:dR c h c' h'){ks B:DM V}{H:DM FL}(r:DR w c h ks B H):DR w c' h' ks B H:=r.imp (.bB m)
theorem bI.length{B:DM V}:∀{xs:DM DS},bI w c h B xs->B.length=xs.length:=by
 induction B with
 |nil=>exact λ r=>r.zero▸rfl
 |cons v B ih=>exact λ r=>r.el λ J J J r=>DX (·+1) (ih r)
theorem bI.append{us:DM V}{ys:DM DS}(q:bI w c h us ys){B:DM V}:∀{xs:DM DS},bI w c h B xs->bI w c h (B++us) (xs++ys):=by
 induction B with
 |nil=>exact λ r=>r.zero▸q
 |cons v B ih=>exact λ r=>r.el λ J J a r=>.cons a (ih r)
theorem bI.get{B:DM V}{v:V}:∀{xs:DM DS} {i:DL},bI w c h B xs->B[i]? =DK v->∃x,xs[i]? =DK x/\VR w c h v x:=by
 induction B with
 |nil=>exact λ J e=>EW e
 |cons u B ih=>exact λ {xs i} r=>r.el λ y ys a r=>match i with
  |0=>λ e=>⟨y,rfl,EJ e▸a⟩
  |i+1=>λ e=>ih (xs:=ys) (i:=i) r e
theorem bI.take{B:DM V}:∀{xs:DM DS},bI w c h B xs->∀n:DL,bI w c h (B.take n) (xs.take n):=by
 induction B with
 |nil=>exact λ r n=>by rw[r.zero,agR,agR];exact .nil
 |cons u B ih=>exact λ r=>r.el λ J J a r n=>match n with
  |0=>.nil|n+1=>.cons a (ih r n)
theorem bI.reverse{B:DM V}:∀{xs:DM DS},bI w c h B xs->bI w c h B.reverse xs.reverse:=by
 induction B with
 |nil=>exact λ r=>r.zero▸ .nil
 |cons u B ih=>exact λ r=>r.el λ J J a r=>by rw[P4,P4];exact .append (.cons a .nil) (ih r)
theorem bI.set{v:V}{x:DS}(q:VR w c h v x){B:DM V}:∀{xs:DM DS},bI w c h B xs->∀n:DL,bI w c h (B.set n v) (xs.set n x):=by
 induction B with
 |nil=>exact λ r n=>r.zero▸ .nil
 |cons u B ih=>exact λ r=>r.el λ J J a r n=>match n with
  |0=>.cons q r|n+1=>.cons a (ih r n)
theorem OR.bB(m:dR c h c' h'){o:O}{p:DZ×DZ}(r:OR w c h o p)(k1:∀o,h.get? p.1=DK o->h'.get? p.1=DK o)(k2:∀o,h.get? p.2=DK o->h'.get? p.2=DK o):OR w c' h' o p:=by
 cases o
 case list=>obtain⟨xs,n,a,b,e⟩:=r;exact⟨xs,n,k1 _ a,b.bB m,e⟩
 case dict=>obtain⟨H,n,a,b,e⟩:=r;exact⟨H,n,k1 _ a,b.bB m,e⟩
 case inst=>obtain⟨a,H,n,b,e⟩:=r;exact⟨k1 _ a,H,n,k2 _ b,e.bB m⟩
theorem OR.dom{o:O}{p:DZ×DZ}(r:OR w c h o p):(∃o,h.get? p.1=DK o)/\∃o,h.get? p.2=DK o:=by
 cases o
 case list=>obtain⟨xs,n,a,b,e⟩:=r;exact⟨⟨_,a⟩,e▸⟨_,a⟩⟩
 case dict=>obtain⟨H,n,a,b,e⟩:=r;exact⟨⟨_,a⟩,e▸⟨_,a⟩⟩
 case inst=>obtain⟨a,H,n,b,e⟩:=r;exact⟨⟨_,a⟩,⟨_,b⟩⟩
@[elab_as_elim] theorem RE{B:DM V}{v:V}{xs:DM DS}(e:bN B=DK v)(ra:bI w c h B xs){P:DM DS->Prop}(k:∀y,VR w c h v y->P [y]):P xs:=
 (LH e▸ra:bI w c h [v] xs).el λ y ys a r=>r.zero▸k y a
@[elab_as_elim] theorem Kx{B:DM V}{v:V×V}{xs:DM DS}(e:Internal.eM B=DK v)(ra:bI w c h B xs){P:DM DS->Prop}(k:∀y z,VR w c h v.1 y->VR w c h v.2 z->P [y,z]):P xs:=
 (Gi e▸ra:bI w c h [v.1,v.2] xs).el λ y ys a r=>r.el (P:=λ ys=>P (y::ys)) λ z zs b r=>r.zero▸k y z a b
theorem aZ.mem{p:DZ×DZ}(_I:aZ w K U c h)(e:c.ρ[i]? =DK p):p∈c.ρ:=JK e
theorem bM.bB(x:bM π c h c' h'):dR c h c' h':=⟨x.ρ,x.fz,x.kf⟩
theorem aZ.mV(I:aZ w K U c h){p:DZ×DZ}(hp:p∈c.ρ):(∃o,h.get? p.1=DK o)/\∃o,h.get? p.2=DK o:=by
 obtain⟨i,hi,e⟩:=Lx hp;have hs:i<U.length:=by rw[<-I.bQ];exact hi
 exact(I.obj i _ p (JU hs) (by rw[JU hi,e])).dom
theorem aZ.lt(I:aZ w K U c h){p:DZ×DZ}(hp:p∈c.ρ):p.1<h.objs.size/\p.2<h.objs.size:=by
 obtain⟨⟨_,a⟩,⟨_,b⟩⟩:=I.mV hp;exact⟨HV a,HV b⟩
theorem aZ.oF(I:aZ w K U c h){a:DZ}(f:c.fz a):a<h.objs.size:=by obtain⟨_,e⟩:=I.dom a f;exact HV e
theorem aZ.fO(I:aZ w K U c h)(gN:∀a∈π,¬c.fz a/\(∀p∈c.ρ,a≠p.1/\a≠p.2)/\a≠GQ)(k:∀a o,a∉π->h.get? a=DK o->h'.get? a=DK o):aZ w K U c h':=by
 have m:dR c h c h':=⟨λ J J e=>e,λ J e=>e,λ a o f e=>k a o (λ q=>(gN a q).1 f) e⟩;refine⟨I.bQ,λ i o p e1 e2=>(I.obj i o p e1 e2).bB m (λ o e=>k _ o (λ q=>((gN _ q).2.1 p (I.mem e2)).1 rfl) e) (λ o e=>k _ o (λ q=>((gN _ q).2.1 p (I.mem e2)).2 rfl) e),I.apart,I.jQ,
  λ a f=>by obtain⟨o,e⟩:=I.dom a f;exact⟨o,k a o (λ q=>(gN a q).1 f) e⟩,λ a o e=>⟨k a o (λ q=>(gN a q).1 (I.gV a o e).2) (I.gV a o e).1,(I.gV a o e).2⟩,I.cC.1,I.cC.2.1,by obtain⟨o,e⟩:=I.cC.2.2;exact⟨o,k _ o (λ q=>(gN _ q).2.2 rfl) e⟩⟩
theorem aZ.eY(I:aZ w K U c h)(k:∀a o,h.get? a=DK o->h'.get? a=DK o):aZ w K U c h':=I.fO (π:=[]) (by simp) λ a o J e=>k a o e
theorem bM.of_keep(hf:∀a∈π,¬c.fz a)(hd:∀a∈π,∀o,h.get? a=DK o->PL o->∃o',h'.get? a=DK o'/\PL o')(k:∀a o,a∉π->h.get? a=DK o->h'.get? a=DK o)(hm:∀a∈π,∀o,h.get? a=DK o->∃o',h'.get? a=DK o'):bM π c h c h':=
 ⟨λ J J e=>e,λ J e=>e,λ J e=>.inl e,λ J e=>.inl e,λ a o f e=>k a o (λ m=>hf a m f) e,λ a o e n J=>.inl (k a o n e),λ a o e d J=>if m:a∈π then hd a m o e d else⟨o,k a o m e,d⟩,λ a o e=>if m:a∈π then hm a m o e else⟨o,k a o m e⟩⟩
theorem bM.eY(k:∀a o,h.get? a=DK o->h'.get? a=DK o):bM π c h c h':=⟨λ J J e=>e,λ J e=>e,λ J e=>.inl e,λ J e=>.inl e,λ a o J e=>k a o e,λ a o e J J=>.inl (k a o e),λ a o e d J=>⟨o,k a o e,d⟩,λ a o e=>⟨o,k a o e⟩⟩
noncomputable def Cx.eP(c:Cx)(a:DZ):Cx:=⟨c.ρ,λ b=>c.fz b∨b=a⟩
theorem aZ.eP(I:aZ w K U c h){a:DZ}(ha:h.objs.size<=a)(k:∀b o,h.get? b=DK o->h'.get? b=DK o)(e:∃o,h'.get? a=DK o):aZ w K U (c.eP a) h':=by
 have m:dR c h (c.eP a) h':=⟨λ J J e=>e,λ J e=>.inl e,λ b o J e=>k b o e⟩;refine⟨I.bQ,λ i o p e1 e2=>(I.obj i o p e1 e2).bB m (λ o e=>k _ o e) (λ o e=>k _ o e),I.apart,λ p hp=> ?_,λ b f=>f.elim (λ f=>by obtain⟨o,e⟩:=I.dom b f;exact⟨o,k b o e⟩) λ f=>f▸e,
  λ a o e=>⟨k a o (I.gV a o e).1,.inl (I.gV a o e).2⟩,λ f=>f.elim I.cC.1 λ q=>by obtain⟨o,e⟩:=I.cC.2.2;exact EP (HV e) (IG.mpr (q▸ha)),I.cC.2.1,by obtain⟨o,e⟩:=I.cC.2.2;exact⟨o,k _ o e⟩⟩
 have lt:=I.lt hp;exact⟨λ f=>f.elim (I.jQ p hp).1 λ q=>EP lt.1 (IG.mpr (q▸ha)),λ f=>f.elim (I.jQ p hp).2 λ q=>EP lt.2 (IG.mpr (q▸ha))⟩
theorem bM.eP{a:DZ}(ha:h.objs.size<=a)(k:∀b o,h.get? b=DK o->h'.get? b=DK o)(xS:h.objs.size<=h'.objs.size):bM π c h (c.eP a) h':=
 ⟨λ J J e=>e,λ J e=>.inl e,λ J e=>e.elim .inl λ q=>.inr (q▸KI ha),λ J e=>.inl e,λ a o J e=>k a o e,λ a o e J J=>.inl (k a o e),λ a o e d J=>⟨o,k a o e,d⟩,λ a o e=>⟨o,k a o e⟩⟩
theorem dR.eP{a:DZ}(k:∀b o,h.get? b=DK o->h'.get? b=DK o):dR c h (c.eP a) h':=⟨λ J J e=>e,λ J e=>.inl e,λ b o J e=>k b o e⟩
theorem dR.fO(k:∀b o,h.get? b=DK o->h'.get? b=DK o):dR c h c h':=⟨λ J J e=>e,λ J e=>e,λ b o J e=>k b o e⟩
noncomputable def Cx.own(c:Cx)(p:DZ×DZ):Cx:=⟨c.ρ++[p],c.fz⟩
theorem dR.own{p:DZ×DZ}(k:∀b o,h.get? b=DK o->h'.get? b=DK o):dR c h (c.own p) h':=
 ⟨λ i q e=>by
  have:i<c.ρ.length:=(JV.mp e).1;show(c.ρ++[p])[i]? =_;rw[KQ this];exact e,λ J e=>e,λ b o J e=>k b o e⟩
theorem aZ.kZ{p:DZ×DZ}{ob:O}(I:aZ w K U c h)(r:OR w (c.own p) h ob p)(fz:¬c.fz p.1/\¬c.fz p.2)(ap:∀q∈c.ρ,p.1≠q.1/\p.1≠q.2/\p.2≠q.1/\p.2≠q.2)(sy:p.1≠GQ/\p.2≠GQ):aZ w K (U++[ob]) (c.own p) h:=by
 have m:dR c h (c.own p) h:=.own λ J J e=>e;have hl:(c.own p).ρ.length=(U++[ob]).length:=by rw[GC,<-I.bQ];exact GC
 have mem:∀q∈(c.own p).ρ,q∈c.ρ∨q=p:=λ q hq=>(OW.mp (show q∈c.ρ++[p]from hq)).imp id λ z=>GY.mp z;have jT:∀(i:DL) (q:DZ×DZ),(c.own p).ρ[i]? =DK q->(i<U.length/\c.ρ[i]? =DK q)∨(i=U.length/\q=p):=λ i q e=>by
  have hi:i<(c.own p).ρ.length:=(JV.mp e).1;rw[hl,GC,List.length_singleton]at hi;have e':(c.ρ++[p])[i]? =DK q:=e;by_cases q':i<U.length
  ·rw[KQ (by rw[I.bQ];exact q')]at e';exact .inl ⟨q',e'⟩
  ·have:i=U.length:=ah0 (P8 hi) (Lz q');rw[this,<-I.bQ,NK]at e';exact .inr ⟨this,(EJ e').symm⟩
 refine⟨hl,λ i o' q e1 e2=> ?_,λ i j q r' e1 e2 kF=> ?_,λ q hq=> ?_,I.dom,I.gV,I.cC.1,λ q hq=> ?_,I.cC.2.2⟩
 ·rcases jT i q e2 with⟨hi,e⟩|⟨rfl,rfl⟩
  ·rw[KQ hi]at e1;exact(I.obj i o' q e1 e).bB m (λ o e=>e) (λ o e=>e)
  ·rw[NK]at e1;cases e1;exact r
 ·rcases jT i q e1 with⟨hi,e⟩|⟨rfl,rfl⟩<;>rcases jT j r' e2 with⟨hj,e'⟩|⟨rfl,rfl⟩
  ·exact I.apart i j q r' e e' kF
  ·have a:=ap q (I.mem e);exact⟨a.1.symm,a.2.2.1.symm,a.2.1.symm,a.2.2.2.symm⟩
  ·exact ap r' (I.mem e')
  ·exact EP rfl kF
 ·rcases mem q hq with z|rfl
  ·exact I.jQ q z
  ·exact fz
 ·rcases mem q hq with z|rfl
  ·exact I.cC.2.1 q z
  ·exact sy
theorem aZ.own(I:aZ w K U c h){p:DZ×DZ}{o:O}(h1:h.objs.size<=p.1)(h2:h.objs.size<=p.2)(k:∀b o,h.get? b=DK o->h'.get? b=DK o)(r:OR w (c.own p) h' o p):aZ w K (U++[o]) (c.own p) h':=
 (I.eY k).kZ r ⟨λ f=>EP (I.oF f) (IG.mpr h1),λ f=>EP (I.oF f) (IG.mpr h2)⟩ (λ q hq=>have l:=I.lt hq;⟨(Xv l.1 h1).symm,(Xv l.2 h1).symm,(Xv l.1 h2).symm,(Xv l.2 h2).symm⟩)
  ⟨λ z=>I.cC.2.2.elim λ J e=>EP (HV e) (IG.mpr (z▸h1)),λ z=>I.cC.2.2.elim λ J e=>EP (HV e) (IG.mpr (z▸h2))⟩
theorem bM.own{p:DZ×DZ}(h1:h.objs.size<=p.1)(h2:h.objs.size<=p.2)(k:∀b o,h.get? b=DK o->h'.get? b=DK o)(xS:h.objs.size<=h'.objs.size):bM π c h (c.own p) h':=
 ⟨(dR.own (c:=c) (h:=h) (h':=h') k).ρ,λ J e=>e,λ J e=>.inl e,λ q hq=>by
  rcases OW.mp (show q∈c.ρ++[p]from hq)with hq|hq
  ·exact .inl hq
  ·rw[GY]at hq;subst hq;exact .inr ⟨KI h1,KI h2⟩,λ a o J e=>k a o e,λ a o e J J=>.inl (k a o e),λ a o e d J=>⟨o,k a o e,d⟩,λ a o e=>⟨o,k a o e⟩⟩
theorem Cx.kZ(I:aZ w K U c h)(p:DZ×DZ):(c.own p).ρ[U.length]? =DK p:=by
 show(c.ρ++[p])[U.length]? =_;rw[<-I.bQ,NK]
theorem aZ.nR(I:aZ w K U c h){p:DZ×DZ}{o:O}(e:c.ρ[i]? =DK p)(k:∀b o,b≠p.1->b≠p.2->h.get? b=DK o->h'.get? b=DK o)(r:OR w c h' o p):aZ w K (U.set i o) c h':=by
 have hp:=I.mem e;have nf:=I.jQ p hp;have m:dR c h c h':=⟨λ J J e=>e,λ J e=>e,λ b o f e=>k b o (λ q=>nf.1 (q▸f)) (λ q=>nf.2 (q▸f)) e⟩;have CG:∃o,h'.get? GQ=DK o:=by
  obtain⟨o,e'⟩:=I.cC.2.2;by_cases q1:GQ=p.1
  ·exact EP q1.symm (I.cC.2.1 p hp).1
  ·by_cases q2:GQ=p.2
   ·exact EP q2.symm (I.cC.2.1 p hp).2
   ·exact⟨o,k _ o q1 q2 e'⟩
 refine⟨by rw[NL];exact I.bQ,λ j o' q e1 e2=> ?_,I.apart,I.jQ,λ a f=>by obtain⟨o,e⟩:=I.dom a f;exact⟨o,m.keep a o f e⟩,λ a o e=>⟨m.keep a o (I.gV a o e).2 (I.gV a o e).1,(I.gV a o e).2⟩,I.cC.1,I.cC.2.1,CG⟩;by_cases kF:i=j
 ·subst kF;rw[e]at e2;cases e2;have hi:i<U.length:=by rw[<-I.bQ];exact(JV.mp e).1
  rw[OV hi]at e1;cases e1;exact r
 ·rw[TA kF]at e1;have ap:=I.apart i j p q e e2 kF;exact(I.obj j o' q e1 e2).bB m (λ o x=>k _ o ap.1.symm ap.2.2.1.symm x) (λ o x=>k _ o ap.2.1.symm ap.2.2.2.symm x)
theorem bM.nR(I:aZ w K U c h){p:DZ×DZ}(e:c.ρ[i]? =DK p)(k:∀b o,b≠p.1->b≠p.2->h.get? b=DK o->h'.get? b=DK o)(hm:∀o,h.get? p.1=DK o->∃o',h'.get? p.1=DK o')(AI:∀o,h.get? p.2=DK o->∃o',h'.get? p.2=DK o'):bM π c h c h':=
 ⟨λ J J e=>e,λ J e=>e,λ J e=>.inl e,λ J e=>.inl e,λ a o f x=>k a o (λ q=>(I.jQ p (I.mem e)).1 (q▸f)) (λ q=>(I.jQ p (I.mem e)).2 (q▸f)) x,
  λ a o x J q=>.inl (k a o (q p (JK e)).1 (q p (JK e)).2 x),λ a o x d q=>⟨o,k a o (q p (JK e)).1 (q p (JK e)).2 x,d⟩,λ a o x=>if q1:a=p.1 then q1▸hm o (q1▸x)else if q2:a=p.2 then q2▸AI o (q2▸x)else⟨o,k a o q1 q2 x⟩⟩
end
inductive dF where
 |fresh
 |kC
 |at(H_:DZ)
abbrev aM:=dF->Prop
variable {jF:aM}
structure afT(lo h:ES)(c:Cx)(a d:DZ)(B:FM DS)(fl:DS)(T:DZ)(oT:GT)(ts:FM DS):Prop where
 lT:lo.get? T=DP
 t1:B[1]? =DK (.ref T)
 t2:T≠a
 t3:T≠d
 t4:h.get? T=DK oT
 t5:oT.data=.fields ts
 t6:ts[3]? =DK fl
 t7:¬c.fz T
 t8:∀p∈c.ρ,T≠p.1/\T≠p.2
def dF.D(lo:ES)(h:ES)(c:Cx)(a d:DZ)(B:FM DS)(fl:DS):Prop:=∃T oT ts,afT lo h c a d B fl T oT ts
structure afS(w:EV)(lo:ES)(c:Cx)(h:ES)(ks:DM DL)(us:DM V)(a d:DZ)(oe:GT)(B:FM DS)(H:DM FL)(n:DL):Prop where
 la:lo.get? a=DP
 ld:lo.get? d=DP
 nr:PP us=DN
 g1:h.get? a=DK oe
 g2:oe.cls=.ref 88
 g3:oe.data=.fields B
 g4:oe.dict=DK d
 g5:h.get? d=DK (FK (ER H) n)
 ar:AR w c h ks us H
 f1:¬c.fz a
 f2:¬c.fz d
 ne:a≠d
 hp:∀p∈c.ρ,(a≠p.1/\a≠p.2)/\d≠p.1/\d≠p.2
def dF.ok(lo h:ES)(c:Cx)(a d:DZ)(B:FM DS)(st:dF):Prop:=match st with
 |.fresh=>B[1]? =DK .none|.kC=>dF.D lo h c a d B .none|.at H_=>dF.D lo h c a d B (JS H_)
def fY(w:EV)(lo:ES)(c:Cx)(h:ES)(e:V)(a:DZ)(st:dF):Prop:=
 ∃oe B d H n ks us,e=.obj 88 ks us/\afS w lo c h ks us a d oe B H n/\st.ok lo h c a d B
section
variable (w:EV)(K:EQ)
def PR{α β:Type}(Rl:Cx->ES->α->β->Prop)(ok:aM)(π:DM DZ)(c:Cx)(s:EB)(r:R α)(Q:β->EB->Prop)(E:aJ):Prop:=match r with
 |.ok v G=>∀c' h' tk x,aZ w K G c' h'->bM π c s.heap c' h'->Rl c' h' v x->Q x {s with heap:=h',toks:=tk}|.cD e G=>∀c' h' tk a st,ok st->aZ w K G c' h'->bM π c s.heap c' h'->fY w s.heap c' h' e a st->E (.ref a) {s with heap:=h',toks:=tk}|.bL=>False
end
def FE(st:dF):Prop:=st=.kC
theorem dF.ok.dS{lo pW:ES}{a d:DZ}{B:FM DS}(hl:∀b,pW.get? b=DP->lo.get? b=DP){st:dF}(r:st.ok pW h c a d B):st.ok lo h c a d B:=by
 obtain _|_|H_:=st
 ·exact r
 ·obtain⟨T,oT,ts,r⟩:=r;exact⟨T,oT,ts,{r with lT:=hl _ r.lT}⟩
 ·obtain⟨T,oT,ts,r⟩:=r;exact⟨T,oT,ts,{r with lT:=hl _ r.lT}⟩
theorem fY.dS{w:EV}{lo pW:ES}{c:Cx}{h:ES}{e:V}{a:DZ}{st:dF}(hl:∀b,pW.get? b=DP->lo.get? b=DP)(x:fY w pW c h e a st):fY w lo c h e a st:=by
 obtain⟨oe,B,d,H,n,ks,us,e,x,r⟩:=x;exact⟨oe,B,d,H,n,ks,us,e,{x with la:=hl _ x.la,ld:=hl _ x.ld},r.dS hl⟩
section
variable {α β γ δ:Type}{w:EV}{K:EQ}{Rl:Cx->ES->α->β->Prop}{jS:Cx->ES->γ->δ->Prop}{ok:aM}{r:R α}{Q:β->EB->Prop}{E:aJ}

theorem PR.from(X:bM π c s.heap c' h')(p:PR w K Rl ok π c s r Q E):PR w K Rl ok π c' {s with heap:=h',toks:=tk} r Q E:=by
 cases r with
 |ok v G=>exact λ eG cV bT x I C_ q=>p eG cV bT x I (X.trans C_) q
 |cD e G=>exact λ eG cV bT a st o I C_ q=>p eG cV bT a st o I (X.trans C_) (q.dS λ J=>JP X.dom)
 |bL=>exact p
theorem yi{α:Type}{p:α->Prop}(a:α):p a->p a:=id
theorem seq{t:JN β}{x:aB α}{f:α->aB γ}{Q:δ->EB->Prop}{g:β->EB->Prop}(p:PR w K jS jF hH c s (aB.bind x f U) Q E)
  (ih:∀(Q:β->EB->Prop) (E:aJ),PR w K Rl ok π c s (x U) Q E->DW Mo A t Q E s)
  (k:∀v G c' h' tk y,x U=.ok v G->aZ w K G c' h'->bM π c s.heap c' h'->Rl c' h' v y->PR w K jS jF hH c' {s with heap:=h',toks:=tk} (f v G) Q E->g y {s with heap:=h',toks:=tk})
  (ho:∀st,ok st->jF st:=by exact yi)(gN:∀a∈π,a∈hH:=by exact yi):DW Mo A t g E s:=by
 have p:PR w K jS jF hH c s (R.bind (x U) f) Q E:=p;cases hx:x U with
 |ok v G=>
  rw[hx]at p ih;exact ih g E λ c' h' tk y I X r=>k v G c' h' tk y hx I X r (PR.from (X.dL gN) p)
 |cD e G=>
  rw[hx]at p ih;exact ih g E λ c' h' tk a st o I X q=>p c' h' tk a st (ho st o) I (X.dL gN) q
 |bL=>
  rw[hx]at p;exact p.elim
end
theorem DO{a b:DU}(e:(a&&b)=DN):a=DN/\b=DN:=Lk.mp e
theorem JB{α:Type}{π:DM α}:∀a∈([]:DM α),a∈π:=λ J h=>IK h
theorem Pd:∀e∈fr,∀H_,e.frame=DK H_->H_∉([]:DM DZ):=λ J J J J h=>IK h
section
variable {P:V->Prop}{Q:DM V->Prop}(pn:P .none)(pj:∀i,P (.int i))(st:∀t,LG t=DN->P (.str t))(nil:Q [])(cons:∀v B,P v->Q B->Q (v::B))
include pn pj st nil cons
theorem Ix(t:∀B,JF B=DN->Q B->P (.aR B))(v:V):MF v=DN->P v:=
 V.rec (motive_1:=λ v=>MF v=DN->P v) (motive_2:=λ B=>JF B=DN->Q B) (λ J=>pn) (λ J e=>FB e) (λ x J=>pj x) st (λ B q e=>t B e (q e)) (λ J J e=>FB e) (λ J J J J e=>FB e) (λ J J J J e=>FB e) (λ J e=>FB e) (λ J e=>FB e) (λ J e=>FB e) (λ J J e=>FB e) (λ J J J e=>FB e)
  (λ J=>nil) (λ v B p q e=>cons v B (p (DO e).1) (q (DO e).2)) v
theorem tz(t:∀B,JF B=DN->Q B->P (.aR B)):∀B,JF B=DN->Q B
 |[],_=>nil|v::B,e=>cons v B (Ix pn pj st nil cons t v (DO e).1) (tz t B (DO e).2)
theorem Qe(b:∀b,P (.bool b))(t:∀B,IE B=DN->Q B->P (.aR B))(l:∀B,IE B=DN->Q B->P (.aX B))(v:V):ID v=DN->P v:=
 V.rec (motive_1:=λ v=>ID v=DN->P v) (motive_2:=λ B=>IE B=DN->Q B) (λ J=>pn) (λ x J=>b x) (λ x J=>pj x) st (λ B q e=>t B e (q e)) (λ B q e=>l B e (q e)) (λ J J J J e=>FB e) (λ J J J J e=>FB e) (λ J e=>FB e) (λ J e=>FB e) (λ J e=>FB e) (λ J J e=>FB e) (λ J J J e=>FB e)
  (λ J=>nil) (λ v B p q e=>cons v B (p (DO e).1) (q (DO e).2)) v
theorem f8(b:∀b,P (.bool b))(t:∀B,IE B=DN->Q B->P (.aR B))(l:∀B,IE B=DN->Q B->P (.aX B)):∀B,IE B=DN->Q B
 |[],_=>nil|v::B,e=>cons v B (Qe pn pj st nil cons b t l v (DO e).1) (f8 b t l B (DO e).2)
end
theorem hJ:∀{a b:Tx},FT a b=DN->a=b
 |[],_,h=>(HN h).symm|a::x,[],h=>FB h|a::x,b::y,h=>by
  have h:=Lk.mp (show(EG a b&&FT x y)=DN from h);rw[GV h.1,hJ h.2]
theorem Hy:∀a:Tx,FT a a=DN
 |[]=>rfl|a::x=>by show(EG a a&&FT x x)=DN;rw[Hy x,Bool.and_true];exact RQ a
theorem akZ{a b:Tx}:FT a b=DN↔a=b:=⟨hJ,λ e=>e▸Hy a⟩
theorem jk(a b:Tx):FT a b=decide (a=b):=by
 by_cases h:a=b
 ·rw[Bg h,akZ.mpr h]
 ·rw[Nq h];cases q:FT a b with
  |false=>rfl|true=>exact EP (hJ q) h
theorem PE{n:EA}{t:Tx}(h:LD n t=DN):n=sx t:=by
 have:=hJ h;cases n with|mk cps=>simp only at this;subst this;simp
def lI(w:EV)(c:Cx)(h:ES)(m:Lv)(i:DL)(vo:DQ DS):Prop:=∀v,m[i]? =DK (DK v)->∃x,vo=DK x/\VR w c h v x
structure dD(w:EV)(L:Mx)(m:Lv)(c:Cx)(h:ES)(Z:Env):Prop where
 names:Z.scope.names=L.sc
 kind:Z.scope.kind=.function
 glob:Z.globals=KW
 bu:Z.builtins=QP
 loc:∃mm,h.Ns Z.locals mm/\∀n i,GK n L.nm=DK i->L.sc.lookup n=DK .local->lI w c h m i (mm n)
 jU:∀n i,GK n L.nm=DK i->L.sc.lookup n=DK .cell->∃a vo,Z.cells.lookup n=DK a/\h.IsCell a vo/\lI w c h m i vo
 eJ:∀a∈Z.locals::Z.cells.map (·.2),¬c.fz a/\∀p∈c.ρ,a≠p.1/\a≠p.2
 free:∀i∈L.cs,∀v,m[i]?≠DK (DK v)
noncomputable abbrev FD(Z:Env):DM DZ:=Z.locals::Z.cells.map (·.2)
theorem Zu{a:DZ}{m:EA->DQ DS}(hn:h.Ns a m)(k:∀o,h.get? a=DK o->h'.get? a=DK o∨((a≠GQ/\∃H n,o.data=.dict H n)/\∃sl,h'.get? a=DK {o with slots:=sl})):h'.Ns a m:=by
 obtain⟨o,H,ep,ho,hd,r⟩:=hn;rcases k o ho with e|⟨_,sl,e⟩
 ·exact⟨o,H,ep,e,hd,r⟩
 ·exact⟨_,H,ep,e,hd,r⟩
theorem abA{a:DZ}{v:DQ DS}(hn:h.IsCell a v)(k:∀o,h.get? a=DK o->h'.get? a=DK o∨((a≠GQ/\∃H n,o.data=.dict H n)/\∃sl,h'.get? a=DK {o with slots:=sl})):h'.IsCell a v:=by
 obtain⟨o,ho,hd⟩:=hn;rcases k o ho with e|⟨_,sl,e⟩
 ·exact⟨o,e,hd⟩
 ·exact⟨_,e,hd⟩
section
variable {w:EV}{K:EQ}{L:Mx}
theorem lI.bB(x:dR c h c' h'){i:DL}{vo:DQ DS}(r:lI w c h m i vo):lI w c' h' m i vo:=λ v e=>by obtain⟨y,a,b⟩:=r v e;exact⟨y,a,b.bB x⟩
theorem dD.ext(e:dD w L m c h Z)(X:bM π c h c' h')(gN:∀a∈FD Z,a∉π)(hc:∀a∈FD Z,∃o,h.get? a=DK o):dD w L m c' h' Z where
 names:=e.names
 kind:=e.kind
 glob:=e.glob
 bu:=e.bu
 loc:=by
  obtain⟨mm,hn,r⟩:=e.loc;exact⟨mm,Zu hn λ o ho=>X.keep _ o ho (gN _ (.head _)) (e.eJ _ (.head _)).2,λ n i a b=>(r n i a b).bB X.bB⟩
 jU n i a b:=by
  obtain⟨ad,vo,e1,e2,e3⟩:=e.jU n i a b;have hm:ad∈FD Z:=.tail _ (LN.mpr ⟨(n,ad),mem_of_lookup e1,rfl⟩);exact⟨ad,vo,e1,abA e2 λ o ho=>X.keep _ o ho (gN _ hm) (e.eJ _ hm).2,e3.bB X.bB⟩
 eJ a ha:=by
  obtain⟨oa,ea⟩:=hc a ha;exact⟨λ f=>(X.newfz a f).elim (e.eJ a ha).1 λ q=>FZ ea q rfl,λ p hp=>(X.newρ p hp).elim (λ q=>(e.eJ a ha).2 p q) λ q=>⟨FZ ea q.1,FZ ea q.2⟩⟩
 free:=e.free
end
structure Rm(n:DL)(A:HG):Prop where
 hh:A.handled=DP
 dp:A.depth+6 * n+6<Cn
 un:A.units+40 * n+180<KU
structure lJ(n:DL)(A:HG):Prop where
 hh:A.handled=DP
 dp:A.depth+6 * n+2<Cn
 un:A.units+40 * n+150<KU
theorem Zg{w p q:DL}(h:w+p<=q):a+w+n+p<=a+n+q:=by
 rw[agY a w n,TB (a+n) w p];exact RP h _
theorem Rm.call(r:Rm n A):lJ n A:=⟨r.hh,JX (RP (by decide) _) r.dp,JX (RP (by decide) _) r.un⟩
theorem lJ.deeper(r:lJ (n+1) A)(Z:Env):Rm n (A.deeper Z):=⟨r.hh,JX (Zg (a:=A.depth) (w:=1) (n:=6 * n) (p:=6) (q:=8) (by decide)) r.dp,JX (Zg (a:=A.units) (w:=3) (n:=40 * n) (p:=180) (q:=190) (by decide)) r.un⟩
theorem lJ.depth{n:DL}{A:HG}(r:lJ n A):A.depth<Cn:=JX (EZ (HD A.depth (6 * n)) (HD _ 2)) r.dp
def gF(fr:DM Env)(c:Cx)(h:ES):Prop:=∀e∈fr,e.scope.kind≠ .module/\∃H_ o,e.frame=DK H_/\h.get? H_=DK o/\(∃H n,o.data=.dict H n)/\(¬c.fz H_/\H_≠GQ)/\∀p∈c.ρ,H_≠p.1/\H_≠p.2
structure Ct(w:EV)(K:EQ)(n:DL)(A:HG)(fr:DM Env)(L:Mx)(m:Lv)(c:Cx)(U:aS)(h:ES)(Z:Env):Prop where
 rm:Rm n A
 jV:A.frames=DK fr
 iH:gF fr c h
 er:dD w L m c h Z
 dS:∀a∈FD Z,∃o,h.get? a=DK o
 bW:aZ w K U c h
theorem gF.ext(f:gF fr c h)(X:bM π c h c' h')(gN:∀e∈fr,∀H_,e.frame=DK H_->H_∉π):gF fr c' h':=λ e he=>by
 obtain⟨h1,H_,o,h2,h3,hd,h4,h5⟩:=f e he;have a1:¬c'.fz H_/\H_≠GQ:=⟨λ f=>(X.newfz H_ f).elim h4.1 λ q=>FZ h3 q rfl,h4.2⟩;have a2:∀p∈c'.ρ,H_≠p.1/\H_≠p.2:=λ p hp=>(X.newρ p hp).elim (λ q=>h5 p q) λ q=>⟨FZ h3 q.1,FZ h3 q.2⟩;rcases X.keep H_ _ h3 (gN e he H_ h2) h5 with q|⟨_,xB,q⟩
 ·exact⟨h1,H_,o,h2,q,hd,a1,a2⟩
 ·exact⟨h1,H_,_,h2,q,hd,a1,a2⟩
section
variable {w:EV}{K:EQ}{L:Mx}
theorem Ct.ext(C:Ct w K n A fr L m c U h Z)(I:aZ w K G c' h')(X:bM [] c h c' h'):Ct w K n A fr L m c' G h' Z:=
 ⟨C.rm,C.jV,C.iH.ext X Pd,C.er.ext X (λ J J h=>IK h) C.dS,λ a ha=>by obtain⟨_,e⟩:=C.dS a ha;exact X.dom a _ e,I⟩
end
section
variable {w:EV}{K:EQ}
theorem VR.rU(hf:∀a,c.fz a->c'.fz a){x:DS}(r:VR w c h v x):jX v=DN->VR w c' h v x:=
 VR.rec (motive_1:=λ v x J=>jX v=DN->VR w c' h v x) (motive_2:=λ B xs J=>PP B=DN->bI w c' h B xs) (motive_3:=λ ks B H J=>PP B=DN->AR w c' h ks B H) (motive_4:=λ ks B H J=>PP ks=DN->PP B=DN->DR w c' h ks B H)
  (λ J=>.none) (λ J J=>.bool _) (λ J J J=>.int _ _) (λ J J J=>.str _ _) (λ a b J r e=>.aR a (hf _ b) (r e)) (λ a b J r e=>.aX a (hf _ b) (r e)) (λ a b J r e=>.bZ a (hf _ b) (r (DO e).1 (DO e).2))
  (λ a e1 e2 e3 b f1 f2 J r e=>.obj a e1 e2 e3 b (hf _ f1) (hf _ f2) (r e)) (λ J e=>FB e) (λ J J=>.fn _) (λ J J=>.cls _) (λ a J r J=>.bD a (r a)) (λ J J J e=>FB e)
  (λ J=>.nil) (λ J J a r e=>.cons (a (DO e).1) (r (DO e).2)) (λ J=>.nil) (λ z J J a r e=>.cons z (a (DO e).1) (r (DO e).2)) (λ J J=>.nil) (λ J J J a b r e e'=>.cons (a (DO e).1) (b (DO e').1) (r (DO e).2 (DO e').2)) r
theorem at2(e:MF v=DN):jX v=DN:=Ix (P:=λ v=>jX v=DN) (Q:=λ B=>PP B=DN) rfl (λ J=>rfl) (λ J J=>rfl) rfl (λ v B p q=>Mt p q) (λ B J q=>q) v e
theorem AR.BD(hf:∀a,c.fz a->c'.fz a){ks:DM DL}:∀{B:DM V} {H:DM FL},AR w c h ks B H->PP B=DN->AR w c' h ks B H:=by
 induction ks with
 |nil=>exact λ r J=>r.e0 .nil
 |cons v B ih=>exact λ r=>r.el (P:=λ us H=>PP us=DN->AR w c' h (v::B) us H) λ J J J J J z a r e=>.cons z (a.rU hf (DO e).1) (ih r (DO e).2)
noncomputable def Cx.cR(c:Cx)(n:DL)(kp:DM DL):Cx:=
 ⟨c.ρ.take n++kp.filterMap (c.ρ[·]?),λ a=>c.fz a∨∃i p,n<=i/\i∉kp/\c.ρ[i]? =DK p/\(a=p.1∨a=p.2)⟩
theorem azA{kp:DM DL}{i j:DL}(e:UL i kp=DK j):kp[j]? =DK i:=by
 induction kp generalizing j with
 |nil=>exact EW e|cons k r ih=>
  have e:(match EG i k with|true=>DK 0|false=>(UL i r).map GH)=DK j:=e;cases q:EG i k with
  |true=>rw[q]at e;exact EJ e▸DX DK (GV q).symm|false=>rw[q]at e;exact om (P:=λ j=>(k::r)[j]? =DK i) e λ J h=>ih h
theorem zj{kp:DM DL}{i:DL}(e:UL i kp=DP):i∉kp:=by
 induction kp with
 |nil=>exact KG|cons k r ih=>
  have e:(match EG i k with|true=>DK 0|false=>(UL i r).map GH)=DP:=e;cases q:EG i k with
  |true=>rw[q]at e;exact Ch e|false=>
   rw[q]at e;exact λ hm=>(IV.mp hm).elim (λ z=>by rw[z,RQ]at q;exact(by cases q)) (ih (Option.map_eq_none_iff.mp e))
theorem qv{α:Type}{l:DM α}{kp:DM DL}(hk:∀i∈kp,i<l.length)(j:DL):(kp.filterMap (l[·]?))[j]? =(kp[j]?).bind (l[·]?):=by
 induction kp generalizing j with
 |nil=>rfl|cons i r ih=>
  have hi:i<l.length:=hk i (.head _);rw[Si,JU hi];cases j with
  |zero=>exact(JU hi).symm|succ j=>exact ih (λ i hi=>hk i (.tail _ hi)) j
theorem Yb{α β:Type}{f:α->DQ β}{l:DM α}{m:DM β}(e:GA f l=DK m):m.length=l.length/\∀(j:DL) (a:α),l[j]? =DK a->∃b,m[j]? =DK b/\f a=DK b:=by
 induction l generalizing m with
 |nil=>exact EJ e▸⟨rfl,λ j a e=>EW e⟩|cons a r ih=>exact ob e λ b hb e=>om (P:=λ m=>m.length=(a::r).length/\∀(j:DL) (x:α),(a::r)[j]? =DK x->∃b,m[j]? =DK b/\f x=DK b) e λ t ht=>⟨DX (·+1) (ih ht).1,λ j x e=>by
   cases j with
   |zero=>exact⟨b,rfl,EJ e▸hb⟩|succ j=>exact(ih ht).2 j x e⟩
section
variable {f:V->DQ V}(G_:∀{v v':V} {x:DS},f v=DK v'->VR w c' h' v x->VR w c h' v' x)
include G_
theorem Ww{B:DM V}:∀{us:DM V} {xs:DM DS},GA f B=DK us->bI w c' h' B xs->bI w c h' us xs:=by
 induction B with
 |nil=>exact λ e r=>by cases e;exact r.zero▸ .nil
 |cons v B ih=>exact λ e r=>r.el λ y ys a r=>ob e λ b hb e=>om (P:=λ us=>bI w c h' us (y::ys)) e λ t ht=>.cons (G_ hb a) (ih ht r)
theorem k_{ks:DM DL}:∀{B us:DM V} {H:DM FL},GA f B=DK us->AR w c' h' ks B H->AR w c h' ks us H:=by
 induction ks with
 |nil=>exact λ e r=>r.e0 (P:=λ B H=>GA f B=DK _->AR w c h' [] _ H) (λ e=>by cases e;exact .nil) e
 |cons k ks ih=>exact λ {B us H} e r=>r.el (P:=λ B H=>GA f B=DK us->AR w c h' (k::ks) us H) (λ v B x t fs z a r e=>ob e λ b hb e=>om (P:=λ us=>AR w c h' (k::ks) us (⟨PI w (sx (EU k)),.str (sx (EU k)) t,x⟩::fs)) e λ t ht=>.cons z (G_ hb a) (ih ht r)) e
theorem l_(hf:∀a,c'.fz a->c.fz a){ks:DM V}:∀{B us:DM V} {H:DM FL},JF ks=DN->GA f B=DK us->DR w c' h' ks B H->DR w c h' ks us H:=by
 induction ks with
 |nil=>exact λ hh e r=>r.e0 (P:=λ B H=>GA f B=DK _->DR w c h' [] _ H) (λ e=>by cases e;exact .nil) e
 |cons k ks ih=>exact λ {B us H} hh e r=>r.el (P:=λ B H=>GA f B=DK us->DR w c h' (k::ks) us H) (λ v B kx x fs q a r e=>ob e λ b hb e=>om (P:=λ us=>DR w c h' (k::ks) us (⟨hK w k,kx,x⟩::fs)) e λ t ht=>.cons (q.rU hf (at2 (DO hh).1)) (G_ hb a) (ih (DO hh).2 ht r)) e
end
variable {P:QK}
variable (I:aZ w K G c' h')(hn:n<=G.length)(hk:∀i∈kp,i<G.length)
include I hn hk
theorem Vy(hi:i<n):(c'.cR n kp).ρ[i]? =c'.ρ[i]? :=by
 have hl:(c'.ρ.take n).length=n:=Dp (I.bQ.symm▸hn);show(c'.ρ.take n++_)[i]? =_;rw[KQ (hl.symm▸hi),Ae hi]
theorem anE(hj:kp[j]? =DK i):(c'.cR n kp).ρ[n+j]? =c'.ρ[i]? :=by
 have hl:(c'.ρ.take n).length=n:=Dp (I.bQ.symm▸hn);show(c'.ρ.take n++_)[n+j]? =_;rw[Ad (by rw[hl];exact HD ..),hl,Ah,qv (λ i hi=>by rw[I.bQ];exact hk i hi),hj];rfl
set_option tactic.hygienic true in
theorem Wv:∀(f:DL) {v v':V} {x:DS},eA P G n kp f v=DK v'->VR w c' h' v x->VR w (c'.cR n kp) h' v' x:=by
 intro f
 induction f with
 |zero=>exact λ e J=>EW e
 |succ f ih=>
  intro v v' x e r;have d:=r.bW;have hf:∀a,c'.fz a->(c'.cR n kp).fz a:=λ a q=>.inl q;cases v
  case aR B=>
   obtain⟨a,xs,rfl,h1,h2,h3⟩:=d;exact om (P:=λ v=>VR w (c'.cR n kp) h' v (.ref a)) e λ us hm=>.aR h1 (hf _ h2) (Ww ih hm h3)
  case aX B=>
   obtain⟨a,xs,k,rfl,h1,h2,h3⟩:=d;exact om (P:=λ v=>VR w (c'.cR n kp) h' v (.ref a)) e λ us hm=>.aX h1 (hf _ h2) (Ww ih hm h3)
  case bZ ks B=>
   obtain⟨a,H,k,rfl,h1,h2,h3⟩:=d;exact EO e λ hh e=>om (P:=λ v=>VR w (c'.cR n kp) h' v (.ref a)) e λ us hm=>.bZ h1 (hf _ h2) (l_ ih hf hh hm h3)
  case obj C ks B=>
   obtain⟨a,d,ox,H,k,rfl,a,e1,e2,e3,b,f1,f2,r⟩:=d;exact om (P:=λ v=>VR w (c'.cR n kp) h' v _) e λ us hm=>.obj a e1 e2 e3 b (hf _ f1) (hf _ f2) (k_ ih hm r)
  case ref i=>
   obtain⟨p,rfl,hp⟩:=d;have e:QT P G n kp (eA P G n kp f) i=DK v':=e;unfold QT at e;cases hi:HC i n with
   |true=>
    rw[hi]at e;exact EJ e▸ .ref ((Vy I hn hk (TC.mp hi)).trans hp)
   |false=>
    rw[hi]at e;exact KD e (λ hj e=>ob e λ o ho e=>EO e λ J e=>om (P:=λ v=>VR w (c'.cR n kp) h' v _) e λ o' pR=>by
     have pP:n<=i:=Lz λ q=>by rw[TC.mpr q]at hi;cases hi
     have z1:(c'.cR n kp).fz p.1:=.inr ⟨i,p,pP,zj hj,hp,.inl rfl⟩;have z2:(c'.cR n kp).fz p.2:=.inr ⟨i,p,pP,zj hj,hp,.inr rfl⟩;have r:=I.obj i o p ho hp;cases o
     case list B=>
      obtain⟨xs,k,a,b,_⟩:=r;exact om (P:=λ o=>VR w (c'.cR n kp) h' (Ec o) _) pR λ us hm=>.aX a z1 (Ww ih hm b)
     case dict ks B=>
      obtain⟨H,k,a,b,_⟩:=r;exact EO pR λ hh pR=>om (P:=λ o=>VR w (c'.cR n kp) h' (Ec o) _) pR λ us hm=>.bZ a z1 (l_ ih hf hh hm b)
     case inst C ks B=>
      obtain⟨a,H,k,b,q⟩:=r;exact om (P:=λ o=>VR w (c'.cR n kp) h' (Ec o) _) pR λ us hm=>.obj a rfl rfl rfl b z1 z2 (k_ ih hm q))
     λ j hj e=>EJ e▸ .ref ((anE I hn hk (azA hj)).trans hp)
  case dW a i=>
   obtain⟨b,p,rfl,q1,q2,q3⟩:=d;exact EO e λ hi e=>EJ e▸ .dW q1 (hf _ q2) ((Vy I hn hk (TC.mp hi)).trans q3)
  case bD k v=>exact EO e λ J e=>EJ e▸ .bD d.1 (d.2.rU hf d.1)
  all_goals exact EJ e▸r.rU hf rfl
set_option tactic.hygienic true in
theorem si{ob jY:O}{p:DZ×DZ}(e:LU (eA P G n kp f) ob=DK jY)(r:OR w c' h' ob p):OR w (c'.cR n kp) h' jY p:=by
 cases ob
 case list B=>
  obtain⟨xs,k,a,b,q⟩:=r;exact om (P:=λ o=>OR w (c'.cR n kp) h' o p) e λ us hm=>⟨xs,k,a,Ww (Wv I hn hk f) hm b,q⟩
 case dict ks B=>
  obtain⟨H,k,a,b,q⟩:=r;exact EO e λ hh e=>om (P:=λ o=>OR w (c'.cR n kp) h' o p) e λ us hm=>⟨H,k,a,l_ (Wv I hn hk f) (λ J q=>.inl q) hh hm b,q⟩
 case inst C ks B=>
  obtain⟨a,H,k,b,q⟩:=r;exact om (P:=λ o=>OR w (c'.cR n kp) h' o p) e λ us hm=>⟨a,H,k,b,k_ (Wv I hn hk f) hm q⟩
theorem anD{p:DZ×DZ}(e:(c'.cR n kp).ρ[i]? =DK p):(i<n/\c'.ρ[i]? =DK p)∨∃j k,i=n+j/\kp[j]? =DK k/\c'.ρ[k]? =DK p:=by
 rcases TE i n with q|q
 ·exact .inl ⟨q,(Vy I hn hk q)▸e⟩
 ·have hi:i<(c'.cR n kp).ρ.length:=(JV.mp e).1;have hl:(c'.ρ.take n).length=n:=Dp (I.bQ.symm▸hn);have e':(c'.ρ.take n++kp.filterMap (c'.ρ[·]?))[i]? =DK p:=e;rw[Ad (hl.symm▸q),hl,qv (λ i hi=>by rw[I.bQ];exact hk i hi)]at e';obtain⟨k,h1,h2⟩:=ahK.mp e';exact .inr ⟨i-n,k,(Dq q).symm,h1,h2⟩
end
section
variable {w:EV}{K:EQ}{cZ:aS}
theorem nb(I:aZ w K G c' h')(X:bM [] c h c' h')(hl:c.ρ.length=n)(hk:∀i∈kp,n<=i)(kO:kp.Nodup){v x:V}{y:DS}{P:QK}(e:cY P n kp v G=DK (x,cZ))(r:VR w c' h' v y):
  aZ w K cZ (c'.cR n kp) h'/\bM [] c h (c'.cR n kp) h'/\VR w (c'.cR n kp) h' x y:=by
 refine EO e λ hn e=>ob e λ x' hx e=>ob e λ a ha e=>om (P:=λ z=>aZ w K z.2 (c'.cR n kp) h'/\bM [] c h (c'.cR n kp) h'/\VR w (c'.cR n kp) h' z.1 y) e λ b hb=> ?_;clear e
 ·replace hn:=GO hn
  obtain⟨la,ga⟩:=Yb ha;obtain⟨lb,gb⟩:=Yb hb;have hr:∀i∈kp,i<G.length:=λ i hi=>by
   obtain⟨j,hj,e⟩:=Lx hi;obtain⟨jY,h1,h2⟩:=gb j i (by rw[JU hj,e]);exact ob h2 λ z q J=>(JV.mp q).1
  have kM:a.length=n:=la.trans (Dp hn);have jT:∀{i:DL} {p:DZ×DZ},(c'.cR n kp).ρ[i]? =DK p->(i<n/\c'.ρ[i]? =DK p)∨∃j k,i=n+j/\kp[j]? =DK k/\c'.ρ[k]? =DK p:=λ e=>anD I hn hr e;have inj:∀(i j:DL) (p q:DZ×DZ),(c'.cR n kp).ρ[i]? =DK p->(c'.cR n kp).ρ[j]? =DK q->i≠j->∃i' j':DL,c'.ρ[i']? =DK p/\c'.ρ[j']? =DK q/\i'≠j':=by
   intro i j p q e1 e2 kF;rcases jT e1 with⟨l1,g1⟩|⟨j1,k1,r1,s1,g1⟩<;>rcases jT e2 with⟨l2,g2⟩|⟨j2,k2,r2,s2,g2⟩
   ·exact⟨i,j,g1,g2,kF⟩
   ·exact⟨i,k2,g1,g2,λ z=>EP (z▸l1:k2<n) (IG.mpr (hk k2 (JK s2)))⟩
   ·exact⟨k1,j,g1,g2,λ z=>EP (z.symm▸l2:k1<n) (IG.mpr (hk k1 (JK s1)))⟩
   ·refine⟨k1,k2,g1,g2,λ z=>kF ?_⟩;subst z;have h1:=(JV.mp s1);have h2:=(JV.mp s2);obtain⟨b1,d1⟩:=h1;obtain⟨b2,d2⟩:=h2;rcases ah7 j1 j2 with q|q|q
    ·exact EP (d1.trans d2.symm) (agP.mp kO j1 j2 b1 b2 q)
    ·exact r1.trans ((DX (n+·) q).trans r2.symm)
    ·exact EP (d2.trans d1.symm) (agP.mp kO j2 j1 b2 b1 q)
  have mem_:∀p∈(c'.cR n kp).ρ,∃i j:DL,(c'.cR n kp).ρ[i]? =DK p/\c'.ρ[j]? =DK p/\(j<n∨j∈kp):=by
   intro p hp;obtain⟨i,hi,e⟩:=Lx hp;have e1:(c'.cR n kp).ρ[i]? =DK p:=by rw[JU hi,e]
   rcases jT e1 with⟨l1,g1⟩|⟨j1,k1,r1,s1,g1⟩
   ·exact⟨i,i,e1,g1,.inl l1⟩
   ·exact⟨i,k1,e1,g1,.inr (JK s1)⟩
  have oF:∀a,(c'.cR n kp).fz a->c'.fz a∨∃p∈c'.ρ,a=p.1∨a=p.2:=λ a f=>f.imp id λ z1=>by obtain⟨i,p,_,_,h3,h4⟩:=z1;exact⟨p,JK h3,h4⟩
  refine⟨⟨?_,?_,?_,?_,?_,?_,?_⟩,⟨?_,?_,?_,?_,?_,?_,X.dk,?_⟩,Wv I hn hr 100 hx r⟩
  ·show(c'.ρ.take n++kp.filterMap (c'.ρ[·]?)).length=(a++b).length;rw[GC,GC,kM,lb,Dp (I.bQ.symm▸hn)];have:∀{l:DM DL},(∀i∈l,i<G.length)->(l.filterMap (c'.ρ[·]?)).length=l.length:=by
    intro l
    induction l with
    |nil=>intro _;rfl
    |cons i l ih=>
     intro hh;rw[Si,JU (by rw[I.bQ];exact hh i (.head _))];simp[ih λ i hi=>hh i (.tail _ hi)]
   rw[this hr]
  ·intro i oj p e1 e2;rcases jT e2 with⟨l1,g1⟩|⟨j1,k1,r1,s1,g1⟩
   ·rw[KQ (kM.symm▸l1)]at e1;have hs:i<G.length:=IW l1 hn;obtain⟨jY,h1,h2⟩:=ga i G[i] (by rw[Ae l1,JU hs]);rw[h1]at e1;cases e1;exact si I hn hr h2 (I.obj i _ p (JU hs) g1)
   ·rw[Ad (by rw[kM,r1];exact HD ..),kM,r1,Ah]at e1;obtain⟨jY,h1,h2⟩:=gb j1 k1 s1;rw[h1]at e1;cases e1;exact ob h2 λ z q h2=>EO h2 λ J h2=>si I hn hr h2 (I.obj k1 _ p q g1)
  ·intro i j p q e1 e2 kF;obtain⟨i',j',g1,g2,AC⟩:=inj i j p q e1 e2 kF;exact I.apart i' j' p q g1 g2 AC
  ·intro p hp;obtain⟨i,j,_,g1,hj⟩:=mem_ p hp;have key:∀a,(a=p.1∨a=p.2)->¬(c'.cR n kp).fz a:=by
    intro a ha f;rcases f with f|⟨i',p',kE,tO,mE,pE⟩
    ·have:=I.jQ p (I.mem g1);exact ha.elim (λ z=>this.1 (z▸f)) λ z=>this.2 (z▸f)
    ·have cS:j≠i':=λ z=>hj.elim (λ q=>EP (z▸q:i'<n) (IG.mpr kE)) λ q=>tO (z▸q);have ap:=I.apart j i' p p' g1 mE cS;rcases ha with rfl|rfl<;>rcases pE with z|z
     ·exact ap.1 z
     ·exact ap.2.1 z
     ·exact ap.2.2.1 z
     ·exact ap.2.2.2 z
   exact⟨key _ (.inl rfl),key _ (.inr rfl)⟩
  ·intro ad f;rcases oF ad f with f|⟨p,hp,rfl|rfl⟩
   ·exact I.dom ad f
   ·exact(I.mV hp).1
   ·exact(I.mV hp).2
  ·exact λ ad ob e=>⟨(I.gV ad ob e).1,.inl (I.gV ad ob e).2⟩
  ·refine⟨λ f=> ?_,λ p hp=> ?_,I.cC.2.2⟩
   ·rcases f with f|⟨i',p',kE,tO,mE,pE⟩
    ·exact I.cC.1 f
    ·have:=I.cC.2.1 p' (I.mem mE);exact pE.elim (λ z=>this.1 z.symm) λ z=>this.2 z.symm
   ·obtain⟨i,j,_,g1,_⟩:=mem_ p hp;exact I.cC.2.1 p (I.mem g1)
  ·intro i p e1;have hi:i<n:=hl▸(JV.mp e1).1;rw[Vy I hn hr hi];exact X.ρ i p e1
  ·exact λ ad f=>.inl (X.fz ad f)
  ·intro ad f;rcases f with f|⟨i',p',kE,tO,mE,pE⟩
   ·exact X.newfz ad f
   ·rcases X.newρ p' (I.mem mE)with q|q
    ·exfalso;obtain⟨j,hj,e⟩:=Lx q;have:=X.ρ j p' (by rw[JU hj,e]);exact(I.apart j i' p' p' this mE (VC (IW (hl▸hj) kE))).1 rfl
    ·exact .inr (pE.elim (λ z=>z▸q.1) λ z=>z▸q.2)
  ·intro p hp;obtain⟨i,j,_,g1,_⟩:=mem_ p hp;exact X.newρ p (I.mem g1)
  ·exact X.kf
  ·exact X.keep
  ·exact X.dom
end
section
variable {w:EV}{K:EQ}{E:aJ}
def PV(w:EV)(K:EQ)(π:DM DZ)(c:Cx)(s:EB)(G:aS)(v:V)(Q:aJ):Prop:=
 ∀c' h' tk x,aZ w K G c' h'->bM π c s.heap c' h'->VR w c' h' v x->Q x {s with heap:=h',toks:=tk}
theorem PV.from(x:bM π c s.heap c' h')(p:PV w K π c s G v Q):PV w K π c' {s with heap:=h',toks:=tk} G v Q:=
 λ eG cV bT y I X r=>p eG cV bT y I (x.trans X) r
theorem PV.here{x:DS}(p:PV w K π c s U v Q)(I:aZ w K U c s.heap)(r:VR w c s.heap v x):Q x s:=p c s.heap s.toks x I (.refl ..) r
theorem PV.iD{x:DS}(p:PV w K π c s U v Q)(I:aZ w K U c s.heap)(r:VR w c s.heap v x):Q x {s with toks:=tk}:=p c s.heap tk x I (.refl ..) r
theorem FO(h:ES)(o:GT):∀b o',h.get? b=DK o'->(h.push o).get? b=DK o':=λ J J e=>RM _ e
theorem Pp(h:ES)(o:GT):h.objs.size<=(h.push o).objs.size:=by rw[ZZ];exact TD _
theorem PV.new{o:GT}(p:PV w K π c s U v Q)(I:aZ w K U c s.heap)(ho:o.isFreed=DT)
  (r:VR w (c.eP s.heap.objs.size) (s.heap.push o) v (.ref s.heap.objs.size)){tk:DL}:Q (.ref s.heap.objs.size) {s with heap:=s.heap.push o,toks:=tk}:=
 p _ _ tk _ (I.eP (FG _) (FO _ _) ⟨_,HH _ ho⟩) (.eP (FG _) (FO _ _) (Pp _ _)) r
theorem PV.rS{o:GT}{b:O}(p:PV w K π c s (U++[b]) (.ref U.length) Q)(I:aZ w K U c s.heap)
  (r:OR w (c.own (s.heap.objs.size,s.heap.objs.size)) (s.heap.push o) b (s.heap.objs.size,s.heap.objs.size)){tk:DL}:Q (.ref s.heap.objs.size) {s with heap:=s.heap.push o,toks:=tk}:=
 p _ _ tk _ (I.own (FG _) (FG _) (FO _ _) r) (.own (FG _) (FG _) (FO _ _) (Pp _ _)) (.ref (Cx.kZ I _))
theorem ay9(I:aZ w K U c s.heap)(r:bI w c s.heap B xs)(hz:xs.length<=JC)(p:PV w K π c s U (.aR B) Q):
  DW (ED Y w) A (O? xs) Q E s:=
 acY (p.new I rfl (.aR (HH _ rfl) (.inr rfl) (r.bB (.eP (FO _ _))))) hz
theorem axZ(I:aZ w K U c s.heap)(r:bI w c s.heap B xs)(hz:xs.length<=JC)(p:PV w K π c s (U++[.list B]) (.ref U.length) Q):
  DW (ED Y w) A (newList xs) Q E s:=
 acX (p.rS I ⟨xs,0,HH _ rfl,r.bB (.own (FO _ _)),rfl⟩) hz
end
theorem aZ.In{w:EV}{K:EQ}(I:aZ w K U c h):K.In h:=λ a o e=>(I.gV a o e).1
theorem ik{v:DS}{t:HB}(h:Ux v=DK t):v=.type t:=HS Ux .type (λ v=>by cases v<;>rfl) h
theorem Uw{v:DS}{t:DZ}(h:Eb v=DK t):v=.ref t:=HS Eb .ref (λ v=>by cases v<;>rfl) h
theorem EL{α:Type}{x:DQ α}{f:α->DU}(h:oe x DT f=DN){P:Prop}(k:∀a,x=DK a->f a=DN->P):P:=
 match x,h,k with
 |some a,h,k=>k a rfl h
theorem ur:∀{ts:DM HB} {l:DM DS},Xj ts l=DN->l=ts.map .type
 |[],_,h=>HN h|t::ts,v::r,h=>EL (DO h).1 λ a e q=>by rw[ik e,of_decide_eq_true q,ur (DO h).2];rfl
theorem ayU(self:DS):Y! self "__setattr__" [.type "Exception",.type "BaseException",.type "object"]=pure ():=PySem.F.store_Exception.passes self
theorem Z8{P:DM DS->Prop}(h0:P [.type "Exception",.type "BaseException",.type "object"])(h1:∀c r,P r->P (.ref c::r)):∀{l:DM DS},Jw l=DN->P l
 |v::r,e=>(aeJ.mp (show((oe (Eb v) DT λ J=>Jw r)||Xj ["Exception", "BaseException", "object"] (v::r))=DN from e)).elim (λ e=>EL e λ a q e=>Uw q▸h1 a r (Z8 h0 h1 e)) λ e=>ur e▸h0
theorem azZ(self:DS){l:DM DS}(e:Jw l=DN):Y! self "__setattr__" l=pure ():=Z8 (P:=λ l=>Y! self "__setattr__" l=pure ()) (ayU self) (λ c r h=>(refuseLoop_ref ..).trans h) e
theorem aoY{l:DM DS}(e:Jw l=DN):l.contains (.type "object")=DN:=Z8 (P:=λ l=>l.contains (.type "object")=DN) (by decide) (λ c r h=>by rw[Ha,h,M4]) e
theorem U!{w:EV}{K:EQ}{C x:DZ}{R:QL->EB->Prop}{ox:GT}{od:DQ GT}{tk:KT}{v:DS}{r:DQ DS}(X:K.In s.heap)(I:InstAt s.heap x ox C od)(hp:Gd K C=DN)(ht:Ko K C name=DK r)
  (h:∀b,DW (ED Y w) A.in1 (match r with|some a=>aHO a (.ref x) v|none=>aHP (.ref x) (.ref C) (.str name tk) name v b)
   (λ cY s'=>match cY with|.done f=>R (.ok f) s'|.again c'=>c'.quiet=DN/\MC (ED Y w) A c' R s') (λ e s'=>R (.error e) s') s):
  MC (ED Y w) A (.call (.builtin "object.__setattr__") ⟨[.ref x,.str name tk,v],[]⟩) R s:=by
 have SF:=PySem.F.store_object;obtain⟨cd,hc,ho⟩:=gu hp;rw[Bool.or_eq_true]at ho;have hcont:cd.mro.contains (.type "object")=DN:=ho.elim only_has aoY;have ne:cd.mro.isEmpty=DT:=by cases q:cd.mro with|nil=>rw[q]at hcont;cases hcont|cons _ _=>rfl
 have href:Y! (.ref x) "__setattr__" cd.mro=pure ():=ho.elim (refuse_only _) (azZ _);have sub:YN (ED Y w) s.heap (isInstance (.ref x) (.type "object")) DN:=I.type.andThen (looks_mroIn X (by unfold mroIn;rw[hc,Sw,FU (by rw[ne];decide),hcont]));refine me SF.slot.plain SF.entry (@lh (ED Y w) _ _ s "object.__setattr__" "object" "__setattr__" (.ref x) [.str name tk,v] [] _ SF.kind SF.split sub (SF.args (.ref x) (.str name tk) v) ?_);obtain⟨aU,ha,hr⟩:=ahK.mp ht;have hm:YN (ED Y w) s.heap (mroOf (.ref C)) cd.mro:=(I? X hc).andThen .now;have L3:YN (ED Y w) s.heap (aHQ aU) r:=by
  cases aU with
  |none=>cases hr;exact .now
  |some a=>
   obtain⟨b,hb,rfl⟩:=Sy.mp hr;refine(looks_takesIn X hb).andThen ?_;cases b<;>exact .now
 rw[osa_eq,refuse_eq];refine DV (DV (I.type.here (DV (hm.here ?_))));rw[href];refine EK (DV (I.type.here (DV ((Ov X ha).here (DV (L3.here ?_))))));exact h _
structure M8(K:EQ)(C:DZ):Prop where
 cd:∃cd,Bf K C=DK cd/\cd.hasDict=DN
 ga:GM K (.ref C) "__getattribute__" =DK (DK (.builtin "object.__getattribute__"))∨(GM K (.ref C) "__getattribute__" =DK (DK (.builtin "BaseException.__getattribute__"))/\subIn K (.ref C) (.type "BaseException")=DK DN)
 gx:GM K (.ref C) "__getattr__" =DK DP
 sa:GM K (.ref C) "__setattr__" =DK (DK (.builtin "object.__setattr__"))
 pl:Gd K C=DN
structure Gf(w:EV)(K:EQ)(D:Tb)(gn:DL->Tx)(mg mb:EA->DQ DS):Prop where
 wQ:∀h,K.In h->h.NoLimit
 mZ:∀h,K.In h->h.Ns KW mg
 vX:∀h,K.In h->h.Ns QP mb
 glob:∀g v,D.glob g=DK v->∃x,mg (sx (gn g))=DK x/\∀c h U,aZ w K U c h->VR w c h v x
 fH:∀C a r,D.fH C a=DK r->M8 K C/\a<256^60/\GM K (.ref C) (sx (EU a))=DK (r.map NO)/\∀f,r=DK f->GM K (.ref C) "__getattribute__" =DK (DK (.builtin "object.__getattribute__"))/\Gj K (.ref f)=DK (.type "function")/\XG K f=DN/\Qj K (.ref f) "__get__" =DK (DK (.builtin "function.__get__"))/\takesIn K (.ref f)=DK DT/\W2.contains (sx (EU a))=DT
 rO:∀C f,D.init C=DK f->Ji K (.ref C)=DN/\makesIn K C=DN/\GM K (.ref C) "__init__" =DK (DK (.ref f))/\Gj K (.ref f)=DK (.type "function")
section
variable (Y:TK)(w:EV)(K:EQ)(n:DL)(D:Tb)(o:JM)
def R.ns{α:Type}:aD α->Prop
 |.bL=>False|_=>True
structure OX:Prop where
 fn:∀f args U,aD.ns (o f args U)->XG K f=DN
 call:∀(A:HG) (fr:DM Env) (c:Cx) (U:aS) (s:EB) (f:DL) (args:DM V) (xs:DM DS) (R:QL->EB->Prop),lJ n A->A.frames=DK fr->gF fr c s.heap->aZ w K U c s.heap->bI w c s.heap args xs->
  PR w K (VR w) FE [] c s (o f args U) (λ x s'=>R (.ok (.ret x)) s') (λ e s'=>R (.error e) s')->MC (ED Y w) A (.call (.ref f) ⟨xs,[]⟩) R s
def SE(L:Mx)(e:E)(x:Expr):Prop:=∀(A:HG) (fr:DM Env) (Z:Env) (m:Lv) (c:Cx) (U:aS) (s:EB) (Q:aJ) (E:aJ),
 Ct w K n A fr L m c U s.heap Z->PR w K (VR w) FE [] c s (MW D o e m U) Q E->DW (ED Y w) A (HM x Z) Q E s
def Bl(_:Cx)(_:ES)(a b:DU):Prop:=a=b
def SB(L:Mx)(e:E)(x:Expr):Prop:=∀(A:HG) (fr:DM Env) (Z:Env) (m:Lv) (c:Cx) (U:aS) (s:EB) (Q:DU->EB->Prop) (E:aJ),
 Ct w K n A fr L m c U s.heap Z->PR w K Bl FE [] c s (Bn D o e m U) Q E->DW (ED Y w) A (isTrue x Z (HM x Z)) Q E s
def LZ(L:Mx)(H:Es)(xs:DM Expr):Prop:=∀(A:HG) (fr:DM Env) (Z:Env) (m:Lv) (c:Cx) (U:aS) (s:EB) (pos:FS) (Q:DM DS->EB->Prop) (E:aJ),
 Ct w K n A fr L m c U s.heap Z->PR w K (bI w) FE [] c s (MX D o H m U) Q E->DW (ED Y w) A (spliced (TR pos (RI xs Z))) Q E s
end
section
variable {w:EV}{K:EQ}{D:Tb}{L:Mx}{mb:EA->DQ DS}
theorem PR.eH{α β:Type}{Rl:Cx->ES->α->β->Prop}{ok:aM}{x:DQ α}{Q:β->EB->Prop}{E:aJ}(p:PR w K Rl ok π c s (aB.eH x U) Q E):
  ∃v,x=DK v/\PR w K Rl ok π c s (.ok v U) Q E:=by
 cases x with
 |none=>exact p.elim|some v=>exact⟨v,rfl,p⟩
theorem PR.o2{α β:Type}{Rl:Cx->ES->α->β->Prop}{ok:aM}{x:DQ (α×aS)}{Q:β->EB->Prop}{E:aJ}(p:PR w K Rl ok π c s (aB.o2 x) Q E){P:Prop}
  (k:∀v G,x=DK (v,G)->PR w K Rl ok π c s (.ok v G) Q E->P):P:=by
 obtain- |q:=x
 ·exact p.elim
 ·exact k q.1 q.2 rfl p
theorem PR.b2{α β γ:Type}{Rl:Cx->ES->α->β->Prop}{ok:aM}{x:DQ (γ×aS)}{f:γ->aB α}{Q:β->EB->Prop}{E:aJ}(p:PR w K Rl ok π c s (R.bind (aB.o2 x) f) Q E){P:Prop}
  (k:∀v G,x=DK (v,G)->PR w K Rl ok π c s (f v G) Q E->P):P:=by
 obtain- |q:=x
 ·exact p.elim
 ·exact k q.1 q.2 rfl p
theorem PR.bo{α β γ:Type}{Rl:Cx->ES->α->β->Prop}{ok:aM}{x:DQ γ}{f:γ->aB α}{Q:β->EB->Prop}{E:aJ}(p:PR w K Rl ok π c s (aB.bind (aB.eH x) f U) Q E){P:Prop}
  (k:∀v,x=DK v->PR w K Rl ok π c s (f v U) Q E->P):P:=
 match x,p,k with
 |some v,p,k=>k v rfl p
theorem PR.op{α β:Type}{Rl:Cx->ES->α->β->Prop}{ok:aM}{x:DQ α}{Q:β->EB->Prop}{E:aJ}(p:PR w K Rl ok π c s (aB.eH x U) Q E){P:Prop}
  (k:∀v,x=DK v->PR w K Rl ok π c s (.ok v U) Q E->P):P:=
 match x,p,k with
 |some v,p,k=>k v rfl p
theorem PR.om{α β γ:Type}{Rl:Cx->ES->α->β->Prop}{ok:aM}{x:DQ γ}{f:γ->α}{Q:β->EB->Prop}{E:aJ}(p:PR w K Rl ok π c s (aB.eH (x.map f) U) Q E){P:Prop}
  (k:∀v,x=DK v->PR w K Rl ok π c s (.ok (f v) U) Q E->P):P:=
 match x,p,k with
 |some v,p,k=>k v rfl p
theorem PR.here{α β:Type}{Rl:Cx->ES->α->β->Prop}{ok:aM}{v:α}{x:β}{Q:β->EB->Prop}{E:aJ}(p:PR w K Rl ok π c s (.ok v U) Q E)(I:aZ w K U c s.heap)(r:Rl c s.heap v x):Q x s:=
 p c s.heap s.toks x I (.refl ..) r
theorem PR.iD{α β:Type}{Rl:Cx->ES->α->β->Prop}{ok:aM}{v:α}{x:β}{Q:β->EB->Prop}{E:aJ}(p:PR w K Rl ok π c s (.ok v U) Q E)(I:aZ w K U c s.heap)(r:Rl c s.heap v x):Q x {s with toks:=tk}:=
 p c s.heap tk x I (.refl ..) r
theorem PN(e:dD w L m c h Z)(x:EA):Z.kindOf x=L.sc.lookup x:=by
 show Z.scope.names.lookup x=_;rw[e.names]
theorem afE{x:DL}{id:EA}(hs:GK id L.nm=DK x)(hk:L.sc.lookup id=DK .local∨L.sc.lookup id=DK .cell)(hd:(id==("__debug__" :EA))=DT):SE Y w K n D o L (.loc x) (.Name id pos):=by
 intro A fr Z m c U s Q E C p;obtain⟨v,hv,p⟩:=PR.eH p;have kU:m[x]? =DK (DK v):=ob hv λ a e h=>e.trans (DX DK h);refine wpAny_Name ?_ hd;rcases hk with hk|hk
 ·obtain⟨mm,hn,r⟩:=C.er.loc;obtain⟨y,hy,q⟩:=r id x hs hk v kU;exact aEI C.er.kind ((PN C.er id).trans hk) hn hy (p.here C.bW q)
 ·obtain⟨a,vo,e1,e2,r⟩:=C.er.jU id x hs hk;obtain⟨y,hy,q⟩:=r v kU;exact wpAny_loadName_cell C.er.kind ((PN C.er id).trans hk) e1 (hy▸e2) (p.here C.bW q)
theorem afA(F_:Gf w K D gn mg mb){g:DL}{id:EA}(pM:id=sx (gn g))(hk:L.sc.lookup id=DK .globalImplicit)(hd:(id==("__debug__" :EA))=DT):SE Y w K n D o L (.bJ g) (.Name id pos):=by
 intro A fr Z m c U s Q E C p;obtain⟨v,hv,p⟩:=PR.eH p;obtain⟨x,hx,r⟩:=F_.glob g v hv;exact Sl C.er.kind ((PN C.er id).trans hk) (wi (C.er.glob▸F_.mZ _ C.bW.In) (pM▸hx) (p.here C.bW (r _ _ _ C.bW))) hd
theorem z8{k:Dn}(hk:mK v k=DN):SE Y w K n D o L (.k v) (.Constant k j pos):=by
 intro A fr Z m c U s Q E C p;have p:PV w K [] c s U v Q:=p;have I:=C.bW;rw[eval_Constant];clear C;cases k
 case none=>rw[Bz hk]at p;exact EK (p.here I .none)
 case bool=>exact EL hk λ b e q=>by rw[Ut e,GW q]at p;exact EK (p.here I (.bool _))
 case int=>exact EL hk λ b e q=>by rw[Ea e,GW q]at p;exact wpAny_mkInt (p.iD I (.int _ _))
 case str=>exact EL hk λ b e q=>by rw[IP e]at p;rw[PE q];exact D5 (p.iD I (.str _ _))
 all_goals exact FB hk
theorem Kn{e:Expr}{r:DM Expr}(h:UH e=DN):RI (e::r) Z=(DT,HM e Z)::RI r Z:=by
 cases e<;>first|rfl|exact EP h FJ
theorem afO:LZ Y w K n D o L .nil []:=by
 intro A fr Z m c U s pos Q E C p;exact gz (PR.here (p:PR w K (bI w) FE [] c s (.ok [] U) Q E) C.bW .nil)
theorem afN{H:Es}{xs:DM Expr}(h1:SE Y w K n D o L e x)(h2:LZ Y w K n D o L H xs)(hx:UH x=DN):LZ Y w K n D o L (.cons e H) (x::xs):=by
 intro A fr Z m c U s pos Q E C p;refine S3 ?_ (Kn hx);refine seq p (λ Q E=>h1 A fr Z m c U s Q E C) λ v G c' h' tk y J I X r p'=> ?_;have C':=C.ext I X;refine seq p' (λ Q E=>h2 A fr Z m c' G _ pos Q E C') λ B cZ eG cV bT ys J I' X' r' fN=> ?_;exact PR.here (fN:PR w K (bI w) FE [] eG _ (.ok (v::B) cZ) Q E) I' (.cons (r.bB X'.bB) r')
theorem bI.bQ(r:bI w c h B xs):xs.length=B.length:=r.length.symm
end
section
variable {w:EV}{K:EQ}{D:Tb}{L:Mx}{Ex:aJ}
theorem f9(h:GE k=DN):k<1000000:=by unfold GE at h;exact TC.mp h
theorem WF(h:GE k=DN):k<=JC:=WQ (IW (f9 h) (by unfold JC;decide))
theorem Qg(h:GE k=DN):(k:DY)<2^63:=wq (bn (f9 h) (by decide))
@[elab_as_elim] theorem aZ.oB{P:aN}{v:V}{B:DM V}{x:DS}(I:aZ w K U c s.heap)(e:RB U v=DK B)(r:VR w c s.heap v x)(k:∀i a xs n,FI v=DK i->IsL s.heap a (ER xs) n->bI w c s.heap B xs->c.ρ[i]? =DK (a,a)->P (.ref a)):P x:=
 ob e λ i hi e=>ob e λ o ho e=>r.eR hi λ p hp=>by
  obtain⟨xs,n,h1,h2,h3⟩:=I.obj i _ p (XP e▸ho) hp;exact k i p.1 xs n hi h1 h2 (hp.trans (DX DK (cc rfl h3)))
@[elab_as_elim] theorem aZ.eL{P:aN}{v:V}{B:DM V}{x:DS}(I:aZ w K U c s.heap)(e:GU U v=DK B)(r:VR w c s.heap v x)(k:∀a xs n,IsL s.heap a (ER xs) n->bI w c s.heap B xs->P (.ref a)):P x:=
 FH e (λ e=>by
  obtain⟨a,xs,n,e,h1,_,h3⟩:=(OI e▸r.bW:TQ w c s.heap (.aX B) x);exact e▸k a xs n h1 h3) λ e=>I.oB e r λ i a xs n J h1 h2 J=>k a xs n h1 h2
theorem IsL.isList{a:DZ}{xs:FM DS}(x:IsL h a xs k):h.IsList a xs:=⟨_,x,rfl,k,rfl⟩
theorem IsT.dK{a:DZ}{xs:FM DS}(x:IsT h a xs k):IsTup h a xs:=⟨_,x,rfl,k,rfl⟩
inductive jA(h:ES)(a:DZ)(xs:DM DS):Prop
 |list (k:DL):IsL h a xs.toArray k->jA h a xs
 |tuple:IsT h a xs.toArray 0->jA h a xs
@[elab_as_elim] theorem aZ.eQ{P:aN}{v:V}{B:DM V}{x:DS}(I:aZ w K U c s.heap)(e:XU U v=DK B)(r:VR w c s.heap v x)(k:∀a xs,jA s.heap a xs->bI w c s.heap B xs->P (.ref a)):P x:=
 FH e (λ e=>r.eT e λ a xs h1 J h3=>k a xs (.tuple h1) h3) λ e=>I.eL e r λ a xs n h1 h3=>k a xs (.list n h1) h3
theorem atN(r:bI w c s.heap B xs):(!xs.toArray.isEmpty)=WG B:=by
 cases r<;>simp[WG]
theorem yq{b:DU}{x:DS}{Q:DU->EB->Prop}(I:aZ w K U c s.heap)(e:Dc U v=DK b)(r:VR w c s.heap v x)
  (p:PR w K Bl FE [] c s (.ok b U) Q Ex):DW (ED Y w) A (o6 x) Q Ex s:=
 FH e (λ e=>r.eB e (D9 (p.here I rfl))) λ e=>FH e (λ e=>EO e λ h e=>r.sK h▸λ J J J=>(EJ e▸p).here I rfl) λ e=>ob e λ B h e=>EO e λ hz e=>
  I.eL h r λ a xs k h1 h2=>wpAny_truthy_list h1.isList (by rw[HW,<-h2.length];exact Qg hz) (by rw[atN h2,EJ e];exact p.iD I rfl)
theorem afJ{H:Es}{xs:DM Expr}(h:LZ Y w K n D o L H xs):SE Y w K n D o L (.aR H) (.Tuple xs j pos):=by
 intro A fr Z m c U s Q E C p;refine Tuple_ (seq p (λ Q E=>h A fr Z m c U s pos Q E C) λ B G c' h' tk ys J I X r p'=> ?_);exact PR.o2 p' λ v cZ e p=>EO e λ hz e=>ay9 I r (by rw[r.bQ];exact WF hz) (WA (P:=λ v U=>PV w K [] c' _ U v Q->PV w K [] c' _ G (.aR B) Q) e id p)
theorem afF{H:Es}{xs:DM Expr}(h:LZ Y w K n D o L H xs):SE Y w K n D o L (.aX H) (.List xs pos):=by
 intro A fr Z m c U s Q E C p;refine List_ (seq p (λ Q E=>h A fr Z m c U s pos Q E C) λ B G c' h' tk ys J I X r p'=> ?_);exact PR.o2 p' λ v cZ e p=>EO e λ hz e=>axZ I r (by rw[r.bQ];exact WF hz) (WA (P:=λ v U=>PV w K [] c' _ U v Q->PV w K [] c' _ (G++[.list B]) (.ref G.length) Q) e id p)
theorem afB{a b d:E}{z:Expr}(h1:SB Y w K n D o L a x)(h2:SE Y w K n D o L b y)(h3:SE Y w K n D o L d z):SE Y w K n D o L (.cH a b d) (.IfExp x y z pos):=by
 intro A fr Z m c U s Q E C p;refine IfExp_ (seq p (λ Q E=>h1 A fr Z m c U s Q E C) λ t G c' h' tk t' J I X r p'=> ?_);cases r;cases t
 ·exact h3 A fr Z m c' G _ Q E (C.ext I X) p'
 ·exact h2 A fr Z m c' G _ Q E (C.ext I X) p'
theorem aeE{a b d:E}{z:Expr}(h1:SB Y w K n D o L a x)(h2:SB Y w K n D o L b y)(h3:SB Y w K n D o L d z):SB Y w K n D o L (.cH a b d) (.IfExp x y z pos):=by
 intro A fr Z m c U s Q E C p;rw[arm_isTrue_IfExp];refine DV (seq p (λ Q E=>h1 A fr Z m c U s Q E C) λ t G c' h' tk t' J I X r p'=> ?_);cases r;cases t
 ·exact h3 A fr Z m c' G _ Q E (C.ext I X) p'
 ·exact h2 A fr Z m c' G _ Q E (C.ext I X) p'
theorem aeG{a:E}(h1:SB Y w K n D o L a x):SB Y w K n D o L (.not a) (.UnaryOp .Not x pos):=by
 intro A fr Z m c U s Q E C p;rw[arm_isTrue_UnaryOp];refine DV (seq p (λ Q E=>h1 A fr Z m c U s Q E C) λ t G c' h' tk t' J I X r p'=> ?_);cases r;exact EK (PR.here (p':PR w K Bl FE [] c' _ (.ok (!t) G) Q E) I rfl)
theorem aeC{a b:E}{r:DM Expr}{op:SU}{BP:FS}(h1:SB Y w K n D o L a x)(h2:SB Y w K n D o L b (.BoolOp op (y::r) BP))(ab:E)(oH:(op=.Or/\ab=.or a b)∨(op=.And/\ab=.and a b)):
  SB Y w K n D o L ab (.BoolOp op (x::y::r) pos):=by
 intro A fr Z m c U s Q E C p;rw[akE,akB];rcases oH with⟨rfl,rfl⟩|⟨rfl,rfl⟩
 ·refine DV (seq p (λ Q E=>h1 A fr Z m c U s Q E C) λ t G c' h' tk t' J I X q p'=> ?_);cases q;cases t
  ·exact h2 A fr Z m c' G _ Q E (C.ext I X) p'
  ·exact EK (PR.here (p':PR w K Bl FE [] c' _ (.ok DN G) Q E) I rfl)
 ·refine DV (seq p (λ Q E=>h1 A fr Z m c U s Q E C) λ t G c' h' tk t' J I X q p'=> ?_);cases q;cases t
  ·exact EK (PR.here (p':PR w K Bl FE [] c' _ (.ok DT G) Q E) I rfl)
  ·exact h2 A fr Z m c' G _ Q E (C.ext I X) p'
theorem aeF{b:E}{op:SU}(h:SB Y w K n D o L b y):SB Y w K n D o L b (.BoolOp op [y] pos):=by
 intro A fr Z m c U s Q E C p;rw[akE,akB];refine DV (IF (h A fr Z m c U s Q E C p) (λ t s' q=> ?_) λ J J e=>e);cases op<;>cases t<;>exact EK q
theorem afC{b:E}{op:SU}(h:SE Y w K n D o L b y):SE Y w K n D o L b (.BoolOp op [y] pos):=by
 intro A fr Z m c U s Q E C p;exact h A fr Z m c U s Q E C p
theorem af3{a b:E}{r:DM Expr}{op:SU}(h1:SE Y w K n D o L a x)(h2:SE Y w K n D o L b (.BoolOp op (y::r) pos))(ab:E)(oH:(op=.Or/\ab=.or a b)∨(op=.And/\ab=.and a b)):
  SE Y w K n D o L ab (.BoolOp op (x::y::r) pos):=by
 intro A fr Z m c U s Q E C p;show DW _ _ (do
  let v<-HM x Z
  Km pos
  let t<-Oc [v] (o6 v)
  match op,t with
  |.And,DT|.Or,DN=>pure v|_,_=>boolOp pos op (evalEach (y::r) Z)) _ _ _
 refine DV ?_;rcases oH with⟨rfl,rfl⟩|⟨rfl,rfl⟩<;>
 refine seq p (λ Q E=>h1 A fr Z m c U s Q E C) λ v G c' h' tk y' J I X rv p'=>DV (OS (DV (HE ?_)))<;>
 refine seq p' (λ Q E p=>PR.op p λ t ht p=>yq I ht rv p) λ t cZ eG cV bT t' J I' X' q fN=> ?_<;>
 cases q<;>cases t
 ·exact h2 A fr Z m eG cZ _ Q E ((C.ext I X).ext I' X') fN
 ·exact EK (PR.here (v:=v) (fN:PR w K (VR w) FE [] eG _ (.ok v cZ) Q E) I' (rv.bB X'.bB))
 ·exact EK (PR.here (v:=v) (fN:PR w K (VR w) FE [] eG _ (.ok v cZ) Q E) I' (rv.bB X'.bB))
 ·exact h2 A fr Z m eG cZ _ Q E ((C.ext I X).ext I' X') fN
theorem aeH{a:E}(h1:SE Y w K n D o L a x)(hx:∀Z fG,isTrue x Z fG=(do let v<-fG;Km x.pos;Oc [v] (o6 v)))
  (ha:∀m,Bn D o a m=aB.bind (MW D o a m) λ v=>aB.rd λ U=>Dc U v):SB Y w K n D o L a x:=by
 intro A fr Z m c U s Q E C p;refine wpAny_isTrue_value ?_ (hx _ _);rw[ha]at p;refine seq p (λ Q E=>h1 A fr Z m c U s Q E C) λ v G c' h' tk y' J I X rv p'=> ?_;exact PR.op p' λ t ht p=>yq I ht rv p
end
section
variable {w:EV}{K:EQ}{Ex:aJ}
theorem XN(t:Tx)(tk:KT):(strKind Y w).is (sx t) (.str (sx t) tk)=DN:=by
 show ajE (sx t) (.str (sx t) tk)=DN;simp[ajE]
theorem atW{t u:Tx}{tk:KT}(h:FT t u=DT):(strKind Y w).is (sx t) (.str (sx u) tk)=DT:=by
 cases q:(strKind Y w).is (sx t) (.str (sx u) tk)with
 |false=>rfl|true=>
  have:=(strKind Y w).inj _ _ _ q (XN u tk);have e:t=u:=by
   have:=DX (λ x:EA=>x.cps.toList) this;simpa using this
  rw[e,Hy]at h;cases h
theorem B?{k:V}(h:GN (k::ks)=DN):(∃t,GJ k=DK t/\LG t=DN)/\GN ks=DN:=⟨EL (DO h).1 λ t e q=>⟨t,e,q⟩,(DO h).2⟩
theorem DR.rP{ks:DM V}:∀{B:DM V} {H:DM FL},DR w c h ks B H->GN ks=DN->KeysOf (strKind Y w) H.toArray:=by
 induction ks with
 |nil=>exact λ r J=>r.e0 (P:=λ J H=>KeysOf (strKind Y w) H.toArray) λ e he=>by simp at he
 |cons k ks ih=>
  refine λ r hs=>r.el (P:=λ J H=>KeysOf (strKind Y w) H.toArray) λ v us kx x fs a b r e he=> ?_;obtain⟨⟨t,ht,_⟩,hs⟩:=B? hs;rw[agN]at he;refine(IV.mp he).elim (λ e=>e▸?_) λ he=>ih r hs e (agN.mpr he);rw[IP ht];exact a.eS ht λ tk=>⟨_,XN _ _,rfl⟩
theorem DR.vD(t:Tx){ks:DM V}:∀{B:DM V} {H:DM FL},DR w c h ks B H->GN ks=DN->(H.findIdx? λ e=>(strKind Y w).is (sx t) e.key)=KV t ks:=by
 induction ks with
 |nil=>exact λ r J=>r.e0 (P:=λ J H=>(H.findIdx? λ e=>(strKind Y w).is (sx t) e.key)=KV t []) rfl
 |cons k ks ih=>
  refine λ r hs=>r.el (P:=λ J H=>(H.findIdx? λ e=>(strKind Y w).is (sx t) e.key)=KV t (k::ks)) λ v us kx x fs a b r=> ?_;obtain⟨⟨u,hu,_⟩,hs⟩:=B? hs;refine a.eS hu λ tk=> ?_;have e:(strKind Y w).is (sx t) (.str (sx u) tk)=FT t u:=by
   cases q:FT t u with
   |true=>rw[hJ q];exact XN _ _|false=>exact atW q
  have ek:KV t (k::ks)=match FT t u with|true=>DK 0|false=>(KV t ks).map GH:=DX (λ x=>match oe x DT (FT t)with|true=>DK 0|false=>(KV t ks).map GH) hu
  rw[agF,ek,ih r hs,e];cases FT t u<;>rfl
theorem DR.at{ks:DM V}{v:V}:∀{B:DM V} {H:DM FL} {n:DL},DR w c h ks B H->B[n]? =DK v->∃en,H[n]? =DK en/\VR w c h v en.val:=by
 induction ks with
 |nil=>exact λ {B H n} r=>r.e0 (P:=λ B H=>B[n]? =DK v->∃en,H[n]? =DK en/\VR w c h v en.val) λ e=>EW e
 |cons k ks ih=>
  exact λ {B H n} r=>r.el (P:=λ B H=>B[n]? =DK v->∃en,H[n]? =DK en/\VR w c h v en.val) λ u us kx x fs a b r=>match n with
   |0=>λ e=>⟨_,rfl,EJ e▸b⟩
   |n+1=>λ e=>ih (H:=fs) (n:=n) r e
theorem DR.length{ks:DM V}:∀{B:DM V} {H:DM FL},DR w c h ks B H->H.length=ks.length/\B.length=ks.length:=by
 induction ks with
 |nil=>exact λ r=>r.e0 ⟨rfl,rfl⟩
 |cons k ks ih=>exact λ r=>r.el λ J J J J J J J r=>⟨DX (·+1) (ih r).1,DX (·+1) (ih r).2⟩
theorem DR.set{v:V}{x:DS}(q:VR w c h v x){ks:DM V}:∀{B:DM V} {H:DM FL},DR w c h ks B H->∀n:DL,DR w c h ks (B.set n v) (H.modify n λ e=>{e with val:=x}):=by
 induction ks with
 |nil=>exact λ r n=>r.e0 (P:=λ B H=>DR w c h [] (B.set n v) (H.modify n λ e=>{e with val:=x})) (by rw[List.modify_nil];exact .nil)
 |cons k ks ih=>exact λ r n=>r.el (P:=λ B H=>DR w c h (k::ks) (B.set n v) (H.modify n λ e=>{e with val:=x})) λ J J J J J a b r=>match n with
   |0=>.cons a q r|n+1=>.cons a b (ih r n)
theorem DR.CB{k v:V}{kx x:DS}(p:VR w c h k kx)(q:VR w c h v x){ks:DM V}:∀{B:DM V} {H:DM FL},DR w c h ks B H->DR w c h (ks++[k]) (B++[v]) (H++[⟨hK w k,kx,x⟩]):=by
 induction ks with
 |nil=>exact λ r=>r.e0 (.cons p q .nil)
 |cons u ks ih=>exact λ r=>r.el λ J J J J J a b r=>.cons a b (ih r)
@[elab_as_elim] theorem aZ.uZ{P:aN}{v:V}{d:DM V×DM V}{x:DS}(I:aZ w K U c s.heap)(e:Nr U v=DK d)(r:VR w c s.heap v x)(k:∀i a H n,FI v=DK i->c.ρ[i]? =DK (a,a)->s.heap.get? a=DK (FK (ER H) n)->DR w c s.heap d.1 d.2 H->(a==GQ)=DT->P (.ref a)):P x:=
 ob e λ i hi e=>ob e λ o ho e=>r.eR hi λ p hp=>by
  obtain⟨H,n,h1,h2,h3⟩:=I.obj i _ p (Ju e▸ho) hp;exact k i p.1 H n hi (hp.trans (DX DK (cc rfl h3))) h1 h2 (Nc.mpr (I.cC.2.1 p (I.mem hp)).1)
@[elab_as_elim] theorem aZ.eD{P:aN}{v:V}{d:DM V×DM V}{x:DS}(I:aZ w K U c s.heap)(e:JZ U v=DK d)(r:VR w c s.heap v x)(k:∀a H n,s.heap.get? a=DK (FK (ER H) n)->DR w c s.heap d.1 d.2 H->(a==GQ)=DT->P (.ref a)):P x:=
 FH e (λ e=>by
  obtain⟨a,H,n,e,h1,h2,h3⟩:=(Uu e▸r.bW:TQ w c s.heap (.bZ d.1 d.2) x);exact e▸k a H n h1 h3 (Nc.mpr λ e=>I.cC.1 (e▸h2))) λ e=>I.uZ e r λ i a H n J J=>k a H n
theorem Oy{a:DZ}{H:DM FL}(ho:h.get? a=DK (FK (ER H) n))(r:DR w c h ks B H)(hs:GN ks=DN):h.MapOf (strKind Y w) a (Et (strKind Y w).is H.toArray):=
 ⟨_,_,_,ho,⟨rfl,rfl,rfl⟩,rfl,r.rP hs,λ J=>rfl⟩
def Mc(w:EV)(c:Cx)(h:ES)(f:DQ V)(x:DQ DS):Prop:=match f with
 |none=>x=DP|some v=>∃y,x=DK y/\VR w c h v y
theorem d_{H:DM FL}(r:DR w c h ks B H){t:Tx}{f:DQ V}(e:VO ks B t=DK f):GN ks=DN/\LG t=DN/\Mc w c h f (Et (strKind Y w).is H.toArray (sx t)):=
 EO e λ hs e=>EO e λ ht e=>⟨hs,ht,by
  rw[findBy_of_findIdx?,agG,r.vD t hs];refine KD e (λ hk e=> ?_) λ n hk e=> ?_
  ·rw[hk];exact EJ e▸rfl
  ·rw[hk];refine om (P:=λ f=>Mc w c h f _) e λ v hv=> ?_;obtain⟨en,h1,h2⟩:=r.at hv;exact⟨en.val,by simp[h1],h2⟩⟩
theorem X9{a:DZ}{H:DM FL}{t:Tx}{tk:KT}{x:DS}{Q:aK}(ho:s.heap.get? a=DK (FK (ER H) n))(r:DR w c s.heap ks B H)
  {k:V}(ek:k=.str t)(e:XS ks B k v t=DK (ks',vs'))(q:VR w c s.heap v x)
  (hQ:∀h' dZ n',h'.get? a=DK (FK (ER dZ) n')->DR w c s.heap ks' vs' dZ->WL a s.heap h'->Q () {s with heap:=h',toks:=s.toks+1}):
  DW (ED Y w) A (El a (.str (sx t) tk) x) Q Ex s:=by
 subst ek;refine EO e λ hs e=>EO e λ J e=>EO e λ hz e=> ?_;have hkey:=XN (Y:=Y) (w:=w) t tk;have hk:=r.rP (Y:=Y) hs;unfold El
 try with_reducible refine HE ?_
 refine DV ((strKind Y w).pyHash hkey ?_);unfold anO
 try with_reducible refine HE ?_
 refine DV (wpAny_dictFind_of (s:={s with toks:=s.toks+1}) hkey ho rfl hk ?_);rw[agG,r.vD t hs];refine KD e (λ hi e=> ?_) λ i hi e=> ?_<;>rw[hi]
 ·have hzz:H.toArray.size<=JC:=by
   rw[HW,r.length.1];exact WQ (IW (TC.mp hz) (by unfold JC;decide))
  have r':DR w c s.heap ks' vs' _:=WA (P:=λ ks' vs'=>DR w c s.heap ks' vs' (H++[⟨hK w (.str t),.str (sx t) tk,x⟩])) e (r.CB (.str t tk) q);refine DV (YA (aEN (hz:=hzz) (s:={s with toks:=s.toks+1}) ho rfl (hQ _ _ (n+1) ?_ r' (Ry ..))));refine(WM _ ho rfl).trans ?_;exact DX (λ e=>DK (FK e (n+1))) (List.push_toArray _ _)
 ·have r':DR w c s.heap ks' vs' _:=WA (P:=λ ks' vs'=>DR w c s.heap ks' vs' (H.modify i λ e=>{e with val:=x})) e (r.set q i);refine DV (YA (DV (wpAny_updateDict (s:={s with toks:=s.toks+1}) ho rfl (wpAny_point (hQ _ _ n ?_ r' (Ry ..))))));refine(WM _ ho rfl).trans ?_;exact DX (λ e=>DK (FK e n)) List.modify_toArray
end
section
variable {w:EV}{K:EQ}{D:Tb}{L:Mx}{Ex:aJ}
theorem aCO(hx:Js x=DN)(u v:DS):subscripted x DT u v=operate [u,v] (Oa u v):=by
 cases x<;>first|rfl|exact EP hx FJ
theorem at6(h:k+1<=n):ag5 k+(n:DY)=((n-(k+1):DL):DY):=ag7 h
theorem at5{i:DY}(e:Jb B i=DK v):∃j,seqIndex? i B.length=DK j/\B[j]? =DK v:=by
 cases i with
 |ofNat k=>exact⟨k,seqIndex_of (YI k) (UY.mpr (JV.mp e).1),e⟩|negSucc k=>
  refine EO e λ hk e=>⟨B.length-(k+1),?_,e⟩;have hk:=GO hk;unfold seqIndex?;dsimp only;rw[GG (aj k),at6 hk,Bg (YI _),Bg (UY.mpr (bw (IW (Ma k) hk) (Ma k)))];rfl
theorem A5{u i:DS}{T id:HB}(hT:s.TypeIs u T)(hl:La (.type T) "__getitem__" =pure (DK (.builtin id)))
  (hx:Js slice=DN)(hg:DW (ED Y w) A (Oa u i) Q Ex s):DW (ED Y w) A (Ge value slice u i) Q Ex s:=
 A4 hT hl hg (aCO hx _ _)
theorem Bh{a:DZ}{H:FM FL}(ho:s.heap.get? a=DK (FK H k)):s.TypeIs (.ref a) "dict" :=⟨_,ho,rfl⟩
end
noncomputable def D0:Tx->DL
 |[]=>0|c::r=>c+256 * D0 r
theorem xJ(f n:DL):D0 (Lb f n)=n%256^f:=by
 induction f generalizing n with
 |zero=>exact(Nat.mod_one n).symm|succ f ih=>cases n with
  |zero=>exact(Nat.zero_mod _).symm|succ n=>
   show(n+1)%256+256 * D0 (Lb f ((n+1)/256))=_;rw[ih,Nat.pow_succ,Nat.mul_comm (256^f) 256,Nat.mod_mul]
theorem ak1{b:DL}(ha:a<256^60)(hb:b<256^60)(h:EU a=EU b):a=b:=by
 have:=DX D0 h;rw[xJ,xJ,ahA ha,ahA hb]at this;exact this
theorem abR{a b:Tx}(h:sx a=sx b):a=b:=by
 have:=DX (λ x:EA=>x.cps.toList) h;simpa using this
section
variable {w:EV}{K:EQ}{D:Tb}{L:Mx}{mb:EA->DQ DS}{Ex:aJ}
theorem ux(x:EA)(t:KT):(R4 x t).isStr x=DN:=by simp[ajD]
theorem atX{x y:EA}{t:KT}(h:(R4 x t).isStr y=DN):x=y:=by simpa [ajD]using h
theorem AR.jX{ks:DM DL}:∀{B:DM V} {H:DM FL},AR w c h ks B H->H.any (·.refKey)=DT:=by
 induction ks with
 |nil=>exact λ r=>r.e0 (P:=λ J H=>H.any (·.refKey)=DT) rfl
 |cons k ks ih=>exact λ r=>r.el (P:=λ J H=>H.any (·.refKey)=DT) λ J us J J fs J J r=>ih (B:=us) (H:=fs) r
theorem uw(hk:k<256^60)(ha:a<256^60)(hb:EG a k=DT)(t:KT):(R4 (sx (EU k)) t).isStr (sx (EU a))=DT:=by
 cases z:(R4 (sx (EU k)) t).isStr (sx (EU a))with
 |false=>rfl|true=>rw[ak1 hk ha (abR (atX z)),RQ]at hb;cases hb
theorem AR.find{a:DL}(ha:a<256^60){ks:DM DL}:∀{B:DM V} {H:DM FL},AR w c h ks B H->Mc w c h (IZ a ks B) ((H.find? (·.key.isStr (sx (EU a)))).map (·.val)):=by
 induction ks with
 |nil=>exact λ r=>r.e0 (P:=λ B H=>Mc w c h (IZ a [] B) ((H.find? (·.key.isStr (sx (EU a)))).map (·.val))) rfl
 |cons k ks ih=>
  refine λ r=>r.el (P:=λ B H=>Mc w c h (IZ a (k::ks) B) ((H.find? (·.key.isStr (sx (EU a)))).map (·.val))) λ v us x t fs hk q r=> ?_;cases hb:EG a k with
  |true=>
   rw[avD hb,List.find?_cons_of_pos (by rw[GV hb];exact ux _ _)];exact⟨_,rfl,q⟩
  |false=>
   rw[avC hb,List.find?_cons_of_neg (by rw[uw hk ha hb t];exact FJ)];exact ih r
theorem AR.lookIn{ks:DM DL}{B:DM V}{H:DM FL}{j:DL}(r:AR w c h ks B H){a:DL}(ha:a<256^60){P:DQ V->Prop}
  (k:∀v x,R6 (sx (EU a)) (FK (ER H) j)=DK (DK x)->VR w c h v x->P (DK v))(k0:R6 (sx (EU a)) (FK (ER H) j)=DK DP->P DP):P (IZ a ks B):=by
 have e:R6 (sx (EU a)) (FK (ER H) j)=DK ((H.find? (·.key.isStr (sx (EU a)))).map (·.val)):=by
  unfold R6;simp only;cases q:H.find? (·.key.isStr (sx (EU a)))with
  |some e=>simp only;rfl|none=>simp only;rw[r.jX];rfl
 have f:=r.find ha
 revert f
 cases IZ a ks B with
 |none=>exact λ f=>k0 (e.trans (DX DK f))
 |some v=>exact λ z1=>by obtain⟨x,e',q⟩:=z1;exact k v x (e.trans (DX DK e')) q
@[elab_as_elim] theorem aZ.vA{P:aN}{v:V}{d:DL×DM DL×DM V}{x:DS}(I:aZ w K U c s.heap)(e:Oi U v=DK d)(r:VR w c s.heap v x)
  (k:∀i (p:DZ×DZ) H j,FI v=DK i->c.ρ[i]? =DK p->s.heap.get? p.1=DK (Bw d.1 p.2)->s.heap.get? p.2=DK (FK (ER H) j)->AR w c s.heap d.2.1 d.2.2 H->P (.ref p.1)):P x:=
 ob e λ i hi e=>ob e λ o ho e=>r.eR hi λ p hp=>by
  obtain⟨h1,H,j,h2,h3⟩:=I.obj i _ p (pZ e▸ho) hp;exact k i p H j hi hp h1 h2 h3
@[elab_as_elim] theorem aZ.sY{P:aN}{v:V}{d:DL×DM DL×DM V}{x:DS}(I:aZ w K U c s.heap)(e:OL U v=DK d)(r:VR w c s.heap v x)
  (k:∀a ox H j,InstAt s.heap a ox d.1 (DK (FK (ER H) j))->AR w c s.heap d.2.1 d.2.2 H->P (.ref a)):P x:=
 FH e (λ e=>by
  obtain⟨a,b,ox,H,n,e,h1,h2,h3,h4,h5,_,_,h6⟩:=(T6 e▸r.bW:TQ w c s.heap (.obj d.1 d.2.1 d.2.2) x);exact e▸k a ox H n ⟨h1,h2,h4,by rw[h3];exact h5⟩ h6) λ e=>I.vA e r λ i p H j J J h1 h2 h3=>k p.1 _ H j ⟨h1,rfl,rfl,h2⟩ h3
theorem ap7{C:DZ}{od:GT}{x:DS}(F_:M8 K C)(hf:GM K (.ref C) name=DK DP)(hl:lookIn name od=DK (DK x)):findObj K C (DK od) name=DK (.value x):=by
 obtain⟨cd,h1,h2⟩:=F_.cd;unfold findObj;rw[h1,Sw,hf];simp only[Sw];unfold PySem.W.ownOf;rw[h2,GG rfl];show(aiG name od).bind _=_;rw[hl];rfl
theorem VR.vR{x:DS}(r:VR w c h v x):tu x=DN:=
 VR.rec (motive_1:=λ J x J=>tu x=DN) (motive_2:=λ J J J=>True) (motive_3:=λ J J J J=>True) (motive_4:=λ J J J J=>True)
  rfl (λ J=>rfl) (λ J J=>rfl) (λ J J=>rfl) (λ J J J J=>rfl) (λ J J J J=>rfl) (λ J J J J=>rfl) (λ J J J J J J J J J=>rfl) (λ J=>rfl) (λ J=>rfl) (λ J=>rfl) (λ J J r=>r) (λ J J J=>rfl)
  trivial (λ J J J J=>trivial) trivial (λ J J J J J=>trivial) trivial (λ J J J J J J=>trivial) r
theorem ab9:Slot "BaseException" "__getattribute__" "BaseException.__getattribute__" :=
 .of (owner:= "BaseException") (n:= "__getattribute__") (by rw[Dg,Ay];kernel_rfl) (by decide+kernel) (by decide+kernel) (by decide+kernel)
  (by first|exact .inl (by decide+kernel)|exact .inr (by decide+kernel)) (by rw[Jf];kernel_rfl)
theorem ao9:Wf A3 "BaseException.__getattribute__" =DK Builtin.«object.__getattribute__»:=
 ao8 (id':= "object.__getattribute__") (by kernel_rfl) (by decide+kernel) (by decide+kernel) (by kernel_rfl)
theorem auF:builtinKind "BaseException.__getattribute__" =DK .slot:=by decide+kernel
theorem aC3:splitId "BaseException.__getattribute__" =DK ("BaseException", "__getattribute__"):=by decide+kernel
theorem ak6(a b:DS):My "BaseException.__getattribute__" ⟨[a,b],[]⟩:=by unfold My;kernel_rfl
theorem asJ{x C:DZ}{ox:GT}{od:DQ GT}{v:DS}{e:DU}(X:K.In s.heap)(I:InstAt s.heap x ox C od)(zY:GM K (.ref C) "__getattribute__" =DK (DK (.builtin "BaseException.__getattribute__")))(pU:subIn K (.ref C) (.type "BaseException")=DK DN)
  (zZ:GM K (.ref C) "__getattr__" =DK DP)(hf:findObj K C od name=DK (.value v))(hh:tu v=DN)(h:Q v {s with toks:=s.toks+1}):DW (ED Y w) A (Ew (.ref x) name e) Q Ex s:=by
 obtain⟨hp,g,d,t,os⟩:=s;have L0:=I.type (M:=ED Y w);have L1:=Ov (M:=ED Y w) X zY;have L2:=Ov (M:=ED Y w) X zZ;have L3:=looks_find (M:=ED Y w) X I hf;have L4:YN (ED Y w) hp (isInstance (.ref x) (.type "BaseException")) DN:=L0.andThen (looks_subIn X pU);unfold Ew tc;refine DV (D5 (HE (DV (L0.at (DV (L1.at ?_))))));show DW _ _ (asE _ _ _ _ _ _) _ _ _;unfold asE;refine DV ?_;show DW _ _ (La (.ref C) "__getattr__") _ _ _;refine L2.at (DV (Ld (HE ?_)));have hcg:alY (.ref x) (.str name t) (.builtin "BaseException.__getattribute__") e=alP (.builtin "BaseException.__getattribute__") (.ref x) (.str name t):=by
  unfold alY;exact FU λ h=>FJ ((M3 _).symm.trans h)
 rw[hcg];unfold alP;rw[ab9.bind];refine DV (EK ?_);refine Dh (me ab9.plain ao9 (@lh (ED Y w) _ _ ⟨hp,g,d,t+1,os⟩ "BaseException.__getattribute__" "BaseException" "__getattribute__" (.ref x) [.str name t] [] _ auF aC3 L4 (ak6 _ _) ?_));unfold Builtin.«object.__getattribute__»;refine DV (EK ?_);refine DV (EK (DV (L0.at (DV (L3.at ?_)))));refine EK ?_;show DW _ _ (handedOut v) _ _ _;rw[handedOut_of hh];exact EK h
theorem axS(F_:Gf w K D gn mg mb){d:DL×DM DL×DM V}{x:DS}(I:aZ w K U c s.heap)(e:OL U v=DK d)
  (ha:D.fH d.1 a=DK DP)(hl:IZ a d.2.1 d.2.2=DK u)(r:VR w c s.heap v x)(p:PV w K [] c s U u Q):DW (ED Y w) A (Ew x (sx (EU a)) DN) Q Ex s:=
 I.sY e r λ b ox H j IA hr=>have g:=F_.fH d.1 a DP ha
  hr.lookIn (j:=j) g.2.1 (P:=λ o=>o=DK u->DW (ED Y w) A (Ew (.ref b) (sx (EU a)) DN) Q Ex s) (λ v y hz ry e=>have p:=(EJ e▸p).iD I ry
   have f:=ap7 g.1 g.2.2.1 hz
   g.1.ga.elim (λ q=>get_value I.In IA q f ry.vR p) λ q=>asJ I.In IA q.1 q.2 g.1.gx f ry.vR p) (λ J e=>EW e) hl
theorem axR(F_:Gf w K D gn mg mb){d:DL×DM DL×DM V}{x:DS}(I:aZ w K U c s.heap)(e:OL U v=DK d)
  (ha:D.fH d.1 a=DK (DK f))(hl:IZ a d.2.1 d.2.2=DP)(hi:FI v=DK i)(r:VR w c s.heap v x)(p:PV w K [] c s U (.dW f i) Q):DW (ED Y w) A (Ew x (sx (EU a)) DN) Q Ex s:=
 have q:∃q:DZ×DZ,x=.ref q.1/\c.ρ[i]? =DK q:=r.eR hi λ q hq=>⟨q,rfl,hq⟩
 I.sY (P:=λ x=>(∃q:DZ×DZ,x=.ref q.1/\c.ρ[i]? =DK q)->DW (ED Y w) A (Ew x (sx (EU a)) DN) Q Ex s) e r (λ b ox H j IA hr q=>have g:=F_.fH d.1 a (DK f) ha
  hr.lookIn (j:=j) g.2.1 (P:=λ o=>o=DP->DW (ED Y w) A (Ew (.ref b) (sx (EU a)) DN) Q Ex s) (λ J J J J e=>Ch e) (λ hz J=>by
   obtain⟨cd,h1,h2⟩:=g.1.cd;have hd:hasDictIn K d.1=DN:=by show(Bf K d.1).any _=DN;rw[h1];exact h2
   obtain⟨q,hb,hq⟩:=q;cases hb;have g':=g.2.2.2 f rfl;exact get_bind I.In IA g'.1 (findObj_fn hd g.2.2.1 g'.2.2.2.1 g'.2.2.2.2.1 g'.2.2.2.2.2 hz) g.1.gx (Dh (fn_get (s:={s with toks:=s.toks+1}) I.In g'.2.1 (handed_on rfl (p.new I rfl (.dW (HH _ rfl) (.inr rfl) hq)))))) hl) q
theorem yk(F_:Gf w K D gn mg mb){x:DS}(I:aZ w K U c s.heap)(e:GR D U v a=DK u)(r:VR w c s.heap v x)(p:PV w K [] c s U u Q):
  DW (ED Y w) A (Ew x (sx (EU a)) DN) Q Ex s:=
 ob e λ d hd e=>ob e λ m hm e=>KD e (λ h0 e=>axS F_ I hd (h0▸hm) e r p) λ f hf e=>KD e (λ hl e=>ob e λ i hi e=>axR F_ I hd (hf▸hm) hl hi r (EJ e▸p)) λ J J e=>EW e
theorem MJ{a b:DU}{P:Prop}(h:(a||b)=DN)(k:a=DN->P)(k':b=DN->P):P:=(aeJ.mp h).elim k k'
theorem VS(h:JR n x=DN):x.ctorIdx=n:=GV h
section
variable {aU:EA}{fG:JN DS}
theorem akU{f a:Expr}{as:DM Expr}{ks:DM Lw}{p:FS}(h:(JR 23 f||JR 20 f)=DN):Av (.Call f (a::as) ks p) aU Z fG=fG:=
 MJ h (λ h=>Al (motive_1:=λ f=>Av (.Call f (a::as) ks p) aU Z fG=fG) f (VS h) λ J J=>rfl)
  λ h=>Me (motive_1:=λ f=>Av (.Call f (a::as) ks p) aU Z fG=fG) f (VS h) λ J J J=>rfl
theorem aEU(h:v3 x=DN){P:aL}(k:∀f a as ks p,(JR 23 f||JR 20 f)=DN->P (.Call f (a::as) ks p)):P x:=by
 unfold v3 at h;by_cases hx:x.ctorIdx=16
 ·rw[En hx]at h
  revert h
  refine Mf (motive_1:=λ x=>∀hx,Mf (motive_1:=λ J=>DU) x hx (λ f as J J=> !FV as&&(JR 23 f||JR 20 f))=DN->P x) x hx (λ f as ks p hx h=> ?_) hx;cases as with
  |nil=>exact FB h|cons a as=>exact k f a as ks p (DO (show(DN&&(JR 23 f||JR 20 f))=DN from h)).2
 ·rw[XE hx]at h;exact FB h
theorem U3(h:Jt x=DN):Av x aU Z fG=fG:=
 MJ h (λ h=>Al (motive_1:=λ f=>Av f aU Z fG=fG) x (VS h) λ J J=>rfl) λ h=>
 MJ h (λ h=>Me (motive_1:=λ f=>Av f aU Z fG=fG) x (VS h) λ J J J=>rfl) λ h=>
 MJ h (λ h=>Ta (motive_1:=λ f=>Av f aU Z fG=fG) x (VS h) λ J J J=>rfl) λ h=>
 MJ h (λ h=>Q5 (motive_1:=λ f=>Av f aU Z fG=fG) x (VS h) λ J J J=>rfl) λ h=>
 aEU h (P:=λ x=>Av x aU Z fG=fG) λ J J J J J h=>akU h
end
theorem af0(F_:Gf w K D gn mg mb){aU:EA}(h1:SE Y w K n D o L e x)(hn:aU=sx (EU a))(hs:Jt x=DN):SE Y w K n D o L (.aU e a) (.Attribute x aU pos):=by
 intro A fr Z m c U s Q E C p;subst hn;refine aeB ?_ (by rw[akC,U3 hs]);refine seq p (λ Q E=>h1 A fr Z m c U s Q E C) λ v G c' h' tk y J I X rv p'=> ?_;exact PR.op p' λ u hu p=>yk F_ I hu rv p
end
theorem Ck{Z:Env}{pos:FS}:∀{xs:DM Expr},IB xs=DN->(TR pos (RI xs Z)).any (·.1)=DT
 |[],_=>rfl|x::r,h=>by
  rw[Kn (DO h).1];exact Ck (DO h).2
section
variable {w:EV}{K:EQ}{D:Tb}{L:Mx}{mb:EA->DQ DS}{Ex:aJ}
theorem As{H:Es}{xs:DM Expr}{f:DS}{Q:Args->EB->Prop}(G_:LZ Y w K n D o L H xs)(hn:xs=[]->H=.nil)(hs:IB xs=DN)
  (C:Ct w K n A fr L m c U s.heap Z)(p:PR w K (bI w) FE [] c s (MX D o H m U) (λ B s'=>Q ⟨B,[]⟩ s') Ex):DW (ED Y w) A (evalArgs f DN (TR pos (RI xs Z)) []) Q Ex s:=by
 cases xs with
 |nil=>
  rw[hn rfl]at p;exact aHZ (PR.here (x:=([]:DM DS)) (p:PR w K (bI w) FE [] c s (.ok [] U) _ Ex) C.bW bI.nil)
 |cons x r=>
  have:=G_ A fr Z m c U s pos _ Ex C p;rw[Kn (DO hs).1]at this⊢;exact aoQ this
theorem qz{f:DZ}(h:XG K f=DN):Ji K (.ref f)=DN:=by
 revert h
 show XG K f=DN->Ji K (.ref f)=DN;unfold XG Ji;dsimp only;generalize K.lookup f=x;exact x.casesOn (λ h=>FB h) λ o=>o.casesOn λ J J d J=>by cases d<;>first|exact λ J=>rfl|exact λ h=>FB h
theorem aDZ(args:Args):(Lp "type.__call__" args).cUnits<=30:=by
 have h:(Lp "type.__call__" args).cUnits=(Lp "type.__call__" ⟨[],[]⟩).cUnits:=rfl;rw[h];decide+kernel
theorem aE0(C:DZ)(r:DM DS)(kw:DM (EA×DS)):(Lp "type.__call__" ⟨.ref C::r,kw⟩).weight<=4:=by
 have h:(Lp "type.__call__" ⟨.ref C::r,kw⟩).weight=(Lp "type.__call__" ⟨[.ref 0],[]⟩).weight:=rfl;rw[h];decide+kernel
theorem Rm.BJ(r:Rm n A)(C:DZ)(l:DM DS)(kw:DM (EA×DS)):lJ n (A.under (.builtin "type.__call__" ⟨.ref C::l,kw⟩)):=
 ⟨r.hh,JX (Zg (n:=6 * n) (Sn (aE0 C l kw) 2)) r.dp,JX (Zg (n:=40 * n) (Sn (aDZ ⟨.ref C::l,kw⟩) 150)) r.un⟩
theorem aE2(C:DZ)(l:DM DS)(kw:DM (EA×DS))(h:A.frames=DK fr):(A.under (.builtin "type.__call__" ⟨.ref C::l,kw⟩)).frames=DK fr:=by
 unfold Around.under;dsimp only;rw[h];rfl
set_option tactic.hygienic true in
theorem ay1(F_:Gf w K D gn mg mb)(O:OX Y w K n o){C:DL}{R:QL->EB->Prop}(r:Rm n A)(hf:A.frames=DK fr)(fV:gF fr c s.heap)(I:aZ w K U c s.heap)(ra:bI w c s.heap args xs)
  (p:PR w K (VR w) FE [] c s (Xz D o C args U) (λ x s'=>R (.ok (.ret x)) s') (λ e s'=>R (.error e) s')):MC (ED Y w) A (.call (.ref C) ⟨xs,[]⟩) R s:=by
 cases hi:D.init C with
 |none=>exact EP (show PR w K (VR w) FE [] c s (oe (D.init C) .bL _) _ _ from p) (by rw[hi];exact id)|some f=>
 have p:PR w K (VR w) FE [] c s (Co (.ref U.length) (o f (.ref U.length::args) (U++[.inst C [] []]))) (λ x s'=>R (.ok (.ret x)) s') (λ e s'=>R (.error e) s'):=by
  have p:PR w K (VR w) FE [] c s (oe (D.init C) .bL _) _ _:=p;rw[hi]at p;exact p
 obtain⟨_,g1,g2,g3⟩:=F_.rO C f hi;obtain⟨hh,gg,d,t,os⟩:=s;refine make_core (makes_of I.In g1) (Ov I.In g2) (λ self=>bind_fn I.In self g3) (.inl rfl) ?_;have k:∀b ob,hh.get? b=DK ob->((hh.push YZ).push (Bw C hh.objs.size)).get? b=DK ob:=λ b ob e=>RM _ (RM _ e);have hz:(hh.push YZ).objs.size=hh.objs.size+1:=ZZ ..;have hx:((hh.push YZ).push (Bw C hh.objs.size)).get? (hh.objs.size+1)=DK (Bw C hh.objs.size):=hz▸HH _ rfl;have hd:((hh.push YZ).push (Bw C hh.objs.size)).get? hh.objs.size=DK YZ:=RM _ (HH _ rfl);have hs:hh.objs.size<=((hh.push YZ).push (Bw C hh.objs.size)).objs.size:=by rw[ZZ,ZZ];exact HD _ 2
 generalize (hh.push YZ).push (Bw C hh.objs.size)=h2 at *;have X':bM [] c hh (c.own (hh.objs.size+1,hh.objs.size)) h2:=.own (TD _) (FG _) k hs;have eW:=Cx.kZ I (hh.objs.size+1,hh.objs.size);refine O.call _ fr _ _ ⟨h2,gg,d,t,os⟩ f (.ref U.length::args) (.ref (hh.objs.size+1)::xs) _ (r.BJ C xs []) (aE2 C xs [] hf) (fV.ext X' λ J J J J=>KG)
  (I.own (p:=(hh.objs.size+1,hh.objs.size)) (o:=.inst C [] []) (TD _) (FG _) k ⟨hx,[],0,hd,.nil⟩) (.cons (.ref eW) (ra.bB X'.bB)) ?_
 cases hq:o f (.ref U.length::args) (U++[.inst C [] []])
 case ok v G=>
  rw[hq]at p;exact PR.o2 p λ u τ e p=>EO e λ hn e c' h' tk x mR qS rx=>⟨rx.sK hn,(WA (P:=λ u τ=>PV w K [] c _ τ u (λ x s'=>R (.ok (.ret x)) s')->PV w K [] c _ G (.ref U.length) (λ x s'=>R (.ok (.ret x)) s')) e id p) c' h' tk _ mR (X'.trans qS) (.ref (qS.ρ _ _ eW))⟩
 all_goals rw[hq]at p;exact p.elim
set_option tactic.hygienic true in
theorem axW(F_:Gf w K D gn mg mb)(O:OX Y w K n o){g:V}{x:DS}(r:Rm n A)(hf:A.frames=DK fr)(fV:gF fr c s.heap)(I:aZ w K U c s.heap)(rg:VR w c s.heap g x)(ra:bI w c s.heap args xs)
  (p:PR w K (VR w) FE [] c s (WY D o g args U) Q Ex):DW (ED Y w) A (call x xs) Q Ex s:=by
 have d:=rg.bW;refine Dh ?_;cases g
 case fn a=>exact d.symm▸O.call A fr c U s a args xs _ r.call hf fV I ra p
 case cls C=>exact d.symm▸ay1 F_ O r hf fV I ra p
 case dW a i=>
  obtain⟨b,q,rfl,h1,h2,h3⟩:=d;exact method_call h1 (O.call A fr c U s a (.ref i::args) _ _ r.call hf fV I (.cons (.ref h3) ra) p)
 all_goals exact p.elim
set_option tactic.hygienic true in
theorem auB(F_:Gf w K D gn mg mb)(O:OX Y w K n o){g:V}{x:DS}(rg:VR w c s.heap g x)(gA:aD.ns (WY D o g args U)):
  ∃P:ES->Prop,(∀c' h' G,aZ w K G c' h'->VR w c' h' g x->P h')/\∀h,P h->∃k,(k=Keeper.frame∨k=Keeper.machine∨k=Keeper.boundFrame)/\YN (ED Y w) h (keeperOf x) k:=by
 have d:=rg.bW;cases g
 case fn a=>exact d.symm▸⟨λ h=>K.In h,λ J J J I J=>I.In,E! (qz (O.fn a args U gA))⟩
 case cls C=>
  refine d.symm▸⟨λ h=>K.In h,λ J J J I J=>I.In,?_⟩;cases hi:D.init C with
  |some f=>exact E! (F_.rO C f hi).1|none=>
   have gA:aD.ns (oe (D.init C) .bL λ f=>Co (.ref U.length) (o f (.ref U.length::args) (U++[.inst C [] []]))):=gA;rw[hi]at gA;exact gA.elim
 case dW a i=>
  obtain⟨b,q,rfl,h1,h2,h3⟩:=d;exact⟨λ h=>∃sf,MethP K b a sf h,λ c' h' G I r=>by obtain⟨b',q,e,e1,_⟩:=(r.bW:TQ w c' h' (.dW a i) (.ref b));exact⟨.ref q.1,(fq e▸e1:h'.get? b=_),I.In⟩,λ h ⟨sf,X⟩=>keeps_M (O.fn a _ U gA) h X⟩
 all_goals exact gA.elim
theorem Pg{α β:Type}{Rl:Cx->ES->α->β->Prop}{ok:aM}{r:R α}{Q:β->EB->Prop}(p:PR w K Rl ok π c s r Q Ex):aD.ns r:=by
 cases r<;>first|exact RR|exact p
theorem am0(F_:Gf w K D gn mg mb)(O:OX Y w K n o){H:Es}{xs:DM Expr}{g:V}{x:DS}(G_:LZ Y w K n D o L H xs)(hn:xs=[]->H=.nil)(hs:IB xs=DN)
  (C:Ct w K n A fr L m c U s.heap Z)(rg:VR w c s.heap g x)(p:PR w K (VR w) FE [] c s (aB.bind (MX D o H m) (λ B=>WY D o g B) U) Q Ex):
  DW (ED Y w) A (ky pos x [] (TR pos (RI xs Z)) []) Q Ex s:=by
 have p:PR w K (VR w) FE [] c s (R.bind (MX D o H m U) λ B=>WY D o g B) Q Ex:=p;have iI:((TR pos (RI xs Z)).any (·.1)||([]:DM (DQ EA×JN DS)).any (·.1.isNone))=DT:=by rw[Ck hs];rfl
 cases hq:MX D o H m U with
 |ok B G=>
  rw[hq]at p;obtain⟨P,k1,k2⟩:=auB (Y:=Y) F_ O rg (Pg p);refine Vp (P:=P) iI k2 (As G_ hn hs C ?_);rw[hq];intro c' h' tk ys I X ra;have C':=C.ext I X;exact⟨k1 c' h' G I (rg.bB X.bB),axW F_ O C.rm C.jV C'.iH I (rg.bB X.bB) ra (PR.from X p)⟩
 |cD e G=>
  rw[hq]at p;refine Vp (P:=λ J=>False) iI (λ J f=>f.elim) (As G_ hn hs C ?_);rw[hq];exact p
 |bL=>rw[hq]at p;exact p.elim
theorem af4(F_:Gf w K D gn mg mb)(O:OX Y w K n o){f:E}{H:Es}{xs:DM Expr}(h1:SE Y w K n D o L f x)(h2:LZ Y w K n D o L H xs)(hn:xs=[]->H=.nil)(hs:IB xs=DN)(hx:JR 23 x=DN):
  SE Y w K n D o L (.call f H) (.Call x xs [] pos):=by
 intro A fr Z m c U s Q E C p;refine Rq ?_ (Al (motive_1:=λ y=>HM (.Call y xs [] pos) Z=(do ky pos (<-HM y Z) [] (TR pos (RI xs Z)) (jg pos (vj [] Z)))) x (VS hx) λ J J=>rfl);refine seq p (λ Q E=>h1 A fr Z m c U s Q E C) λ g G c' h' tk y J I X rg p'=> ?_;exact am0 F_ O h2 hn hs (C.ext I X) rg p'
theorem ay3(F_:Gf w K D gn mg mb){pl:JN DU}{x:DS}{Q:DS×DM DS->EB->Prop}(I:aZ w K U c s.heap)(e:KA D U v a=DK f)(r:VR w c s.heap v x)(h:Q (.ref f,[x]) s):
  DW (ED Y w) A (QU x (sx (EU a)) pl) Q Ex s:=
 ob e λ d hd e=>ob e λ m ha e=>ob e λ f' hf e=>KD e (λ hl e4=>have g:=F_.fH d.1 a (DK f) (ha.trans (DX DK (hf.trans e4)))
  I.sY (P:=λ x=>Q (.ref f,[x]) s->DW (ED Y w) A (QU x (sx (EU a)) pl) Q Ex s) hd r (λ b ox H j IA hr h=>hr.lookIn (j:=j) g.2.1 (P:=λ o=>o=DP->DW (ED Y w) A (QU (.ref b) (sx (EU a)) pl) Q Ex s) (λ J J J J e=>Ch e)
   (λ hz J=>method_fn I.In IA (g.2.2.2 f rfl).1 g.1.gx g.2.2.1 (g.2.2.2 f rfl).2.1 (by show(aiG _ _).map _=_;rw[hz];rfl) h) hl) h) λ J J e=>EW e
end
noncomputable def Aw:Bm->HB
 |.append=> "list.append"|.extend=> "list.extend"|.pop=> "list.pop"|.get=> "dict.get"|.index=> "str.index"
section
variable {w:EV}{K:EQ}{D:Tb}{L:Mx}{mb:EA->DQ DS}{Ex:aJ}
theorem awV:sx (EU acB)=("append" :EA):=by decide+kernel
theorem awW:sx (EU acC)=("extend" :EA):=by decide+kernel
theorem awZ:sx (EU acE)=("pop" :EA):=by decide+kernel
theorem awX:sx (EU r7)=("get" :EA):=by decide+kernel
theorem awY:sx (EU acD)=("index" :EA):=by decide+kernel
theorem v_{b b':Bm}(e:QV b a=DK b'){P:DL->Bm->Prop}(k:P (U6 b) b):P a b':=EO e λ h e=>GV h▸EJ e▸k
theorem U7{pl:JN DU}{ad:DZ}{xs:FM DS}{Q:DS×DM DS->EB->Prop}(hl:IsL s.heap ad xs k){id:HB}(sl:Slot "list" name id)(ty:r8 (.builtin id)=pure (.type "method_descriptor"))(hq:Q (.builtin id,[.ref ad]) s):
  DW (ED Y w) A (QU (.ref ad) name pl) Q Ex s:=te ⟨_,hl,rfl⟩ PySem.F.plainAttrs_list sl ty (λ b e=>fq e▸⟨_,hl,rfl⟩) hq
theorem axV{pl:JN DU}{b:Bm}{x:DS}{Q:DS×DM DS->EB->Prop}(I:aZ w K U c s.heap)(e:iP U v a=DK b)(r:VR w c s.heap v x)(h:Q (.builtin (Aw b),[x]) s):
  DW (ED Y w) A (QU x (sx (EU a)) pl) Q Ex s:=by
 refine FH e (λ e=>ob e λ xs h1 e=> ?_) λ e=>FH e (λ e=>ob e λ d h1 e=> ?_) λ e=>ob e λ t h1 e=> ?_
 ·refine I.oB (P:=λ x=>Q (.builtin (Aw b),[x]) s->DW (ED Y w) A (QU x (sx (EU a)) pl) Q Ex s) h1 r (λ i ad ys k J hl J J=> ?_) h;refine FH e (λ e=> ?_) λ e=>FH e (λ e=> ?_) λ e=> ?_<;>refine v_ (P:=λ a b=>Q (.builtin (Aw b),[.ref ad]) s->DW (ED Y w) A (QU (.ref ad) (sx (EU a)) pl) Q Ex s) e λ h=> ?_
  ·exact awV▸U7 hl ai9 PySem.F.type_list_append h
  ·exact awW▸U7 hl dh PySem.F.type_list_extend h
  ·exact awZ▸U7 hl aiA PySem.F.type_list_pop h
 ·refine I.eD (P:=λ x=>Q (.builtin (Aw b),[x]) s->DW (ED Y w) A (QU x (sx (EU a)) pl) Q Ex s) h1 r (λ ad H k hd J J=> ?_) h;exact v_ (P:=λ a b=>Q (.builtin (Aw b),[.ref ad]) s->DW (ED Y w) A (QU (.ref ad) (sx (EU a)) pl) Q Ex s) e λ h=>
   awX▸te ⟨_,hd,rfl⟩ PySem.F.plainAttrs_dict dg PySem.F.type_dict_get (λ b e=>fq e▸⟨_,hd,rfl⟩) h
 ·refine r.eS (P:=λ x=>Q (.builtin (Aw b),[x]) s->DW (ED Y w) A (QU x (sx (EU a)) pl) Q Ex s) h1 (λ tk=> ?_) h;exact v_ (P:=λ a b=>Q (.builtin (Aw b),[.str (sx t) tk]) s->DW (ED Y w) A (QU (.str (sx t) tk) (sx (EU a)) pl) Q Ex s) e λ h=>
   awY▸te (acG _ _ _) PySem.F.plainAttrs_str aiB PySem.F.type_str_index (λ b e=>(by cases e)) h
theorem acL{a:DZ}{f:FM DS->FM DS}(I:aZ w K U c s.heap)(eW:c.ρ[i]? =DK (a,a))(hl:IsL s.heap a (ER xs) k)(hf:f (ER xs)=ER ys)(r:bI w c s.heap us ys):
  aZ w K (U.set i (.list us)) c (s.heap.update a (TH f))/\bM [] c s.heap c (s.heap.update a (TH f)):=by
 have kk:∀b ob,b≠a->b≠a->s.heap.get? b=DK ob->(s.heap.update a (TH f)).get? b=DK ob:=λ b ob h1 J e=>(OU _ _ (JY h1)).trans e;have X:bM [] c s.heap c (s.heap.update a (TH f)):=bM.nR I eW kk (λ J J=>⟨_,dq hl f⟩) (λ J J=>⟨_,dq hl f⟩);have l':=dq hl f;rw[hf]at l';exact⟨I.nR eW kk ⟨ys,_,l',r.bB X.bB,rfl⟩,X⟩
theorem auL{zs:DM DS}{y:DS}(h:zs[zs.length-1]? =DK y):(ER zs).eraseIdxIfInBounds ((ER zs).size-1)=ER (zs.take (zs.length-1)):=by
 have cS:zs≠[]:=λ e=>by subst e;exact EW h
 have e:zs=zs.dropLast++y::[]:=by
  have:=List.dropLast_concat_getLast cS;rw[List.getLast_eq_getElem]at this;have hl:zs.length-1<zs.length:=bw (List.length_pos_iff.mpr cS) ahD;rw[JU hl]at h;rw[<-EJ h];exact this.symm
 have hd:zs.take (zs.length-1)=zs.dropLast:=(List.dropLast_eq_take ..).symm;rw[hd,HW,show zs.length-1=zs.dropLast.length by rw[List.length_dropLast]];have:=kl_erase zs.dropLast [] y;rw[<-e,KP]at this;exact this
theorem s4{o:V}{a:DZ}{f:FM DS->FM DS}{x:DS}(e:ZR o U u us=DK (v,G))(hi:FI o=DK i)(I:aZ w K U c s.heap)(eW:c.ρ[i]? =DK (a,a))(hl:IsL s.heap a (ER xs) k)
  (hf:f (ER xs)=ER ys)(r:bI w c s.heap us ys)(rx:∀{h'},dR c s.heap c h'->VR w c h' u x)(p:PV w K [] c s G v Q):Q x {s with heap:=s.heap.update a (TH f)}:=by
 unfold ZR at e;rw[hi]at e;have X:=acL I eW hl hf r;exact WA (P:=λ v G=>PV w K [] c s G v Q->_) e (λ p=>p _ _ s.toks _ X.1 X.2 (rx X.2.bB)) p
theorem wc(e:xs.length=n)(h:GE n=DN):(ER xs).size<=JC:=by rw[HW,e];exact WF h
section
variable {x:DS}(I:aZ w K U c s.heap)(r:VR w c s.heap v x)(ra:bI w c s.heap B xs)(p:PV w K [] c s G u Q)
include I r ra p
theorem alE(e:gK .append v B U=DK (u,G)):DW (ED Y w) A (call (.builtin "list.append") (x::xs)) Q Ex s:=
 ob e λ v1 h1 e=>ob e λ ys h2 e=>EO e λ hz e=>RE h1 ra λ y ry=>I.oB h2 r λ i ad zs k hi hl hr eW=>
  Ig ai9 ⟨_,hl,rfl⟩ PySem.F.entry_list_append (PySem.F.args_list_append_2 _ _) (PySem.list_append ad _ k _ (wc hr.bQ hz)) ⟨hl,s4 (f:=λ a=>a.push y) (ys:=zs++[y]) e hi I eW hl (by simp) (.append (.cons ry .nil) hr) (λ J=>.none) p⟩
theorem alI(e:gK .pop v B U=DK (u,G)):DW (ED Y w) A (call (.builtin "list.pop") (x::xs)) Q Ex s:=
 EO e λ h1 e=>ob e λ ys h2 e=>EO e λ hz e=>ob e λ v1 hv e=>by
  rw[(HN h1▸ra:bI w c s.heap [] xs).zero];refine I.oB h2 r λ i ad zs k hi hl hr eW=> ?_;obtain⟨y,hy,ry⟩:=hr.get hv;rw[hr.length]at hy e;exact Ig aiA ⟨_,hl,rfl⟩ PySem.F.entry_list_pop (PySem.F.args_list_pop_1 _) (aI5 ad _ k y (by rw[HW];simpa using hy) (wc hr.bQ hz)) ⟨hl,s4 (f:=λ a=>a.eraseIdxIfInBounds ((ER zs).size-1)) (ys:=zs.take (zs.length-1)) e hi I eW hl (auL hy) (hr.take _) (λ m=>ry.bB m) p⟩
theorem alF(e:gK .extend v B U=DK (u,G)):DW (ED Y w) A (call (.builtin "list.extend") (x::xs)) Q Ex s:=
 ob e λ v1 h1 e=>ob e λ ys h2 e=>ob e λ zs h3 e=>EO e λ J e=>EO e λ hz e=>RE h1 ra λ y ry=>I.oB h2 r λ i ad as k hi hl hr eW=>I.eQ h3 ry λ qT bs nC iJ=>by
  have hz':(ER as).size+(ER bs).size<=JC:=by rw[HW,HW,hr.bQ,iJ.bQ];exact WF hz
  have hd:¬(!(ER as).isEmpty&&aeR ((ER as).size+(ER bs).size))=DN:=by
   unfold aeR;rw[Nq (IG.mpr hz'),M3];exact FJ
  have q:=s4 (f:=λ a=>a++ER bs) (ys:=as++bs) e hi I eW hl (by simp) (.append iJ hr) (λ J=>.none) p;have z1:=EZ (HD _ _) hz';have z2:=P9 hz';cases nC with
  |list k2 AF=>exact Ig dh ⟨_,hl,rfl⟩ ai6 (ai3 _ _) (aI1 ad _ k qT _ k2 hd z1 z2) ⟨hl,AF,q⟩|tuple ht=>exact Ig dh ⟨_,hl,rfl⟩ ai6 (ai3 _ _) (aI2 ad _ k qT _ 0 hd z1 z2) ⟨hl,ht,q⟩
end
@[elab_as_elim] theorem tf{ks B:DM V}{k d u:V}{H:DM FL}{x xd:DS}{P:aN}(e:UA ks B k d=DK u)(rk:VR w c h k x)(rd:VR w c h d xd)(hr:DR w c h ks B H)(kk:∀t tk,GN ks=DN->VR w c h u ((Et (strKind Y w).is H.toArray (sx t)).getD xd)->P (.str (sx t) tk)):P x:=
 ob e λ t ht e=>rk.eS ht λ tk=>(om (P:=λ u=>GN ks=DN/\VR w c h u ((Et (strKind Y w).is H.toArray (sx t)).getD xd)) e λ f hf=>FH hf (λ hf=>ob hf λ t' nF hf=>by
   cases ht.symm.trans nF;obtain⟨hs,_,q⟩:=d_ (Y:=Y) hr hf;refine⟨hs,?_⟩;cases f with
   |none=>rw[show Et _ _ _=_ from q];exact rd|some v=>obtain⟨y,q,ry⟩:=q;rw[q];exact ry) λ hf=>ob hf λ t' nF J=>by rw[IP ht]at nF;exact EW nF).elim (kk t tk)
section
variable {x:DS}(I:aZ w K U c s.heap)(r:VR w c s.heap v x)(ra:bI w c s.heap B xs)(p:PV w K [] c s G u Q)
include I r ra p
theorem alG(e:gK .get v B U=DK (u,G)):DW (ED Y w) A (call (.builtin "dict.get") (x::xs)) Q Ex s:=
 ob e λ d h1 e=>ob e λ z hz e=>have p:PV w K [] c s U z Q:=WA (P:=λ u G=>PV w K [] c s G u Q->PV w K [] c s U z Q) e id p
  I.eD h1 r λ ad H k ho hr hs=>FH hz (λ e=>ob e λ kv h2 e=>RE h2 ra λ y ry=>tf (Y:=Y) (P:=λ y=>DW (ED Y w) A (call (.builtin "dict.get") [.ref ad,y]) Q Ex s) e ry .none hr λ t tk eZ ru=>
    call_meetsIn dg (Bh ho) ai5 (PySem.F.args_dict_get_2 _ _) (meets_dict_get (strKind Y w) ad (XN t tk) hs) ⟨_,Oy ho hr eZ,p.iD I ru⟩)
   λ e=>ob e λ kv h2 e=>Kx h2 ra λ y yd ry rd=>tf (Y:=Y) (P:=λ y=>DW (ED Y w) A (call (.builtin "dict.get") [.ref ad,y,yd]) Q Ex s) e ry rd hr λ t tk eZ ru=>
    call_meetsIn dg (Bh ho) ai5 (PySem.F.args_dict_get_3 _ _ _) (meets_dict_get_default (strKind Y w) ad (XN t tk) hs yd) ⟨_,Oy ho hr eZ,p.iD I ru⟩
theorem alH(e:gK .index v B U=DK (u,G)):DW (ED Y w) A (call (.builtin "str.index") (x::xs)) Q Ex s:=
 ob e λ z h1 e=>ob e λ t h2 e=>ob e λ ch h3 e=>ob e λ t' h4 e=>EO e λ h5 e=>RE h1 ra λ y ry=>ry.eS (P:=λ y=>DW (ED Y w) A (call (.builtin "str.index") [x,y]) Q Ex s) h2 λ tk=>r.eS h4 λ bT=>by
  rw[hJ h5,LH h3];have cY:∀(i:DL),aHU (sx [88,89]) (sx [ch]) 0 (sx [88,89]).length 1=[i]->PV w K [] c s U (.int i) Q->DW (ED Y w) A (call (.builtin "str.index") [.str (sx [88,89]) bT,.str (sx [ch]) tk]) Q Ex s:=λ i ho p=>
   call_gives aiB (acG _ _ _) PySem.F.entry_str_index (PySem.F.args_str_index_2 _ _) (gives_str_index _ _ _ _ i [] ho) (p.iD I (.int _ _))
  refine FH e (λ e=>EO e λ h e=> ?_) λ e=>EO e λ h e=> ?_
  ·exact cY 0 (by rw[GV h];decide+kernel) (WA (P:=λ u G=>PV w K [] c s G u Q->PV w K [] c s U (.int 0) Q) e id p)
  ·exact cY 1 (by rw[GV h];decide+kernel) (WA (P:=λ u G=>PV w K [] c s G u Q->PV w K [] c s U (.int 1) Q) e id p)
end
theorem yl{b:Bm}{x:DS}(I:aZ w K U c s.heap)(r:VR w c s.heap v x)(ra:bI w c s.heap B xs)(e:gK b v B U=DK (u,G))(p:PV w K [] c s G u Q):
  DW (ED Y w) A (call (.builtin (Aw b)) (x::xs)) Q Ex s:=
 match b,e with
 |.append,e=>alE I r ra p e|.extend,e=>alF I r ra p e|.pop,e=>alI I r ra p e|.get,e=>alG I r ra p e|.index,e=>alH I r ra p e
theorem qp{Z:Env}{pos:FS}:∀{xs:DM Expr},IB xs=DN->(TR pos (RI xs Z)).all (λ x=> !x.1)=DN
 |[],_=>rfl|x::r,h=>by
  rw[Kn (DO h).1];exact qp (DO h).2
theorem wx{nX:FS}{xs:DM Expr}(hb:Jt x=DN)(hs:IB xs=DN)(hz:xs.length<30)(pO:(nX.endLine==pos.line)=DN)
  (h:DW (ED Y w) A (HM x Z) (λ ov dQ=>DW (ED Y w) A (QU ov name (do return (<-importBound x Z).getD DN)) (λ fs hU=>DW (ED Y w) A (ky pos fs.1 fs.2 (TR pos (RI xs Z)) []) Q Ex hU) Ex dQ) Ex s):
  DW (ED Y w) A (HM (.Call (.Attribute x name nX) xs [] pos) Z) Q Ex s:=by
 rw[arm_eval_Call,U3 hb];refine DV (IF h (λ ov dQ dJ=>DV (OS ?_)) λ J J e=>e);have hform:aw9 (xs.length+([]:DM Lw).length) (TR pos (RI xs Z)) (jg pos (vj [] Z))=DN:=by
  unfold aw9;rw[qp hs,show jg pos (vj [] Z)=[]from rfl];simp;omega
 have hpos:awA DN x Z nX pos=pure pos:=by unfold awA;simp[pO]
 unfold methodCall;rw[hform];refine DV (HE ?_);show DW _ _ (QU ov name _) _ _ _;exact IF dJ (λ fs hU iU=>DV (Gn hpos iU)) λ J J e=>e
theorem afG(F_:Gf w K D gn mg mb)(O:OX Y w K n o){H:Es}{nX:FS}{xs:DM Expr}(h1:SE Y w K n D o L e x)(h2:LZ Y w K n D o L H xs)(hn:xs=[]->H=.nil)(hs:IB xs=DN)(hz:xs.length<30)
  (rI:name=sx (EU a))(hb:Jt x=DN)(pO:(nX.endLine==pos.line)=DN):SE Y w K n D o L (.bK e a H) (.Call (.Attribute x name nX) xs [] pos):=by
 intro A fr Z m c U s Q E C p;subst rI;refine wx hb hs hz pO (seq p (λ Q E=>h1 A fr Z m c U s Q E C) λ v G c' h' tk y J I X rv p'=> ?_);have C':=C.ext I X;have iI:((TR pos (RI xs Z)).any (·.1)||([]:DM (DQ EA×JN DS)).any (·.1.isNone))=DT:=by rw[Ck hs];rfl
 have p':PR w K (VR w) FE [] c' {s with heap:=h',toks:=tk} (oe (KA D G v a) (oe (iP G v a) .bL λ b=>R.bind (MX D o H m G) λ B=>aB.st (gK b v B)) λ f=>R.bind (MX D o H m G) λ B=>o f (v::B)) Q E:=p';cases hm:KA D G v a with
 |some f=>
  rw[hm]at p';refine ay3 F_ I hm rv ?_;dsimp only;cases hq:MX D o H m G with
  |ok B cZ=>
   rw[hq]at p';refine Vp (P:=λ h=>K.In h) iI (E! (qz (O.fn f _ cZ (Pg p')))) (As h2 hn hs C' ?_);rw[hq];intro eG cV bT ys I' X' ra;have C'':=C'.ext I' X';exact⟨I'.In,Dh (O.call A fr eG cZ _ f (v::B) (y::ys) _ C.rm.call C.jV C''.iH I' (.cons (rv.bB X'.bB) ra) (PR.from (tk:=bT) X' p'))⟩
  |cD ex cZ=>
   rw[hq]at p';refine Vp (P:=λ J=>False) iI (λ J f=>f.elim) (As h2 hn hs C' ?_);rw[hq];exact p'
  |bL=>rw[hq]at p';exact p'.elim
 |none=>
  rw[hm]at p';cases hbm:iP G v a with
  |none=>rw[hbm]at p';exact p'.elim|some b=>
   rw[hbm]at p';refine axV I hbm rv ?_;dsimp only;refine z6 (Ck hs) (As h2 hn hs C' ?_);cases hq:MX D o H m G with
   |ok B cZ=>
    rw[hq]at p';intro eG cV bT ys I' X' ra;exact PR.o2 (PR.from (tk:=bT) X' p') λ u cN e p=>yl I' (rv.bB X'.bB) ra e p
   |cD ex cZ=>rw[hq]at p';exact p'|bL=>rw[hq]at p';exact p'.elim
end
theorem ax4:fillsNumberSlot (.type "tuple") "mul" =pure DT:=
 PySem.fillsNumberSlot_seq (id:= "tuple.__mul__") (r:=DK (.builtin "tuple.__rmul__")) dj.lookup (by decide+kernel) aiD.lookup (by decide+kernel)
theorem aA5:seqRepeat? (.type "tuple")=pure (DK (.builtin "tuple.__mul__")):=by
 unfold seqRepeat?;rw[aiH (T:= "tuple") (name:= "__mul__") (id:= "tuple.__mul__") dj.lookup (by decide+kernel),aiH (T:= "tuple") (name:= "__rmul__") (id:= "tuple.__rmul__") aiD.lookup (by decide+kernel)];rfl
theorem aAG(a:DY)(t:KT)(l:DZ)(dH:FM DS)(n:DL):
  Meets (Builtin.«int.__rmul__» ⟨[.int a t,.ref l],[]⟩) (λ J R s=>s.heap.get? l=DK {cls:=.type "tuple",dict:=DP,data:=.seq dH n,slots:= #[]}/\R (.ok (.ret Value.notImplemented)) s):=
 .of_wp λ Y w A R s h=>by obtain⟨hp,g,d,tk,os⟩:=s;obtain⟨hl,h⟩:=h;wp_walk;exact⟨_,rfl,h⟩
theorem aDF(l:DZ)(dH:FM DS)(n:DL)(u:KT)(DC:¬dH.isEmpty=DN):
  Meets (Builtin.«tuple.__mul__» ⟨[.ref l,.int 0 u],[]⟩) (λ J R s=>s.heap.get? l=DK {cls:=.type "tuple",dict:=DP,data:=.seq dH n,slots:= #[]}/\R (.ok (.ret (.ref s.heap.objs.size))) {s with heap:=s.heap.push {cls:=.type "tuple",data:=.seq #[]}}):=
 .of_wp λ Y w A R s h=>by obtain⟨hp,g,d,tk,os⟩:=s;obtain⟨hl,h⟩:=h;wp_walk;exact⟨_,rfl,h⟩
section
variable {w:EV}{K:EQ}{D:Tb}{L:Mx}{mb:EA->DQ DS}{Ex:aJ}
theorem bI.sJ(r:bI w c h us xs)(q:bI w c h B ys):bI w c h (us++B) (xs++ys):=.append q r
theorem avA{y:DL}(h:y<2^63):y.log2<64:=by
 by_cases hy:y=0
 ·subst hy;decide
 ·exact IW ((ah4 hy).mpr h) (by decide)
theorem avB{y:DL}(h:y<2^63):(y.log2/30+1)<=300:=EZ (Sn (Nat.div_le_div_right (WQ (avA h))) 1) (by decide)
theorem ax6{x y:DY}(h:y.natAbs<2^63):¬aeY x y=DN:=by
 unfold aeY;have:¬(if(y==0)=DN then 0 else y.natAbs.log2/30+1)>300:=by
  split
  ·decide
  ·have:=avB h;omega
 simp only[Nq this,aeI];exact FJ
theorem awJ{x y:DY}(hx:x.natAbs<2^63)(hy:y.natAbs<2^63):IntMulOk x y:=by
 refine .of_left ?_;have qY:x.natAbs.log2<64:=by
  by_cases hy:x.natAbs=0
  ·rw[hy];decide
  ·exact IW ((ah4 hy).mpr hx) (by decide)
 unfold aHK;split<;>omega
theorem Vd{x:DY}(h:NQ x=DN):x.natAbs<2^63:=TC.mp h
theorem zk{x:DY}(h:decide (0<x)=DN):¬(x==0)=DN:=λ e=>Int.ne_of_gt (of_decide_eq_true h) (GW e)
theorem atJ{b:UW}{i j r:DY}{t u:KT}(e:YU b i j=DK r)(q:∀t tk,Q (.int r t) {s with toks:=tk}):DW (ED Y w) A (Hz (Vh b) (.int i t) (.int j u)) Q Ex s:=
 match b,e with
 |.add,e=>P.add_int (EJ e▸q _ _)|.sub,e=>P.sub_int (EJ e▸q _ _)|.jE,e=>EO e λ h1 e=>EO e λ h2 e=>P.mul_int (EJ e▸q _ _) (awJ (Vd h1) (Vd h2))
 |.fdiv,e=>EO e λ h1 e=>EO e λ h2 e=>aHD (zk h1) (ax6 (Vd h2)) (EJ e▸q _ _)
 |.hM,e=>EO e λ h1 e=>EO e λ h2 e=>aHE (zk h1) (EJ e▸q _ _)
 |.oU,e=>EO e λ h1 e=>EO e λ h2 e=>by
   rw[of_decide_eq_true h1,of_decide_eq_true h2];exact aHF (by decide) (by decide) (by decide) (by decide) (by decide+kernel) (by have:=EJ e;subst this;exact q _ _)
theorem aCD{a b:Tx}{t u:KT}(e:LG (a++b)=DN)(q:∀t tk,Q (.str (sx (a++b)) t) {s with toks:=tk}):DW (ED Y w) A (Hz .Add (.str (sx a) t) (.str (sx b) u)) Q Ex s:=by
 have hl:(a++b).length<100000:=TC.mp (DO e).2;rw[GC]at hl;have e:sx a++sx b=sx (a++b):=by
  show aj5 _ _=_;simp[aj5]
 exact aHX (λ t' tk=>e▸q _ _) (by show(ER a).size+(ER b).size<=JC;rw[HW,HW];exact EZ (WQ hl) (by unfold JC;decide))
theorem bI.uC(r:bI w c h us xs)(e:(ER xs).isEmpty=DN):us=[]:=by
 have:=r.length;rw[show xs=[] by simpa using e]at this;exact O4 this
theorem wb(r1:bI w c h us xs)(r2:bI w c h B ys)(hz:GE (us.length+B.length)=DN):(ER xs).size+(ER ys).size<=JC:=by rw[HW,HW,r1.bQ,r2.bQ];exact WF hz
theorem aDE{a b:DZ}(I:aZ w K U c s.heap)(h1:IsT s.heap a (ER xs) 0)(f1:c.fz a)(r1:bI w c s.heap us xs)(h2:IsT s.heap b (ER ys) 0)(f2:c.fz b)(r2:bI w c s.heap B ys)(hz:GE (us.length+B.length)=DN)
  (p:PV w K [] c s U (.aR (us++B)) Q):DW (ED Y w) A (Hz .Add (.ref a) (.ref b)) Q Ex s:=by
 by_cases e1:(ER xs).isEmpty=DN
 ·rw[r1.uC e1]at p;exact concat_meets ⟨_,h1,rfl⟩ ⟨_,h2,rfl⟩ ax3 aBF aiC ai7 (ai4 _ _) (AutoSeq1.tuple___add___tuple_tuple_0 a _ 0 b _ 0 e1) ⟨h1,h2,p.here I (.aR h2 f2 r2)⟩
 ·by_cases e2:(ER ys).isEmpty=DN
  ·rw[r2.uC e2,KP]at p;exact concat_meets ⟨_,h1,rfl⟩ ⟨_,h2,rfl⟩ ax3 aBF aiC ai7 (ai4 _ _) (AutoSeq1.tuple___add___tuple_tuple_1 a _ 0 b _ 0 e1 e2) ⟨h1,h2,p.here I (.aR h1 f1 r1)⟩
  ·exact PySem.P.add_tuple h1 h2 e1 e2 (p.new (tk:=s.toks) I rfl (.aR (xs:=xs++ys) ((HH _ rfl).trans (by rw[agA])) (.inr rfl) ((r1.sJ r2).bB (.eP (FO _ _))))) (wb r1 r2 hz)
theorem avS{a b:DZ}{m:DL}(I:aZ w K U c s.heap)(h1:IsL s.heap a (ER xs) m)(r1:bI w c s.heap us xs)(h2:IsL s.heap b (ER ys) n)(r2:bI w c s.heap B ys)(hz:GE (us.length+B.length)=DN)
  (p:PV w K [] c s (U++[.list (us++B)]) (.ref U.length) Q):DW (ED Y w) A (Hz .Add (.ref a) (.ref b)) Q Ex s:=
 PySem.P.add_list h1 h2 (p.rS (tk:=s.toks) I ⟨xs++ys,0,(HH _ rfl).trans (by rw[agA]),(r1.sJ r2).bB (.own (FO _ _)),rfl⟩) (wb r1 r2 hz)
theorem aA4{a:DZ}{t:KT}(I:aZ w K U c s.heap)(h1:IsT s.heap a (ER xs) 0)(r1:bI w c s.heap us xs)(e:WG us=DN)(p:PV w K [] c s U (.aR []) Q):DW (ED Y w) A (Hz .Mult (.ref a) (.int 0 t)) Q Ex s:=by
 refine wpAny_binaryOp_repeat_ref (T:= "tuple") (U:= "int") (id:= "tuple.__mul__") (idr:= "int.__rmul__") (by decide+kernel) ⟨_,h1,rfl⟩ (λ s'=>typeIs_int s' 0 t) ax4 PySem.F.fills_int_mul ai8 aA5 PySem.F.slot_int_index.lookup ?_;refine Ig ai8 (typeIs_int _ _ _) PySem.F.entry_int_rmul (PySem.F.args_int_rmul_2 _ _) (aAG 0 t a _ 0) ⟨h1,rfl,⟨_,h1,rfl⟩,?_⟩;refine Ig dj ⟨_,h1,rfl⟩ PySem.F.entry_tuple_mul (PySem.F.args_tuple_mul_2 _ _) (aDF a _ 0 t λ e'=>by rw[r1.uC e']at e;cases e) ⟨h1,?_⟩;exact p.new (tk:=s.toks) I rfl (.aR (xs:=[]) (HH _ rfl) (.inr rfl) .nil)
section
variable {r:V}{x y:DS}(I:aZ w K U c s.heap)(hu:VR w c s.heap u x)(hv:VR w c s.heap v y)
theorem PV.eq{o:DQ (V×aS)}(e:o=DK (v',G))(p:PV w K [] c s G v' Q)(e':o=DK (v,U)):PV w K [] c s U v Q:=WA (P:=λ v U=>PV w K [] c s U v Q) (e.symm.trans e') p
include I hu hv
theorem ajO(e:oo (Hp u v U) (oo (Hq u v U) (Ho u v U))=DK (r,G))(p:PV w K [] c s G r Q):DW (ED Y w) A (Hz .Add x y) Q Ex s:=
 FH e (λ e=>ob e λ i e1 e=>ob e λ j e2 e=>EO e λ q e=>hu.eS e1 λ t=>hv.eS e2 λ u=>aCD q λ t tk=>(p.eq e rfl).iD I (.str _ _)) λ e=>
 FH e (λ e=>ob e λ i e1 e=>ob e λ j e2 e=>EO e λ q e=>hu.eT e1 λ a xs h1 f1 r1=>hv.eT e2 λ b ys h2 f2 r2=>aDE I h1 f1 r1 h2 f2 r2 q (p.eq e rfl)) λ e=>
 ob e λ i e1 e=>ob e λ j e2 e=>EO e λ q e=>I.eL e1 hu λ a xs m h1 r1=>I.eL e2 hv λ b ys n h2 r2=>avS I h1 r1 h2 r2 q (p.eq e rfl)
theorem axU{b:UW}(e:Ve b u v U=DK (r,G))(p:PV w K [] c s G r Q):DW (ED Y w) A (Hz (Vh b) x y) Q Ex s:=
 FH e (λ e=>ob e λ i e1 e=>ob e λ j e2 e=>ob e λ k q e=>hu.eI e1 λ t=>hv.eI e2 λ u=>atJ q λ t tk=>(p.eq e rfl).iD I (.int _ _)) λ e=>match b,e with
  |.add,e=>ajO I hu hv e p|.jE,e=>ob e λ i e1 e=>ob e λ j e2 e=>EO e λ q e=>EO e λ q2 e=>hu.eT e1 λ a xs h1 f1 r1=>hv.eI e2 λ t=>of_decide_eq_true q2▸aA4 I h1 r1 q (p.eq e rfl)
end
theorem af2{b:UW}{e1 e2:E}(h1:SE Y w K n D o L e1 x)(h2:SE Y w K n D o L e2 y):SE Y w K n D o L (.bV b e1 e2) (.BinOp x (Vh b) y pos):=by
 intro A fr Z m c U s Q E C p;refine wpAny_BinOp (seq p (λ Q E=>h1 A fr Z m c U s Q E C) λ v G c' h' tk y J I X rv p'=> ?_);refine seq p' (λ Q E=>h2 A fr Z m c' G _ Q E (C.ext I X)) λ u cZ eG cV bT z J I' X' ru fN=> ?_;exact PR.o2 fN λ r cN e p=>axU I' (rv.bB X'.bB) ru e p
theorem z9{i:DY}{p1:FS}:SE Y w K n D o L (.k (.int (-i))) (.UnaryOp .USub (.Constant (.int i) j p1) pos):=by
 intro A fr Z m c U s Q E C p;rw[arm_eval_UnaryOp];refine DV (wpAny_Constant_int (DV (OS (HE (PySem.P.neg_int ?_)))));have p':PR w K (VR w) FE [] c s (.ok (.int (-i)) U) Q E:=p;exact p' c s.heap _ _ C.bW (.refl _ _ _) (.int _ _)
end
open PySem PySem.W PySem.Calls PyProof.Rows PySem.SeqAt
mutual
noncomputable def HT:V->PyData
 |.none=>.none|.bool b=>.bool b|.int i=>.int i|.str t=>.str (sx t)|.aR B=>.tuple (IN B)|.aX B=>.list (IN B)|_=>.none
noncomputable def IN:DM V->DM PyData
 |[]=>[]|v::B=>HT v::IN B
end
theorem yh{t:Tx}(h:LG t=DN):(PyData.str (sx t)).canLay0=DN:=by
 unfold LG at h;rw[Gu]at h;show(ER t).all _=DN;rw[List.all_toArray,FQ];intro c hc;have:=FQ.mp h.1 c hc;exact Bg (TC.mp this)
theorem Fy(e:ID v=DN):(HT v).canLay0=DN:=Qe (P:=λ v=>(HT v).canLay0=DN) (Q:=λ B=>ce (IN B)=DN) rfl (λ J=>rfl) (λ J h=>yh h) rfl (λ v B p q=>Mt p q) (λ J=>rfl) (λ J J q=>q) (λ J J q=>q) v e
theorem Zr(e:IE B=DN):ce (IN B)=DN:=f8 (P:=λ v=>(HT v).canLay0=DN) (Q:=λ B=>ce (IN B)=DN) rfl (λ J=>rfl) (λ J h=>yh h) rfl (λ v B p q=>Mt p q) (λ J=>rfl) (λ J J q=>q) (λ J J q=>q) B e
theorem Y1(e:ID v=DN):(HT v).depth=dp v:=Qe (P:=λ v=>(HT v).depth=dp v) (Q:=λ B=>cf (IN B)=VL B) rfl (λ J=>rfl) (λ J J=>rfl) rfl (λ v B p q=>by show max (HT v).depth (cf (IN B))=Nat.max (dp v) (VL B);rw[p,q]) (λ J=>rfl) (λ J J q=>DX (·+1) q) (λ J J q=>DX (·+1) q) v e
theorem we(a b:Tx):(a==b)=FT a b:=by
 rw[jk];by_cases h:a=b
 ·subst h;simp
 ·rw[Nq h];exact Nc.mpr h
theorem aCU(a b:Tx):(sx a==sx b)=FT a b:=by
 rw[jk];by_cases h:a=b
 ·subst h;simp
 ·rw[Nq h];exact Nc.mpr λ e=>h (by simpa using DX (λ x:EA=>x.cps.toList) e)
theorem aoG:(∀a b:V,ID a=DN->ID b=DN->Dt (HT a) (HT b)=NT a b)/\∀a b:DM V,IE a=DN->IE b=DN->Hi (IN a) (IN b)=VN a b:=by
 have nS:∀{P:Prop} {v:V},ID v=DN->ID v=DT->P:=λ h e=>FB (e.symm.trans h);have key:∀l:DM V,(∀b,IE l=DN->IE b=DN->Hi (IN l) (IN b)=VN l b)->(∀b,ID (.aR l)=DN->ID b=DN->Dt (HT (.aR l)) (HT b)=NT (.aR l) b)/\∀b,ID (.aX l)=DN->ID b=DN->Dt (HT (.aX l)) (HT b)=NT (.aX l) b:=λ l ih=>
  ⟨λ b ha hb=>by cases b<;>first|exact ih _ ha hb|rfl|exact nS hb rfl,λ b ha hb=>by cases b<;>first|exact ih _ ha hb|rfl|exact nS hb rfl⟩
 have nil:∀b,IE []=DN->IE b=DN->Hi (IN []) (IN b)=VN [] b:=λ b J J=>b.casesOn rfl λ J J=>rfl;have cons:∀x xs,(∀b,ID x=DN->ID b=DN->Dt (HT x) (HT b)=NT x b)->(∀b,IE xs=DN->IE b=DN->Hi (IN xs) (IN b)=VN xs b)->∀b,IE (x::xs)=DN->IE b=DN->Hi (IN (x::xs)) (IN b)=VN (x::xs) b:=
  λ x xs p q b=>b.casesOn (λ J J=>rfl) λ y ys ha hb=>(DX (·&&_) (p y (DO ha).1 (DO hb).1)).trans (DX (NT x y&&·) (q ys (DO ha).2 (DO hb).2))
 have all:∀a:V,∀b,ID a=DN->ID b=DN->Dt (HT a) (HT b)=NT a b:=λ a=>
  V.rec (motive_1:=λ a=>∀b,ID a=DN->ID b=DN->Dt (HT a) (HT b)=NT a b) (motive_2:=λ a=>∀b,IE a=DN->IE b=DN->Hi (IN a) (IN b)=VN a b)
   (λ b J hb=>by cases b<;>first|rfl|exact nS hb rfl) (λ x b J hb=>by cases b<;>first|rfl|exact nS hb rfl) (λ x b J hb=>by cases b<;>first|rfl|exact nS hb rfl) (λ x b J hb=>by cases b<;>first|exact aCU _ _|rfl|exact nS hb rfl)
   (λ l ih=>(key l ih).1) (λ l ih=>(key l ih).2) (λ J J J J J h=>nS h rfl) (λ J J J J J h=>nS h rfl) (λ J J h=>nS h rfl) (λ J J h=>nS h rfl) (λ J J h=>nS h rfl) (λ J J J h=>nS h rfl) (λ J J J J h=>nS h rfl) nil cons a
 exact⟨all,λ l=>List.rec (motive:=λ a=>∀b,IE a=DN->IE b=DN->Hi (IN a) (IN b)=VN a b) nil (λ x xs q=>cons x xs (all x) q) l⟩
theorem Wj{a:V}:ID a=DN->ID b=DN->Dt (HT a) (HT b)=NT a b:=aoG.1 a b
section
variable {w:EV}{K:EQ}{D:Tb}{L:Mx}{mb:EA->DQ DS}{Ex:aJ}
theorem VR.mJ{x:DS}(r:VR w c h v x):ID v=DN->∃as,YR h x (HT v) as:=
 VR.rec (motive_1:=λ v x J=>ID v=DN->∃as,YR h x (HT v) as) (motive_2:=λ B xs J=>IE B=DN->∃as,ReadsAll h xs (IN B) as) (motive_3:=λ J J J J=>True) (motive_4:=λ J J J J=>True)
  (λ J=>⟨_,.none⟩) (λ b J=>⟨_,.bool b⟩) (λ i t J=>⟨_,.int i t⟩) (λ x t J=>⟨_,.str _ _⟩) (λ a J J r e=>(r e).elim λ J r=>⟨_,.tuple a rfl rfl (by simpa using r)⟩) (λ a J J r e=>(r e).elim λ J r=>⟨_,.list a rfl rfl (by simpa using r)⟩) (λ J J J J e=>FB e)
  (λ J J J J J J J J J e=>FB e) (λ J e=>FB e) (λ J e=>FB e) (λ J e=>FB e) (λ J J J e=>FB e) (λ J J J e=>FB e)
  (λ J=>⟨_,.nil⟩) (λ J J a r e=>(a (DO e).1).elim λ J p=>(r (DO e).2).elim λ J q=>⟨_,.cons p q⟩) trivial (λ J J J J J=>trivial) trivial (λ J J J J J J=>trivial) r
theorem bI.mJ{B:DM V}:∀{xs:DM DS},bI w c h B xs->IE B=DN->∃as,ReadsAll h xs (IN B) as:=by
 induction B with
 |nil=>exact λ r J=>r.zero▸⟨_,.nil⟩
 |cons v B ih=>exact λ r e=>r.el λ J J a r=>(a.mJ (DO e).1).elim λ J p=>(ih r (DO e).2).elim λ J q=>⟨_,.cons p q⟩
theorem Ok(e:Bx v=DN):ID v=DN/\dp v<=60:=⟨(DO e).1,GO (DO e).2⟩
theorem ab0(e:ID v=DN)(hd:dp v<=64):shaped (HT v)=DN:=by
 unfold shaped;rw[Fy e,Y1 e,Bg hd];rfl
theorem aBE{x:DS}(I:aZ w K U c s.heap)(e:XU U v=DK B)(r:VR w c s.heap v x)(hs:IE B=DN):∃as,YR s.heap x (.list (IN B)) as∨YR s.heap x (.tuple (IN B)) as:=
 I.eQ (P:=λ x=>∃as,YR s.heap x (.list (IN B)) as∨YR s.heap x (.tuple (IN B)) as) e r λ a xs nC hr=>(hr.mJ hs).elim λ as q=>by
  cases nC with
  |list k hl=>exact⟨_,.inl (.list hl rfl rfl (by simpa using q))⟩|tuple ht=>exact⟨_,.inr (.tuple ht rfl rfl (by simpa using q))⟩
structure iY(Y:TK)(w:EV)(A:HG)(Ex:aJ)(s:EB)(p n:Gw)(x y:DS)(b:DU):Prop where
 uM:∀{Q:aJ},(∀tk,Q (.bool b) {s with toks:=tk})->DW (ED Y w) A (XD p x y) Q Ex s
 no:∀{Q:aJ},(∀tk,Q (.bool (!b)) {s with toks:=tk})->DW (ED Y w) A (XD n x y) Q Ex s
theorem anG{x y:DS}{bs:DM DZ}(ra:YR s.heap x (HT u) as)(rb:YR s.heap y (HT v) bs)(hr:A.units+64<KU)(h1:Bx u=DN)(h2:Bx v=DN):iY Y w A Ex s .Eq .NotEq x y (NT u v):=
 have s1:=Ok h1;have s2:=Ok h2;have d1:=ab0 s1.1 (EZ s1.2 (by decide));have d2:=ab0 s2.1 (EZ s2.2 (by decide))
 ⟨λ q=>compareEq_shaped ra rb d1 d2 hr (by rw[Wj s1.1 s2.1];exact q s.toks),λ q=>compareNe_shaped ra rb d1 d2 hr (by rw[Wj s1.1 s2.1];exact q s.toks)⟩
theorem aCC{a b:Tx}{t u:KT}:iY Y w A Ex s .Eq .NotEq (.str (sx a) t) (.str (sx b) u) (FT a b):=
 ⟨λ q=>PySem.P.eq_str (by rw[show∀a b:Tx,((sx a).cps.toList==(sx b).cps.toList)=FT a b from we];exact q s.toks),λ q=>PySem.P.ne_str (by rw[bne,show∀a b:Tx,((sx a).cps.toList==(sx b).cps.toList)=FT a b from we];exact q s.toks)⟩
theorem Uq{x:V}(hx:ID x=DN){B:DM V}:IE B=DN->((IN B).any λ y=>Dt y (HT x))=Dy x B:=by
 induction B with
 |nil=>exact λ J=>rfl
 |cons v B ih=>exact λ h=>congr (DX or (Wj (DO h).1 hx)) (ih (DO h).2)
end
open PySem PySem.W PySem.Calls PyProof.Rows PySem.SeqAt
theorem at0(e:MF v=DN):(JT v).isDKey=DN:=Ix (P:=λ v=>(JT v).isDKey=DN) (Q:=λ B=>WData.areDKeys (ZO B)=DN) rfl (λ J=>rfl) (λ J J=>rfl) rfl (λ v B p q=>Mt p q) (λ J J q=>q) v e
theorem Ey(e:MF v=DN):ID v=DN:=Ix (P:=λ v=>ID v=DN) (Q:=λ B=>IE B=DN) rfl (λ J=>rfl) (λ J h=>h) rfl (λ v B p q=>Mt p q) (λ J J q=>q) v e
theorem asZ(e:MF v=DN):(JT v).depth<=dp v+1:=Ix (P:=λ v=>(JT v).depth<=dp v+1) (Q:=λ B=>WData.depthAll (ZO B)<=VL B+1) (by decide) (λ J=>GI _) (λ J J=>GI _) (GI _)
 (λ v B p q=>Nat.max_le.mpr ⟨EZ p (TG (Nat.le_max_left _ _)),EZ q (TG (Nat.le_max_right _ _))⟩) (λ J J q=>TG q) v e
set_option tactic.hygienic true in
theorem aoH{a:V}(ha:MF a=DN):MF b=DN->NT a b=DN->JT a=JT b:=
 Ix (P:=λ a=>∀b,MF b=DN->NT a b=DN->JT a=JT b) (Q:=λ a=>∀b,JF b=DN->VN a b=DN->ZO a=ZO b)
  (λ b J e=>Bz e▸rfl) (λ x b hb e=>by
   cases b
   case int y=>exact DX ajF (GW (show(x==y)=DN from e))
   all_goals first|exact EP e FJ|exact EP hb FJ) (λ t J b J e=>EL e λ u hu q=>by rw[IP hu,hJ q])
  (λ b J e=>HN e▸rfl) (λ v B p q b hb e=>match b,hb,e with
   |u::us,hb,e=>(congr (DX O2 (p u (DO hb).1 (DO e).1)) (q us (DO hb).2 (DO e).2):JT v::ZO B=JT u::ZO us)) (λ B J q b hb e=>EL e λ us hu z=>by
    have hb:MF (.aR us)=DN:=MB hu▸hb;rw[MB hu];exact DX WData.tuple (q us hb z)) a ha b
section
variable {w:EV}{K:EQ}{D:Tb}{L:Mx}{Ex:aJ}
theorem VR.CP{x:DS}(r:VR w c h v x):MF v=DN->Well w.params h x (JT v):=
 VR.rec (motive_1:=λ v x J=>MF v=DN->Well w.params h x (JT v)) (motive_2:=λ B xs J=>JF B=DN->WellAll w.params h xs (ZO B)) (motive_3:=λ J J J J=>True) (motive_4:=λ J J J J=>True)
  (λ J=>.none) (λ J e=>FB e) (λ i t J=>.int i t) (λ x t J=>.str _ _) (λ a J J r e=>.tuple a (r e)) (λ J J J J e=>FB e) (λ J J J J e=>FB e)
  (λ J J J J J J J J J e=>FB e) (λ J e=>FB e) (λ J e=>FB e) (λ J e=>FB e) (λ J J J e=>FB e) (λ J J J e=>FB e)
  (λ J=>.nil) (λ J J a r e=>.cons (a (DO e).1) (r (DO e).2)) trivial (λ J J J J J=>trivial) trivial (λ J J J J J J=>trivial) r
theorem tw{x:DS}{Q:DY->EB->Prop}(r:VR w c s.heap v x)(hv:MF v=DN)(hu:A.units+dp v+1<KU)(h:∀tk,Q (UB w.params (JT v)) {s with toks:=tk}):DW (ED Y w) A (pyHash x) Q Ex s:=
 pyHash_laid (JT v) x A s Q (at0 hv) (r.CP hv) (JX (RP (asZ hv) _) hu) h
set_option tactic.hygienic true in
theorem vh{x:DS}(r:VR w c h v x)(hv:MF v=DN){P:aN}(h0:P .none)(h1:∀i t,P (.int i t))(h2:∀t k,P (.str t k))(h3:∀a B xs,IsT h a (ER xs) 0->bI w c h B xs->JF B=DN->P (.ref a)):P x:=by
 have d:=r.bW;cases v
 case none=>exact d.symm▸h0
 case int=>obtain⟨t,e⟩:=d;exact e▸h1 _ t
 case str=>obtain⟨t,e⟩:=d;exact e▸h2 _ t
 case aR B=>obtain⟨a,xs,e,g1,_,g3⟩:=d;exact e▸h3 a B xs g1 g3 hv
 all_goals exact FB hv
theorem zy(f:DL):∀{v:V} {x:DS} {A:HG} {s:EB} {Q:DU->EB->Prop},VR w c s.heap v x->MF v=DN->(∀b,Q b s)->DW (ED Y w) A (Wi f x) Q Ex s:=by
 induction f with
 |zero=>
  intro v x A s Q r hv hQ;refine vh r hv (P:=λ x=>DW (ED Y w) A (Wi 0 x) Q Ex s) (EK (hQ _)) (λ J J=>EK (hQ _)) (λ J J=>EK (hQ _)) λ a B xs g1 g3 hv=> ?_;have hT:s.TypeIs (.ref a) "tuple" :=⟨_,g1,rfl⟩;unfold Wi;refine DV (Go hT afR.lookup ?_);show DW _ _ (isInstance (.ref a) (.type "tuple")>>=_) _ _ s;exact DV (Ra hT atZ (EK (hQ _)))
 |succ f ih=>
  intro v x A s Q r hv hQ;refine vh r hv (P:=λ x=>DW (ED Y w) A (Wi (f+1) x) Q Ex s) (EK (hQ _)) (λ J J=>EK (hQ _)) (λ J J=>EK (hQ _)) λ a B xs g1 g3 hv=> ?_;have hT:s.TypeIs (.ref a) "tuple" :=⟨_,g1,rfl⟩;unfold Wi;refine DV (Go hT afR.lookup ?_);show DW _ _ (isInstance (.ref a) (.type "tuple")>>=_) _ _ s;refine DV (Ra hT atZ ?_);simp only[y9,Rk,Od];refine DV (WI g1 rfl (DV ?_));show DW _ _ (Wt (ER xs) _ _) _ _ s;rw[<-Array.forIn_toList];refine wpAny_forIn_list _ (λ rest r s'=>s'=s/\∃us,bI w c s.heap us rest/\JF us=DN) _ ?_ ?_ _ _ ⟨rfl,B,g3,hv⟩
  ·rintro y rest r s' ⟨rfl,us,q1,q2⟩
   cases q1 with
   |cons q1 q3=>
    refine DV (ih q1 (DO q2).1 λ b=> ?_);cases b
    ·exact EK (EK (hQ _))
    ·exact EK ⟨rfl,_,q3,(DO q2).2⟩
  ·rintro⟨_|b,u⟩ s' ⟨rfl,_⟩<;>exact EK (hQ _)
theorem ayZ(h:DY):az1 (ER ([]:DM FL)).size (λ i=>(ER ([]:DM FL))[i]?.map (·.hash)) h=[]:=rfl
theorem az0(e:FL)(h:DY)(q:e.hash=h):az1 (ER [e]).size (λ i=>(ER [e])[i]?.map (·.hash)) h=[0]:=by
 subst q;show(MR 1).filter (λ i=>((ER [e])[i]?.map (·.hash))==DK e.hash)=[0];simp[List.range_succ]
theorem qt{d a:DZ}{m:DL}{hv:DY}{Q:DQ DL->EB->Prop}(ho:s.heap.get? d=DK (FK (ER []) m))(h:Q DP s):DW (ED Y w) A (W9 d (.ref a) hv) Q Ex s:=by
 unfold W9
 try with_reducible refine HE ?_
 refine DV (acV ho rfl ?_);dsimp only;rw[ayZ];rw[FU (by exact FJ)];rw[FU (by simp)];refine DV ?_;show DW _ _ (l8 (.ref a) []) _ _ _;unfold l8;rw[GG (show([]:DM DS).isEmpty=DN from rfl)];refine EK ?_;rw[FU (by simp)];exact DV (EK (EK h))
theorem au3{β:Type}{M:NM}{c:Prop}[N4 c]{x y:JN DU}{f:DU->JN β}{Q:β->EB->Prop}(hx:∀R:DU->EB->Prop,(∀b,R b s)->DW M A x R Ex s)(hy:∀R:DU->EB->Prop,(∀b,R b s)->DW M A y R Ex s)(h:∀b,DW M A (f b) Q Ex s):DW M A (if c then x>>=f else y>>=f) Q Ex s:=by
 by_cases hc:c
 ·rw[GG hc];exact DV (hx _ h)
 ·rw[FU hc];exact DV (hy _ h)
theorem apA{d a:DZ}{m:DL}{k':V}{ts:DM V}{kx x:DS}{Q:DQ DL->EB->Prop}(hu:A.units+70<KU)(ho:s.heap.get? d=DK (FK (ER [⟨UB w.params (JT k'),kx,x⟩]) m))
  (rk:VR w c s.heap (.aR ts) (.ref a))(hk:MF (.aR ts)=DN)(wY:VR w c s.heap k' kx)(oM:MF k'=DN)(he:NT k' (.aR ts)=DN)(hd:dp k'<=60)(h:Q (DK 0) s):
  DW (ED Y w) A (W9 d (.ref a) (UB w.params (JT (.aR ts)))) Q Ex s:=by
 have ehash:=DX (UB w.params) (aoH oM hk he);unfold W9
 try with_reducible refine HE ?_
 refine DV (acV ho rfl ?_);dsimp only;rw[az0 _ _ ehash];rw[FU (by exact FJ)];rw[FU (by simp[ehash])];obtain⟨as,ra⟩:=wY.mJ (Ey oM);obtain⟨bs,rb⟩:=rk.mJ (Ey hk);have eZ:(ao (λ i=>NN (λ x=>x.key) (ER [(⟨UB w.params (JT k'),kx,x⟩:FL)])[i]?) [0])=[kx]:=rfl;rw[eZ];have room:A.units+min (HT k').depth (HT (.aR ts)).depth<KU:=by
  rw[Y1 (Ey oM)];exact JX (RP (EZ (EZ (Nat.min_le_left _ _) hd) (by decide)) _) hu
 have eqb:∀{Q:DU->EB->Prop},Q DN s->DW (ED Y w) A (eqBool kx (.ref a)) Q Ex s:=λ {Q} hQ=>
  eqBoolOverData Y w A Ex s kx (.ref a) (HT k') (HT (.aR ts)) as bs Q ra rb (Fy (Ey oM)) (Fy (Ey hk)) room (by rw[Wj (Ey oM) (Ey hk),he];exact hQ)
 have tell:∀{Q:DU->EB->Prop},(∀b,Q b s)->DW (ED Y w) A (l8 (.ref a) [kx]) Q Ex s:=by
  intro Q hQ;unfold l8;rw[FU (show¬([kx].isEmpty=DN)from FJ)];refine DV (zy 8 rk hk λ b=> ?_);cases b
  ·exact EK (hQ _)
  ·simp only[y9,Rk,Od];rw[Ac];refine DV (DV (DV (zy 8 wY oM λ b=> ?_)));cases b
   ·exact EK (EK (EK (hQ _)))
   ·simp only[y9,Rk,Od];exact EK (EK (EK (hQ _)))
 refine au3 (λ R h=>EK (h DT)) (λ R h=>tell h) λ DG=> ?_;rw[FU (by simp)];rw[Ac];refine DV (DV ?_);show DW _ _ (if(UB w.params (JT k')==UB w.params (JT (.aR ts)))=DN then _ else _) _ _ _;rw[GG (by rw[ehash];simp)];refine DV (aEG ho rfl (DV (eqb (DV (aEG ho rfl ?_)))));rw[FU (by simp)];rw[GG rfl];rw[FU (by simp)];refine DV (YA ?_);rw[GG (by simp)];exact EK (EK (EK h))
end
open PySem PySem.W PySem.Calls PyProof.Rows PySem.SeqAt
section
variable {w:EV}{K:EQ}{D:Tb}{L:Mx}{Ex:aJ}
theorem aaB{ts:DM V}(hu:A.units+100<KU)(hd:FW (VL ts) 50=DN):A.units+dp (.aR ts)+1<KU:=JX (RP (EZ (Sn (GO hd) 2) (by decide):VL ts+2<=100) A.units) hu
theorem Gk{u b:DL}(h:u+b<KU)(q:a<=b):u+a<KU:=JX (RP q u) h
theorem tj{d a:DZ}{H:DM FL}{m:DL}{ts:DM V}{r:DQ V}{Q:DQ DS->EB->Prop}(hu:A.units+100<KU)(ho:s.heap.get? d=DK (FK (ER H) m))(hr:DR w c s.heap ks B H)
  (rk:VR w c s.heap (.aR ts) (.ref a))(e:Nx ks B (.aR ts) ts=DK r)(h0:r=DP->∀tk,Q DP {s with toks:=tk})(h1:∀v x,r=DK v->VR w c s.heap v x->∀tk,Q (DK x) {s with toks:=tk}):
  DW (ED Y w) A (X8 d (.ref a)) Q Ex s:=by
 refine EO e λ hh e=>EO e λ hd e=> ?_;unfold X8
 try with_reducible refine HE ?_
 refine DV (tw rk hh (aaB hu hd) λ tk=> ?_);cases ks with
 |nil=>
  revert ho
  refine hr.e0 (P:=λ J H=>s.heap.get? d=DK (FK (ER H) m)->_) λ ho=> ?_;exact DV (qt (s:={s with toks:=tk}) ho (EK (h0 (EJ e).symm tk)))
 |cons k' ks=>
  refine EO e λ h2 e=>EO e λ he e=>EO e λ hk e=>EO e λ tL e5=> ?_;cases HN h2;clear e
  revert ho e5
  refine hr.el (P:=λ B H=>s.heap.get? d=DK (FK (ER H) m)->(bN B).map DK=DK r->_) λ v us kx x fs q1 q2 q3=>q3.e0 (P:=λ us fs=>s.heap.get? d=DK (FK (ER (⟨hK w k',kx,x⟩::fs)) m)->(bN (v::us)).map DK=DK r->_) λ ho e=> ?_;have hkk:hK w k'=UB w.params (JT k'):=by
   cases k'<;>first|rfl|exact EP he FJ
  rw[hkk]at ho;refine DV (apA (s:={s with toks:=tk}) (Gk hu (by decide)) ho rk hh q1 hk he (EZ (GO tL) (by decide)) ?_);exact DV (acV ho rfl (EK (h1 _ _ (EJ e).symm q2 tk)))
theorem xx{d a:DZ}{H:DM FL}{m:DL}{ts:DM V}{r:DQ V}(hu:A.units+110<KU)(hd:(d==GQ)=DT)(ho:s.heap.get? d=DK (FK (ER H) m))(hr:DR w c s.heap ks B H)
  (rk:VR w c s.heap (.aR ts) (.ref a))(e:Nx ks B (.aR ts) ts=DK r):
  ((∀tk,Q (.bool r.isSome) {s with toks:=tk})->DW (ED Y w) A (XD .In (.ref a) (.ref d)) Q Ex s)/\((∀tk,Q (.bool (!r.isSome)) {s with toks:=tk})->DW (ED Y w) A (XD .NotIn (.ref a) (.ref d)) Q Ex s):=by
 have hT:=Bh (s:=s) ho;have main:∀{Q:DU->EB->Prop},(∀tk,Q r.isSome {s with toks:=tk})->DW (ED Y w) A (W1 (.ref d) (.ref a)) Q Ex s:=by
  intro Q h;unfold W1
  try with_reducible refine HE ?_
  refine DV (Go hT abB.lookup ?_);show DW _ _ (if(DK (fp "dict.__contains__")==DK LC)=DN then _ else _) _ _ s;rw[FU (by rw[beq_builtin_none];exact FJ)];refine DV (wpAny_callSpecialUnlessNone?_slot (name:=LB "__contains__") hT abB
   (SP abB hT entry_dict_contains ?_ (args_dict_contains _ _)))
  show DW _ _ (X8 d (.ref a)>>=_) _ _ s;refine DV (tj (by rw[y7,TB];exact Gk hu (by decide)) ho hr rk e (λ hn tk=> ?_) λ v x hs rx tk=> ?_)
  ·subst hn;show DW _ _ (aHI d (.ref a)>>=_) _ _ _;exact DV (wpAny_pendingKey_other hd (EK ⟨_,rfl,D9 (h tk)⟩))
  ·subst hs;show DW _ _ (ret (.bool DN)) _ _ _;exact EK ⟨_,rfl,D9 (h tk)⟩
 exact⟨λ h=>(show DW _ _ (do return .bool (<-W1 (.ref d) (.ref a))) Q Ex s from DV (main λ tk=>EK (h tk))),
  λ h=>(show DW _ _ (do return .bool (!(<-W1 (.ref d) (.ref a)))) Q Ex s from DV (main λ tk=>EK (h tk)))⟩
theorem asG{d a:DZ}{H:DM FL}{m:DL}{ts:DM V}(hu:A.units+110<KU)(ho:s.heap.get? d=DK (FK (ER H) m))(hr:DR w c s.heap ks B H)
  (rk:VR w c s.heap (.aR ts) (.ref a))(e:Nx ks B (.aR ts) ts=DK (DK v))(h:∀x tk,VR w c s.heap v x->Q x {s with toks:=tk}):DW (ED Y w) A (Oa (.ref d) (.ref a)) Q Ex s:=by
 have hT:=Bh (s:=s) ho;unfold Oa
 try with_reducible refine HE ?_
 refine DV (D7 hT (by decide) ?_);refine DV (XZ (name:=LB "__getitem__") hT i6
  (SP i6 hT entry_dict_getitem ?_ (args_dict_getitem _ _)))
 show DW _ _ (X8 d (.ref a)>>=_) _ _ s;refine DV (tj (by rw[y7,TB];exact Gk hu (by decide)) ho hr rk e (λ hn=>by cases hn) λ v' x hs rx tk=> ?_);cases hs;exact EK ⟨x,rfl,EK (h x tk rx)⟩
theorem aBM{d a:DZ}{H:DM FL}{m:DL}{ts:DM V}{x:DS}{Q:aK}(hu:A.units+110<KU)(ho:s.heap.get? d=DK (FK (ER H) m))(hr:DR w c s.heap ks B H)
  (oK:¬c.fz d)(rk:VR w c s.heap (.aR ts) (.ref a))(q:VR w c s.heap v x)(e:W? ks (.aR ts) v ts=DK (ks',vs'))
  (hQ:∀h' dZ n' tk,h'.get? d=DK (FK (ER dZ) n')->DR w c h' ks' vs' dZ->WL d s.heap h'->Q () {s with heap:=h',toks:=tk}):DW (ED Y w) A (setItem (.ref d) (.ref a) x) Q Ex s:=by
 have hT:=Bh (s:=s) ho;refine EO e λ hh e=>EO e λ hd e=>EO e λ hn e=> ?_;have hr:DR w c s.heap [] B H:=HN hn▸hr
 revert ho
 refine hr.e0 (P:=λ J H=>s.heap.get? d=DK (FK (ER H) m)->_) λ ho=> ?_;unfold setItem
 try with_reducible refine HE ?_
 refine DV (D7 hT (by decide) ?_);refine DV (XZ (name:=LB "__setitem__") hT i7
  (SP i7 hT aoA ?_ (ak7 _ _ _)))
 show DW _ _ (aeM "__setitem__" ⟨[.ref d,.ref a,x],[]⟩>>=_) _ _ s;refine DV (acZ hT ?_);show DW _ _ (El d (.ref a) x>>=_) _ _ s;unfold El;refine DV ?_
 try with_reducible refine HE ?_
 refine DV (tw rk hh (aaB (by rw[y7,TB];exact Gk hu (by decide)) hd) λ tk=> ?_);unfold anO
 try with_reducible refine HE ?_
 refine DV (qt (s:={s with toks:=tk}) ho ?_);have mo:dR c s.heap c (s.heap.update d (ahJ (·.push ⟨UB w.params (JT (.aR ts)),.ref a,x⟩))):=⟨λ J J e=>e,λ J e=>e,λ b ob f e=>(OU _ _ (show d≠b from λ z=>oK (z.symm▸f))).trans e⟩;have r':=WA (P:=λ ks' vs'=>DR w c (s.heap.update d (ahJ (·.push ⟨UB w.params (JT (.aR ts)),.ref a,x⟩))) ks' vs' [⟨UB w.params (JT (.aR ts)),.ref a,x⟩]) e (.cons (rk.bB mo) (q.bB mo) .nil);exact DV (YA (aEN (hz:=by simp) (s:={s with toks:=tk}) ho rfl (EK ⟨.none,rfl,EK (hQ _ [⟨UB w.params (JT (.aR ts)),.ref a,x⟩] (m+1) tk ((WM _ ho rfl).trans rfl) r' (Ry ..))⟩)))
end
open PySem PySem.W PySem.Calls PyProof.Rows PySem.SeqAt
section
variable {w:EV}{K:EQ}{D:Tb}{L:Mx}{Ex:aJ}
theorem C7{b:DL}(r:Rm n A)(q:b<=180):A.units+b<KU:=JX (OF (HD A.units (40 * n)) q) r.un
section
variable {i r:V}{x y:DS}(I:aZ w K U c s.heap)(hu:VR w c s.heap u x)(hi:VR w c s.heap i y)(hx:Js slice=DN)(p:PV w K [] c s U r Q)
include I hu hi hx p
theorem aCJ{d:DM V×DM V}(hd:JZ U u=DK d)(e:(HY d.1 d.2 i).bind id=DK r)(pV:A.units+110<KU):DW (ED Y w) A (Ge value slice x y) Q Ex s:=
 I.eD hd hu λ a H k ho hr J=>ob e λ f hf e5=>FH hf (λ hf=>ob hf λ t ht hf=>hi.eS ht λ tk=>by
   obtain⟨hs,_,q⟩:=d_ (Y:=Y) hr hf;rw[show f=DK r from e5]at q;obtain⟨z,hz,rz⟩:=q;exact A5 (Bh ho) i6.lookup hx (wpAny_getItem_of (XN (Y:=Y) (w:=w) _ _) (Oy ho hr hs) hz (p.iD I rz)))
  λ hf=>ob hf λ t ht hf=>by
   cases MB ht;have kE:=hi
   revert hi
   exact kE.eT (P:=λ y=>VR w c s.heap (.aR t) y->DW (ED Y w) A (Ge value slice (.ref a) y) Q Ex s) rfl λ b xs J J J hi=>A5 (Bh ho) i6.lookup hx (asG pV ho hr hi (hf.trans (DX DK (show f=DK r from e5))) λ x tk rx=>p.iD I rx)
theorem aCM{n:DY}(h1:HX i=DK n)(h2:GZ u=DK B)(hb:NQ n=DN)(e:Jb B n=DK r):DW (ED Y w) A (Ge value slice x y) Q Ex s:=
 hu.eT h2 λ a xs vN J h3=>hi.eI h1 λ t=>by
  obtain⟨j,hj,hv⟩:=at5 e;obtain⟨z,hz,rz⟩:=h3.get hv;have hb:=Vd hb;exact A5 (am (IsT.dK vN)) Kl.lookup hx (ai1 (IsT.dK vN) (ajI hb) (gj hb) (by rw[HW,<-h3.length];exact hj) (by simpa using hz) (p.here I rz))
theorem aCL{n:DY}(h1:HX i=DK n)(h2:GU U u=DK B)(h3:VG n=DK k)(hb:GE k=DN)(e:B[k]? =DK r):DW (ED Y w) A (Ge value slice x y) Q Ex s:=
 I.eL h2 hu λ a xs m hl hr=>hi.eI h1 λ t=>by
  obtain⟨z,hz,rz⟩:=hr.get e;rw[Ht h3];exact A5 (IsL.isList hl).typeIs slot_list_getitem.lookup hx (wpAny_getItem_list (IsL.isList hl) (YI k) (Qg hb) (by simpa using hz) (p.here I rz))
end
theorem ay8{i r:V}{x y:DS}(I:aZ w K U c s.heap)(e:fX U u i=DK r)(hu:VR w c s.heap u x)(hi:VR w c s.heap i y)
  (hx:Js slice=DN)(pV:A.units+110<KU)(p:PV w K [] c s U r Q):DW (ED Y w) A (Ge value slice x y) Q Ex s:=
 FH e (λ e=>ob e λ d hd e=>aCJ I hu hi hx p hd e pV) λ e=>ob e λ n h1 e=>FH e (λ e=>ob e λ B h2 e=>EO e λ hb e=>EO e λ J e=>aCM I hu hi hx p h1 h2 hb e) λ e=>ob e λ B h2 e=>ob e λ k h3 e=>EO e λ hb e=>aCL I hu hi hx p h1 h2 h3 hb e
theorem afI{a b:E}(h1:SE Y w K n D o L a x)(h2:SE Y w K n D o L b y)(hx:Js y=DN):SE Y w K n D o L (.sub a b) (.Subscript x y pos):=by
 intro A fr Z m c U s Q E C p;refine fi (seq p (λ Q E=>h1 A fr Z m c U s Q E C) λ v G c' h' tk y J I X rv p'=> ?_);refine seq p' (λ Q E=>h2 A fr Z m c' G _ Q E (C.ext I X)) λ u cZ eG cV bT z hz I' X' ru fN=> ?_;exact PR.op fN λ r hr p=>ay8 I' hr (rv.bB X'.bB) ru hx (C7 C.rm (by decide)) p
end
open PySem PySem.W PySem.Calls PyProof.Rows PySem.SeqAt
section
variable {w:EV}{K:EQ}{D:Tb}{L:Mx}{mb:EA->DQ DS}{Ex:aJ}
theorem iY.rw{p n:Gw}{x y:DS}{b b':DU}(h:iY Y w A Ex s p n x y b)(e:b=b'):iY Y w A Ex s p n x y b':=e▸h
section
variable {x y:DS}{b:DU}(I:aZ w K U c s.heap)(hu:VR w c s.heap u x)(hv:VR w c s.heap v y)
include I hu hv
theorem atB{d:DM V×DM V}(hd:JZ U v=DK d)(e:(HY d.1 d.2 u).map ahL=DK b)(iJ:A.units+110<KU):iY Y w A Ex s .In .NotIn x y b:=
 I.eD hd hv λ a H k ho pS hs=>om (P:=λ b=>iY Y w A Ex s .In .NotIn x (.ref a) b) e λ f hf=>FH hf (λ hf=>ob hf λ t ht hf=>hu.eS ht λ tk=>by
   obtain⟨eZ,_,q⟩:=d_ (Y:=Y) pS hf
   have e:(Et (strKind Y w).is H.toArray (sx t)).isSome=f.isSome:=by
    cases f with
    |none=>rw[show Et _ _ _=_ from q];rfl|some v=>obtain⟨z,hz,_⟩:=q;rw[hz];rfl
   exact⟨λ q=>wpAny_in_of (XN t tk) hs (Oy ho pS eZ) (e▸q _),λ q=>wpAny_notIn_of (XN t tk) hs (Oy ho pS eZ) (e▸q _)⟩)
  λ hf=>ob hf λ t ht hf=>by
   cases MB ht;have hu':=hu
   revert hu
   exact hu'.eT (P:=λ x=>VR w c s.heap (.aR t) x->iY Y w A Ex s .In .NotIn x (.ref a) f.isSome) rfl λ b xs J J J hu=>⟨(xx iJ hs ho pS hu hf).1,(xx iJ hs ho pS hu hf).2⟩
theorem atC(hq:XU U v=DK B)(h1:Bx u=DN)(h2:IE B=DN)(iJ:A.units+110<KU):iY Y w A Ex s .In .NotIn x y (Dy u B):=by
 have s1:=Ok h1;obtain⟨as,ra⟩:=hu.mJ s1.1;have hroom:A.units+1+min (cf (IN B)) (HT u).depth<KU:=by
  rw[Y1 s1.1,TB];exact Gk iJ (EZ (RP (EZ (bp _ _) s1.2) 1) (by decide))
 obtain⟨bs,rb|rb⟩:=aBE I hq hv h2
 ·exact⟨λ q=>in_list_reads rb ra (Zr h2) (Fy s1.1) hroom (by rw[Uq s1.1 h2];exact q s.toks),λ q=>notIn_list_reads rb ra (Zr h2) (Fy s1.1) hroom (by rw[Uq s1.1 h2];exact q s.toks)⟩
 ·exact⟨λ q=>in_tuple_reads rb ra (Zr h2) (Fy s1.1) hroom (by rw[Uq s1.1 h2];exact q s.toks),λ q=>notIn_tuple_reads rb ra (Zr h2) (Fy s1.1) hroom (by rw[Uq s1.1 h2];exact q s.toks)⟩
theorem yo(iJ:A.units+110<KU)(e:Oh U u v=DK b):iY Y w A Ex s .In .NotIn x y b:=
 FH e (λ e=>ob e λ d hd e=>atB I hu hv hd e iJ) λ e=>ob e λ B hq e=>EO e λ h1 e=>EO e λ h2 e=>EO e λ J e=>(atC I hu hv hq h1 h2 iJ).rw (EJ e)
theorem nv(e:ID (TX U u)=DN):∃as,YR s.heap x (HT (TX U u)) as:=by
 unfold TX at e⊢;cases q:GU U u with
 |none=>rw[q]at e;exact hu.mJ e|some B=>
  rw[q]at e;exact I.eL (P:=λ x=>∃as,YR s.heap x (.list (IN B)) as) q hu λ a xs k h1 h2=>(h2.mJ e).elim λ as q=>⟨_,.list h1 rfl rfl (by simpa using q)⟩
theorem ny{t:Tx}(e:GJ (TX U u)=DK t):u=.str t:=by
 unfold TX at e;cases q:GU U u with
 |none=>rw[q]at e;exact IP e|some B=>rw[q]at e;exact EW e
theorem yn(hr:A.units+64<KU)(e:VM U u v=DK b):iY Y w A Ex s .Eq .NotEq x y b:=
 FH e (λ e=>ob e λ us h1 e=>ob e λ B h2 e=>EO e λ cS e=>I.eL h1 hu λ a1 xs k1 l1 r1=>I.eL h2 hv λ a2 ys k2 l2 r2=>iY.rw (by
   have hsz:((ER xs).size !=(ER ys).size)=DN:=by
    rw[HW,HW,r1.bQ,r2.bQ];exact bne_iff_ne.mpr λ e=>by rw[e,RQ]at cS;cases cS
   refine⟨λ q=>PySem.P.eq_list_lengths l1 l2 hsz (by omega) (q s.toks),λ q=> ?_⟩;exact richCompare_meets_room (op:=.NotEq) ⟨_,l1,rfl⟩ ⟨_,l2,rfl⟩ PySem.F.slot_list_ne PySem.F.entry_list_ne (PySem.F.args_list_ne_2 _ _) (list_ne_lengthsAt a1 a2 _ _ k1 k2 DP DP #[] #[] hsz) ⟨l1,l2,(λ x=>(by cases x)),q s.toks⟩ (by omega)) (EJ e))
  λ e=>FH e (λ e=>ob e λ a h1 e=>ob e λ b' h2 e=>by
   have hu':VR w c s.heap (.str a) x:=ny I hu hv h1▸hu;have kU:VR w c s.heap (.str b') y:=ny I hv hu h2▸hv;exact hu'.eS rfl λ t=>kU.eS rfl λ t'=>aCC.rw (EJ e)) λ e=>EO e λ h1 e=>EO e λ h2 e=>
   (nv I hu hv (Ok h1).1).elim λ as ra=>(nv I hv hu (Ok h2).1).elim λ bs rb=>(anG ra rb hr h1 h2).rw (EJ e)
theorem au2(e:Fb u=DK b):(x==LC)=b:=
 VR.rec (motive_1:=λ v x J=>Fb v=DK b->(x==LC)=b) (motive_2:=λ J J J=>True) (motive_3:=λ J J J J=>True) (motive_4:=λ J J J J=>True)
  (λ e=>EJ e) (λ J e=>EJ e) (λ J J e=>EJ e) (λ J J e=>EJ e) (λ J J J J e=>EJ e) (λ J J J J e=>EJ e) (λ J J J J e=>EW e) (λ J J J J J J J J J e=>EJ e) (λ J e=>EJ e) (λ J e=>EW e) (λ J e=>EW e) (λ J J J e=>EW e) (λ J J J e=>EW e)
  trivial (λ J J J J=>trivial) trivial (λ J J J J J=>trivial) trivial (λ J J J J J J=>trivial) hu e
theorem yp(e:Oo u v=DK b):iY Y w A Ex s .Is .IsNot x y b:=EO e λ h e=>hv.sK h▸(have k:=au2 I hu hv e
 ⟨λ q=>is_none_gen (by rw[k];exact q s.toks),λ q=>isnot_none_gen (by rw[k];exact q s.toks)⟩:iY Y w A Ex s .Is .IsNot x .none b)
theorem ym{k:SV}(iJ:A.units+110<KU)(e:mU U k u v=DK b)(q:∀tk,Q (.bool b) {s with toks:=tk}):DW (ED Y w) A (XD (Il k) x y) Q Ex s:=
 match k,e with
 |.eq,e=>(yn I hu hv (Gk iJ (by decide)) e).uM q|.ne,e=>om (P:=λ b=>(∀tk,Q (.bool b) {s with toks:=tk})->DW (ED Y w) A (XD .NotEq x y) Q Ex s) e (λ a e=>(yn I hu hv (Gk iJ (by decide)) e).no) q|.is,e=>(yp I hu hv e).uM q|.iV,e=>om (P:=λ b=>(∀tk,Q (.bool b) {s with toks:=tk})->DW (ED Y w) A (XD .IsNot x y) Q Ex s) e (λ a e=>(yp I hu hv e).no) q|.isIn,e=>(yo I hu hv iJ e).uM q|.kY,e=>om (P:=λ b=>(∀tk,Q (.bool b) {s with toks:=tk})->DW (ED Y w) A (XD .NotIn x y) Q Ex s) e (λ a e=>(yo I hu hv iJ e).no) q|.lt,e=>ob e λ i h1 e=>om (P:=λ b=>(∀tk,Q (.bool b) {s with toks:=tk})->DW (ED Y w) A (XD .Lt x y) Q Ex s) e (λ j h2 q=>hu.eI h1 λ t=>hv.eI h2 λ t'=>PySem.P.lt_int (q s.toks)) q
 |.gt,e=>ob e λ i h1 e=>om (P:=λ b=>(∀tk,Q (.bool b) {s with toks:=tk})->DW (ED Y w) A (XD .Gt x y) Q Ex s) e (λ j h2 q=>hv.eI h1 λ t=>hu.eI h2 λ t'=>PySem.P.gt_int (q s.toks)) q
 |.ge,e=>ob e λ i h1 e=>om (P:=λ b=>(∀tk,Q (.bool b) {s with toks:=tk})->DW (ED Y w) A (XD .GtE x y) Q Ex s) e (λ j h2 q=>hu.eI h1 λ t=>hv.eI h2 λ t'=>PySem.P.ge_int (q s.toks)) q
end
theorem af5{k:SV}{a b:E}(h1:SE Y w K n D o L a x)(h2:SE Y w K n D o L b y)(hm:ji (Il k) y=DT):SE Y w K n D o L (.aW k a b) (.Compare x [Il k] [y] pos):=by
 intro A fr Z m c U s Q E C p;refine wpAny_Compare1 (seq p (λ Q E=>h1 A fr Z m c U s Q E C) λ v G c' h' tk y J I X rv p'=> ?_) hm;refine seq p' (λ Q E=>h2 A fr Z m c' G _ Q E (C.ext I X)) λ u cZ eG cV bT z J I' X' ru fN=> ?_;exact PR.om fN λ r hq p=>ym I' (rv.bB X'.bB) ru (C7 C.rm (by decide)) hq λ CH=>PR.iD (s:={s with heap:=cV,toks:=bT}) p I' (.bool r)
theorem aeD{k:SV}{a b:E}(h1:SE Y w K n D o L a x)(h2:SE Y w K n D o L b y)(hm:ji (Il k) y=DT):SB Y w K n D o L (.aW k a b) (.Compare x [Il k] [y] pos):=by
 intro A fr Z m c U s Q E C p;refine wpAny_isTrue_Compare1 (seq p (λ Q E=>h1 A fr Z m c U s Q E C) λ v G c' h' tk y J I X rv p'=> ?_) hm;refine seq p' (λ Q E=>h2 A fr Z m c' G _ Q E (C.ext I X)) λ u cZ eG cV bT z J I' X' ru fN=> ?_;exact PR.op fN λ r hq p=>ym I' (rv.bB X'.bB) ru (C7 C.rm (by decide)) hq λ CH=>D9 (PR.iD (s:={s with heap:=cV,toks:=bT}) p I' rfl)
end
def HA(H_:DZ)(st:dF):Prop:=match st with
 |.fresh=>True|.kC=>True|.at L'=>L'=H_
structure eO(w:EV)(K:EQ)(n:DL)(A:HG)(fr:DM Env)(L:Mx)(m:Lv)(c:Cx)(U:aS)(h:ES)(Z:Env):Prop where
 rm:Rm n A
 jV:A.frames=DK (Z::fr)
 iH:gF fr c h
 er:dD w L m c h Z
 dS:∀a∈FD Z,∃o,h.get? a=DK o
 bW:aZ w K U c h
 apart:(FD Z).Nodup
 qA:∀e∈fr,∀H_,e.frame=DK H_->H_∉FD Z
 here:Z.frame=DK Z.locals
 cC:GQ∉FD Z
theorem Qh{n:EA}{l:DM (Tx×DL)}{i:DL}(e:GK n l=DK i):∃t,(t,i)∈l/\n=sx t:=by
 induction l with
 |nil=>exact EW e|cons p r ih=>
  have e:(match LD n p.1 with|true=>DK p.2|false=>GK n r)=DK i:=e;cases q:LD n p.1 with
  |true=>rw[q]at e;exact⟨p.1,EJ e▸ .head _,PE q⟩|false=>
   rw[q]at e;obtain⟨t',h1,h2⟩:=ih e;exact⟨t',.tail _ h1,h2⟩
theorem Jd{l:DM (Tx×DL)}(h:Jc l=DN){n n':EA}{i:DL}(e1:GK n l=DK i)(e2:GK n' l=DK i):n=n':=by
 induction l with
 |nil=>exact EW e1|cons p r ih=>
  have h:=DO (h:((r.all λ q=> !EG p.2 q.2)&&Jc r)=DN);have no:∀{x:EA},GK x r=DK p.2->n=n':=λ hx=>
   let⟨t',h1,_⟩:=Qh hx
   EP (FQ.mp h.1 _ h1) (by show¬(!EG p.2 p.2)=DN;rw[RQ];exact FJ)
  have e1:(match LD n p.1 with|true=>DK p.2|false=>GK n r)=DK i:=e1;have e2:(match LD n' p.1 with|true=>DK p.2|false=>GK n' r)=DK i:=e2;cases q1:LD n p.1<;>cases q2:LD n' p.1<;>rw[q1]at e1<;>rw[q2]at e2
  ·exact ih h.2 e1 e2
  ·exact no (e1.trans e2.symm)
  ·exact no (e2.trans e1.symm)
  ·exact(PE q1).trans (PE q2).symm
section
variable {w:EV}{K:EQ}{D:Tb}{L:Mx}{mb:EA->DQ DS}{Ex:aJ}
theorem eO.ct(C:eO w K n A fr L m c U h Z):Ct w K n A (Z::fr) L m c U h Z:=
 ⟨C.rm,C.jV,λ e he=>by
  rcases IV.mp he with rfl|he
  ·obtain⟨mm,⟨ob,H,ep,h1,h2,_⟩,_⟩:=C.er.loc;have pv:=C.er.eJ _ (.head _);exact⟨by rw[C.er.kind];simp,_,ob,C.here,h1,⟨H,ep,h2⟩,⟨pv.1,λ z=>C.cC (z▸agM ..)⟩,pv.2⟩
  ·exact C.iH e he,C.er,C.dS,C.bW⟩
theorem eO.ext(C:eO w K n A fr L m c U h Z)(I:aZ w K G c' h')(X:bM [] c h c' h'):eO w K n A fr L m c' G h' Z:=
 ⟨C.rm,C.jV,C.iH.ext X Pd,C.er.ext X (λ J J h=>IK h) C.dS,λ a ha=>by obtain⟨_,e⟩:=C.dS a ha;exact X.dom a _ e,I,C.apart,C.qA,C.here,C.cC⟩
theorem eO.step(C:eO w K n A fr L m c U h Z)(I:aZ w K G c' h')(X:bM (FD Z) c h c' h')(er:dD w L m' c' h' Z):eO w K n A fr L m' c' G h' Z:=
 ⟨C.rm,C.jV,C.iH.ext X C.qA,er,λ a ha=>by obtain⟨_,e⟩:=C.dS a ha;exact X.dom a _ e,I,C.apart,C.qA,C.here,C.cC⟩
theorem j7{D_:HG}(ho:KC L=DN){id:EA}(hs:GK id L.nm=DK i)(hk:L.sc.lookup id=DK .local∨L.sc.lookup id=DK .cell)(cE:i<m.length)(C:eO w K n A fr L m c U s.heap Z){x:DS}(r:VR w c s.heap v x){Q:aK}
  (q:∀h' tk,aZ w K U c h'->bM (FD Z) c s.heap c h'->dD w L (m.set i (DK v)) c h' Z->Q () {s with heap:=h',toks:=tk}):DW (ED Y w) D_ (abI Z id x) Q Ex s:=by
 have hi:Jc L.nm=DN:=by unfold KC at ho;rw[Gu]at ho;exact ho.1
 have rF:∀j∈L.cs,∀u,(m.set i (DK v))[j]?≠DK (DK u):=λ j hj u=>by
  unfold KC at ho;rw[Gu]at ho;obtain⟨t,ht,_⟩:=Qh hs;have:=FQ.mp (FQ.mp ho.2 _ ht) j hj;have cS:i≠j:=λ z=>by subst z;simp[RQ]at this
  rw[TA cS];exact C.er.free j hj u
 obtain⟨mm,hn,hl⟩:=C.er.loc;have apart:=agO.mp C.apart;have step:∀(a:DZ) h',a∈FD Z->WL a s.heap h'->(∀o,s.heap.get? a=DK o->PL o->∃o',h'.get? a=DK o'/\PL o')->(∃o',h'.get? a=DK o')->aZ w K U c h'/\bM (FD Z) c s.heap c h':=by
  intro a h' ha sb zS kD;have pv:=C.er.eJ a ha;have k:∀b ob,b∉FD Z->s.heap.get? b=DK ob->h'.get? b=DK ob:=λ b ob hb e=>sb.extBut b ob (λ z=>hb (z▸ha)) e;exact⟨C.bW.fO (π:=FD Z) (λ b hb=>⟨(C.er.eJ b hb).1,(C.er.eJ b hb).2,λ z=>C.cC (z▸hb)⟩) k,bM.of_keep (λ b hb=>(C.er.eJ b hb).1) (λ b hb ob e d=>if z:b=a then z▸zS ob (z▸e) d else⟨ob,sb.extBut b ob z e,d⟩) k (λ b hb ob e=>if z:b=a then z▸kD else⟨ob,sb.extBut b ob z e⟩)⟩
 have set_:∀{h':ES} {j:DL} {vo:DQ DS},(j=i->vo=DK x)->(j≠i->lI w c s.heap m j vo)->dR c s.heap c h'->lI w c h' (m.set i (DK v)) j vo:=by
  intro h' j vo h1 h2 mo u hu;by_cases hj:j=i
  ·subst hj;rw[OV cE]at hu;cases hu;exact⟨x,h1 rfl,r.bB mo⟩
  ·rw[TA (JY hj)]at hu;obtain⟨y,hy,ry⟩:=h2 hj u hu;exact⟨y,hy,ry.bB mo⟩
 rcases hk with hk|hk
 ·refine aEM ((PN C.er id).trans hk) hn (λ h' jO sb=> ?_) (by rw[C.er.kind];rfl);obtain⟨I',X'⟩:=step _ h' (.head _) sb (λ J J J=>by obtain⟨ob,H,ep,e1,e2,_⟩:=jO;exact⟨ob,e1,H,ep,e2⟩) (by obtain⟨ob,H,ep,e1,e2,_⟩:=jO;exact⟨ob,e1⟩);refine q h' _ I' X' ⟨C.er.names,C.er.kind,C.er.glob,C.er.bu,⟨_,jO,λ n' j e1 e2=> ?_⟩,λ n' j e1 e2=> ?_,C.er.eJ,rF⟩
  ·refine set_ (λ hj=> ?_) (λ hj=> ?_) X'.bB
   ·subst hj;rw[Jd hi e1 hs];simp
   ·have:n'≠id:=λ z=>hj (by rw[z,hs]at e1;exact(EJ e1).symm);simp only[FU this];exact hl n' j e1 e2
  ·obtain⟨a,vo,c1,c2,c3⟩:=C.er.jU n' j e1 e2;have cS:a≠Z.locals:=JY (apart.1 a (LN.mpr ⟨(n',a),mem_of_lookup c1,rfl⟩));refine⟨a,vo,c1,c2.sameBut sb cS,set_ (λ hj=> ?_) (λ J=>c3) X'.bB⟩;subst hj;rw[Jd hi e1 hs,hk]at e2;cases e2
 ·obtain⟨a,vo,c1,c2,c3⟩:=C.er.jU id i hs hk;have ha:a∈Z.cells.map (·.2):=LN.mpr ⟨(id,a),mem_of_lookup c1,rfl⟩;have cS:Z.locals≠a:=apart.1 a ha;refine wpAny_storeName_cell C.er.kind ((PN C.er id).trans hk) c1 c2 λ h' vS sb=> ?_;obtain⟨I',X'⟩:=step _ h' (.tail _ ha) sb (λ ob e ⟨H,ep,d⟩=>by
   obtain⟨jY,e',d'⟩:=c2;rw[e']at e;cases e;rw[d']at d;cases d) (by obtain⟨ob,e',_⟩:=vS;exact⟨ob,e'⟩)
  refine q h' _ I' X' ⟨C.er.names,C.er.kind,C.er.glob,C.er.bu,⟨mm,hn.sameBut sb cS,λ n' j e1 e2=> ?_⟩,λ n' j e1 e2=> ?_,C.er.eJ,rF⟩
  ·refine set_ (λ hj=> ?_) (λ J=>hl n' j e1 e2) X'.bB;subst hj;rw[Jd hi e1 hs,hk]at e2;cases e2
  ·by_cases pM:n'=id
   ·subst pM;rw[hs]at e1;cases e1;exact⟨a,DK x,c1,vS,set_ (λ J=>rfl) (λ hj=>EP rfl hj) X'.bB⟩
   ·obtain⟨a',CO,d1,d2,d3⟩:=C.er.jU n' j e1 e2;have hpa:Z.cells.Pairwise λ x y=>x.2≠y.2:=O9.mp apart.2;have hne':a'≠a:=λ z=>pM (name_of_addr hpa (mem_of_lookup d1) (z▸mem_of_lookup c1));refine⟨a',CO,d1,d2.sameBut sb hne',set_ (λ hj=> ?_) (λ J=>d3) X'.bB⟩;subst hj;exact EP (Jd hi e1 hs) pM
end
def eV(w:EV)(L:Mx)(Z:Env)(c:Cx)(h:ES)(r:Fl×Lv)(f:SX):Prop:=
 (match r.1,f with
  |.next,.next=>True|.ret v,.ret x=>VR w c h v x|_,_=>False)/\dD w L r.2 c h Z/\(∀n i,GK n L.nm=DK i->i<r.2.length)
section
variable (Y:TK)(w:EV)(K:EQ)(n:DL)(D:Tb)(o:JM)
def Ln(L:Mx)(m:Lv):Prop:=∀n i,GK n L.nm=DK i->i<m.length
def SS(L:Mx)(e:S)(x:EY):Prop:=∀(A:HG) (fr:DM Env) (Z:Env) (m:Lv) (c:Cx) (U:aS) (s:EB) (Q:SX->EB->Prop) (E:aJ),
 eO w K n A fr L m c U s.heap Z->Ln L m->PR w K (eV w L Z) (HA Z.locals) (FD Z) c s (JE (EE D) o e m U) Q E->DW (ED Y w) A (exec x Z) Q E s
def TL(L:Mx)(e:Ss)(xs:DM EY):Prop:=∀(A:HG) (fr:DM Env) (Z:Env) (m:Lv) (c:Cx) (U:aS) (s:EB) (Q:SX->EB->Prop) (E:aJ),
 eO w K n A fr L m c U s.heap Z->Ln L m->PR w K (eV w L Z) (HA Z.locals) (FD Z) c s (FC (EE D) o e m U) Q E->DW (ED Y w) A (Wm xs Z) Q E s
def Jl(w:EV)(L:Mx)(Z:Env)(c:Cx)(h:ES)(m:Lv)(_:HI):Prop:=dD w L m c h Z/\Ln L m
def KS(L:Mx)(t:T)(x:Expr):Prop:=∀(A:HG) (fr:DM Env) (Z:Env) (m:Lv) (c:Cx) (U:aS) (s:EB) (v:V) (y:DS) (Q:aK) (E:aJ),
 eO w K n A fr L m c U s.heap Z->Ln L m->VR w c s.heap v y->PR w K (Jl w L Z) (HA Z.locals) (FD Z) c s (IY (EE D) o t v m U) Q E->DW (ED Y w) A (OJ x Z y) Q E s
end
section
variable {w:EV}{K:EQ}{D:Tb}{L:Mx}{mb:EA->DQ DS}{Ex:aJ}
@[elab_as_elim] theorem eV.el{P:Fl×Lv->SX->Prop}{r:Fl×Lv}{f:SX}(q:eV w L Z c h r f)(kn:∀m,dD w L m c h Z->Ln L m->P (.next,m) .next)(kr:∀v x m,VR w c h v x->dD w L m c h Z->Ln L m->P (.ret v,m) (.ret x)):P r f:=by
 obtain⟨a,m⟩:=r;obtain⟨q1,q2,q3⟩:=q;cases a<;>cases f<;>first|exact q1.elim|skip
 ·exact kn m q2 q3
 ·exact kr _ _ m q1 q2 q3
theorem PG{H_:DZ}:∀st,FE st->HA H_ st:=λ st e=>by rw[show st=.kC from e];trivial
theorem aj3:TL Y w K n D o L .nil []:=by
 intro A fr Z m c U s Q E C hl p;exact acW (PR.here (p:PR w K (eV w L Z) (HA Z.locals) (FD Z) c s (.ok (.next,m) U) Q E) C.bW ⟨RR,C.er,hl⟩)
theorem aj2{e:S}{H:Ss}{x:EY}{xs:DM EY}(h1:SS Y w K n D o L e x)(h2:TL Y w K n D o L H xs):TL Y w K n D o L (.cons e H) (x::xs):=by
 intro A fr Z m c U s Q E C hl p;refine Qz ?_;refine seq p (λ Q E=>h1 A fr Z m c U s Q E C hl) λ r G c' h' tk f J I X rf p'=> ?_
 revert p'
 exact rf.el (λ m' q2 q3 p'=>h2 A fr Z m' c' G _ Q E (C.step I X q2) q3 p') λ v x m' q1 q2 q3 p'=>PR.here (p':PR w K (eV w L Z) (HA Z.locals) (FD Z) c' _ (.ok (.ret v,m') G) Q E) I ⟨q1,q2,q3⟩
theorem aiW(h1:SE Y w K n D o L e x):SS Y w K n D o L (.ret e) (.Return (DK x) pos):=by
 intro A fr Z m c U s Q E C hl p;refine aEE (seq p (λ Q E=>h1 A _ Z m c U s Q E C.ct) (λ v G c' h' tk y J I X r p'=> ?_) PG JB);have C':=C.ext I X;exact PR.here (p':PR w K (eV w L Z) (HA Z.locals) (FD Z) c' _ (.ok (.ret v,m) G) Q E) I ⟨r,C'.er,hl⟩
theorem k7{line:DL}(hx:Pf x=DN)(t:DQ Expr):RJ x t line Z=pure DT:=by
 cases x<;>first|rfl|exact EP hx FJ
theorem aiS(h1:SE Y w K n D o L e x)(hx:Pf x=DN):SS Y w K n D o L (.ex e) (.Expr x pos):=by
 intro A fr Z m c U s Q E C hl p;refine acU (seq p (λ Q E=>h1 A _ Z m c U s Q E C.ct) (λ v G c' h' tk y J I X r p'=> ?_) PG JB) (by unfold um;rw[C.er.kind];rfl) (k7 hx DP);have C':=C.ext I X;exact PR.here (p':PR w K (eV w L Z) (HA Z.locals) (FD Z) c' _ (.ok (.next,m) G) Q E) I ⟨RR,C'.er,hl⟩
theorem aiU{a b:Ss}{xs ys:DM EY}(h1:SB Y w K n D o L e x)(h2:TL Y w K n D o L a xs)(h3:TL Y w K n D o L b ys):SS Y w K n D o L (.bH e a b) (.If x xs ys pos):=by
 intro A fr Z m c U s Q E C hl p;refine wpAny_If (seq p (λ Q E=>h1 A _ Z m c U s Q E C.ct) (λ t G c' h' tk t' J I X r p'=> ?_) PG JB);cases r;have C':=C.ext I X;have fN:=p';cases t
 ·exact h3 A fr Z m c' G _ Q E C' hl fN
 ·exact h2 A fr Z m c' G _ Q E C' hl fN
theorem aj7(hi:KC L=DN){id:EA}(hs:GK id L.nm=DK i)(hk:L.sc.lookup id=DK .local∨L.sc.lookup id=DK .cell):KS Y w K n D o L (.loc i) (.Name id pos):=by
 intro A fr Z m c U s v y Q E C hl r p;refine assign_Name (j7 hi hs hk (hl id i hs) C r λ h' tk I X er=> ?_);exact p c h' tk () I X ⟨er,λ n j e=>by rw[NL];exact hl n j e⟩
end
structure Lo(lo:ES)(l:DM Env):Prop where
 cC:∃o,lo.get? GQ=DK o
 fr:∀e∈l,∀H_,e.frame=DK H_->∃o,lo.get? H_=DK o
section
variable {M:NM}{w:EV}{K:EQ}{E:aJ}{lo:ES}{l:DM Env}{e:V}{a:DZ}{st:dF}
theorem Lo.ne(H_:Lo lo l){b:DZ}(hb:lo.get? b=DP):b≠GQ/\b∉l.filterMap (·.frame):=by
 refine⟨λ z=> ?_,λ hm=> ?_⟩
 ·obtain⟨o,q⟩:=H_.cC;rw[<-z,hb]at q;cases q
 ·obtain⟨x,hx,q⟩:=bb.mp hm;obtain⟨o,q'⟩:=H_.fr x hx b q;rw[hb]at q';cases q'
theorem apR(f:gF l c h):h.FunFrames {objs:= #[]} l:=by
 induction l with
 |nil=>trivial|cons x r ih=>
  obtain⟨h1,H_,o,h2,h3,⟨H,n,hd⟩,_⟩:=f x (.head _);exact⟨h1,⟨H_,o,h2,rfl,h3,λ B q=>by rw[hd]at q;cases q⟩,ih λ y hy=>f y (.tail _ hy)⟩
theorem aC0(f:gF l c h)(I:aZ w K U c h)(S:Heap.SlotsOnly (l.filterMap (·.frame)) h h'):aZ w K U c h'/\bM [] c h c h':=by
 have fm:∀b,b∈l.filterMap (·.frame)->(∃o,h.get? b=DK o/\(b≠GQ/\∃H n,o.data=.dict H n))/\¬c.fz b/\∀p∈c.ρ,b≠p.1/\b≠p.2:=λ b hb=>by
  obtain⟨x,hx,q⟩:=bb.mp hb;obtain⟨_,H_,o,h2,h3,hd,h4,h5⟩:=f x hx;rw[q]at h2;cases h2;exact⟨⟨o,h3,h4.2,hd⟩,h4.1,h5⟩
 have k:∀b o,b∉l.filterMap (·.frame)->h.get? b=DK o->h'.get? b=DK o:=λ b o hb e=>(S.2.1 b hb).trans e;have m:dR c h c h':=⟨λ J J e=>e,λ J e=>e,λ b o f e=>k b o (λ q=>(fm b q).2.1 f) e⟩;refine⟨⟨I.bQ,λ i o p e1 e2=>(I.obj i o p e1 e2).bB m (λ o e=>k _ o (λ q=>((fm _ q).2.2 p (I.mem e2)).1 rfl) e) (λ o e=>k _ o (λ q=>((fm _ q).2.2 p (I.mem e2)).2 rfl) e),I.apart,I.jQ,
  λ b fb=>by obtain⟨o,e⟩:=I.dom b fb;exact⟨o,m.keep b o fb e⟩,λ b o e=>⟨m.keep b o (I.gV b o e).2 (I.gV b o e).1,(I.gV b o e).2⟩,I.cC.1,I.cC.2.1,by obtain⟨o,e⟩:=I.cC.2.2;exact by obtain⟨sl,e'⟩:=S.2.2 _ o e;exact⟨_,e'⟩⟩,
  ⟨λ J J e=>e,λ J e=>e,λ J e=>.inl e,λ J e=>.inl e,λ b o fb e=>m.keep b o fb e,λ b o e J J=> ?_,λ b o e d J=> ?_,λ b o e=>by obtain⟨sl,e'⟩:=S.2.2 b o e;exact⟨_,e'⟩⟩⟩
 ·by_cases hb:b∈l.filterMap (·.frame)
  ·obtain⟨⟨o',q1,q2⟩,_⟩:=fm b hb;rw[e]at q1;cases q1;exact .inr ⟨q2,S.2.2 b o e⟩
  ·exact .inl (k b o hb e)
 ·obtain⟨sl,e'⟩:=S.2.2 b o e;exact⟨_,e',d⟩
theorem V?{b:DZ}{o:GT}{B:FM DS}(I:aZ w K U c h)(h1:¬c.fz b)(h2:∀p∈c.ρ,b≠p.1/\b≠p.2)(h3:b≠GQ)(ho:h.get? b=DK o)(hd:o.data=.fields B)(f:FM DS->FM DS):
  aZ w K U c (h.update b (Ds f))/\bM [b] c h c (h.update b (Ds f))/\(h.update b (Ds f)).get? b=DK (o.mapFields f):=by
 have g:(h.update b (Ds f)).get? b=DK (o.mapFields f):=WM _ ho (ahI (Su hd _));have k:∀a ob,a∉[b]->h.get? a=DK ob->(h.update b (Ds f)).get? a=DK ob:=λ a ob ha e=>(OU _ _ (λ z=>ha (by simp[z]))).trans e;refine⟨I.fO (π:=[b]) (λ a ha=>by rw[GY]at ha;subst ha;exact⟨h1,h2,h3⟩) k,bM.of_keep (λ a ha=>by rw[GY]at ha;subst ha;exact h1) (λ a ha ob e d=> ?_) k (λ a ha ob e=> ?_),g⟩
 ·rw[GY]at ha;subst ha;rw[ho]at e;cases e;obtain⟨H,n,d⟩:=d;rw[hd]at d;cases d
 ·rw[GY]at ha;subst ha;exact⟨_,g⟩
theorem avY(o:GT)(f):(o.mapFields f).dict=o.dict:=by
 obtain⟨c,d,dt,s⟩:=o;cases dt<;>rfl
theorem Wp{fo:DQ DZ}{Q:aK}(hl:∃o,lo.get? GQ=DK o)(I:aZ w K U c s.heap)(F:fY w lo c s.heap e a st)(eZ:st≠ .fresh)
  (hQ:∀h' π,(∀x∈π,lo.get? x=DP)->aZ w K U c h'->bM π c s.heap c h'->fY w lo c h' e a (match fo with|none=>.kC|some H_=>.at H_)->Q () {s with heap:=h'}):DW M A (setFlight (.ref a) fo) Q E s:=by
 obtain⟨oe,B,d,H,n,ks,us,e1,⟨la,ld,nr,g1,g2,g3,g4,g5,ar,f1,f2,ne,hp⟩,D⟩:=F;have tb':∃fl,dF.D lo s.heap c a d B fl:=by
  cases st with
  |fresh=>exact EP rfl eZ|kC=>exact⟨_,D⟩|«at» H_=>exact⟨_,D⟩
 obtain⟨fl,T,oT,ts,⟨lT,t1,t2,t3,t4,t5,t6,t7,t8⟩⟩:=tb';have sysne:T≠GQ:=λ z=>by obtain⟨o,q⟩:=hl;rw[<-z,lT]at q;cases q
 have hsz:3<ts.size:=(Rh.mp t6).1;unfold setFlight;refine DV (IT g1 g3 t1 ?_);rw[GG (show(NO T !=LC)=DN from by simp)];refine D8 t4 t5 hsz ?_;obtain⟨I',X',gT⟩:=V? I t7 t8 sysne t4 t5 (·.setIfInBounds 3 (fo.elim .none λ f=>JS f));have iW:∀b,b≠T->(s.heap.update T (Ds (·.setIfInBounds 3 (fo.elim .none λ f=>JS f)))).get? b=s.heap.get? b:=λ b hb=>OU _ _ (JY hb);refine hQ _ [T] (λ x hx=>by rw[GY]at hx;rw[hx];exact lT) I' X' ⟨oe,B,d,H,n,ks,us,e1,⟨la,ld,nr,(iW a (JY t2)).trans g1,g2,g3,g4,(iW d (JY t3)).trans g5,ar.bB X'.bB,f1,f2,ne,hp⟩,?_⟩;have cY:dF.D lo (s.heap.update T (Ds (·.setIfInBounds 3 (fo.elim .none λ f=>JS f)))) c a d B (fo.elim .none λ f=>JS f):=
  ⟨T,_,_,⟨lT,t1,t2,t3,gT,Su t5 _,by simp[hsz],t7,t8⟩⟩
 cases fo<;>exact cY
theorem Q!{Q:aK}(fV:A.frames=DK (Z::fr))(hf:gF (Z::fr) c s.heap)(hL:Z.frame=DK Z.locals)(hl:Lo lo (Z::fr))(kD:∀b,s.heap.get? b=DP->lo.get? b=DP)(I:aZ w K U c s.heap)(F:fY w lo c s.heap e a st)(eZ:HA Z.locals st)
  (hQ:∀h' π,(∀x∈π,lo.get? x=DP)->aZ w K U c h'->bM π c s.heap c h'->fY w lo c h' e a (.at Z.locals)->Q () {s with heap:=h'}):DW M A (Q? (.ref a) Z) Q E s:=by
 have F0:=F;obtain⟨oe,B,d,H,n,ks,us,e1,⟨la,ld,nr,g1,g2,g3,g4,g5,ar,f1,f2,ne,hp⟩,D⟩:=F;have fal:∀b,lo.get? b=DP->b∉(Z::fr).filterMap (·.frame):=λ b hb=>(hl.ne hb).2;have entry:∀(h0:ES) (qO:DM DZ) (head:DS) (hn:DU),(∀x∈qO,lo.get? x=DP)->aZ w K U c h0->bM qO c s.heap c h0->h0.get? a=DK oe->h0.get? d=DK (FK (ER H) n)->gF (Z::fr) c h0->(∀b,h0.get? b=DP->lo.get? b=DP)->1<B.size->
   DW M A (do let x<-frameOf Z;let pl<-entryPlaceOf Z.locals hn;let b<-afL head x .none (JS Z.locals) .none pl;d8 (.ref a) 1 b) Q E {s with heap:=h0}:=by
  intro h0 qO head hn BA I0 X0 ga gd vT zJ hsz;refine DV (wpAny_frameOf_fun (s:={s with heap:=h0}) fV (apR vT) hL λ dJ S=> ?_);obtain⟨I1,X1⟩:=aC0 vT I0 S;have ga1:dJ.get? a=DK oe:=(S.2.1 a (fal a la)).trans ga;have gd1:dJ.get? d=DK (FK (ER H) n):=(S.2.1 d (fal d ld)).trans gd;refine DV (wpAny_entryPlaceOf λ pl iI=> ?_);unfold afL newFields;refine DV (UR ?_ (iI.sizeOk5 _ _ _ _ _));have lT:lo.get? dJ.objs.size=DP:=zJ _ (JP X1.dom (KI (FG _)));have I2:aZ w K U c (dJ.push {cls:=.type "traceback",dict:=DP,data:=.fields ([head,.ref Z.locals,.none,JS Z.locals,.none]++(if pl.isEmpty then JW 6 LC else pl)).toArray}):=I1.eY (FO _ _);have X2:bM [] c dJ c (dJ.push {cls:=.type "traceback",dict:=DP,data:=.fields ([head,.ref Z.locals,.none,JS Z.locals,.none]++(if pl.isEmpty then JW 6 LC else pl)).toArray}):=bM.of_keep (by simp) (by simp) (λ b ob J e=>FO _ _ b ob e) (by simp);have gT:=HH dJ (o:={cls:=.type "traceback",dict:=DP,data:=.fields ([head,.ref Z.locals,.none,JS Z.locals,.none]++(if pl.isEmpty then JW 6 LC else pl)).toArray}) rfl;have ga2:=FO dJ {cls:=.type "traceback",dict:=DP,data:=.fields ([head,.ref Z.locals,.none,JS Z.locals,.none]++(if pl.isEmpty then JW 6 LC else pl)).toArray} a oe ga1;have gd2:=FO dJ {cls:=.type "traceback",dict:=DP,data:=.fields ([head,.ref Z.locals,.none,JS Z.locals,.none]++(if pl.isEmpty then JW 6 LC else pl)).toArray} d _ gd1;refine D8 ga2 g3 hsz ?_;obtain⟨I3,X3,yV⟩:=V? I2 f1 (λ p q=>(hp p q).1) (hl.ne la).1 ga2 g3 (·.setIfInBounds 1 (NO dJ.objs.size));have vP:dJ.objs.size≠a:=YO (HV ga1);have pD:dJ.objs.size≠d:=YO (HV gd1);have C_:bM (qO++[a]) c s.heap c _:=((X0.trans (X1.dL (by simp))).trans (X2.dL (by simp))).dL (λ x hx=>RO _ hx)|>.trans (X3.dL λ x hx=>WP _ hx)
  refine hQ _ (qO++[a]) (λ x hx=>(OW.mp hx).elim (BA x) λ q=>by rw[GY]at q;rw[q];exact la) I3 C_ ⟨oe.mapFields _,_,d,H,n,ks,us,e1,⟨la,ld,nr,yV,(ahH _ _).trans g2,Su g3 _,(avY _ _).trans g4,(OU _ _ ne).trans gd2,ar.bB C_.bB,f1,f2,ne,hp⟩,?_⟩;refine⟨dJ.objs.size,_,_,⟨lT,by simp[hsz],vP,pD,(OU _ _ (JY vP)).trans gT,rfl,by simp,λ f=>EP (I1.oF f) (VB _),λ p q=> ?_⟩⟩;have:=I1.lt q;exact⟨λ z=>EP this.1 (by rw[<-z];exact VB _),λ z=>EP this.2 (by rw[<-z];exact VB _)⟩
 unfold Q?;simp only[hL];cases st with
 |fresh=>
  refine DV (IT g1 g3 D ?_);rw[FU (by decide)];exact entry s.heap [] .none _ (by simp) I (.refl ..) g1 g5 hf kD (Rh.mp D).1
 |«at» H_=>
  have hst':H_=Z.locals:=eZ;subst hst';obtain⟨T,oT,ts,⟨lT,t1,t2,t3,t4,t5,t6,t7,t8⟩⟩:=D;refine DV (IT g1 g3 t1 ?_);rw[GG (show(NO T !=LC)=DN from by simp)];refine DV (IT t4 t5 t6 ?_);rw[GG (by simp)];exact EK (hQ s.heap [] (by simp) I (.refl ..) F0)
 |kC=>
  obtain⟨T,oT,ts,⟨lT,t1,t2,t3,t4,t5,t6,t7,t8⟩⟩:=D;have hsz3:3<ts.size:=(Rh.mp t6).1;refine DV (IT g1 g3 t1 ?_);rw[GG (show(NO T !=LC)=DN from by simp)];refine DV (IT t4 t5 t6 ?_);rw[FU (show¬((LC==JS Z.locals)=DN)from by simp[JS])];refine DV (D8 t4 t5 hsz3 ?_);obtain⟨I',X',gT⟩:=V? I t7 t8 (hl.ne lT).1 t4 t5 (·.setIfInBounds 3 LC);have iW:∀b,b≠T->(s.heap.update T (Ds (·.setIfInBounds 3 LC))).get? b=s.heap.get? b:=λ b hb=>OU _ _ (JY hb);exact entry _ [T] (.ref T) _ (λ x hx=>by rw[GY]at hx;rw[hx];exact lT) I' X' ((iW a (JY t2)).trans g1) ((iW d (JY t3)).trans g5)
   (hf.ext X' λ x hx H_ mW hm=>by
    rw[GY]at hm;subst hm;obtain⟨o,q⟩:=hl.fr x hx H_ mW;rw[lT]at q;cases q) (λ b hb=>kD b (JP X'.dom hb)) (Rh.mp t1).1
theorem uA{Q:aK}(fV:A.frames=DK (Z::fr))(hf:gF (Z::fr) c s.heap)(hL:Z.frame=DK Z.locals)(hl:Lo lo (Z::fr))(kD:∀b,s.heap.get? b=DP->lo.get? b=DP)(I:aZ w K U c s.heap)(F:fY w lo c s.heap e a st)(eZ:HA Z.locals st)
  (hQ:∀h' π,(∀x∈π,lo.get? x=DP)->aZ w K U c h'->bM π c s.heap c h'->fY w lo c h' e a .kC->Q () {s with heap:=h'}):DW M A (H! Z (.ref a)) Q E s:=by
 unfold H!;refine DV (Q! fV hf hL hl kD I F eZ λ h1 uP q1 I1 X1 F1=> ?_);refine Wp (fo:=DP) hl.cC I1 F1 (by simp) λ h2 qP q2 I2 X2 F2=> ?_;exact hQ h2 (uP++qP) (λ x hx=>(OW.mp hx).elim (q1 x) (q2 x)) I2 ((X1.dL λ x hx=>RO _ hx).trans (X2.dL λ x hx=>WP _ hx)) F2
end
section
variable {w:EV}{K:EQ}{D:Tb}{L:Mx}{Ex:aJ}
theorem al6{kindOf:EA->DQ KR}{iA:DM (EA×DS)}{m:EA->DQ DS}{x:EA}(hx:∀p∈iA,p.1≠x):bindL kindOf iA m x=m x:=by
 induction iA generalizing m with
 |nil=>rfl|cons p r ih=>
  refine(ih (m:=if kindOf p.1=DK .local then λ y=>if y=p.1 then DK p.2 else m y else m) λ p hp=>hx p (.tail _ hp)).trans ?_;by_cases q:kindOf p.1=DK .local
  ·rw[GG q];exact FU (JY (hx p (.head _)))
  ·rw[FU q]
theorem al5{kindOf:EA->DQ KR}{iA:DM (EA×DS)}{m:EA->DQ DS}{x:EA}{v:DS}(hn:(iA.map (·.1)).Nodup)(hm:(x,v)∈iA)(hk:kindOf x=DK .local):bindL kindOf iA m x=DK v:=by
 induction iA generalizing m with
 |nil=>exact EP hm KG|cons p r ih=>
  rw[ay,Ag]at hn;rcases IV.mp hm with e|hm
  ·subst e;refine(al6 (m:=if kindOf x=DK .local then λ y=>if y=x then DK v else m y else m) λ p hp z=>hn.1 (LN.mpr ⟨p,hp,z⟩)).trans ?_;rw[GG hk,GG rfl]
  ·exact ih (m:=if kindOf p.1=DK .local then λ y=>if y=p.1 then DK p.2 else m y else m) hn.2 hm
theorem al4{kindOf:EA->DQ KR}{iA:DM (EA×DS)}{m:EA->DQ DS}{x:EA}(hx:∀p∈iA,p.1≠x):bindC kindOf iA m x=m x:=by
 induction iA generalizing m with
 |nil=>rfl|cons p r ih=>
  refine(ih (m:=if kindOf p.1=DK .local then m else λ y=>if y=p.1 then DK p.2 else m y) λ p hp=>hx p (.tail _ hp)).trans ?_;by_cases q:kindOf p.1=DK .local
  ·rw[GG q]
  ·rw[FU q];exact FU (JY (hx p (.head _)))
theorem al3{kindOf:EA->DQ KR}{iA:DM (EA×DS)}{m:EA->DQ DS}{x:EA}{v:DS}(hn:(iA.map (·.1)).Nodup)(hm:(x,v)∈iA)(hk:kindOf x≠DK .local):bindC kindOf iA m x=DK v:=by
 induction iA generalizing m with
 |nil=>exact EP hm KG|cons p r ih=>
  rw[ay,Ag]at hn;rcases IV.mp hm with e|hm
  ·subst e;refine(al4 (m:=if kindOf x=DK .local then m else λ y=>if y=x then DK v else m y) λ p hp z=>hn.1 (LN.mpr ⟨p,hp,z⟩)).trans ?_;rw[FU hk,GG rfl]
  ·exact ih (m:=if kindOf p.1=DK .local then m else λ y=>if y=p.1 then DK p.2 else m y) hn.2 hm
theorem vg(G:aS)(n:DL)(v:V)(kp:Kp):(∀i∈Fd G n v kp,n<=i)/\(Fd G n v kp).Nodup:=by
 have em:(∀i∈([]:DM DL),n<=i)/\([]:DM DL).Nodup:=⟨λ i hi=>IK hi,Hb⟩;have up:∀k n,(∀i∈ZQ k n,n<=i)/\(ZQ k n).Nodup:=by
  intro k
  induction k with
  |zero=>exact λ n=>⟨λ i hi=>IK hi,Hb⟩
  |succ k ih=>
   intro n;obtain⟨h1,h2⟩:=ih (n+1);refine⟨λ i hi=> ?_,Ag.mpr ⟨λ hm=> ?_,h2⟩⟩
   ·rcases IV.mp hi with rfl|hi
    ·exact FG _
    ·exact Nat.le_of_succ_le (h1 i hi)
   ·exact ahB n (h1 n hm)
 have fo:∀(p:DM DL) (v:V),(∀i∈QS n p v,n<=i)/\(QS n p v).Nodup:=by
  intro p
  induction p with
  |nil=>
   have key:∀x:DQ DL,(∀j∈oe x [] λ i=>match FW n i with|true=>[i]|false=>[],n<=j)/\(oe x [] λ i=>match FW n i with|true=>[i]|false=>[]).Nodup:=λ x=>x.casesOn em λ i=>by
    show(∀j∈(match FW n i with|true=>[i]|false=>[]),n<=j)/\(match FW n i with|true=>[i]|false=>[]).Nodup;cases q:FW n i with
    |true=>exact⟨λ j hj=>by rw[GY.mp hj];exact GO q,Ag.mpr ⟨λ h=>IK h,Hb⟩⟩|false=>exact em
   exact λ v=>key (FI v)
  |cons k p ih=>
   have key:∀x:DQ V,(∀j∈oe x [] (QS n p),n<=j)/\(oe x [] (QS n p)).Nodup:=λ x=>x.casesOn em ih;exact λ v=>key _
 cases kp with
 |no=>exact em|all=>exact up _ _|«at» p=>exact fo p v
end
structure YF(w:EV)(K:EQ)(f:DZ)(fn:Fn)(L:Mx)(body:DM EY)(ps:DM Tx):Prop where
 ob:∃ob fd,K.lookup f=DK ob/\ob.data=.func fd/\fd.body=.stmts body/\fd.closure=[]/\fd.globals=KW/\fd.builtins=QP/\V8 K fd.code fd.qualname=DN/\fd.scope.names=L.sc/\fd.scope.kind=.function/\
  fd.scope.isCoroutine=DT/\fd.scope.isGenerator=DT/\
  ∀(s:EB) (c:Cx) (U:aS) (args:DM V) (xs:DM DS),aZ w K U c s.heap->bI w c s.heap args xs->(IQ fn args).length=fn.np->∃ys,bI w c s.heap (IQ fn args) ys/\Rj s fd ⟨xs,[]⟩ ((ps.map sx).zip ys)
 BO:ps.length=fn.np
 nd:(ps.map sx).Nodup
 wV:∀n i,GK n L.nm=DK i->i<fn.ns/\(i<fn.np->(ps.map sx)[i]? =DK n)
 BG:∀p∈ps,L.sc.lookup (sx p)=DK .local∨L.sc.lookup (sx p)=DK .cell
 BL:fn.np<=fn.ns
 yB:∀i∈L.cs,fn.np<=i
 cQ:((Ek 0 L.sc []).map (·.1)).Nodup
 yR:XG K f=DN
section
variable {w:EV}{K:EQ}{D:Tb}{L:Mx}
theorem nc{p:DZ×DZ}(hp:p∈(c.cR n kp).ρ):p∈c.ρ:=by
 rcases OW.mp hp with h|h
 ·exact List.mem_of_mem_take h
 ·obtain⟨i,_,e⟩:=bb.mp h;exact JK e
theorem W3{a:DZ}(hn:¬c.fz a)(hp:∀p∈c.ρ,a≠p.1/\a≠p.2):¬(c.cR n kp).fz a:=by
 rintro(f|⟨i,p,_,_,e,z⟩)
 ·exact hn f
 ·exact z.elim (hp p (JK e)).1 (hp p (JK e)).2
theorem fY.cR{lo:ES}{e:V}{a:DZ}(x:fY w lo c h e a .kC):fY w lo (c.cR n kp) h e a .kC:=by
 obtain⟨oe,B,d,H,k,ks,us,e,x,T,oT,ts,t⟩:=x;exact⟨oe,B,d,H,k,ks,us,e,{x with ar:=x.ar.BD (λ a q=>Or.inl q) x.nr,f1:=W3 x.f1 λ p q=>(x.hp p q).1,f2:=W3 x.f2 λ p q=>(x.hp p q).2,hp:=λ p q=>x.hp p (nc q)},T,oT,ts,{t with t7:=W3 t.t7 t.t8,t8:=λ p q=>t.t8 p (nc q)}⟩
theorem aH2{α β:Type}{l:DM α}{m:DM β}{a:α}{b:β}(e:l[i]? =DK a)(e':m[i]? =DK b):(a,b)∈l.zip m:=JK (agJ.mpr ⟨e,e'⟩)
theorem aH0{α β:Type}{l:DM α}{m:DM β}(h:l.length=m.length):(l.zip m).map (·.1)=l:=List.map_fst_zip (MT h)
structure mP(w:EV)(L:Mx)(c:Cx)(h0:ES)(m:Lv)(Z:Env)(hh:ES):Prop where
 er:dD w L m c hh Z
 keep:∀b ob,h0.get? b=DK ob->hh.get? b=DK ob
 own:∀a∈FD Z,h0.objs.size<=a
 dS:∀a∈FD Z,∃ob,hh.get? a=DK ob
 apart:(FD Z).Nodup
 here:Z.frame=DK Z.locals
theorem rp(dU:(IQ fn args).length=fn.np)(hv:(frame fn args)[i]? =DK (DK v)):i<fn.np/\(IQ fn args)[i]? =DK v:=by
 unfold frame at hv;rcases TE i fn.np with q|q
 ·rw[KQ (by rw[LM,dU];exact q),SZ]at hv;exact⟨q,om (P:=λ x=>x=DK v->(IQ fn args)[i]? =DK v) hv (λ u hu e=>e▸hu) rfl⟩
 ·rw[Ad (by rw[LM,dU];exact q)]at hv;exact EP (JK hv) λ hm=>Ch (be.mp hm).2
theorem pu{f:DZ}(G_:YF w K f fn L body ps)(dU:(IQ fn args).length=fn.np)(ry:bI w c s.heap (IQ fn args) ys):((ps.map sx).zip ys).map (·.1)=ps.map sx:=
 aH0 (by rw[LM,G_.BO,<-ry.length,dU])
theorem ao6{f:DZ}(G_:YF w K f fn L body ps){hh:ES}(I:aZ w K U c s.heap)(dU:(IQ fn args).length=fn.np)(ry:bI w c s.heap (IQ fn args) ys)
  (X:InCallC s Z.locals (bindL Z.kindOf ((ps.map sx).zip ys) λ J=>DP) Z.cells (bindC Z.kindOf ((ps.map sx).zip ys) λ J=>DP) {s with heap:=hh,toks:=tk})(hn:Z.scope.names=L.sc)(hk:Z.scope.kind=.function)(hg:Z.globals=KW)(hb:Z.builtins=QP)
  (hf:Z.frame=DK Z.locals)(hL:Z.locals=s.heap.objs.size)(rC:Z.cells=Ek (s.heap.objs.size+1) L.sc []):mP w L c s.heap (frame fn args) Z hh:=by
 have own:∀a∈FD Z,s.heap.objs.size<=a:=NJ.mpr ⟨MT hL.symm,λ a ha=>by
  obtain⟨q,hq,rfl⟩:=LN.mp ha;exact WQ (JX (MT hL.symm) (X.above q.1 q.2 hq))⟩
 have ho:∀x,Z.kindOf x=L.sc.lookup x:=λ x=>DX (·.lookup x) hn;have m:dR c s.heap c hh:=.fO X.toInCall.keep;have nd:(((ps.map sx).zip ys).map (·.1)).Nodup:=(pu G_ dU ry).symm▸G_.nd;have val:∀n' i v,GK n' L.nm=DK i->(frame fn args)[i]? =DK (DK v)->∃y,VR w c hh v y/\(n',y)∈(ps.map sx).zip ys:=λ n' i v hs hv=>by
  obtain⟨hi,hu⟩:=rp dU hv;obtain⟨y,hy,qD⟩:=ry.get hu;exact⟨y,qD.bB m,aH2 ((G_.wV n' i hs).2 hi) hy⟩
 refine⟨⟨hn,hk,hg,hb,⟨_,X.toInCall.ns,λ n' i e1 e2 v hv=> ?_⟩,λ n' i e1 e2=> ?_,λ a ha=>⟨λ f=>EP (I.oF f) (IG.mpr (own a ha)),λ p hp=>⟨λ z=>EP (I.lt hp).1 (IG.mpr (z▸own a ha)),λ z=>EP (I.lt hp).2 (IG.mpr (z▸own a ha))⟩⟩,λ i hi v hv=> ?_⟩,X.toInCall.keep,own,?_,?_,hf⟩
 ·obtain⟨y,qD,hm⟩:=val n' i v e1 hv;exact⟨y,al5 nd hm ((ho n').trans e2),qD⟩
 ·have hsm:((Z.cells).lookup n').isSome=DN:=by rw[rC];exact amJ _ _ _ (.inl e2)
  obtain⟨a,ha⟩:=Md.mp hsm;refine⟨a,_,ha,X.cell n' a ha,λ v hv=> ?_⟩;obtain⟨y,qD,hm⟩:=val n' i v e1 hv;exact⟨y,al3 nd hm (((ho n').trans e2)▸by decide),qD⟩
 ·exact EP (rp dU hv).1 (IG.mpr (G_.yB i hi))
 ·exact NJ.mpr ⟨by obtain⟨ob,_,_,e1,_⟩:=X.toInCall.ns;exact⟨ob,e1⟩,λ a ha=>by
   obtain⟨q,hq,rfl⟩:=LN.mp ha;exact(X.cell q.1 q.2 (lookup_of_mem_nodup (by rw[rC];exact cellsFrom_names L.sc 0 (s.heap.objs.size+1) [] [] rfl▸G_.cQ) hq)).imp λ J q=>q.1⟩
 ·exact Ag.mpr ⟨λ hm=>by
   obtain⟨q,hq,e⟩:=LN.mp hm;exact EP e (YO (X.above q.1 q.2 hq)),O9.mpr X.apart⟩
theorem qy{f:DZ}(F_:∀h,K.In h->h.NoLimit)(G_:YF w K f fn L body ps){R:QL->EB->Prop}(hd:A.depth<Cn)(I:aZ w K U c s.heap)(ra:bI w c s.heap args xs)(dU:(IQ fn args).length=fn.np)
  (k:∀Z hh tk,mP w L c s.heap (frame fn args) Z hh->DW (ED Y w) (A.deeper Z) (Wm body Z) (λ f s'=>R (.ok (.ret (match f with|.ret v=>v|_=>.none))) s')
   (λ e s'=>DW (ED Y w) (A.deeper Z) (H! Z e) (λ J kG=>R (.error e) kG) (λ e' kG=>R (.error e') kG) s') {s with heap:=hh,toks:=tk}):MC (ED Y w) A (.call (.ref f) ⟨xs,[]⟩) R s:=by
 obtain⟨ob,fd,h1,h2,h3,h4,h5,h6,h7,h8,h9,fI,yX,yY⟩:=G_.ob;obtain⟨ys,ry,hb⟩:=yY s c U args xs I ra dU;have hkind:∀x∈(ps.map sx).zip ys,fd.scope.names.lookup x.1=DK .local∨(fd.scope.names.lookup x.1=DK .cell/\((Ek (s.heap.objs.size+1) fd.scope.names []).lookup x.1).isSome=DN):=λ x hx=>by
  obtain⟨t,ht,e⟩:=LN.mp (pu G_ dU ry▸LN.mpr ⟨x,hx,rfl⟩:x.1∈ps.map sx);rw[h8,<-e];exact(G_.BG t ht).imp id λ q=>⟨q,amJ _ _ _ (.inl q)⟩
 refine codeAny_call_function hd (I.In _ _ h1) h2 fI yX h3 (codeRec_of I.In h7) (hb _ _ _ _ ?_);rw[h4,h5,h6];refine wpAny_newFunctionEnv_cells h9 hkind λ Z he dQ X=> ?_;refine⟨(F_ _ I.In).keeps X.toInCall.keep,codeAny_func ?_⟩;obtain⟨hh,tk,rfl,_⟩:=X.done;clear hb hkind;subst he;exact k _ hh tk (ao6 G_ I dU ry X h8 h9 rfl rfl rfl rfl (DX (Ek _ · _) h8))
theorem mP.yC{hh:ES}(T:mP w L c s.heap m Z hh)(r:lJ (n+1) A)(hf:A.frames=DK fr)(fV:gF fr c s.heap)(I:aZ w K U c s.heap):eO w K n (A.deeper Z) fr L m c U hh Z:=
 ⟨r.deeper Z,by show A.frames.map _=_;rw[hf];rfl,fV.ext (.eY T.keep) Pd,T.er,T.dS,I.eY T.keep,T.apart,λ e he H_ mW hm=>by
  obtain⟨_,L',jY,e1,e2,_⟩:=fV e he;rw[e1]at mW;exact EP (HV e2) (IG.mpr (EJ mW▸T.own _ hm)),T.here,λ hm=>by obtain⟨_,e'⟩:=I.cC.2.2;exact EP (HV e') (IG.mpr (T.own _ hm))⟩
theorem mP.uA{m:Lv}{Z:Env}{hh:ES}{c':Cx}{h':ES}{tk:DL}{a:DZ}{e x':V}{G cZ:aS}{st:dF}{R:QL->EB->Prop}(T:mP w L c s.heap m Z hh)(hf:A.frames=DK fr)(fV:gF fr c s.heap)(I:aZ w K U c s.heap)(X':bM (FD Z) c hh c' h')(I':aZ w K G c' h')(F:fY w hh c' h' e a st)(eZ:HA Z.locals st)
  (iC:cY (EE D) U.length [] .none G=DK (x',cZ))(p:PR w K (VR w) FE [] c s (.cD e cZ) (λ x s'=>R (.ok (.ret x)) s') (λ e s'=>R (.error e) s')):
  DW (ED Y w) (A.deeper Z) (H! Z (.ref a)) (λ J kG=>R (.error (.ref a)) kG) (λ e' kG=>R (.error e') kG) {s with heap:=h',toks:=tk}:=by
 have X0:bM [] c s.heap c hh:=.eY T.keep;have lv:=T.dS _ (.head _);have frs':gF (Z::fr) c' h':=λ e1 jN=>by
  rcases IV.mp jN with rfl|jN
  ·obtain⟨mm,⟨oL,H,ep,g1,g2,_⟩,_⟩:=T.er.loc;obtain⟨o',q1,q2⟩:=X'.dk _ oL g1 ⟨H,ep,g2⟩ (T.er.eJ _ (.head _)).2;refine⟨by rw[T.er.kind];exact λ h=>((by cases h)),_,o',T.here,q1,q2,⟨λ f=> ?_,λ z=> ?_⟩,λ p hp=> ?_⟩
   ·exact(X'.newfz _ f).elim (T.er.eJ _ (.head _)).1 λ q=>FZ g1 q rfl
   ·obtain⟨_,e'⟩:=I.cC.2.2;exact EP (HV e') (IG.mpr (z▸T.own _ (.head _)))
   ·exact(X'.newρ p hp).elim (λ q=>(T.er.eJ _ (.head _)).2 p q) λ q=>⟨FZ g1 q.1,FZ g1 q.2⟩
  ·exact((fV.ext X0 Pd).ext X' λ e he H_ mW hm=>by
    obtain⟨_,L',jY,e1,e2,_⟩:=fV e he;rw[e1]at mW;exact EP (HV e2) (IG.mpr (EJ mW▸T.own _ hm))) e1 jN
 have gY:Lo hh (Z::fr):=⟨(I.eY T.keep).cC.2.2,λ e1 jN H_ lQ=>by
  rcases IV.mp jN with rfl|jN
  ·rw[T.here]at lQ;exact EJ lQ▸lv
  ·obtain⟨_,L',jY,q1,q2,_⟩:=fV e1 jN;rw[q1]at lQ;exact⟨_,T.keep _ _ (EJ lQ▸q2)⟩⟩
 refine IF (Internal.uA (s:={s with heap:=h',toks:=tk}) (fr:=fr) (by show A.frames.map _=_;rw[hf];rfl) frs' T.here gY (λ b hb=>JP X'.dom hb) I' F eZ (Q:=λ J kG=>R (.error (.ref a)) kG) λ cV π gN mR qS xR=> ?_) (λ J J q=>q) λ J J q=>q;have C_:bM (FD Z++π) c s.heap c' cV:=((X0.dL JB).trans (X'.dL λ a ha=>RO _ ha)).trans (qS.dL λ a ha=>WP _ ha);have Y0:bM [] c s.heap c' cV:=C_.drop λ a ha=>.inr ((OW.mp ha).elim (λ q=>KI (T.own a q)) (λ q=>JP X0.dom (gN a q)));obtain⟨q1,q2,_⟩:=nb mR Y0 I.bQ (λ i hi=>EP hi KG) Hb iC (.none:VR w c' cV .none .none);exact p _ cV tk a .kC rfl q1 q2 ((xR.dS λ J=>JP X0.dom).cR)
theorem am2{f:DZ}(F_:∀h,K.In h->h.NoLimit)(G_:YF w K f fn L body ps)(D_:TL Y w K n D o L fn.body body){R:QL->EB->Prop}
  (r:lJ (n+1) A)(hf:A.frames=DK fr)(fV:gF fr c s.heap)(I:aZ w K U c s.heap)(ra:bI w c s.heap args xs)
  (p:PR w K (VR w) FE [] c s (WX (EE D) o fn args U) (λ x s'=>R (.ok (.ret x)) s') (λ e s'=>R (.error e) s')):MC (ED Y w) A (.call (.ref f) ⟨xs,[]⟩) R s:=by
 cases dU:EG (IQ fn args).length fn.np with
 |false=>exact EP (show PR w K (VR w) FE [] c s (cQ (EG (IQ fn args).length fn.np) _ aB.none U) _ _ from p) (by rw[dU];exact id)|true=>
  have p:PR w K (VR w) FE [] c s (cQ (EG (IQ fn args).length fn.np) (λ U=>LS (EE D) fn.keep U.length (FC (EE D) o fn.body (frame fn args) U)) aB.none U) (λ x s'=>R (.ok (.ret x)) s') (λ e s'=>R (.error e) s'):=p;rw[dU]at p;have p:PR w K (VR w) FE [] c s (LS (EE D) fn.keep U.length (FC (EE D) o fn.body (frame fn args) U)) (λ x s'=>R (.ok (.ret x)) s') (λ e s'=>R (.error e) s'):=p;have dU:=GV dU;refine qy F_ G_ r.depth I ra dU λ Z hh tk T=> ?_;have hln:Ln L (frame fn args):=λ n' i e=>IW (G_.wV n' i e).1 (by unfold frame;rw[GC,LM,VA,dU,Dq G_.BL];exact FG _);have ext0:∀{c':Cx} {h':ES},bM (FD Z) c hh c' h'->bM [] c s.heap c' h':=λ X'=>(((bM.eY (π:=[]) T.keep).dL JB).trans X').drop λ a ha=>.inr (KI (T.own a ha));refine D_ _ fr Z _ c U _ _ _ (T.yC r hf fV I) hln ?_;have fine:∀{v:V} {c':Cx} {h':ES} {G:aS} {tk:DL} {x:DS},aZ w K G c' h'->bM (FD Z) c hh c' h'->VR w c' h' v x->PR w K (VR w) FE [] c s (aB.o2 (og DN (cY (EE D) U.length (Fd G U.length v fn.keep) v G))) (λ x s'=>R (.ok (.ret x)) s') (λ e s'=>R (.error e) s')->
    R (.ok (.ret x)) {s with heap:=h',toks:=tk}:=λ {v c' h' G tk x} I' X' rv p=>PR.o2 p λ x' cZ iC p=>by
   obtain⟨q1,q2,q3⟩:=nb I' (ext0 X') I.bQ (vg G U.length v fn.keep).1 (vg G U.length v fn.keep).2 iC rv;exact p _ h' tk x q1 q2 q3
  cases hq:FC (EE D) o fn.body (frame fn args) U with
  |ok r1 G=>
   obtain⟨f1,m'⟩:=r1;rw[hq]at p;intro c' h' tk f2 I' X' rf;cases f1 with
   |next=>
    cases f2<;>first|exact rf.1.elim|skip
    exact fine I' X' .none p
   |ret v=>
    cases f2<;>first|exact rf.1.elim|skip
    exact fine I' X' rf.1 p
  |cD e G=>
   rw[hq]at p;have p:PR w K (VR w) FE [] c s (oe (cY (EE D) U.length [] .none G) .bL λ p=>.cD e p.2) (λ x s'=>R (.ok (.ret x)) s') (λ e s'=>R (.error e) s'):=p;cases iC:cY (EE D) U.length [] .none G with
   |none=>rw[iC]at p;exact p.elim|some y=>
    rw[iC]at p;exact λ c' h' tk a st eZ I' X' F=>T.uA hf fV I X' I' F eZ iC p
  |bL=>rw[hq]at p;exact p.elim
end
section
variable {w:EV}{K:EQ}{D:Tb}
theorem aB1{fU:DL->DQ Fn}(F_:∀h,K.In h->h.NoLimit)
  (G_:∀a fn,fU a=DK fn->∃L body ps,YF w K a fn L body ps/\∀n o,OX Y w K n o->TL Y w K n D o L fn.body body)(n:DL):OX Y w K n (Cr D fU n):=by
 induction n with
 |zero=>exact⟨λ f args U h=>h.elim,λ A fr c U s f args xs R J J J J J p=>p.elim⟩|succ n ih=>
  refine⟨λ f args U h=> ?_,λ A fr c U s f args xs R r hf fV I ra p=> ?_⟩
  ·have h:aD.ns (oe (fU f) aB.none (λ fn=>WX (EE D) (UO (EE D) fU n) fn args) U):=h;cases hq:fU f with
   |none=>rw[hq]at h;exact h.elim|some fn=>
    obtain⟨L,body,ps,h1,_⟩:=G_ f fn hq;exact h1.yR
  ·have p:PR w K (VR w) FE [] c s (oe (fU f) aB.none (λ fn=>WX (EE D) (UO (EE D) fU n) fn args) U) (λ x s'=>R (.ok (.ret x)) s') (λ e s'=>R (.error e) s'):=p;cases hq:fU f with
   |none=>rw[hq]at p;exact p.elim|some fn=>
    rw[hq]at p;obtain⟨L,body,ps,h1,h2⟩:=G_ f fn hq;exact am2 F_ h1 (h2 n _ ih) r hf fV I ra p
end
section
variable {w:EV}{K:EQ}{D:Tb}{L:Mx}{mb:EA->DQ DS}{Ex:aJ}
theorem AR.wX{a:DL}(ha:a<256^60){v:V}{x:DS}{tk:KT}(q:VR w c h v x){ks:DM DL}:∀{B:DM V} {H:DM FL},AR w c h ks B H->AR w c h (IL a v ks B).1 (IL a v ks B).2 (putL (sx (EU a)) (PI w (sx (EU a))) (.str (sx (EU a)) tk) x H):=by
 induction ks with
 |nil=>exact λ r=>r.e0 (P:=λ B H=>AR w c h (IL a v [] B).1 (IL a v [] B).2 (putL (sx (EU a)) (PI w (sx (EU a))) (.str (sx (EU a)) tk) x H)) (.cons ha q .nil)
 |cons k ks ih=>
  refine λ r=>r.el (P:=λ B H=>AR w c h (IL a v (k::ks) B).1 (IL a v (k::ks) B).2 (putL (sx (EU a)) (PI w (sx (EU a))) (.str (sx (EU a)) tk) x H)) λ u us x0 t fs hk q0 r=> ?_;cases hb:EG a k with
  |true=>
   rw[Zd hb,putL,<-GV hb,GG (ux _ _)];exact .cons ha q r
  |false=>
   rw[Pq hb,putL,FU (by rw[uw hk ha hb t];exact FJ)];exact .cons hk q0 (ih r)
theorem AR.length{ks:DM DL}:∀{B:DM V} {H:DM FL},AR w c h ks B H->H.length=ks.length:=by
 induction ks with
 |nil=>exact λ r=>r.e0 (P:=λ J H=>H.length=0) rfl
 |cons k ks ih=>exact λ r=>r.el (P:=λ J H=>H.length=(k::ks).length) λ J J J J J J J r=>DX (·+1) (ih r)
theorem zt{a:DL}{v:V}{ks:DM DL}{B:DM V}:(IL a v ks B).1.length<=ks.length+1:=by
 induction ks generalizing B with
 |nil=>exact FG _|cons k ks ih=>cases B with
  |nil=>exact TG (GI _)|cons u B=>
   cases hb:EG a k
   ·rw[Pq hb];exact TG ih
   ·rw[Zd hb];exact TD _
theorem ay4(F_:Gf w K D gn mg mb){x y:DS}{Q:aK}{z:HI}(I:aZ w K U c s.heap)(hu:VR w c s.heap u x)(hv:VR w c s.heap v y)(e:Kg D u a v U=DK (z,G))
  (p:∀h' tk,aZ w K G c h'->bM [] c s.heap c h'->Q () {s with heap:=h',toks:=tk}):DW (ED Y w) A (Zo x (sx (EU a)) y) Q Ex s:=
 ob e λ d hd e=>ob e λ m dM e=>EO e λ hm e=>EO e λ dU e=>I.vA hd hu λ i q H j hi hq rJ kP mY=>by
  have g:=F_.fH d.1 a DP (by cases m with|none=>exact dM|some f=>exact FB hm);obtain⟨cd,hc,zQ⟩:=g.1.cd;rw[hi]at e;have hp:=(mY.wX (tk:=s.toks+1) g.2.1 hv);have hl:=zt (a:=a) (v:=v) (ks:=d.2.1) (B:=d.2.2);have e:=(YQ (EJ e)).2;generalize (IL a v d.2.1 d.2.2).1=ks' at *;generalize (IL a v d.2.1 d.2.2).2=vs' at *;generalize hes:putL (sx (EU a)) (PI w (sx (EU a))) (.str (sx (EU a)) (s.toks+1)) y H=dZ at *;have IA:InstAt s.heap q.1 (Bw d.1 q.2) d.1 (DK (FK (ER H) j)):=⟨rJ,rfl,rfl,kP⟩;have ht:Ko K d.1 (sx (EU a))=DK DP:=by unfold Ko;rw[g.2.2.1];rfl
  have e1:Mb (sx (EU a)) (PI w (sx (EU a))) (.str (sx (EU a)) (s.toks+1)) y (FK (ER H) j)=FK (ER dZ) (putN (sx (EU a)) H j):=(putName_dict _ _ _ _ H j).trans (by rw[hes]);have tN:q.1≠q.2:=λ z=>by
   rw[<-z,rJ]at kP;cases kP
  have cY:∀h' tk,h'=s.heap.update q.2 (Mb (sx (EU a)) (PI w (sx (EU a))) (.str (sx (EU a)) (s.toks+1)) y)->h'.get? q.2=DK (FK (ER dZ) (putN (sx (EU a)) H j))/\Q () {s with heap:=h',toks:=tk}:=λ h' tk eh=>by
   have D':h'.get? q.2=DK (FK (ER dZ) (putN (sx (EU a)) H j)):=by rw[eh];exact(WM _ kP (by rw[e1];rfl)).trans (DX DK e1)
   have iW:∀b,b≠q.2->h'.get? b=s.heap.get? b:=λ b h=>by rw[eh];exact OU _ _ (JY h)
   have kk:∀b ob,b≠q.1->b≠q.2->s.heap.get? b=DK ob->h'.get? b=DK ob:=λ b ob J h2 e=>(iW b h2).trans e;have X':bM [] c s.heap c h':=bM.nR I hq kk (λ o e=>⟨o,(iW _ tN).trans e⟩) (λ o e=>⟨_,D'⟩);exact⟨D',p _ _ (e▸I.nR (o:=.inst d.1 ks' vs') hq kk ⟨(iW _ tN).trans rJ,_,_,D',hp.bB X'.bB⟩) X'⟩
  refine aaX I.In IA g.1.sa ?_;refine U! (s:={s with toks:=s.toks+1}) I.In IA g.1.pl ht λ b=> ?_;refine DV (EK (DV (DV (D3 rJ (DV ((I? (M:=ED Y w) (K:=K) (h:=({s with toks:=s.toks+1}:EB).heap) I.In hc).here (s:={s with toks:=s.toks+1}) ?_))))));rw[zQ];refine EK (a:=DK q.2) (DV (EK (DV ?_)));unfold nsSet;refine DV (DV (aEF (EK (DV (D5 (DV (D3 kP ?_)))))));have c0:(!(ER H).any (·.key.isStr (sx (EU a)))&&(ER H).any (·.refKey))=DT:=by
   rw[O1,O1,mY.jX,M3]
  dsimp only;rw[ajG,c0];refine aEO kP ?_;refine DV (aEJ (cY _ s.toks rfl).1 (ayV ?_) (EK (cY _ _ rfl).2));rw[HW,hp.length,sizeLine_eq];exact EZ hl (EZ (TG (WQ (TC.mp dU))) (by decide:GH 900<=_))
theorem iw{M:NM}{ob:Expr}{aU:EA}{y:DS}{Q:aK}(h:DW M A (HM ob Z) (λ ov dQ=>DW M A (Zo ov aU y) Q Ex dQ) Ex s):DW M A (OJ (.Attribute ob aU pos) Z y) Q Ex s:=by
 rw[arm_assign_Attribute];exact DV (HE (IF h (λ ov dQ dJ=>DV (OS (DV (HE (IF dJ (λ J J q=>aEL q) λ J J e=>e))))) λ J J e=>e))
theorem aj6(F_:Gf w K D gn mg mb){aU:EA}(h1:SE Y w K n D o L e x)(hn:aU=sx (EU a)):KS Y w K n D o L (.aU e a) (.Attribute x aU pos):=by
 intro A fr Z m c U s v y Q E C hl r p;subst hn;refine iw (seq p (λ Q E=>h1 A _ Z m c U s Q E C.ct) (λ u G c' h' tk z J I X ru p'=> ?_) PG JB);have C':=C.ext I X;exact PR.b2 p' λ J cZ e p=>ay4 F_ I ru (r.bB X.bB) e λ cV bT I' X'=>(p:PR w K (Jl w L Z) (HA Z.locals) (FD Z) c' {s with heap:=h',toks:=tk} (.ok m cZ) Q E) c' cV bT () I' (X'.dL JB) ⟨(C'.ext I' X').er,hl⟩
theorem aCP{ob:Expr}{aU:EA}{l:DL}:RJ x (DK (.Attribute ob aU tp)) l Z=pure DT:=by cases x<;>exact @rfl _ (pure DT)
theorem aCT{ob i:Expr}{l:DL}:RJ x (DK (.Subscript ob i tp)) l Z=pure DT:=by cases x<;>exact @rfl _ (pure DT)
theorem aiL{ob:Expr}{aU:EA}(h1:SE Y w K n D o L e x)(h2:KS Y w K n D o L t (.Attribute ob aU tp)):SS Y w K n D o L (.aV t e) (.Assign [.Attribute ob aU tp] x pos):=by
 intro A fr Z m c U s Q E C hl p;have e0:exec (.Assign [.Attribute ob aU tp] x pos) Z=(do
   Km pos
   if<-RJ x (DK (.Attribute ob aU tp)) pos.line Z then
    Y9 x Z (OJ (.Attribute ob aU tp) Z)
    return .next
   let v<-HM x Z
   OJ (.Attribute ob aU tp) Z v
   pure .next):=rfl
 rw[e0,aCP];refine DV (OS (DV (EK ?_)));rw[FU (by decide)];refine DV (seq p (λ Q E=>h1 A _ Z m c U s Q E C.ct) (λ v G c' h' tk y J I X r p'=> ?_) PG JB);have C':=C.ext I X;refine DV (seq p' (λ Q E=>h2 A fr Z m c' G _ v y Q E C' hl r) (λ m' cZ eG cV bT u J I' X' r' fN=> ?_) (λ J x=>x) (λ J x=>x));exact EK (PR.here (fN:PR w K (eV w L Z) (HA Z.locals) (FD Z) eG _ (.ok (.next,m') cZ) Q E) I' ⟨RR,r'.1,r'.2⟩)
theorem akO{M:NM}{ob i:Expr}{y:DS}{Q:aK}(h:DW M A (HM ob Z) (λ ov dQ=>DW M A (HM i Z) (λ iv hU=>DW M A (setItem ov iv y) Q Ex hU) Ex dQ) Ex s):DW M A (OJ (.Subscript ob i pos) Z y) Q Ex s:=by
 rw[arm_assign_Subscript];exact DV (HE (IF h (λ ov dQ dJ=>DV (HE (IF dJ (λ iv hU iU=>DV (OS (DV (HE (IF iU (λ J J q=>aEL q) λ J J e=>e))))) λ J J e=>e))) λ J J e=>e))
theorem aBL{a:DZ}{H:DM FL}{t:Tx}{tk:KT}{x:DS}{Q:aK}(ho:s.heap.get? a=DK (FK (ER H) k))(r:DR w c s.heap ks B H)
  {k0:V}(ek:k0=.str t)(e:XS ks B k0 v t=DK (ks',vs'))(q:VR w c s.heap v x)
  (hQ:∀h' dZ n',h'.get? a=DK (FK (ER dZ) n')->DR w c s.heap ks' vs' dZ->WL a s.heap h'->Q () {s with heap:=h',toks:=s.toks+1}):
  DW (ED Y w) A (setItem (.ref a) (.str (sx t) tk) x) Q Ex s:=by
 have hT:=Bh (s:=s) ho;unfold setItem
 try with_reducible refine HE ?_
 refine DV (D7 hT (by decide) ?_);refine DV (XZ (name:=LB "__setitem__") hT i7
  (SP i7 hT aoA ?_ (ak7 _ _ _)))
 show DW _ _ (aeM "__setitem__" ⟨[.ref a,.str (sx t) tk,x],[]⟩>>=_) _ _ s;refine DV (acZ hT ?_);show DW _ _ (El a (.str (sx t) tk) x>>=_) _ _ s;exact DV (X9 ho r ek e q λ h' dZ n' h1 h2 h3=>EK ⟨.none,rfl,EK (hQ h' dZ n' h1 h2 h3)⟩)
theorem s7{a:DZ}{H:DM FL}{Q:aK}(I:aZ w K U c s.heap)(hq:c.ρ[j]? =DK (a,a))(h1:h'.get? a=DK (FK (ER H) n))(h2:dR c s.heap c h'->DR w c h' ks B H)(sb:WL a s.heap h')
  (p:∀h' tk,aZ w K (U.set j (.dict ks B)) c h'->bM [] c s.heap c h'->Q () {s with heap:=h',toks:=tk}):Q () {s with heap:=h',toks:=tk}:=
 have kk:∀b ob,b≠a->b≠a->s.heap.get? b=DK ob->h'.get? b=DK ob:=λ b ob n1 J e=>sb.extBut b ob n1 e;have X:bM [] c s.heap c h':=bM.nR I hq kk (λ J J=>⟨_,h1⟩) (λ J J=>⟨_,h1⟩)
 p _ _ (I.nR (o:=.dict ks B) hq kk ⟨H,n,h1,h2 X.bB,rfl⟩) X
theorem af8:SE Y w K n D o L .fE (.Dict [] [] pos):=by
 intro A fr Z m c U s Q E C p;refine wpAny_Dict_empty ?_;exact PV.rS (π:=[]) (c:=c) (s:=s) (tk:=s.toks) p C.bW ⟨[],0,HH _ rfl,.nil,rfl⟩
theorem N?(F_:Gf w K D gn mg mb){id:EA}{v:DS}(hk:L.sc.lookup id=DK .globalImplicit)(h1:mg id=DP)(h2:mb id=DK v)(hd:(id==("__debug__" :EA))=DT)(C:Ct w K n A fr L m c U s.heap Z)(q:Q v s):
  DW (ED Y w) A (HM (.Name id pos) Z) Q Ex s:=
 Sl C.er.kind ((PN C.er id).trans hk) (av8 (C.er.glob▸F_.mZ _ C.bW.In) h1 (C.er.bu▸F_.vX _ C.bW.In) h2 q) hd
theorem Rs(F_:Gf w K D gn mg mb){b:Bi}{H:Es}{id:EA}{uT:HB}{xs:DM Expr}(h2:LZ Y w K n D o L H xs)(hn:xs=[]->H=.nil)(hs:IB xs=DN)(hk:L.sc.lookup id=DK .globalImplicit)(g1:mg id=DP)(g2:mb id=DK (.builtin uT))(hd:(id==("__debug__" :EA))=DT)
  (op:∀(A:HG) (c:Cx) (U:aS) (s:EB) (B:DM V) (ys:DM DS) (Q:aJ) (E:aJ),Rm n A->aZ w K U c s.heap->bI w c s.heap B ys->∀v G,gJ b B U=DK (v,G)->PV w K [] c s G v Q->DW (ED Y w) A (call (.builtin uT) ys) Q E s):
  SE Y w K n D o L (.bi b H) (.Call (.Name id np) xs [] pos):=by
 intro A fr Z m c U s Q E C p;refine Rq (N? F_ hk g1 g2 hd C ?_) rfl;refine z6 (Ck hs) (As h2 hn hs C ?_);have p2:PR w K (VR w) FE [] c s (R.bind (MX D o H m U) λ B=>aB.st (gJ b B)) Q E:=p;cases hq:MX D o H m U with
 |ok B cZ=>
  rw[hq]at p2;intro eG cV bT ys I' X' ra;exact PR.o2 (PR.from (tk:=bT) X' p2) λ v cN e p=>op A eG cZ _ B ys Q E C.rm I' ra v cN e p
 |cD ex cZ=>rw[hq]at p2;exact p2|bL=>rw[hq]at p2;exact p2.elim
theorem axY(I:aZ w K U c s.heap)(ra:bI w c s.heap B ys)(e:gJ .bQ B U=DK (v,G))(p:PV w K [] c s G v Q):DW (ED Y w) A (call (.builtin "len") ys) Q Ex s:=
 ob e λ u h1 e=>ob e λ us h2 e=>EO e λ hz e=>RE h1 ra λ y r=>I.eQ (P:=λ y=>DW (ED Y w) A (call (.builtin "len") [y]) Q Ex s) h2 r λ a xs nC hr=>by
  have hl:xs.length=us.length:=hr.bQ;have hf:=Qg hz;have p:∀t tk,Q (.int us.length t) {s with toks:=tk}:=λ t tk=>(p.eq e rfl).iD I (.int _ _);cases nC with
  |list k hL=>exact aI0 (IsL.isList hL) (by rw[HW,hl];exact hf) (by rw[HW,hl];exact p _ _)|tuple hT=>exact aiE hT (by rw[HW,hl];exact Int.not_le.mpr hf) (by rw[HW,hl];exact p _ _)
theorem aBK{l:DZ}{dH:FM DS}{ne:DL}{k:DY}{t:KT}{v:DS}{Q:aK}(hl:IsL s.heap l dH ne)(h0:0<=k)(vU:k<2^63)(hn:k<dH.size)
  (hQ:Q () {s with heap:=s.heap.update l (TH (·.setIfInBounds k.toNat v))}):DW (ED Y w) A (setItem (.ref l) (.int k t) v) Q Ex s:=by
 have hL:=PySem.IsL.isList hl;obtain⟨ob,ho,hd⟩:∃ob,s.heap.get? l=DK ob/\ob.data=.seq dH ne:=⟨_,hl,rfl⟩;clear hl;unfold setItem
 try with_reducible refine HE ?_
 first|refine DV (EK ?_)|skip
 refine DV (D7 hL.typeIs (by decide) ?_);refine DV (XZ (name:=LB "__setitem__") hL.typeIs aBY
  (SP aBY hL.typeIs entry_list_setitem ?_ (args_list_setitem _ _ _)))
 show DW _ _ (aHL (.int k t)>>=_) _ _ s;refine DV (wpAny_listSubscript_int (fitsIndex_of h0 vU) ?_);clear vU;obtain⟨j,rfl⟩:=ah h0;have hj:j<dH.size:=by omega
 have rK:dH[j]? =DK dH[j]:=Array.getElem?_eq_getElem hj;show DW _ _ ((seqItemAt l j>>=λ r=>pure (r.map (j,·)))>>=_) _ _ s;refine DV (DV (wpAny_seqItemAt ho hd (EK ?_)));rw[rK];show DW _ _ (setSeqItemAt l j v>>=_) _ _ s;refine DV (wpAny_setSeqItemAt ho hd ?_)
 first
  |exact DV (EK (EK ⟨.none,rfl,EK hQ⟩))
  |exact EK ⟨.none,rfl,EK hQ⟩
theorem ay5{i:V}{x y z:DS}{Q:aK}{q:HI}(I:aZ w K U c s.heap)(hu:VR w c s.heap u x)(hi:VR w c s.heap i z)(hv:VR w c s.heap v y)
  (pV:A.units+110<KU)(e:lC u i v U=DK (q,G))(p:∀h' tk,aZ w K G c h'->bM [] c s.heap c h'->Q () {s with heap:=h',toks:=tk}):DW (ED Y w) A (setItem x z y) Q Ex s:=
 FH e (λ e=>ob e λ d h1 e=>ob e λ b h2 e=>I.uZ h1 hu λ j a H k hj hq ho hr hs=>by
   rw[hj]at e;rw[<-(YQ (EJ e)).2]at p;refine FH h2 (λ h2=>ob h2 λ t ht h2=>hi.eS ht λ tk=>aBL ho hr (IP ht) h2 hv λ h' dZ n' g1 g2 sb=>s7 I hq g1 (λ m=>g2.bB m) sb p) λ h2=>ob h2 λ t ht h2=> ?_;cases MB ht;have kE:=hi
   revert hi
   exact kE.eT (P:=λ z=>VR w c s.heap (.aR t) z->DW (ED Y w) A (setItem (.ref a) z y) Q Ex s) rfl λ b xs J J J hi=>aBM pV ho hr (I.jQ _ (I.mem hq)).1 hi hv h2 λ h' dZ n' tk g1 g2 sb=>s7 I hq g1 (λ J=>g2) sb p)
  λ e=>ob e λ xs h1 e=>ob e λ n0 h2 e=>ob e λ k h3 e=>EO e λ hk e=>EO e λ hz e=>I.oB h1 hu λ j a ys k' hj hl hr eW=>hi.eI h2 λ t=>by
   rw[hj]at e;rw[<-(YQ (EJ e)).2]at p;have hk:=TC.mp hk;obtain⟨I',X'⟩:=acL (f:=λ q=>q.setIfInBounds k y) (us:=xs.set k v) (ys:=ys.set k y) I eW hl (by simp) (.set hv hr k);rw[Ht h3];exact aBK hl (YI k) (Qg (TC.mpr (bn hk (f9 hz)))) (UY.mpr (by rw[HW,<-hr.length];exact hk)) (p _ s.toks I' X')
theorem aj8{f:E}(h1:SE Y w K n D o L e x)(h2:SE Y w K n D o L f y):KS Y w K n D o L (.sub e f) (.Subscript x y pos):=by
 intro A fr Z m c U s v z Q E C hl r p;refine akO (seq p (λ Q E=>h1 A _ Z m c U s Q E C.ct) (λ u G c' h' tk q J I X ru p'=> ?_) PG JB);have C':=C.ext I X;refine seq p' (λ Q E=>h2 A _ Z m c' G _ Q E C'.ct) (λ i dB c2 iB eK q2 J I2 X2 ri p2=> ?_) PG JB;have C2:=C'.ext I2 X2;exact PR.b2 p2 λ J cN e p=>ay5 I2 (ru.bB X2.bB) ri ((r.bB X.bB).bB X2.bB) (C7 C.rm (by decide)) e λ cV bT I' X'=>(p:PR w K (Jl w L Z) (HA Z.locals) (FD Z) c2 {s with heap:=iB,toks:=eK} (.ok m cN) Q E) c2 cV bT () I' (X'.dL JB) ⟨(C2.ext I' X').er,hl⟩
theorem aiP{ob ix:Expr}(h1:SE Y w K n D o L e x)(h2:KS Y w K n D o L t (.Subscript ob ix tp)):SS Y w K n D o L (.aV t e) (.Assign [.Subscript ob ix tp] x pos):=by
 intro A fr Z m c U s Q E C hl p;rw[exec_Assign_Subscript _ _ _ _ _ aCT];refine DV (OS ?_);refine DV (seq p (λ Q E=>h1 A _ Z m c U s Q E C.ct) (λ v G c' h' tk y J I X r p'=> ?_) PG JB);have C':=C.ext I X;refine DV (seq p' (λ Q E=>h2 A fr Z m c' G _ v y Q E C' hl r) (λ m' cZ eG cV bT u J I' X' r' fN=> ?_) (λ J x=>x) (λ J x=>x));exact EK (PR.here (fN:PR w K (eV w L Z) (HA Z.locals) (FD Z) eG _ (.ok (.next,m') cZ) Q E) I' ⟨RR,r'.1,r'.2⟩)
theorem aaR{α β γ δ:Type}{Rl:Cx->ES->α->β->Prop}{jS:Cx->ES->γ->δ->Prop}{ok:aM}{t:JN β}{x:aB α}{f:α->aB γ}{Q:δ->EB->Prop}{E E':aJ}{g:β->EB->Prop}
  (p:PR w K jS jF hH c s (ZK (aB.bind x f) U) Q E)(ih:∀(Q:β->EB->Prop) (E:aJ),PR w K Rl ok π c s (x U) Q E->DW Mo A t Q E s)
  (k:∀v G c' h' tk y,x U=.ok v G->aZ w K G c' h'->bM π c s.heap c' h'->Rl c' h' v y->PR w K jS jF hH c' {s with heap:=h',toks:=tk} (ZK (f v) G) Q E->g y {s with heap:=h',toks:=tk})
  (gN:∀a∈π,a∈hH):DW Mo A t g E' s:=by
 have p:PR w K jS jF hH c s (Yp (R.bind (x U) f)) Q E:=p;cases hx:x U with
 |ok v G=>
  rw[hx]at p ih;exact ih g E' λ c' h' tk y I X r=>k v G c' h' tk y hx I X r (PR.from (X.dL gN) p)
 |cD e G=>rw[hx]at p;exact p.elim|bL=>rw[hx]at p;exact p.elim
inductive fw(w:EV)(K:EQ)(n:DL)(A:HG)(fr:DM Env)(L:Mx)(Z:Env)(s:EB)(Q:SX->EB->Prop)(E:aJ)(f:DL->Lv->aB (Fl×Lv)):DL->EB->Prop
 |mk {k:DL} (m:Lv) (U:aS) (c:Cx) (h:ES) (tk:DL):eO w K n A fr L m c U h Z->Ln L m->PR w K (eV w L Z) (HA Z.locals) (FD Z) c {s with heap:=h,toks:=tk} (f k m U) Q E->fw w K n A fr L Z s Q E f k {s with heap:=h,toks:=tk}
theorem aiZ{a:Ss}{xs:DM EY}(h1:SB Y w K n D o L e x)(h2:TL Y w K n D o L a xs):SS Y w K n D o L (.jJ e a) (.While x xs [] pos):=by
 intro A fr Z m c U s Q E C hl p;refine wpAny_While (codeAny_whileLoop (fw w K n A fr L Z s Q E λ k m=>ZK (Gm (λ m=>Bn D o e m) (λ m=>FC (EE D) o a m) k m)) (λ k s' hI=> ?_) 1000 (.mk m U c s.heap s.toks C hl p));obtain⟨m,U,c,h',tk,C,hl,p⟩:=hI;cases k with
 |zero=>exact p.elim|succ k=>
  refine aaR p (λ Q E=>h1 A _ Z m c U _ Q E C.ct) (λ b G c' cV bT b' J I X r p'=> ?_) JB;cases r;have C':=C.ext I X;cases b with
  |false=>
   rw[FU (by decide)];refine acW ?_;exact PR.here (p':PR w K (eV w L Z) (HA Z.locals) (FD Z) c' _ (.ok (.next,m) G) Q E) I ⟨RR,C'.er,hl⟩
  |true=>
   rw[GG rfl];refine aaR (x:=FC (EE D) o a m) p' (λ Q E=>h2 A fr Z m c' G _ Q E C' hl) (λ r dB c2 iB eK f J I2 X2 rf p2=> ?_) (λ J h=>h)
   revert p2
   exact rf.el (λ m' q2 q3 p2=>⟨k,Sp k,.mk m' dB c2 iB eK (C'.step I2 X2 q2) q3 p2⟩) λ v x m' q1 q2 q3 p2=>PR.here (p2:PR w K (eV w L Z) (HA Z.locals) (FD Z) c2 _ (.ok (.ret v,m') dB) Q E) I2 ⟨q1,q2,q3⟩
end
section
variable (Y:TK)(w:EV)(K:EQ)(n:DL)(D:Tb)(o:JM)
def Mj(L:Mx)(ts:Ts)(xs:DM Expr):Prop:=∀(A:HG) (fr:DM Env) (Z:Env) (m:Lv) (c:Cx) (U:aS) (s:EB) (B:DM V) (ys:DM DS) (Q:aK) (E:aJ),
 eO w K n A fr L m c U s.heap Z->Ln L m->bI w c s.heap B ys->PR w K (Jl w L Z) (HA Z.locals) (FD Z) c s (MY (EE D) o ts B m U) Q E->DW (ED Y w) A (Hv ((At xs Z).map (·.2)) ys) Q E s
end
theorem l7(h:Qo t=DK i):t=.loc i:=HS Qo .loc (λ v=>by cases v<;>rfl) h
noncomputable abbrev Hm:=EA×DL×V×DS
def WE(m:Lv)(H_:DM Hm):Lv:=H_.foldl (λ m q=>m.set q.2.1 (DK q.2.2.1)) m
theorem aBH(H_:DM Hm)(m:Lv)(i:DL)(v:DQ V)(h:∀q∈H_,q.2.1≠i):WE (m.set i v) H_=(WE m H_).set i v:=by
 induction H_ generalizing m with
 |nil=>rfl|cons q H_ ih=>
  show WE ((m.set i v).set q.2.1 (DK q.2.2.1)) H_=(WE (m.set q.2.1 (DK q.2.2.1)) H_).set i v;rw[<-ih _ λ q' h'=>h q' (.tail _ h'),List.set_comm _ _ (h q (.head _)).symm]
theorem aBG(H_:DM Hm)(m:Lv)(h:(H_.map (·.2.1)).Nodup):WE m H_.reverse=WE m H_:=by
 induction H_ generalizing m with
 |nil=>rfl|cons q H_ ih=>
  rw[ay,Ag]at h;show _=WE (m.set q.2.1 (DK q.2.2.1)) H_;rw[aBH H_ m _ _ λ q' h' z=>h.1 (LN.mpr ⟨q',h',z⟩),<-ih m h.2,P4];unfold WE;rw[List.foldl_append];rfl
theorem xm:∀{l:DM DL},Ym l=DN->l.Nodup
 |[],_=>Hb|i::r,h=>by
  refine Ag.mpr ⟨λ hm=> ?_,xm (DO h).2⟩;have:=FQ.mp (DO h).1 _ hm;simp[RQ]at this
section
variable {w:EV}{K:EQ}{D:Tb}{L:Mx}
theorem ajB:Mj Y w K n D o L .nil []:=by
 intro A fr Z m c U s B ys Q E C hl r p;cases B with
 |nil=>exact r.zero▸EK (PR.here (p:PR w K (Jl w L Z) (HA Z.locals) (FD Z) c s (.ok m U) Q E) C.bW ⟨C.er,hl⟩)|cons=>exact p.elim
theorem iu{r:DM Expr}(h:UH x=DN):At (x::r) Z=(DT,OJ x Z)::At r Z:=by cases x<;>first|rfl|exact EP h FJ
theorem ajA{ts:Ts}{xs:DM Expr}(h1:KS Y w K n D o L t x)(h2:Mj Y w K n D o L ts xs)(hx:UH x=DN):Mj Y w K n D o L (.cons t ts) (x::xs):=by
 intro A fr Z m c U s B ys Q E C hl r p;rw[iu hx];cases B with
 |nil=>exact p.elim|cons v B=>
  refine r.el (P:=λ ys=>DW (ED Y w) A (Hv (((DT,OJ x Z)::At xs Z).map (·.2)) ys) Q E s) λ y ys r q=> ?_;refine DV (HE (seq p (λ Q E=>h1 A fr Z m c U s _ _ Q E C hl r) (λ m' G c' h' tk u J I X r' p'=> ?_) (λ J x=>x) (λ J x=>x)));exact h2 A fr Z m' c' G _ _ _ Q E (C.step I X r'.1) r'.2 (q.bB X.bB) p'
theorem Uy{xs:DM Expr}(h:IB xs=DN):(At xs Z).length=xs.length/\(At xs Z).findIdx? (·.1)=DP:=by
 induction xs with
 |nil=>exact⟨rfl,rfl⟩|cons x r ih=>
  have i:=ih (DO h).2;rw[iu (DO h).1];exact⟨DX (·+1) i.1,by rw[agF,i.2];rfl⟩
theorem U0(I:aZ w K U c h)(he:Gz h.objs.size h h'):aZ w K U c h'/\bM [] c h c h':=
 have k:∀b o,h.get? b=DK o->h'.get? b=DK o:=λ b o e=>he b o (VC (HV e)) e
 ⟨I.eY k,bM.eY k⟩
theorem aj9{ts:Ts}{xs:DM Expr}(h1:Mj Y w K n D o L ts xs)(hn:LL ts=xs.length)(hs:IB xs=DN):KS Y w K n D o L (.aR ts) (.Tuple xs j pos):=by
 intro A fr Z m c U s v y Q E C hl r p;refine PR.bo (f:=λ B=>cQ (EG (LL ts) B.length) (MY (EE D) o ts B m) aB.none) p λ B hv p=> ?_;cases hb:EG (LL ts) B.length with
 |false=>rw[hb]at p;exact p.elim|true=>
  rw[hb]at p;refine r.eT hv λ a ys g1 J g3=>akN C.rm.hh (IsT.dK g1) ?_ (Uy hs).2 λ h' he=> ?_
  ·rw[(Uy hs).1,HW,<-g3.length,<-GV hb,hn]
  ·obtain⟨I',X'⟩:=U0 C.bW he;exact h1 A fr Z m c U {s with heap:=h'} B _ Q E (C.ext I' X') hl (g3.bB X'.bB) (PR.from (tk:=s.toks) (X'.dL JB) p)
theorem Of{p:Prop}[N4 p]{α:Type}{a b:DQ α}{S T:JN α}{r:α}(h:(if p then a else b)=DK r)(ha:a=DK r->S=pure r)(hb:b=DK r->T=pure r):(if p then S else T)=pure r:=by
 by_cases q:p
 ·rw[GG q]at h⊢;exact ha h
 ·rw[FU q]at h⊢;exact hb h
theorem aCS{ts:DM Expr}(h:JR 25 x=DT):k6 [.Tuple ts j pos] x Z=pure DP:=by
 cases x<;>first|exact @rfl _ (pure DP)|exact(by cases h)
theorem abN{ts:DM Expr}{r:DQ (DM EA)}(h:Qn L.sc ts x=DK r)(e:dD w L m c h' Z):k6 [.Tuple ts j pos] x Z=pure r:=by
 have hk:Z.blockKind=.function:=by unfold afM;rw[e.kind];rfl
 have rG:Z.kindOf=λ y=>L.sc.lookup y:=funext (PN e);unfold Qn at h;by_cases hx:x.ctorIdx=25
 ·rw[En hx]at h
  revert h
  refine Hj (motive_1:=λ x=>∀hx,Hj (motive_1:=λ J=>DQ (DQ (DM EA))) x hx (λ B J J=>j9 L.sc ts B)=DK r->k6 [.Tuple ts j pos] x Z=pure r) x hx (λ B J J hx h=> ?_) hx;have h:j9 L.sc ts B=DK r:=h;unfold k6;dsimp only;rw[hk,rG];exact Of h (λ e=>EJ e▸rfl) λ h=>Of h (λ e=>EJ e▸rfl) λ h=>Of h (λ e=>EJ e▸rfl) λ h=>Of h (λ e=>EJ e▸rfl) λ h=>Of h (λ e=>EW e) λ e=>EJ e▸rfl
 ·rw[XE hx]at h;exact EJ h▸aCS (by cases q:JR 25 x with|false=>rfl|true=>exact EP (VS q) hx)
theorem abO{xs:DM Expr}{l:DL}:RJ x (DK (.Tuple xs j tp)) l Z=pure DT:=by cases x<;>exact @rfl _ (pure DT)
theorem aiR{xs:DM Expr}(h1:SE Y w K n D o L e x)(h2:KS Y w K n D o L t (.Tuple xs j tp))(hw:Qn L.sc xs x=DK DP):SS Y w K n D o L (.aV t e) (.Assign [.Tuple xs j tp] x pos):=by
 intro A fr Z m c U s Q E C hl p;refine Assign_Tuple ?_ (abO (xs:=xs) (j:=j) (tp:=tp) (l:=pos.line) (Z:=Z)) (abN hw C.er);refine seq p (λ Q E=>h1 A _ Z m c U s Q E C.ct) (λ v G c' h' tk y J I X r p'=> ?_) PG JB;have C':=C.ext I X;refine seq p' (λ Q E=>h2 A fr Z m c' G _ v y Q E C' hl r) (λ m' cZ eG cV bT u J I' X' r' fN=> ?_) (λ J x=>x) (λ J x=>x);exact PR.here (fN:PR w K (eV w L Z) (HA Z.locals) (FD Z) eG _ (.ok (.next,m') cZ) Q E) I' ⟨RR,r'.1,r'.2⟩
theorem UD{sc:DM (EA×KR)}{n:EA}{k:KR}(h:QW sc n k=DN):sc.lookup n=DK k:=GW h
theorem atO{x:EA}(h:Ol L x i=DN):GK x L.nm=DK i/\L.sc.lookup x=DK .local:=⟨EL (DO h).1 λ j e q=>by rw[e,GV q],UD (DO h).2⟩
theorem Ts.nH{P:Ts->Prop}(n:P .nil)(c:∀t ts,P ts->P (.cons t ts)):∀ts,P ts
 |.nil=>n|.cons t ts=>c t ts (Ts.nH n c ts)
theorem aAM{ts:Ts}{is:DM DL}{names:DM EA}{B:DM V}{ys:DM DS}{m:Lv}(h1:Xu ts=DK is)(h2:Mr L names is=DN)(h3:bI w c h B ys)(h4:LL ts=B.length):
  ∃H_:DM Hm,H_.map (·.1)=names/\H_.map (·.2.1)=is/\H_.map (·.2.2.2)=ys/\(∀q∈H_,Ol L q.1 q.2.1=DN/\VR w c h q.2.2.1 q.2.2.2)/\∀U,MY (EE D) o ts B m U=.ok (WE m H_) U:=by
 induction ts using Ts.nH generalizing is names B ys m with
 |n=>
  cases(EJ h1:[]=is);obtain- |⟨x,names⟩:=names
  ·cases O4 h4.symm;exact h3.zero▸⟨[],rfl,rfl,rfl,λ J h=>(IK h),λ J=>rfl⟩
  ·exact FB h2
 |c t ts ih=>
  obtain- |⟨v,B⟩:=B
  ·exact EP h4 (Q2 _)
  refine ob h1 λ i hi h1=> ?_;obtain- |⟨x,names⟩:=names
  ·exact om (P:=λ is=>FV is=DN->_) h1 (λ l J h=>FB h) h2
  refine om (P:=λ is=>Mr L (x::names) is=DN->∃H_:DM Hm,H_.map (·.1)=x::names/\H_.map (·.2.1)=is/\H_.map (·.2.2.2)=ys/\(∀q∈H_,Ol L q.1 q.2.1=DN/\VR w c h q.2.2.1 q.2.2.2)/\∀U,MY (EE D) o (.cons t ts) (v::B) m U=.ok (WE m H_) U) h1 (λ l hl h2=> ?_) h2;refine h3.el λ y ys g1 g2=> ?_;obtain⟨H_,e1,e2,e3,e4,e5⟩:=ih (m:=m.set i (DK v)) hl (DO h2).2 g2 (Q0 h4);refine⟨(x,i,v,y)::H_,DX (x::·) e1,DX (i::·) e2,DX (y::·) e3,NJ.mpr ⟨⟨(DO h2).1,g1⟩,e4⟩,λ U=> ?_⟩;rw[l7 hi];exact e5 U
theorem aCB(hi:KC L=DN)(H_:DM Hm)(m:Lv)(c:Cx)(s:EB)(Q:aK)(E:aJ)(C:eO w K n A fr L m c U s.heap Z)(hl:Ln L m)(hL:∀q∈H_,Ol L q.1 q.2.1=DN/\VR w c s.heap q.2.2.1 q.2.2.2)
  (p:PR w K (Jl w L Z) (HA Z.locals) (FD Z) c s (.ok (WE m H_) U) Q E):DW (ED Y w) A (Hv ((H_.map (·.1)).map λ x=>bindName Z x) (H_.map (·.2.2.2))) Q E s:=by
 induction H_ generalizing m c s with
 |nil=>exact EK (PR.here p C.bW ⟨C.er,hl⟩)|cons q H_ ih=>
  have g:=hL q (.head _);have hs:=atO g.1;refine DV (HE (bindName_ (j7 hi hs.1 (.inl hs.2) (hl _ _ hs.1) C g.2 λ h' tk I X er=> ?_)));exact ih (m.set q.2.1 (DK q.2.2.1)) c {s with heap:=h',toks:=tk} (C.step I X er) (λ n' j e=>by rw[NL];exact hl n' j e) (λ q' h'=>⟨(hL q' (.tail _ h')).1,(hL q' (.tail _ h')).2.bB X.bB⟩) (PR.from X p)
theorem aiQ(hi:KC L=DN){ts:Ts}{H:Es}{is:DM DL}{xs:DM Expr}(h1:SE Y w K n D o L (.aR H) x)(hw:Qn L.sc xs x=DK (DK names))(g1:Xu ts=DK is)(g2:Mr L names is=DN)(g3:Ym is=DN)(g4:LL ts=names.length):
  SS Y w K n D o L (.aV (.aR ts) (.aR H)) (.Assign [.Tuple xs j tp] x pos):=by
 intro A fr Z m c U s Q E C hl p;refine Assign_Tuple_swapped ?_ (abO (xs:=xs) (j:=j) (tp:=tp) (l:=pos.line) (Z:=Z)) (abN hw C.er);refine seq p (λ Q E=>h1 A _ Z m c U s Q E C.ct) (λ v G c' h' tk y J I X r p'=> ?_) PG JB;have C':=C.ext I X;have p':PR w K (eV w L Z) (HA Z.locals) (FD Z) c' {s with heap:=h',toks:=tk} (R.bind (R.bind (aB.eH (GZ v) G) λ B=>cQ (EG (LL ts) B.length) (MY (EE D) o ts B m) aB.none) λ m'=>aB.pure (Fl.next,m')) Q E:=p';cases hv:GZ v with
 |none=>rw[hv]at p';exact p'.elim|some B=>
 rw[hv]at p';have p:PR w K (eV w L Z) (HA Z.locals) (FD Z) c' {s with heap:=h',toks:=tk} (R.bind (cQ (EG (LL ts) B.length) (MY (EE D) o ts B m) aB.none G) λ m'=>aB.pure (Fl.next,m')) Q E:=p';clear p';cases hb:EG (LL ts) B.length with
 |false=>rw[hb]at p;exact p.elim|true=>
  rw[hb]at p;have p:PR w K (eV w L Z) (HA Z.locals) (FD Z) c' _ (R.bind (MY (EE D) o ts B m G) λ m'=>aB.pure (Fl.next,m')) Q E:=p;refine r.eT hv λ a ys k1 k2 k3=> ?_;have dU:=GV hb;obtain⟨H_,e1,e2,e3,e4,e5⟩:=aAM (D:=D) (o:=o) (m:=m) g1 g2 k3 dU;rw[e5]at p;have hz:names.length=(ER ys).size:=by rw[HW,<-k3.length,<-dU,g4]
  rw[hz];refine unpackItems_tuple C.rm.hh (IsT.dK k1) λ cV he=> ?_;obtain⟨I',X'⟩:=U0 C'.bW he;have C'':=C'.ext I' X';show DW _ _ (Hv (names.reverse.map λ n=>bindName Z n) ys.reverse) _ _ _;rw[<-e1,<-e3,<-ba,<-ba];refine aCB hi H_.reverse m c' {s with heap:=cV,toks:=tk} _ _ C'' hl (λ q hq=>⟨(e4 q (bf.mp hq)).1,(e4 q (bf.mp hq)).2.bB X'.bB⟩) ?_;rw[aBG H_ m (by rw[e2];exact xm g3)];intro c3 h3 cU u I3 X3 r3;exact p c3 h3 cU .next I3 ((X'.dL JB).trans X3) ⟨RR,r3.1,r3.2⟩
end
noncomputable def lM(k:DY)(n:DL):DL:=match k with
 |.ofNat m=>min m n|.negSucc m=>n-(m+1)
theorem ng(B:DM V)(k:DY):cR B k=B.take (lM k B.length):=by
 unfold cR lM;cases k with
 |ofNat m=>
  show B.take m=B.take (min m B.length);rcases ah3 m B.length with h|h
  ·rw[ah8 h]
  ·rw[ah9 h,bg h,bg (FG _)]
 |negSucc m=>rfl
theorem anC(k:DY)(n:DL):lM k n<=n:=by
 unfold lM;cases k with
 |ofNat m=>exact bp _ _|negSucc m=>exact bv _ _
theorem ajR(k:DY)(n:DL):Ro DP (DK k) 1 (n:DY)=(0,(lM k n:DY)):=by
 unfold Ro;have h1:¬((1:DY)<0):=by decide
 simp only[h1,Od]
 congr 1
 cases k with
 |ofNat m=>
  have:¬((RN m)<0):=by simp
  rw[FU this];show min (m:DY) n=((min m n:DL):DY);rcases ah3 m n with q|q
  ·rw[ah8 q,Int.min_eq_left (Sa.mpr q)]
  ·rw[ah9 q,Int.min_eq_right (Sa.mpr q)]
 |negSucc m=>
  rw[GG (aj m)];show max (Int.subNatNat n (m+1)) 0=((n-(m+1):DL):DY);rcases TE n (m+1)with q|q
  ·rw[Int.subNatNat_of_lt q,br (WQ q)];exact Int.max_eq_right (ai (aj _))
  ·rw[ag7 q];exact Int.max_eq_left (YI _)
theorem az3(m:DL):Ll 0 (m:DY) 1=m:=by
 cases m with
 |zero=>rfl|succ m=>
  show(if(0:DY)<((m+1:DL):DY)then(((m+1:DL):DY)-0-1)/1+1 else 0).toNat=m+1;rw[GG (show(0:DY)<((m+1:DL):DY)from UY.mpr (Ma m)),up1];rfl
theorem ajQ(n:DL):Ro DP DP (-1) (n:DY)=((n:DY)-1,-1):=rfl
theorem az2(n:DL):Ll ((n:DY)-1) (-1) (-1)=n:=by
 cases n with
 |zero=>rfl|succ m=>
  show(if((m+1:DL):DY)-1> -1 then(((m+1:DL):DY)-1-(-1)-1)/(- -1)+1 else 0).toNat=m+1;rw[GG (show((m+1:DL):DY)-1> -1 from Int.sub_lt_sub_right (UY.mpr (Ma m)) 1),bk1]
theorem ayY(xs:DM DS)(m:DL)(h:m<=xs.length):((MR m).filterMap λ (k:DL)=>(ER xs)[((0:DY)+(k:DY) * 1).toNat]?).toArray=(xs.take m).toArray:=by
 have e:(λ (k:DL)=>(ER xs)[((0:DY)+(k:DY) * 1).toNat]?)=λ k=>(ER xs)[0+k]? :=by
  funext k;have:((0:DY)+(k:DY) * 1).toNat=0+k:=by
   rw[Int.zero_add,Int.mul_one,Aj];rfl
  rw[this]
 rw[e];have:=pick_run (ER xs) 0 m;rw[agE]at this;have e2:((λ x=>(ER xs)[x]?)∘λ x=>0+x)=λ k=>(ER xs)[0+k]? :=rfl;rw[e2]at this;rw[this];rfl
theorem apC{α β:Type}{f g:α->DQ β}{l:DM α}(h:∀a∈l,f a=g a):l.filterMap f=l.filterMap g:=by
 induction l with
 |nil=>rfl|cons a l ih=>rw[Si,Si,h a (.head _),ih λ b hb=>h b (.tail _ hb)]
theorem ayX(xs:DM DS):((MR xs.length).filterMap λ (k:DL)=>(ER xs)[(((xs.length:DY)-1)+(k:DY) *(-1)).toNat]?).toArray=xs.reverse.toArray:=by
 have e:((MR xs.length).filterMap λ (k:DL)=>(ER xs)[(((xs.length:DY)-1)+(k:DY) *(-1)).toNat]?)=((MR xs.length).map λ k=>xs.length-1-k).filterMap ((ER xs)[·]?):=by
  rw[agE];refine apC λ k hk=> ?_;have hk:=YM.mp hk;have:(((xs.length:DY)-1)+(k:DY) *(-1)).toNat=xs.length-1-k:=by
   rw[Int.mul_neg_one,<-Int.sub_eq_add_neg,show(1:DY)=((1:DL):DY)from rfl,<-N6 (ahC hk),<-N6 (ah2 hk)];rfl
  rw[this];rfl
 rw[e,krv_range,List.filterMap_reverse];have:=krv_all (ER xs);rw[HW]at this;rw[this]
section
variable {w:EV}{K:EQ}{D:Tb}{L:Mx}{Ex:aJ}
noncomputable abbrev Kk(l u st:DS):GT:={cls:=.type "slice",data:=.fields #[l,u,st]}
theorem ak5{k:DY}{u:KT}{Q:DY×DY×DL->EB->Prop}(hs:s.heap.IsSliceOf sl .none (.int k u) .none)(h:Q (0,1,lM k n) s):
  DW (ED Y w) A (Rp (.ref sl) (pure (n:DY))) Q Ex s:=by
 obtain⟨os,lR,pG,mD⟩:=id hs;unfold Rp aeU;refine DV (DV (IT lR mD (x:=.none) rfl (DV (IT lR mD (x:=.int k u) rfl (DV (IT lR mD (x:=.none) rfl (EK ?_)))))));refine DV (i4 ?_);show DW _ _ (if((1:DY)==0)=DN then _ else _) _ _ s;rw[FU (by decide)];refine DV (i4 (DV (aBV (DV (EK ?_)))));show DW _ _ (match Ro DP (DK k) 1 (n:DY)with|(lo,hi)=>pure (lo,(1:DY),Ll lo hi 1)) _ _ s;rw[ajR];show DW _ _ (pure ((0:DY),(1:DY),Ll 0 (lM k n:DY) 1)) _ _ s;rw[az3];exact EK h
theorem ak4{u:KT}{Q:DY×DY×DL->EB->Prop}(hs:s.heap.IsSliceOf sl .none .none (.int (-1) u))(h:Q ((n:DY)-1,-1,n) s):
  DW (ED Y w) A (Rp (.ref sl) (pure (n:DY))) Q Ex s:=by
 obtain⟨os,lR,pG,mD⟩:=id hs;unfold Rp aeU;refine DV (DV (IT lR mD (x:=.none) rfl (DV (IT lR mD (x:=.none) rfl (DV (IT lR mD (x:=.int (-1) u) rfl (EK ?_)))))));refine DV (aBV ?_);show DW _ _ (if((-1:DY)==0)=DN then _ else _) _ _ s;rw[FU (by decide)];refine DV (i4 (DV (i4 (DV (EK ?_)))));show DW _ _ (match Ro DP DP (-1) (n:DY)with|(lo,hi)=>pure (lo,(-1:DY),Ll lo hi (-1))) _ _ s;rw[ajQ];show DW _ _ (pure ((n:DY)-1,(-1:DY),Ll ((n:DY)-1) (-1) (-1))) _ _ s;rw[az2];exact EK h
theorem td{t:DZ}{l u st:DS}{lo step:DY}{m:DL}(ht:IsTup s.heap t (ER xs))(hs:s.heap.IsSliceOf sl l u st)
  (ha:∀{Q:DY×DY×DL->EB->Prop},Q (lo,step,m) s->DW (ED Y w) A.in1 (Rp (.ref sl) (pure (xs.length:DY))) Q Ex s)
  (hm:((MR m).filterMap λ (k:DL)=>(ER xs)[(lo+(k:DY) * step).toNat]?).toArray=ER ys)(hz:ys.length<=JC)
  (h1:lo=0->step=1->m=xs.length->Q (.ref t) s)(h2:Q (.ref s.heap.objs.size) {s with heap:=s.heap.push {cls:=.type "tuple",data:=.seq (ER ys)}}):DW (ED Y w) A (Oa (.ref t) (.ref sl)) Q Ex s:=by
 obtain⟨os,lR,pG,mD⟩:=id hs;have hTs:s.TypeIs (.ref sl) "slice" :=⟨os,lR,pG⟩;unfold Oa
 try with_reducible refine HE ?_
 first|refine DV (EK ?_)|skip
 refine DV (D7 ht.typeIs (by decide) ?_);refine DV (XZ (name:=LB "__getitem__") ht.typeIs Kl
  (SP Kl ht.typeIs entry_tuple_getitem ?_ (args_tuple_getitem _ _)))
 show DW _ _ (aHV (.ref t)>>=_) _ _ s;refine DV (tupleItemsOf_ ht ?_);refine DV (E0 hTs ?_);rw[GG (by decide)];refine DV (ha ?_);show DW _ _ (if(lo==0&&step==1&&m==xs.length)=DN then _ else _) _ _ s;by_cases hw:(lo==0&&step==1&&m==xs.length)=DN
 ·rw[GG hw];simp only[Gu,Eg]at hw;have hq:=h1 hw.1.1 hw.1.2 hw.2;show DW _ _ (aeX (.ref t)>>=_) _ _ s;unfold aeX;refine DV (DV (E0 ht.typeIs ?_));show DW _ _ (pure DN) _ _ _;refine EK ?_;rw[GG rfl];exact DV (YA (EK ⟨_,rfl,EK hq⟩))
 ·rw[FU hw,hm];have hd:PySem.sizeOk (.seq (ER ys)):=by show(ER ys).size<=JC;rw[HW];exact hz
  first
   |exact DV (m:=M7 _) (UR (EK ⟨_,rfl,EK h2⟩) hd)
   |exact DV (m:=M7 _) (UR (DV (EK (EK ⟨_,rfl,EK h2⟩))) hd)
   |exact DV (DV (m:=M7 _) (UR (EK (EK ⟨_,rfl,EK h2⟩)) hd))
   |exact DV (DV (m:=M7 _) (UR (EK ⟨_,rfl,EK h2⟩) hd))
theorem aoS{p:FS}(h:DW (ED Y w) A (HM y Z) (λ u s=>Q (.ref s.heap.objs.size) {s with heap:=s.heap.push (Kk .none u .none)}) Ex s):
  DW (ED Y w) A (HM (.Slice DP (DK y) DP p) Z) Q Ex s:=by
 rw[akD];refine DV (EK (DV (HE ?_)));refine IF (h:DW (ED Y w) A (valueOrNone (evalOpt (DK y) Z)) _ _ _) (λ u s' q=> ?_) λ J J e=>e;refine DV (HE (EK ?_));exact UR q
theorem aoR{p:FS}(h:DW (ED Y w) A (HM y Z) (λ u s=>Q (.ref s.heap.objs.size) {s with heap:=s.heap.push (Kk .none .none u)}) Ex s):
  DW (ED Y w) A (HM (.Slice DP DP (DK y) p) Z) Q Ex s:=by
 rw[akD];refine DV (EK (DV (HE (EK (DV (HE ?_))))));refine IF (h:DW (ED Y w) A (valueOrNone (evalOpt (DK y) Z)) _ _ _) (λ u s' q=> ?_) λ J J e=>e;exact UR q
theorem iz{ob:GT}(I:aZ w K U c h):aZ w K U c (h.push ob)/\bM [] c h c (h.push ob):=
 ⟨I.eY (FO _ _),bM.eY (FO _ _)⟩
theorem aBW{t:Tx}{m:DL}(h:m<=t.length):Txt.slice (sx t) DP (DK (m:DY))=sx (t.take m):=by
 have:=slice_closes_to (x:=sx t) (j:=(m:DY)) ⟨YI m,Sa.mpr h⟩;rw[Eg.mp this];have e:((m:DY)-0).toNat=m:=by rw[N8];rfl
 rw[e];rfl
section
variable {p0:FS}{r:V}{xv:DS}{k:DY}{ku:KT}(I:aZ w K U c s.heap)(rv:VR w c s.heap v xv)(p:PV w K [] c s G r Q)
include I rv p
theorem ayB(hs:s.heap.IsSliceOf sl .none (.int k ku) .none)(e:C8 v k U=DK (r,G)):DW (ED Y w) A (Ge x (.Slice DP (DK y) DP p0) xv (.ref sl)) Q Ex s:=
 FH e (λ e=>ob e λ B h1 e=>EO e λ hz e=>rv.eT h1 λ a xs g1 g2 g3=>by
  have hl:xs.length=B.length:=g3.bQ;have p:=p.eq e rfl;refine A4 (am (IsT.dK g1)) Kl.lookup (td (lo:=0) (step:=1) (m:=lM k B.length) (ys:=xs.take (lM k B.length)) (IsT.dK g1) hs (λ h=>ak5 hs (by rw[hl];exact h)) (ayY xs _ (by rw[hl];exact anC _ _)) ?_ (λ J J e=> ?_) ?_) rfl
  ·exact EZ (by rw[List.length_take];exact bp _ _) (by rw[hl];exact WF hz)
  ·rw[show cR B k=B by rw[ng,e,hl,bg (FG _)]]at p;exact p.here I (.aR g1 g2 g3)
  ·rw[ng]at p;exact p.new (tk:=s.toks) I rfl (.aR (HH _ rfl) (.inr rfl) ((g3.take _).bB (.eP (FO _ _)))))
  λ e=>ob e λ t h1 e=>ob e λ n h2 e=>EO e λ ht e=>EO e λ tM e=>rv.eS h1 λ tt=>by
  have tM:=GO tM;have hb:t.length<=JC:=WQ (IW (TC.mp (DO ht).2) (by unfold JC;decide));rw[Ht h2]at hs;refine A4 (acG _ _ _) PySem.F.slot_str_getitem.lookup (wpAny_getItem_str_slice (l:=DP) (u:=DK ((n:DY),ku)) (st:=DP) hs rfl (post_val_or_str ⟨EZ (Txt.slice_le (sx t) DP (DK (n:DY))) hb,λ t' k'=> ?_⟩)) rfl;show Q (.str (if((1:DY)==1&&(M6 DP (DK (n:DY)) 1 (sx t).length).length==(sx t).length)=DN then sx t else⟨((M6 DP (DK (n:DY)) 1 (sx t).length).filterMap ((sx t).cps[·]?)).toArray⟩) t') _;rw[show(if((1:DY)==1&&(M6 DP (DK (n:DY)) 1 (sx t).length).length==(sx t).length)=DN then sx t else⟨((M6 DP (DK (n:DY)) 1 (sx t).length).filterMap ((sx t).cps[·]?)).toArray⟩)=sx (t.take n)from aBW tM];exact(p.eq e rfl).iD I (.str _ _)
theorem axT(hs:s.heap.IsSliceOf sl .none .none (.int (-1) ku))(e:Vc v U=DK (r,G)):DW (ED Y w) A (Ge x (.Slice DP DP (DK y) p0) xv (.ref sl)) Q Ex s:=
 FH e (λ e=>ob e λ B h1 e=>EO e λ hz e=>rv.eT h1 λ a xs g1 g2 g3=>by
  refine A4 (am (IsT.dK g1)) Kl.lookup (td (lo:=(xs.length:DY)-1) (step:= -1) (m:=xs.length) (ys:=xs.reverse) (IsT.dK g1) hs (λ h=>ak4 hs h) (ayX xs) ?_ (λ J e J=>EP e (by decide)) ?_) rfl
  ·rw[O7,g3.bQ];exact WF hz
  ·exact(p.eq e rfl).new (tk:=s.toks) I rfl (.aR (HH _ rfl) (.inr rfl) (g3.reverse.bB (.eP (FO _ _)))))
  λ e=>ob e λ B h1 e=>EO e λ hz e=>I.eL h1 rv λ a xs k hL hr=>by
  refine A4 (IsL.isList hL).typeIs list_getitem_lookup (wpAny_getItem_list_slice (lo:=DP) (hi:=DP) (st:=DK (-1)) (IsL.isList hL) hs .none .none (.int _ _) (by decide) ?_ (by rw[HW,hr.bQ];exact WF hz)) rfl;rw[krv_pick];exact(p.eq e rfl).rS (tk:=s.toks) I ⟨xs.reverse,0,HH _ rfl,hr.reverse.bB (.own (FO _ _)),rfl⟩
end
theorem afK{k:DY}{p:FS}(h1:SE Y w K n D o L e x)(h2:SE Y w K n D o L (.k (.int k)) y):SE Y w K n D o L (.jI e k) (.Subscript x (.Slice DP (DK y) DP p) pos):=by
 intro A fr Z m c U s Q E C q;refine fi (seq q (λ Q E=>h1 A fr Z m c U s Q E C) λ v G c' h' tk u J I X rv p'=>PR.o2 p' λ r dB e p=> ?_);refine aoS (h2 A fr Z m c' G {s with heap:=h',toks:=tk} _ _ (C.ext I X) λ c2 iB eK y2 I2 X2 r2=> ?_);refine r2.eI (P:=λ y2=>DW (ED Y w) A _ Q E {s with heap:=iB.push (Kk .none y2 .none),toks:=eK}) rfl λ ku=> ?_;have I3:=iz (ob:=Kk .none (.int k ku) .none) I2;exact ayB I3.1 (rv.bB (X2.trans I3.2).bB) (PV.from (s:={s with heap:=h',toks:=tk}) (tk:=eK) (X2.trans I3.2) p) (afV ..) e
theorem af1{p:FS}(h1:SE Y w K n D o L e x)(h2:SE Y w K n D o L (.k (.int (-1))) y):SE Y w K n D o L (.jB e) (.Subscript x (.Slice DP DP (DK y) p) pos):=by
 intro A fr Z m c U s Q E C q;refine fi (seq q (λ Q E=>h1 A fr Z m c U s Q E C) λ v G c' h' tk u J I X rv p'=>PR.o2 p' λ r dB e p=> ?_);refine aoR (h2 A fr Z m c' G {s with heap:=h',toks:=tk} _ _ (C.ext I X) λ c2 iB eK y2 I2 X2 r2=> ?_);refine r2.eI (P:=λ y2=>DW (ED Y w) A _ Q E {s with heap:=iB.push (Kk .none .none y2),toks:=eK}) rfl λ ku=> ?_;have I3:=iz (ob:=Kk .none .none (.int (-1) ku)) I2;exact axT I3.1 (rv.bB (X2.trans I3.2).bB) (PV.from (s:={s with heap:=h',toks:=tk}) (tk:=eK) (X2.trans I3.2) p) (afV ..) e
theorem zv{d:DZ}{k:V}{t:Tx}{kx x:DS}{z:HI}{Q:aK}(I:aZ w K U c s.heap)(eW:c.ρ[i]? =DK (d,d))(ht:GJ k=DK t)(rk:VR w c s.heap k kx)(rv:VR w c s.heap v x)(e:lC (.ref i) k v U=DK (z,G))
  (p:∀h' tk,aZ w K G c h'->bM [] c s.heap c h'->Q () {s with heap:=h',toks:=tk}):DW (ED Y w) A (El d kx x) Q Ex s:=
 FH e (λ e=>ob e λ dd h1 e=>ob e λ b h2 e=>by
  obtain⟨H,n,ho,hr,_⟩:OR w c s.heap (.dict dd.1 dd.2) (d,d):=ob h1 λ j hj h1=>ob h1 λ oo ho h1=>I.obj j _ _ (Ju h1▸ho) (EJ hj▸eW);rw[<-(YQ (EJ e)).2]at p;exact FH h2 (λ h2=>ob h2 λ t ht h2=>rk.eS ht λ tk=>X9 ho hr (IP ht) h2 rv λ h' dZ n' g1 g2 sb=>s7 I eW g1 (λ m=>g2.bB m) sb p) λ h2=>ob h2 λ t' nF J=>by rw[IP ht]at nF;exact EW nF)
  λ e=>ob e λ J J e=>ob e λ n hn J=>by rw[IP ht]at hn;exact EW hn
theorem af9{a b:E}(h1:SE Y w K n D o L a x)(h2:SE Y w K n D o L b y):SE Y w K n D o L (.kA a b) (.Dict [DK x] [y] pos):=by
 intro A fr Z m c U s Q E C p;refine wpAny_Dict_any rfl rfl (by simp) (by simp) ?_;have I0:aZ w K (U++[.dict [] []]) (c.own (s.heap.objs.size,s.heap.objs.size)) (s.heap.push YZ):=
  C.bW.own (p:=(s.heap.objs.size,s.heap.objs.size)) (FG _) (FG _) (FO _ _) ⟨[],0,HH _ rfl,.nil,rfl⟩
 have X0:bM [] c s.heap (c.own (s.heap.objs.size,s.heap.objs.size)) (s.heap.push YZ):=.own (FG _) (FG _) (FO _ _) (Pp _ _);have C0:=C.ext I0 X0;have eW:(c.own (s.heap.objs.size,s.heap.objs.size)).ρ[U.length]? =DK (s.heap.objs.size,s.heap.objs.size):=Cx.kZ C.bW _;have p0:PR w K (VR w) FE [] c s (aB.bind (MW D o a m) (λ k=>aB.bind (MW D o b m) λ v=>aB.bind (Kb (.ref U.length) k v) λ J=>aB.pure (.ref U.length)) (U++[.dict [] []])) Q E:=p;have p1:=PR.from (tk:=s.toks) X0 p0;show DW _ _ (do
  let kv<-HM x Z
  let vv<-Oc [kv] (do let x<-HM y Z;Km pos;pure x)
  return (kv,vv)::(<-Oc [kv,vv] (evalPairs []))) _ _ _
 refine DV (seq p1 (λ Q E=>h1 A fr Z m _ _ _ Q E C0) λ k G c' h' tk kx J I X rk p'=> ?_);have C1:=C0.ext I X;refine DV (HE (DV (seq p' (λ Q E=>h2 A fr Z m c' G _ Q E C1) λ v dB c2 iB eK vx J I2 X2 rv p2=>DV (OS ?_))));have C2:=C1.ext I2 X2;refine EK (DV (HE (EK (EK ?_))));refine PR.b2 p2 λ J cN e p=>ob e λ t ht e=> ?_;unfold storeAll;rw[Ac];refine DV (DV (zv (s:={s with heap:=iB,toks:=eK}) I2 (X2.ρ _ _ (X.ρ _ _ eW)) ht (rk.bB X2.bB) rv e λ h3 cU I3 X3=> ?_));exact EK (EK ((p:PR w K (VR w) FE [] c2 {s with heap:=iB,toks:=eK} (.ok (.ref U.length) cN) Q E) c2 h3 cU _ I3 X3 (.ref (X2.ρ _ _ (X.ρ _ _ eW)))))
end
inductive Bs(h:ES)(it:DZ)(k:DL)(bE:DZ)(xs:DM DS):Prop
 |aX (n:DL):h.IsListIter it bE k->IsL h bE (ER xs) n->Bs h it k bE xs
 |aR:N9 h it bE k->IsT h bE (ER xs) 0->Bs h it k bE xs
section
variable {w:EV}{K:EQ}{D:Tb}{L:Mx}{Ex:aJ}{bE:DZ}
theorem Bs.at(b:Bs h it k bE xs)(g1:∀o,h.get? it=DK o->h'.get? it=DK o)(g2:∀o,h.get? bE=DK o->h'.get? bE=DK o):Bs h' it k bE xs:=by
 cases b with
 |aX n b1 b2=>exact .aX n (by obtain⟨o,e,r⟩:=b1;exact⟨o,g1 o e,r⟩) (g2 _ b2)|aR b1 b2=>exact .aR (by obtain⟨o,e,r⟩:=b1;exact⟨o,g1 o e,r⟩) (g2 _ b2)
theorem Bs.cX(b:Bs h it k bE xs):(∃o,h.get? it=DK o/\¬PL o)/\∃o,h.get? bE=DK o:=by
 cases b with
 |aX n b1 b2=>obtain⟨o,e,_,q⟩:=b1;exact⟨⟨o,e,λ ⟨H,m,d⟩=>by rw[q]at d;cases d⟩,_,b2⟩
 |aR b1 b2=>obtain⟨o,e,_,q⟩:=b1;exact⟨⟨o,e,λ ⟨H,m,d⟩=>by rw[q]at d;cases d⟩,_,b2⟩
theorem awS{t:DZ}{dH:FM DS}{x:DS}(fP:N9 s.heap it t i)(ht:IsTup s.heap t dH)(hx:dH[i]? =DK x)
  (hQ:∀h',N9 h' it t (i+1)->WL it s.heap h'->Q x {s with heap:=h'}):DW (ED Y w) A (YD (.ref it)) Q Ex s:=by
 obtain⟨o,ho,hc,hd⟩:=id fP;obtain⟨ol,tR,_,nl,tJ⟩:=ht;unfold YD;refine DV (XZ (name:=LB "__next__") fP.typeIs i9 (SP i9 fP.typeIs aoD ?_ (akA _)));show DW _ _ (TY (.ref it) 0>>=_) _ _ s;refine DV (IT ho hd (x:=.ref t) rfl ?_);show DW _ _ (if(NO t==LC)=DN then _ else _) _ _ s;rw[FU (show¬((NO t==LC)=DN)from FJ)];show DW _ _ (TY (.ref it) 1>>=_) _ _ s;refine DV (IT ho hd (x:=.int i 0) rfl ?_);show DW _ _ (Zm (.ref t)>>=_) _ _ s;refine DV (WI tR tJ ?_);simp only[ag8,hx];refine DV (D8 ho hd (by simp) (EK ⟨x,rfl,EK (hQ _ ?_ (Ry ..))⟩));exact⟨_,WM _ ho (ahI (Su hd _)),(ahH ..).trans hc,by
  rw[Su hd];simp[JS]⟩
theorem awR{t:DZ}{dH:FM DS}(hh:A.handled=DP)(fP:N9 s.heap it t i)(ht:IsTup s.heap t dH)(hx:dH[i]? =DP)
  (hE:∀h' e,Gz it s.heap h'->(∃o,h'.get? e=DK o/\o.cls=.type "StopIteration")->Ex (.ref e) {s with heap:=h'}):DW (ED Y w) A (YD (.ref it)) Q Ex s:=by
 obtain⟨o,ho,hc,hd⟩:=id fP;obtain⟨ol,tR,_,nl,tJ⟩:=ht;unfold YD;refine DV (XZ (name:=LB "__next__") fP.typeIs i9 (SP i9 fP.typeIs aoD ?_ (akA _)));show DW _ _ (TY (.ref it) 0>>=_) _ _ s;refine DV (IT ho hd (x:=.ref t) rfl ?_);show DW _ _ (if(NO t==LC)=DN then _ else _) _ _ s;rw[FU (show¬((NO t==LC)=DN)from FJ)];show DW _ _ (TY (.ref it) 1>>=_) _ _ s;refine DV (IT ho hd (x:=.int i 0) rfl ?_);show DW _ _ (Zm (.ref t)>>=_) _ _ s;refine DV (WI tR tJ ?_);simp only[ag8,hx];refine DV (YA (DV (D8 ho hd (by simp) ?_)));show DW _ _ (O! (.type "StopIteration") []>>=_) _ _ _;refine DV ?_;simp only[O!,O?];refine DV (UR ?_ (by size_fits));refine DV (m:=e_ _ _) (Gn (a:=LC) (by first|rfl|(simp only[e_];rfl)) ?_);refine UR ?_ (by size_fits);unfold raiseNew;refine DV (aEH ?_)
 first|rw[show A.in1.handled=DP from hh]|rw[hh]
 refine DV (EK (wpAny_throw ?_));exact hE _ _ (((Ry ..).extBut.push _).push _) ⟨_,HH _ rfl,rfl⟩
theorem Bs.ne(b:Bs h it k bE xs):it≠bE:=by
 cases b with
 |aX n b1 b2=>
  obtain⟨o,e,_,q⟩:=b1
  rintro rfl
  rw[b2]at e;cases e;cases q
 |aR b1 b2=>
  obtain⟨o,e,_,q⟩:=b1
  rintro rfl
  rw[b2]at e;cases e;cases q
theorem Bs.nextOf{x:DS}(b:Bs s.heap it k bE xs)(hx:xs[k]? =DK x)(hQ:∀h',Bs h' it (k+1) bE xs->WL it s.heap h'->Q x {s with heap:=h'}):
  DW (ED Y w) A (YD (.ref it)) Q Ex s:=by
 have cS:=b.ne;cases b with
 |aX n b1 b2=>exact wpAny_nextOf_list_item b1 (IsL.isList b2) (by simpa using hx) λ h' a sb=>hQ h' (.aX n a ((sb.2 bE (JY cS)).trans b2)) sb
 |aR b1 b2=>exact awS b1 (IsT.dK b2) (by simpa using hx) λ h' a sb=>hQ h' (.aR a ((sb.2 bE (JY cS)).trans b2)) sb
theorem Bs.xE(hh:A.handled=DP)(b:Bs s.heap it k bE xs)(hx:xs[k]? =DP)(hE:∀h' e,Gz it s.heap h'->(∃o,h'.get? e=DK o/\o.cls=.type "StopIteration")->Ex (.ref e) {s with heap:=h'}):
  DW (ED Y w) A (YD (.ref it)) Q Ex s:=by
 cases b with
 |aX n b1 b2=>exact wpAny_nextOf_list_end hh b1 (IsL.isList b2) (by simpa using hx) hE|aR b1 b2=>exact awR hh b1 (IsT.dK b2) (by simpa using hx) hE
theorem Bs.next{x:DS}{Q:DQ DS->EB->Prop}(b:Bs s.heap it k bE xs)(hx:xs[k]? =DK x)(hQ:∀h',Bs h' it (k+1) bE xs->WL it s.heap h'->Q (DK x) {s with heap:=h'}):
  DW (ED Y w) A (PU (.ref it)) Q Ex s:=by
 have cS:=b.ne;cases b with
 |aX n b1 b2=>exact wpAny_pyNext_list_item b1 (IsL.isList b2) (by simpa using hx) λ h' a sb=>hQ h' (.aX n a ((sb.2 bE (JY cS)).trans b2)) sb
 |aR b1 b2=>exact next_tuple_item b1 (IsT.dK b2) (by simpa using hx) λ h' a sb=>hQ h' (.aR a ((sb.2 bE (JY cS)).trans b2)) sb
theorem Bs.mM{Q:DQ DS->EB->Prop}(hh:A.handled=DP)(b:Bs s.heap it k bE xs)(hx:xs[k]? =DP)(hQ:∀h',Gz it s.heap h'->Q DP {s with heap:=h'}):
  DW (ED Y w) A (PU (.ref it)) Q Ex s:=by
 cases b with
 |aX n b1 b2=>exact wpAny_pyNext_list_end hh b1 (IsL.isList b2) (by simpa using hx) hQ|aR b1 b2=>exact next_tuple_end hh b1 (IsT.dK b2) (by simpa using hx) hQ
theorem jA.iter{a:DZ}(q:jA s.heap a xs)(hQ:∀h',Bs h' s.heap.objs.size 0 a xs->(∃ob,h'=s.heap.push ob)->Q (.ref s.heap.objs.size) {s with heap:=h'}):
  DW (ED Y w) A (Cm (.ref a)) Q Ex s:=by
 cases q with
 |list n hl=>exact ad0 (IsL.isList hl) (hQ _ (.aX n ⟨_,HH _ rfl,rfl,rfl⟩ (FO _ _ _ _ hl)) ⟨_,rfl⟩)|tuple ht=>exact iter_tuple (IsT.dK ht) (hQ _ (.aR ⟨_,HH _ rfl,rfl,rfl⟩ (FO _ _ _ _ ht)) ⟨_,rfl⟩)
end
section
variable {w:EV}{Ex:aJ}
structure Zp(h:ES)(z TI TO i1 i2:DZ)(k:DL)(a1 a2:DZ)(xs ys:DM DS)(f:DS):Prop where
 hz:UZ h z TI TO f
 ti:SY h TI (.ref i1) (.ref i2)
 to:∃a b,SY h TO a b
 b1:Bs h i1 k a1 xs
 b2:Bs h i2 k a2 ys
 ap:ZipApart z TI TO i1 i2 a1 a2
theorem Zp.at{f:DS}(E_:Zp h z TI TO i1 i2 k a1 a2 xs ys f)(g:∀b o,b∈[z,TI,TO,i1,i2,a1,a2]->h.get? b=DK o->h'.get? b=DK o):Zp h' z TI TO i1 i2 k a1 a2 xs ys f:=
 ⟨g _ _ (by simp) E_.hz,g _ _ (by simp) E_.ti,by obtain⟨a,b,q⟩:=E_.to;exact⟨a,b,g _ _ (by simp) q⟩,E_.b1.at (λ o=>g _ o (by simp)) (λ o=>g _ o (by simp)),E_.b2.at (λ o=>g _ o (by simp)) (λ o=>g _ o (by simp)),E_.ap⟩
theorem Zp.item{x y:DS}{Q:DQ DS->EB->Prop}(E_:Zp s.heap z TI TO i1 i2 k a1 a2 xs ys .none)(hx:xs[k]? =DK x)(hy:ys[k]? =DK y)
  (hQ:∀h',Zp h' z TI TO i1 i2 (k+1) a1 a2 xs ys (JS s.heap.objs.size)->SY h' s.heap.objs.size x y->(∀b o,b≠z->b≠TO->b≠i1->b≠i2->s.heap.get? b=DK o->h'.get? b=DK o)->Q (DK (.ref s.heap.objs.size)) {s with heap:=h'}):
  DW (ED Y w) A (PU (.ref z)) Q Ex s:=by
 obtain⟨hz,qZ,⟨a,b,tI⟩,b1,b2,I_⟩:=E_;have hT:s.TypeIs (.ref z) "zip" :=⟨_,hz,rfl⟩;unfold PU;refine DV (Ld (XZ (name:=LB "__next__") hT N5 (SP N5 hT afQ ?_ (afP _))));show DW _ _ (TY (.ref z) 2>>=_) _ _ _;refine DV (IT hz rfl (x:=.bool DT) rfl ?_);show DW _ _ (TY (.ref z) 3>>=_) _ _ _;refine DV (IT hz rfl (x:=.ref TI) rfl (DV (WI qZ rfl ?_)));show DW _ _ (M5 (.ref z)>>=_) _ _ _;refine DV ?_;unfold M5;refine DV (IT hz rfl (x:=.none) rfl (EK ?_));show DW _ _ (rule _>>=_) _ _ _;refine DV (YA (DV (IT hz rfl (x:=.ref TO) rfl (DV (ZS hz (by simp) λ dJ mF qR=> ?_)))))
 replace mF:UZ dJ z TI TO .ellipsis:=mF
 have k1:∀b o,b≠z->s.heap.get? b=DK o->dJ.get? b=DK o:=λ b o hb e=>qR.extBut b o hb e;refine DV ?_;simp only[agS,agT,Ac,agI];refine DV (DV (D6 ?_));show DW _ _ (YD (.ref i1)>>=_) _ _ _;refine DV ((b1.at (λ o=>k1 _ o I_.i1z) (λ o=>k1 _ o I_.l1z)).nextOf (s:={s with heap:=dJ}) hx λ iU c1 lK=>EK ?_);have k2:∀b o,b≠z->b≠i1->s.heap.get? b=DK o->iU.get? b=DK o:=λ b o q1 q2 e=>lK.extBut b o q2 (k1 b o q1 e);have hTO₂:SY iU TO a b:=k2 _ _ I_.TOz I_.TOi1 tI;refine DV (WI hTO₂ rfl (DV (ad3 hTO₂ λ jD rA jZ=> ?_)))
 replace rA:SY jD TO x b:=rA
 have k3:∀b o,b≠z->b≠i1->b≠TO->s.heap.get? b=DK o->jD.get? b=DK o:=λ b o q1 q2 q3 e=>jZ.extBut b o q3 (k2 b o q1 q2 e);refine DV (D2 (EK ?_));refine DV (DV (D6 ?_));show DW _ _ (YD (.ref i2)>>=_) _ _ _;refine DV ((b2.at (λ o=>k3 _ o I_.i2z I_.i12.symm I_.TOi2.symm) (λ o=>k3 _ o I_.l2z I_.l2i1 I_.l2TO)).nextOf (s:={s with heap:=jD}) hy λ nG c2 lL=>EK ?_);have hTO₄:SY nG TO x b:=lL.extBut _ _ I_.TOi2 rA;refine DV (WI hTO₄ rfl (DV (ad3 hTO₄ λ gZ rB kL=> ?_)))
 replace rB:SY gZ TO x y:=rB
 have k5:∀b o,b≠z->b≠TO->b≠i1->b≠i2->s.heap.get? b=DK o->gZ.get? b=DK o:=λ b o q1 q2 q3 q4 e=>kL.extBut b o q2 (lL.extBut b o q4 (k3 b o q1 q3 q2 e));have hz₅:UZ gZ z TI TO .ellipsis:=kL.extBut _ _ I_.TOz.symm (lL.extBut _ _ I_.i2z.symm (jZ.extBut _ _ I_.TOz.symm (lK.extBut _ _ I_.i1z.symm mF)));have c1':Bs gZ i1 (k+1) a1 xs:=c1.at (λ o e=>kL.extBut _ o I_.TOi1.symm (lL.extBut _ o I_.i12 (jZ.extBut _ o I_.TOi1.symm e))) (λ o e=>kL.extBut _ o I_.l1TO (lL.extBut _ o I_.l1i2 (jZ.extBut _ o I_.l1TO e)));have c2':Bs gZ i2 (k+1) a2 ys:=c2.at (λ o e=>kL.extBut _ o I_.TOi2.symm e) (λ o e=>kL.extBut _ o I_.l2TO e);refine DV (D2 (EK (EK ?_)));have hsz:gZ.objs.size=s.heap.objs.size:=by rw[kL.1,lL.1,jZ.1,lK.1,qR.1]
 refine DV (WI rB rfl (DV (acY ?_)));show DW _ _ (aeW (.ref z) (.ref gZ.objs.size)>>=_) _ _ _;refine DV ?_;unfold aeW;have hz₆:UZ (gZ.push {cls:=.type "tuple",data:=.seq #[x,y]}) z TI TO .ellipsis:=RM _ hz₅;refine DV (ZS hz₆ (by simp) λ BC tV uQ=> ?_)
 replace tV:UZ BC z TI TO (JS gZ.objs.size):=tV
 refine ZS tV (by simp) λ rN rM uR=> ?_
 replace rM:UZ rN z TI TO (JS gZ.objs.size):=rM
 have up:∀b o,b≠z->gZ.get? b=DK o->rN.get? b=DK o:=λ b o q e=>uR.extBut _ _ q (uQ.extBut _ _ q (RM _ e));have hzlt:z<gZ.objs.size:=HV hz₅;have hT₈:SY rN gZ.objs.size x y:=uR.extBut _ _ (YO hzlt) (uQ.extBut _ _ (YO hzlt) (HH _ rfl));rw[hsz]at rM hT₈;refine EK ⟨_,rfl,EK ?_⟩;rw[hsz];refine hQ rN ⟨rM,up _ _ I_.TIz (k5 _ _ I_.TIz I_.TITO I_.TIi1 I_.TIi2 qZ),⟨x,y,up _ _ I_.TOz rB⟩,c1'.at (λ o=>up _ o I_.i1z) (λ o=>up _ o I_.l1z),c2'.at (λ o=>up _ o I_.i2z) (λ o=>up _ o I_.l2z),I_⟩ hT₈ λ b o q1 q2 q3 q4 e=>up b o q1 (k5 b o q1 q2 q3 q4 e)
theorem Zp.mM{Q:DQ DS->EB->Prop}(hh:A.handled=DP)(E_:Zp s.heap z TI TO i1 i2 k a1 a2 xs ys .none)(pJ:xs[k]? =DP∨ys[k]? =DP)
  (hQ:∀h',(∀b o,b≠z->b≠TO->b≠i1->b≠i2->s.heap.get? b=DK o->h'.get? b=DK o)->Q DP {s with heap:=h'}):DW (ED Y w) A (PU (.ref z)) Q Ex s:=by
 obtain⟨hz,qZ,⟨a,b,tI⟩,b1,b2,I_⟩:=E_;have hT:s.TypeIs (.ref z) "zip" :=⟨_,hz,rfl⟩;unfold PU;refine DV (Ld (XZ (name:=LB "__next__") hT N5 (SP N5 hT afQ ?_ (afP _))));have cY:∀(h':ES) (e:DZ),(∀b o,b≠z->b≠TO->b≠i1->b≠i2->s.heap.get? b=DK o->h'.get? b=DK o)->(∃o,h'.get? e=DK o/\o.cls=.type "StopIteration")->
   DW (ED Y w) A (do if<-isInstance (.ref e) (.type "StopIteration")then pure DP else throw (.ref e)) Q Ex {s with heap:=h'}:=by
  rintro h' e hk ⟨o,ho,hc⟩
  exact DV (Ra (T:= "StopIteration") (b:=DN) ⟨o,ho,hc⟩ atY (EK (hQ _ hk)))
 show DW _ _ (TY (.ref z) 2>>=_) _ _ _;refine DV (IT hz rfl (x:=.bool DT) rfl ?_);show DW _ _ (TY (.ref z) 3>>=_) _ _ _;refine DV (IT hz rfl (x:=.ref TI) rfl (DV (WI qZ rfl ?_)));show DW _ _ (M5 (.ref z)>>=_) _ _ _;refine DV ?_;unfold M5;refine DV (IT hz rfl (x:=.none) rfl (EK ?_));simp only[if_true];refine DV (YA (DV (IT hz rfl (x:=.ref TO) rfl (DV (ZS hz (by simp) λ dJ mF qR=> ?_)))))
 replace mF:UZ dJ z TI TO .ellipsis:=mF
 have k1:∀b o,b≠z->s.heap.get? b=DK o->dJ.get? b=DK o:=λ b o hb e=>qR.extBut b o hb e;refine DV ?_;simp only[agS,agT,Ac,agI];refine DV (DV (D6 ?_));show DW _ _ (YD (.ref i1)>>=_) _ _ _;cases hx:xs[k]? with
 |none=>
  refine DV ((b1.at (λ o=>k1 _ o I_.i1z) (λ o=>k1 _ o I_.l1z)).xE (s:={s with heap:=dJ}) hh hx λ iU e lK he=> ?_);obtain⟨oe,nA,pF⟩:=he;have hz₂:UZ iU z TI TO .ellipsis:=lK _ _ I_.i1z.symm mF;have hez:e≠z:=λ q=>by subst q;rw[hz₂]at nA;cases nA;simp at pF
  exact ZS hz₂ (by simp) λ jD J jZ=>cY jD e (λ c o q1 J q3 J e'=>jZ.extBut _ _ q1 (lK _ _ q3 (k1 c o q1 e'))) ⟨oe,jZ.extBut _ _ hez nA,pF⟩
 |some x=>
  have hy:ys[k]? =DP:=by rcases pJ with q|q;rw[hx]at q;cases q;exact q
  refine DV ((b1.at (λ o=>k1 _ o I_.i1z) (λ o=>k1 _ o I_.l1z)).nextOf (s:={s with heap:=dJ}) hx λ iU c1 lK=>EK ?_);have k2:∀b o,b≠z->b≠i1->s.heap.get? b=DK o->iU.get? b=DK o:=λ b o q1 q2 e=>lK.extBut b o q2 (k1 b o q1 e);have hTO₂:SY iU TO a b:=k2 _ _ I_.TOz I_.TOi1 tI;refine DV (WI hTO₂ rfl (DV (ad3 hTO₂ λ jD rA jZ=> ?_)));have k3:∀b o,b≠z->b≠i1->b≠TO->s.heap.get? b=DK o->jD.get? b=DK o:=λ b o q1 q2 q3 e=>jZ.extBut b o q3 (k2 b o q1 q2 e);refine DV (D2 (EK ?_));refine DV (DV (D6 ?_));show DW _ _ (YD (.ref i2)>>=_) _ _ _;refine DV ((b2.at (λ o=>k3 _ o I_.i2z I_.i12.symm I_.TOi2.symm) (λ o=>k3 _ o I_.l2z I_.l2i1 I_.l2TO)).xE (s:={s with heap:=jD}) hh hy λ nG e lL he=> ?_);obtain⟨oe,nA,pF⟩:=he;have hz₄:UZ nG z TI TO .ellipsis:=lL _ _ I_.i2z.symm (jZ.extBut _ _ I_.TOz.symm (lK.extBut _ _ I_.i1z.symm mF));have hez:e≠z:=λ q=>by subst q;rw[hz₄]at nA;cases nA;simp at pF
  exact ZS hz₄ (by simp) λ gZ J kL=>cY gZ e (λ c o q1 q2 q3 q4 e'=>kL.extBut _ _ q1 (lL _ _ q4 (k3 c o q1 q3 q2 e'))) ⟨oe,kL.extBut _ _ hez nA,pF⟩
end
noncomputable abbrev Op(T:HB)(a:DZ):GT:={cls:=.type T,data:=.fields #[.ref a,.int 0 0]}
def kK(h:ES)(a:DZ)(T:HB):Prop:=∃xs,(T= "list_iterator" /\∃n,IsL h a xs n)∨(T= "tuple_iterator" /\IsT h a xs 0)
theorem kK.push{a:DZ}{T:HB}(p:kK h a T)(o:GT):kK (h.push o) a T:=by
 obtain⟨xs,⟨rfl,n,q⟩|⟨rfl,q⟩⟩:=p
 ·exact⟨xs,.inl ⟨rfl,n,RM _ q⟩⟩
 ·exact⟨xs,.inr ⟨rfl,RM _ q⟩⟩
section
variable {w:EV}{Ex:aJ}
theorem zw{a:DZ}{T:HB}(p:kK s.heap a T)(hQ:Q (.ref s.heap.objs.size) {s with heap:=s.heap.push (Op T a)}):DW (ED Y w) A (Cm (.ref a)) Q Ex s:=by
 obtain⟨xs,⟨rfl,n,q⟩|⟨rfl,q⟩⟩:=p
 ·exact ad0 (IsL.isList q) hQ
 ·exact iter_tuple (IsT.dK q) hQ
theorem jA.kind{a:DZ}(q:jA h a xs):∃T,kK h a T/\∀h' it,(∀o,h.get? a=DK o->h'.get? a=DK o)->h'.get? it=DK (Op T a)->Bs h' it 0 a xs:=by
 cases q with
 |list n hl=>exact⟨_,⟨_,.inl ⟨rfl,n,hl⟩⟩,λ h' it k e=>.aX n ⟨_,e,rfl,rfl⟩ (k _ hl)⟩|tuple ht=>exact⟨_,⟨_,.inr ⟨rfl,ht⟩⟩,λ h' it k e=>.aR ⟨_,e,rfl,rfl⟩ (k _ ht)⟩
noncomputable abbrev L8(h:ES)(T1:HB)(a1:DZ):ES:=h.push (Op T1 a1)
noncomputable abbrev L9(h:ES)(T1 T2:HB)(a1 a2:DZ):ES:=(L8 h T1 a1).push (Op T2 a2)
noncomputable abbrev M0(h:ES)(T1 T2:HB)(a1 a2:DZ):ES:=(L9 h T1 T2 a1 a2).push {cls:=.type "tuple",data:=.seq #[.ref h.objs.size,.ref (L8 h T1 a1).objs.size]}
noncomputable abbrev M1(h:ES)(T1 T2:HB)(a1 a2:DZ):ES:=(M0 h T1 T2 a1 a2).push {cls:=.type "tuple",data:=.seq #[.none,.none]}
noncomputable abbrev Gr(h:ES)(T1 T2:HB)(a1 a2:DZ):ES:=(M1 h T1 T2 a1 a2).push {cls:=.type "zip",data:=.fields #[.none,.bool DT,.bool DT,.ref (L9 h T1 T2 a1 a2).objs.size,.ref (M0 h T1 T2 a1 a2).objs.size]}
theorem aw4(T1 T2:HB)(a1 a2:DZ):
  Meets (Builtin.«zip.__new__» ⟨[.type "zip",.ref a1,.ref a2],[]⟩) (λ J R s=>kK s.heap a1 T1/\kK s.heap a2 T2/\R (.ok (.ret (.ref (M1 s.heap T1 T2 a1 a2).objs.size))) {s with heap:=Gr s.heap T1 T2 a1 a2}):=
 .of_wp λ Y w A R s h=>by
  obtain⟨hp,g,d,tk,os⟩:=s;obtain⟨p1,p2,h⟩:=h;have pU:=sub_zip;have P1:kK (aj1 ⟨hp,g,d,tk,os⟩) a1 T1:=p1;have P2:kK (aj1 ⟨hp.push (Op T1 a1),g,d,tk,os⟩) a2 T2:=kK.push p2 _
  wp_walk using zw P1,zw P2
  exact⟨_,rfl,h⟩
structure aHW(h h':ES):Prop where
 keep:∀b o,h.get? b=DK o->h'.get? b=DK o
theorem ak2{a1 a2:DL}(l1:a1<n)(l2:a2<n):ZipApart (n+4) (n+2) (n+3) n (n+1) a1 a2:=by
 have ad:∀{i j:DL},i≠j->n+i≠n+j:=λ h e=>h (bk e);have lo:∀{a:DL} (i:DL),a<n->n+i≠a:=λ i h e=>VB n (JX (EZ (HD n i) (MT e)) h);constructor<;>first|exact VC l1|exact VC l2|exact YO l1|exact YO l2|exact ad (by decide)|exact ad (j:=0) (by decide)|exact ad (i:=0) (by decide)|exact lo _ l1|exact lo _ l2|exact lo 0 l1|exact lo 0 l2|exact(lo _ l1).symm|exact(lo _ l2).symm
theorem kz(q1:jA s.heap a1 xs)(q2:jA s.heap a2 ys)
  (h:∀h',Zp h' (s.heap.objs.size+4) (s.heap.objs.size+2) (s.heap.objs.size+3) s.heap.objs.size (s.heap.objs.size+1) 0 a1 a2 xs ys .none->(∀b o,s.heap.get? b=DK o->h'.get? b=DK o)->Q (.ref (s.heap.objs.size+4)) {s with heap:=h'}):
  DW (ED Y w) A (call (.type "zip") [.ref a1,.ref a2]) Q Ex s:=by
 obtain⟨T1,p1,r1⟩:=q1.kind;obtain⟨T2,p2,r2⟩:=q2.kind;have l1:a1<s.heap.objs.size:=by cases q1 with|list n q=>exact HV q|tuple q=>exact HV q
 have l2:a2<s.heap.objs.size:=by cases q2 with|list n q=>exact HV q|tuple q=>exact HV q
 refine callType_new F.called_zip (by decide) (F.typeCall_zip_2 _ _) (F.newCall_zip_2 _ _) (λ obj=>F.args_object_init_3 obj _ _) F.entry_zip_new (aw4 T1 T2 a1 a2) ⟨p1,p2,?_⟩;have z1:(L8 s.heap T1 a1).objs.size=s.heap.objs.size+1:=ZZ ..;have z2:(L9 s.heap T1 T2 a1 a2).objs.size=s.heap.objs.size+2:=by rw[ZZ,z1]
 have z3:(M0 s.heap T1 T2 a1 a2).objs.size=s.heap.objs.size+3:=by rw[ZZ,z2]
 have z4:(M1 s.heap T1 T2 a1 a2).objs.size=s.heap.objs.size+4:=by rw[ZZ,z3]
 have e5:(Gr s.heap T1 T2 a1 a2).get? (M1 s.heap T1 T2 a1 a2).objs.size=DK _:=HH _ rfl;have e4:(Gr s.heap T1 T2 a1 a2).get? (M0 s.heap T1 T2 a1 a2).objs.size=DK _:=FO _ _ _ _ (HH _ rfl);have e3:(Gr s.heap T1 T2 a1 a2).get? (L9 s.heap T1 T2 a1 a2).objs.size=DK _:=FO _ _ _ _ (FO _ _ _ _ (HH _ rfl));have e2:(Gr s.heap T1 T2 a1 a2).get? (L8 s.heap T1 a1).objs.size=DK _:=FO _ _ _ _ (FO _ _ _ _ (FO _ _ _ _ (HH _ rfl)));have e1:(Gr s.heap T1 T2 a1 a2).get? s.heap.objs.size=DK _:=FO _ _ _ _ (FO _ _ _ _ (FO _ _ _ _ (FO _ _ _ _ (HH _ rfl))));have kp:∀b o,s.heap.get? b=DK o->(Gr s.heap T1 T2 a1 a2).get? b=DK o:=λ b o e=>FO _ _ _ _ (FO _ _ _ _ (FO _ _ _ _ (FO _ _ _ _ (FO _ _ _ _ e))));show _/\_;rw[z2,z3,z4]at e5;rw[z1,z2]at e3;rw[z3]at e4;rw[z1]at e2;rw[z4];refine⟨⟨_,e5,rfl⟩,h _ ⟨e5,e3,⟨_,_,e4⟩,r1 _ _ (λ o=>kp _ o) e1,r2 _ _ (λ o=>kp _ o) e2,?_⟩ kp⟩;exact ak2 l1 l2
end
theorem Qi:Slot "reversed" "__next__" "reversed.__next__" :=
 .of (owner:= "reversed") (n:= "__next__") (by rw[Dg,Ay];kernel_rfl) (by decide+kernel) (by decide+kernel) (by decide+kernel)
  (by first|exact .inl (by decide+kernel)|exact .inr (by decide+kernel)) (by rw[Jf];kernel_rfl)
theorem qa:Wf A3 "reversed.__next__" =DK Builtin.«reversed.__next__»:=px (by kernel_rfl)
theorem ia(a:DS):My "reversed.__next__" ⟨[a],[]⟩:=by unfold My;kernel_rfl
theorem abC:Slot "reversed" "__iter__" "reversed.__iter__" :=
 .of (owner:= "reversed") (n:= "__iter__") (by rw[Dg,Ay];kernel_rfl) (by decide+kernel) (by decide+kernel) (by decide+kernel)
  (by first|exact .inl (by decide+kernel)|exact .inr (by decide+kernel)) (by rw[Jf];kernel_rfl)
theorem ak9(a:DS):My "reversed.__iter__" ⟨[a],[]⟩:=by unfold My;kernel_rfl
theorem aoB:Wf A3 "reversed.__iter__" =DK Builtin.«dict_keyiterator.__iter__»:=
 ao8 (id':= "dict_keyiterator.__iter__") (by kernel_rfl) (by first|rfl|decide+kernel|(unfold String.splitOn;simp+decide [String.splitOnAux])) (by decide+kernel) (by kernel_rfl)
theorem wM:mroOf (.type "reversed")=pure [.type "reversed",.type "object"]:=by rw[mroOf_type];kernel_rfl
theorem avH:La (.type "reversed") "__new__" =pure (DK (.builtin "reversed.__new__")):=by rw[Dg,Ay];kernel_rfl
theorem BZ:Slot "reversed" "__init__" "object.__init__" :=
 .of (owner:= "object") (n:= "__init__") (by rw[Dg,Ay];kernel_rfl) (by decide+kernel) (by decide+kernel) (by decide+kernel)
  (by first|exact .inl (by decide+kernel)|exact .inr (by decide+kernel)) (by rw[Jf];kernel_rfl)
theorem xF:C! (.type "reversed") (.type "reversed")=pure DN:=by rw[Jf];kernel_rfl
theorem am7:TypeCalled "reversed" "reversed.__new__" "object.__init__" :=
 ⟨by decide+kernel,by decide+kernel,⟨_,_,wM⟩,madeBy_type wM avH (by decide+kernel),by decide+kernel,xF,BZ⟩
theorem aDX(a:DS):checkTypeCall "reversed" ⟨[a],[]⟩=pure ():=by kernel_rfl
theorem awQ(a:DS):lg "reversed.__new__" ⟨[.type "reversed",a],[]⟩=pure ():=by kernel_rfl
theorem aoC:Wf A3 "reversed.__new__" =DK Builtin.«reversed.__new__»:=px (by kernel_rfl)
theorem ax7:La (.type "tuple") "__reversed__" =pure DP:=by rw[Dg,Ay];kernel_rfl
theorem aCN:C! (.type "tuple") (.type "dict")=pure DT:=by rw[Jf];kernel_rfl
noncomputable abbrev Px(t:DZ)(i:DY):GT:={cls:=.type "reversed",data:=.fields #[.ref t,JS i]}
theorem aw3(t:DZ)(xs:FM DS)(hz:(xs.size:DY)<2^63):
  Meets (Builtin.«reversed.__new__» ⟨[.type "reversed",.ref t],[]⟩) (λ J R s=>IsT s.heap t xs 0/\∀tk,R (.ok (.ret (.ref s.heap.objs.size))) {s with heap:=s.heap.push (Px t ((xs.size:DY)-1)),toks:=tk}):=
 .of_wp λ Y w A R s h=>by
  obtain⟨hp,g,d,tk,os⟩:=s;obtain⟨p1,h⟩:=h;have hT:(⟨hp,g,d,tk,os⟩:EB).TypeIs (.ref t) "tuple" :=⟨_,p1,rfl⟩;have pU:=xF;have h1:∀{A:HG} {E:aJ} {Q:DQ DS->EB->Prop},Q DP ⟨hp,g,d,tk,os⟩->DW (ED Y w) A (Gb (.ref t) "__reversed__") Q E ⟨hp,g,d,tk,os⟩:=λ hQ=>Go hT ax7 hQ;have h2:∀{A:HG} {E:aJ} {Q:aJ},(∀u bT,Q (.int xs.size u) ⟨hp,g,d,bT,os⟩)->DW (ED Y w) A (call (.builtin "len") [.ref t]) Q E ⟨hp,g,d,tk,os⟩:=λ hQ=>aiE p1 (by omega) (hQ _ _);have h3:∀{A:HG} {E:aJ} {Q:DU->EB->Prop},Q DT ⟨hp,g,d,tk,os⟩->DW (ED Y w) A (isInstance (.ref t) (.type "dict")) Q E ⟨hp,g,d,tk,os⟩:=λ hQ=>Ra hT aCN hQ;have h4:∀{A:HG} {E:aJ} {Q:DQ DS->EB->Prop},Q (DK (.builtin "tuple.__getitem__")) ⟨hp,g,d,tk,os⟩->DW (ED Y w) A (Gb (.ref t) "__getitem__") Q E ⟨hp,g,d,tk,os⟩:=λ hQ=>Go hT Kl.lookup hQ;unfold Builtin.«reversed.__new__»;refine DV (m:=aeV "reversed" _) ?_
  ·unfold aeV;refine DV (Gn (a:=DN) (by first|rfl|exact pU) ?_);refine DV (Gn (a:=DN) pU ?_);refine EK ?_;show DW _ _ (aHT "reversed" (.type "reversed") ⟨[.type "reversed",.ref t],[]⟩>>=_) _ _ _;refine DV (Gn (a:=()) rfl ?_);refine DV (Gn (a:=()) rfl ?_);show DW _ _ (Gb (.ref t) "__reversed__" >>=_) _ _ _;refine DV (h1 ?_);refine DV ?_;show DW _ _ (isInstance (.ref t) (.type "dict")>>=_) _ _ _;refine DV (h3 ?_);show DW _ _ (Gb (.ref t) "__getitem__" >>=_) _ _ _;refine DV (h4 ?_);refine EK ?_;show DW _ _ (call (.builtin "len") [.ref t]>>=_) _ _ _;refine DV (h2 λ u bT=> ?_);refine DV (Gn (a:=DK ((xs.size:DL):DY)) rfl ?_);show DW _ _ (newObj (.type "reversed") (.fields #[.ref t,JS ((xs.size:DY)-1)])>>=_) _ _ _;exact DV (UR (EK ⟨_,rfl,h bT⟩) (by show _<=_;simp[JC]))
section
variable {w:EV}{Ex:aJ}
theorem am5{t:DZ}{xs:FM DS}(hz:(xs.size:DY)<2^63)(ht:IsT s.heap t xs 0)(h:∀tk,Q (.ref s.heap.objs.size) {s with heap:=s.heap.push (Px t ((xs.size:DY)-1)),toks:=tk}):
  DW (ED Y w) A (call (.type "reversed") [.ref t]) Q Ex s:=
 callType_new am7 (by decide) (aDX _) (awQ _) (λ obj=>F.args_object_init_2 obj _) aoC (aw3 t xs hz) ⟨ht,λ tk=>⟨⟨_,HH _ rfl,rfl⟩,h tk⟩⟩
abbrev Do(h:ES)(r t:DZ)(i:DY):Prop:=h.get? r=DK (Px t i)
theorem vf{r t:DZ}{i:DY}(hr:Do s.heap r t i)(h:Q (.ref r) s):DW (ED Y w) A (Cm (.ref r)) Q Ex s:=by
 have hT:s.TypeIs (.ref r) "reversed" :=⟨_,hr,rfl⟩;refine wpAny_pyIter_slot hT abC (SP abC hT aoB ?_ (ak9 _));show DW _ _ (ret (.ref r)) _ _ s;exact EK ⟨_,rfl, "reversed",_,hT,Qi.lookup,h⟩
theorem awT{r t:DZ}{xs:FM DS}{x:DS}{Q:DQ DS->EB->Prop}(hz:(xs.size:DY)<2^63)(hr:Do s.heap r t (i:DY))(ht:IsT s.heap t xs 0)(hx:xs[i]? =DK x)
  (h:∀h' tk,Do h' r t ((i:DY)-1)->WL r s.heap h'->Q (DK x) {s with heap:=h',toks:=tk}):DW (ED Y w) A (PU (.ref r)) Q Ex s:=by
 have hT:s.TypeIs (.ref r) "reversed" :=⟨_,hr,rfl⟩;have hi:i<xs.size:=(Rh.mp hx).1;unfold PU;refine DV (Ld (XZ (name:=LB "__next__") hT Qi (SP Qi hT qa ?_ (ia _))));show DW _ _ (TY (.ref r) 0>>=_) _ _ s;refine DV (IT hr rfl (x:=.ref t) rfl ?_);show DW _ _ (TY (.ref r) 1>>=_) _ _ s;refine DV (IT hr rfl (x:=JS i) rfl ?_);show DW _ _ (if(i:DY)<0 then _ else _) _ _ s;rw[FU (ax1 i)];show DW _ _ (Gb (.ref t) "__getitem__" >>=_) _ _ s;refine DV (Go (T:= "tuple") ⟨_,ht,rfl⟩ Kl.lookup ?_);rw[FU (by simp)];refine DV (wpAny_mkInt ?_);refine DV (Ld (ai1 (j:=i) (IsT.dK ht) (av4 i) (ag4 (UY.mpr hi) hz) (aBC hi) hx ?_));show DW _ _ (TY (.ref r) 1>>=_) _ _ _;refine DV (IT hr rfl (x:=JS i) rfl ?_);show DW _ _ (d8 (.ref r) 1 (JS ((i:DY)-1))>>=_) _ _ _;refine DV (ZS hr (by simp) λ h' tT S=> ?_);exact EK ⟨_,rfl,EK (h h' _ tT S)⟩
theorem aCA{r t:DZ}{Q:DQ DS->EB->Prop}(hh:A.handled=DP)(hr:Do s.heap r t (-1))(h:∀h',Gz r s.heap h'->Q DP {s with heap:=h'}):DW (ED Y w) A (PU (.ref r)) Q Ex s:=by
 have hT:s.TypeIs (.ref r) "reversed" :=⟨_,hr,rfl⟩;unfold PU;refine DV (Ld (XZ (name:=LB "__next__") hT Qi (SP Qi hT qa ?_ (ia _))));show DW _ _ (TY (.ref r) 0>>=_) _ _ s;refine DV (IT hr rfl (x:=.ref t) rfl ?_);show DW _ _ (TY (.ref r) 1>>=_) _ _ s;refine DV (IT hr rfl (x:=JS (-1)) rfl ?_);show DW _ _ (if(-1:DY)<0 then _ else _) _ _ s;rw[GG (by decide)];refine DV (YA ?_);refine DV ?_;show DW _ _ (d8 (.ref r) 1 (JS (-1))>>=λ J=>d8 (.ref r) 0 .none) _ _ s;refine DV (ZS hr (by simp) λ h1 AT S1=> ?_);refine ZS AT (by simp) λ h2 iJ S2=> ?_;refine DV ?_;show DW _ _ (O! (.type "StopIteration") []>>=_) _ _ _;refine DV ?_;simp only[O!,O?];refine DV (UR ?_ (by size_fits));refine DV (m:=e_ _ _) (Gn (a:=LC) (by first|rfl|(simp only[e_];rfl)) ?_);refine UR ?_ (by size_fits);unfold raiseNew;refine DV (aEH ?_)
 first|rw[show A.in1.handled=DP from hh]|rw[hh]
 refine DV (EK (wpAny_throw ?_));refine DV (Ra (T:= "StopIteration") (b:=DN) ⟨_,HH _ rfl,rfl⟩ atY ?_);exact EK (h _ (((S1.extBut.trans S2.extBut).push _).push _))
end
section
variable {w:EV}{K:EQ}{Ex:aJ}{own:DM DZ}
inductive gX(w:EV)(c:Cx)(h:ES)(it:DZ)(k:DL)(ls:DU):JO->Prop
 |dX {a:DZ} {xs:DM DS} {us:DM V}:Bs h it k a xs->c.fz a->bI w c h us xs->(ls=DN->∃n,IsL h a (ER xs) n)->gX w c h it k ls (.dX us)
 |cX {a:DZ} {i:DL}:h.IsListIter it a k->c.ρ[i]? =DK (a,a)->gX w c h it k ls (.cX i)
inductive eN(w:EV)(c:Cx)(h:ES):DZ->DM DZ->HP->DL->Prop
 |bN {it:DZ} {k:DL} {q:JO}:gX w c h it k DT q->eN w c h it [it] (.bN q) k
 |nO {it:DZ} {k n:DL}:IsRangeIter h it (k:DY) ((n:DY)-(k:DY)) 1->eN w c h it [it] (.bN (.dX (ZM 0 n))) k
 |gO {it t:DZ} {k:DL} {us:DM V} {xs:DM DS}:Do h it t ((xs.length:DY)-1-(k:DY))->IsT h t (ER xs) 0->c.fz t->bI w c h us xs->xs.length<=JC->k<=xs.length->eN w c h it [it] (.bN (.dX us.reverse)) k
 |dT {e it:DZ} {k:DL} {mH:DS} {q:JO}:IsEnum h e it (k:DY) mH->gX w c h it k DN q->e≠it->eN w c h e [e,it] (.dT q) k
 |zip {z TI TO i1 i2:DZ} {k:DL} {q1 q2:JO}:UZ h z TI TO .none->SY h TI (.ref i1) (.ref i2)->(∃a b,SY h TO a b)->gX w c h i1 k DT q1->gX w c h i2 k DT q2->
   (TI≠z/\TO≠z/\i1≠z/\i2≠z/\TI≠TO/\TI≠i1/\TI≠i2/\TO≠i1/\TO≠i2/\i1≠i2)->eN w c h z [z,TI,TO,i1,i2] (.zip q1 q2) k
structure Pv(c:Cx)(own:DM DZ):Prop where
 fz:∀a∈own,¬c.fz a
 ρ:∀a∈own,∀p∈c.ρ,a≠p.1/\a≠p.2
 cC:∀a∈own,a≠GQ
theorem Pv.bN{a:DZ}(h1:¬c.fz a)(h2:∀p∈c.ρ,a≠p.1/\a≠p.2)(h3:a≠GQ):Pv c [a]:=⟨λ b hb=>GY.mp hb▸h1,λ b hb=>GY.mp hb▸h2,λ b hb=>GY.mp hb▸h3⟩
theorem gX.now{ls:DU}{q:JO}(I:aZ w K U c h)(r:gX w c h it k ls q)(dM:PB U q k≠DP){P:Prop}(kk:∀a xs us,Bs h it k a xs->bI w c h us xs->(∀j,PB U q j=DK (us[j]?))->(c.fz a∨∃p∈c.ρ,a=p.1)->
  (ls=DN->∃n,IsL h a (ER xs) n)->(∀c' h',Bs h' it (k+1) a xs->(∀b,c.fz b->c'.fz b)->(∀(i:DL) (p:DZ×DZ),c.ρ[i]? =DK p->c'.ρ[i]? =DK p)->bI w c' h' us xs->(∀o,h.get? a=DK o->h'.get? a=DK o)->gX w c' h' it (k+1) ls q)->P):P:=by
 cases r with
 | @dX a xs us b f v l=>exact kk a xs us b v (λ j=>rfl) (.inl f) l λ c' h' b' m J v' ka=>.dX b' (m a f) v' λ e=>(l e).imp λ n q=>ka _ q
 | @cX a i li eW=>
  cases hi:U[i]? with
  |none=>exact EP (show((U[i]?).bind oL).map (λ B=>B[k]?)=DP by rw[hi];rfl) dM|some o=>
   cases hv:oL o with
   |none=>exact EP (show((U[i]?).bind oL).map (λ B=>B[k]?)=DP by rw[hi,Sw,hv];rfl) dM|some B=>
    obtain⟨xs,n,l1,v,_⟩:=I.obj i _ _ (XP hv▸hi) eW;refine kk a xs B (.aX n li l1) v (λ j=>DX (λ l=>NN (λ B:DM V=>B[j]?) l) (show(U[i]?).bind oL=DK B by rw[hi];exact hv)) (.inr ⟨_,I.mem eW,rfl⟩) (λ J=>⟨n,l1⟩) λ c' h' b' J m J ka=>.cX ?_ (m _ _ eW);cases b' with
    |aX n' b1 b2=>exact b1|aR b1 b2=>exact EP (R5 (DX Q4 (EJ (b2.symm.trans (ka _ l1))))) (by decide)
theorem aZ.lN{a:DZ}(I:aZ w K U c h)(e:∃o,h.get? a=DK o)(hp:∀p∈c.ρ,a≠p.1/\a≠p.2)(hs:a≠GQ):aZ w K U (c.eP a) h:=by
 have m:dR c h (c.eP a) h:=⟨λ J J e=>e,λ J e=>.inl e,λ b o J e=>e⟩;exact⟨I.bQ,λ i o p e1 e2=>(I.obj i o p e1 e2).bB m (λ o e=>e) (λ o e=>e),I.apart,λ p q=>⟨λ f=>f.elim (I.jQ p q).1 λ z=>(hp p q).1 z.symm,λ f=>f.elim (I.jQ p q).2 λ z=>(hp p q).2 z.symm⟩,λ b f=>f.elim (I.dom b) λ q=>q▸e,
  λ b o e=>⟨(I.gV b o e).1,.inl (I.gV b o e).2⟩,λ f=>f.elim I.cC.1 λ q=>hs q.symm,I.cC.2.1,I.cC.2.2⟩
theorem bM.lN{a:DZ}(X:bM π c h c' h')(n:h.get? a=DP):bM π c h (c'.eP a) h':=
 ⟨X.ρ,λ b f=>.inl (X.fz b f),λ b f=>f.elim (X.newfz b) λ q=>.inr (q▸n),X.newρ,X.kf,X.keep,X.dk,X.dom⟩
theorem ayG(P:Pv c own)(I:aZ w K U c h)(hd:∀a∈own,∃o,h.get? a=DK o/\¬PL o)(hl:∀a∈own,∃o,h'.get? a=DK o)(kk:∀b o,b∉own->h.get? b=DK o->h'.get? b=DK o):aZ w K U c h'/\bM own c h c h':=
 ⟨I.fO (λ a ha=>⟨P.fz a ha,P.ρ a ha,P.cC a ha⟩) kk,bM.of_keep P.fz (λ a ha o e d=>by obtain⟨o',e',n⟩:=hd a ha;rw[e]at e';cases e';exact EP d n) kk (λ a ha o e=>hl a ha)⟩
theorem asQ{it v:DS}:VU x it v=VU (.Tuple [] 0 default) it v∨VU x it v=pure ():=by
 apply @Q6 (λ x=>VU x it v=VU (.Tuple [] 0 default) it v∨VU x it v=pure ()) x<;>intros<;>first|exact .inr rfl|exact .inl rfl
theorem Xa{v:DS}{Q:aK}{o:GT}{n:HB}(ho:s.heap.get? it=DK o)(hc:o.cls=.type n)(hn:["enumerate", "zip", "dict_itemiterator", "dict_reverseitemiterator", "odict_iterator", "itertools.zip_longest", "itertools.pairwise"].contains n=DT)(hQ:Q () s):
  DW (ED Y w) A (VU target (.ref it) v) Q Ex s:=by
 refine asQ.elim (λ e=>e▸?_) λ e=>e▸EK hQ;show DW (ED Y w) A (VU (.Tuple [] 0 default) (.ref it) v) Q Ex s;cases v<;>first|exact EK hQ|skip
 refine DV (wpAny_load ho ?_);rw[hc];generalize o.data=d;cases d<;>first|exact EK hQ|skip
 dsimp only;rw[hn,aeI,FU FJ];exact EK hQ
end
section
variable {w:EV}{K:EQ}{Ex E':aJ}{own:DM DZ}
structure dG(own:DM DZ)(c:Cx)(h:ES)(c':Cx)(h':ES):Prop where
 keep:∀b o,b∉own->h.get? b=DK o->h'.get? b=DK o
 cx:c'=c∨∃T,c'=c.eP T/\h.get? T=DP/\∃o,h'.get? T=DK o
theorem dG.bB(S:dG own c h c' h')(P:Pv c own):dR c h c' h':=by
 obtain⟨kp,rfl|⟨T,rfl,_⟩⟩:=S
 ·exact⟨λ J J e=>e,λ J e=>e,λ a o f e=>kp a o (λ m=>P.fz a m f) e⟩
 ·exact⟨λ J J e=>e,λ J e=>.inl e,λ a o f e=>kp a o (λ m=>P.fz a m f) e⟩
theorem dG.mB(S:dG own c h c' h')(P:Pv c own)(X:bM π c0 h0 c h)(hn:∀a∈own,h0.get? a=DP):bM π c0 h0 c' h':=by
 have no:∀{a o},h0.get? a=DK o->a∉own:=λ e m=>by rw[hn _ m]at e;cases e
 have base:bM π c0 h0 c h':=⟨X.ρ,X.fz,X.newfz,X.newρ,λ a o f e=>S.keep a o (no e) (X.kf a o f e),λ a o e n q=>(X.keep a o e n q).imp (λ r=>S.keep a o (no e) r) λ z1=>by obtain⟨d,sl,r⟩:=z1;exact⟨d,sl,S.keep a _ (no e) r⟩,
  λ a o e d q=>by obtain⟨o',r,d'⟩:=X.dk a o e d q;exact⟨o',S.keep a o' (no e) r,d'⟩,λ a o e=>by obtain⟨o',r⟩:=X.dom a o e;exact⟨o',S.keep a o' (no e) r⟩⟩
 rcases S.cx with q|⟨T,q,n,_⟩
 ·rw[q];exact base
 ·rw[q];exact base.lN (JP X.dom n)
theorem dG.bW(S:dG own c h c' h')(P:Pv c own)(I:aZ w K U c h):aZ w K U c' h':=by
 have I1:aZ w K U c h':=I.fO (λ a ha=>⟨P.fz a ha,P.ρ a ha,P.cC a ha⟩) S.keep;rcases S.cx with q|⟨T,q,n,e⟩
 ·rw[q];exact I1
 ·rw[q];refine I1.lN e (λ p hp=> ?_) λ z=> ?_
  ·obtain⟨⟨o1,e1⟩,⟨o2,e2⟩⟩:=I.mV hp;exact⟨(FZ e1 n).symm,(FZ e2 n).symm⟩
  ·obtain⟨o,e⟩:=I.cC.2.2;rw[<-z,n]at e;cases e
theorem dG.pv(S:dG own c h c' h')(P:Pv c own)(hl:∀a∈own,∃o,h.get? a=DK o):Pv c' own:=by
 rcases S.cx with q|⟨T,q,n,e⟩
 ·rw[q];exact P
 ·rw[q];exact⟨λ a ha f=>f.elim (P.fz a ha) λ z=>(by obtain⟨_,q⟩:=hl a ha;exact FZ q n z),P.ρ,P.cC⟩
theorem gX.rQ{ls:DU}{q:JO}(r:gX w c h it k ls q):∃o,h.get? it=DK o/\¬PL o:=by
 cases r with
 |dX b _ _ _=>exact b.cX.1|cX li _=>obtain⟨o,e,_,q⟩:=li;exact⟨o,e,λ ⟨H,m,d⟩=>by rw[q]at d;cases d⟩
theorem eN.kW(R:eN w c h it own bE k):(∀a∈own,∃o,h.get? a=DK o/\¬PL o):=by
 have nd:∀{cl d fs sl},¬PL ({cls:=cl,dict:=d,data:=.fields fs,slots:=sl}:GT):=λ ⟨_,_,e⟩=>by cases e
 have nq:∀{cl d fs n sl},¬PL ({cls:=cl,dict:=d,data:=.seq fs n,slots:=sl}:GT):=λ ⟨_,_,e⟩=>by cases e
 cases R with
 |bN r=>intro a ha;rw[GY]at ha;subst ha;exact r.rQ
 |nO r=>intro a ha;rw[GY]at ha;subst ha;exact⟨_,r,nd⟩
 |gO r _ _ _ _ _=>intro a ha;rw[GY]at ha;subst ha;exact⟨_,r,nd⟩
 |dT r q _=>
  intro a ha;simp only[IV,KG,yt]at ha;rcases ha with rfl|rfl
  ·exact⟨_,r,nd⟩
  ·exact q.rQ
 |zip r t1 t2 q1 q2 _=>
  intro a ha;simp only[IV,KG,yt]at ha;obtain⟨x,y,t2⟩:=t2;rcases ha with rfl|rfl|rfl|rfl|rfl
  ·exact⟨_,r,nd⟩
  ·exact⟨_,t1,nq⟩
  ·exact⟨_,t2,nq⟩
  ·exact q1.rQ
  ·exact q2.rQ
theorem gX.at{ls:DU}{q:JO}(r:gX w c h it k ls q)(m:dR c h c' h')(g:∀o,h.get? it=DK o->h'.get? it=DK o):gX w c' h' it k ls q:=by
 cases r with
 |dX b f v l=>exact .dX (b.at g λ o e=>m.keep _ o f e) (m.fz _ f) (v.bB m) λ e=>by obtain⟨n,q⟩:=l e;exact⟨n,m.keep _ _ f q⟩
 |cX li eW=>exact .cX (by obtain⟨o,e,q⟩:=li;exact⟨o,g o e,q⟩) (m.ρ _ _ eW)
theorem eN.at(R:eN w c h it own bE k)(m:dR c h c' h')(g:∀a∈own,∀o,h.get? a=DK o->h'.get? a=DK o):eN w c' h' it own bE k:=by
 cases R with
 |bN r=>exact .bN (r.at m (g _ (.head _)))|nO r=>exact .nO (g _ (.head _) _ r)|gO r t f v l b=>exact .gO (g _ (.head _) _ r) (m.keep _ _ f t) (m.fz _ f) (v.bB m) l b|dT r q ne=>exact .dT (g _ (.head _) _ r) (q.at m (g _ (.tail _ (.head _)))) ne|zip r t1 t2 q1 q2 ne=>exact .zip (g _ (.head _) _ r) (g _ (.tail _ (.head _)) _ t1) (t2.imp λ a q=>q.imp λ b q=>g _ (.tail _ (.tail _ (.head _))) _ q) (q1.at m (g _ (.tail _ (.tail _ (.tail _ (.head _)))))) (q2.at m (g _ (.tail _ (.tail _ (.tail _ (.tail _ (.head _))))))) ne
def Cj:HP->DU
 |.bN _=>DN|_=>DT
theorem vb(h:dK x=DN){P:aL}(k:∀xs j p,P (.Tuple xs j p)):P x:=Hj (motive_1:=P) x (VS h) k
theorem bI.mG(r:bI w c h us xs)(e:us[j]? =DP):xs[j]? =DP:=by
 rw[O5]at e⊢;rw[<-r.length];exact e
theorem azT(n a j:DL):(ZM a n)[j]? =if j<n then DK (.int ((a+j:DL):DY))else DP:=by
 induction n generalizing a j with
 |zero=>exact(FU (St j)).symm|succ n ih=>cases j with
  |zero=>exact(GG (Ma n)).symm|succ j=>
   refine(ih (a+1) j).trans ?_;rw[Q1 a j];by_cases q:j<n
   ·rw[GG q,GG (Nat.succ_lt_succ q)]
   ·rw[FU q,FU λ z=>q (ah6 z)]
theorem aa8(h:k<n):((n:DY)-1-(k:DY))=((n-1-k:DL):DY):=by
 rw[N6 (ah2 h),N6 (ahC h)];rfl
theorem aAB(h:k<n):((n-1-k:DL):DY)-1=(n:DY)-1-((k+1:DL):DY):=by
 rw[<-aa8 h,Int.natCast_add];exact N7 ..
theorem aAC(h:k<n):n-1-k<n:=JX (bv ..) (bw (Nat.zero_lt_of_lt h) ahD)
theorem auY(h:n<=JC):((n:DL):DY)<2^63:=ag3 (Sa.mpr h) (by unfold JC;decide)
theorem sm1{a b:DZ}(h:b∉[a]):b≠a:=λ e=>h (e▸ .head _)
theorem dG.bN(S:Gz it h h'):dG [it] c h c h':=⟨λ b o hb e=>S b o (sm1 hb) e,.inl rfl⟩
section
variable {N:EB->Prop}{C_:aJ}(I:aZ w K U c s.heap)(P:Pv c own)(hh:A.handled=DP)(cS:MN U bE k≠DP)
  (hN:MN U bE k=DK DP->∀h',dG own c s.heap c h'->N {s with heap:=h'})
  (hY:∀v,MN U bE k=DK (DK v)->∀c' h' tk x,dG own c s.heap c' h'->VR w c' h' v x->eN w c' h' it own bE (k+1)->C_ x {s with heap:=h',toks:=tk})
include I P hh hN hY
def YS(Y:TK)(w:EV)(A:HG)(Ex E':aJ)(target:Expr)(it:DZ)(N:EB->Prop)(C_:aJ)(s:EB):Prop:=
  DW (ED Y w) A (PU (.ref it)) (λ r s1=>match r with
   |none=>N s1|some x=>DW (ED Y w) A (VU target (.ref it) x) (λ J s2=>C_ x s2) E' s1) Ex s
theorem aDQ{q:JO}(hs:bE=.bN q)(ho:own=[it])(r:gX w c s.heap it k DT q)(cS:PB U q k≠DP):YS Y w A Ex E' target it N C_ s:=by
 subst hs;subst ho;refine r.now I cS λ a xs us b v dM J J mk=> ?_;have ha:MN U (.bN q) k=DK (us[k]?):=dM k;cases hu:us[k]? with
 |none=>exact b.mM hh (v.mG hu) λ h' hk=>hN (ha.trans (DX DK hu)) h' (.bN hk)
 |some u=>
  obtain⟨x,hx,rx⟩:=v.get hu;refine b.next hx λ h' b' S=> ?_;have aS:dG [it] c s.heap c h':=.bN S.extBut;have m:=aS.bB P;have cY:=hY u (ha.trans (DX DK hu)) c h' s.toks x aS (rx.bB m) (.bN (mk c h' b' (λ J e=>e) (λ J J e=>e) (v.bB m) λ o e=>aS.keep _ o (λ z=>b.ne (GY.mp z).symm) e));cases b' with
  |aX n b1 _=>obtain⟨o,e,q,_⟩:=b1;exact Xa (s:={s with heap:=h'}) e q (by decide) cY
  |aR b1 _=>obtain⟨o,e,q,_⟩:=b1;exact Xa (s:={s with heap:=h'}) e q (by decide) cY
theorem aDS(hs:bE=.bN (.dX (ZM 0 n)))(ho:own=[it])(r:IsRangeIter s.heap it (k:DY) ((n:DY)-(k:DY)) 1):YS Y w A Ex E' target it N C_ s:=by
 subst hs;subst ho;have ha:MN U (.bN (.dX (ZM 0 n))) k=DK (if k<n then DK (.int (k:DY))else DP):=by
  show DK ((ZM 0 n)[k]?)=_;rw[azT,Aj]
 by_cases hk:k<n
 ·rw[GG hk]at ha;refine wpAny_pyNext_range_item r (Int.sub_pos.mpr (UY.mpr hk)) λ h' r' S=> ?_;rw[aAH]at r';exact Xa (s:={s with heap:=h',toks:=s.toks+1}) r' rfl (by decide) (hY _ ha c h' _ _ (.bN S.extBut) (.int _ _) (.nO r'))
 ·rw[FU hk]at ha;exact wpAny_pyNext_range_end hh r (Int.sub_nonpos_of_le (Sa.mpr (Lz hk))) λ h' kp=>hN ha h' (.bN kp)
theorem aDR{t:DZ}(hs:bE=.bN (.dX us.reverse))(ho:own=[it])(r:Do s.heap it t ((xs.length:DY)-1-(k:DY)))(ht:IsT s.heap t (ER xs) 0)(f:c.fz t)(v:bI w c s.heap us xs)(lz:xs.length<=JC)(kb:k<=xs.length):YS Y w A Ex E' target it N C_ s:=by
 subst hs;subst ho;have hl:=v.length;have ha:MN U (.bN (.dX us.reverse)) k=DK (us.reverse[k]?):=rfl;by_cases hk:k<xs.length
 ·have hj:xs.length-1-k<us.length:=by rw[hl];exact aAC hk
  have hu:us.reverse[k]? =DK us[xs.length-1-k]:=by
   rw[List.getElem?_reverse (by rw[hl];exact hk),hl,JU hj]
  obtain⟨x,hx,rx⟩:=v.get (JU hj);rw[aa8 hk]at r;refine awT (by rw[HW];exact auY lz) r ht (by simpa using hx) λ h' tk r' S=> ?_;rw[aAB hk]at r';have aS:dG [it] c s.heap c h':=.bN S.extBut;have m:=aS.bB P;exact Xa (s:={s with heap:=h',toks:=tk}) r' rfl (by decide) (hY _ (ha.trans (DX DK hu)) c h' _ x aS (rx.bB m) (.gO r' (m.keep _ _ f ht) f (v.bB m) lz hk))
 ·have hu:us.reverse[k]? =DP:=MQ (by rw[O7,hl];exact Lz hk);rw[ah0 kb (Lz hk),aAD]at r;exact aCA hh r λ h' kp=>hN (ha.trans (DX DK hu)) h' (.bN kp)
theorem aDP{ii:DZ}{mH:DS}{q:JO}(hs:bE=.dT q)(ho:own=[it,ii])(tt:dK target=DN)(r:IsEnum s.heap it ii (k:DY) mH)(rq:gX w c s.heap ii k DN q)(ne:it≠ii)(cS:PB U q k≠DP):YS Y w A Ex E' target it N C_ s:=by
 subst hs;subst ho;refine vb (P:=λ target=>YS Y w A Ex E' target it N C_ s) tt λ xK j pp=>rq.now I cS λ a xs us b v dM J AH mk=> ?_;obtain⟨n,hL⟩:=AH rfl;have fP:s.heap.IsListIter ii a k:=by
  cases b with
  |aX n b1 b2=>exact b1|aR b1 b2=>exact EP (R5 (DX Q4 (EJ (hL.symm.trans b2)))) (by decide)
 have aown:a∉[it,ii]:=λ m=>by
  rcases IV.mp m with e|m
  ·rw[e]at hL;exact EP (R5 (DX Q4 (EJ (hL.symm.trans r)))) (by decide)
  ·exact b.ne (GY.mp m).symm
 have hb2:∀{b:DZ},b∉[it,ii]->b≠it/\b≠ii:=λ h=>⟨λ e=>h (e▸ .head _),λ e=>h (e▸ .tail _ (.head _))⟩;have gI:∀y,us[k]? =y->MN U (.dT q) k=DK (y.map λ x=>.aR [.int k,x]):=λ y e=>by unfold MN;dsimp only;rw[dM,e];rfl
 cases hu:us[k]? with
 |none=>exact wpAny_pyNext_enum_end hh r fP (IsL.isList hL) (by simpa using v.mG hu) λ h' kp=>hN (gI _ hu) h' ⟨λ c o hc e=>kp c o (hb2 hc).2 e,.inl rfl⟩
 |some u=>
  obtain⟨x,hx,rx⟩:=v.get hu;refine wpAny_pyNext_enum_item r fP (IsL.isList hL) (by simpa using hx) ne λ h1 r1 i1 t1 J kp=>wpAny_letOwnedTupleGo_enum (s:={s with heap:=h1,toks:=s.toks+1}) r1 λ h2 r2 S=> ?_;have t2:=S.extBut _ _ (YO (HV r)) t1;have aS:dG [it,ii] c s.heap (c.eP s.heap.objs.size) h2:=⟨λ b o hb e'=>S.extBut b o (hb2 hb).1 (kp b o (hb2 hb).1 (hb2 hb).2 e'),.inr ⟨_,rfl,KI (FG _),_,t2⟩⟩;have m:=aS.bB P;exact hY _ (gI _ hu) _ h2 _ (.ref s.heap.objs.size) aS (.aR (xs:=[.int k s.toks,x]) t2 (.inr rfl) (.cons (.int _ _) (.cons (rx.bB m) .nil))) (.dT r2 (mk _ h2 (.aX n (i1.imp λ o q=>⟨S.extBut _ _ (JY ne) q.1,q.2⟩) (aS.keep _ _ aown hL)) m.fz m.ρ (v.bB m) λ o e=>aS.keep _ o aown e) ne)
theorem aDT{q1 q2:JO}(hs:bE=.zip q1 q2)(ho:own=[it,TI,TO,i1,i2])(tt:dK target=DN)(r:UZ s.heap it TI TO .none)(t1:SY s.heap TI (.ref i1) (.ref i2))(t2:∃a b,SY s.heap TO a b)(r1:gX w c s.heap i1 k DT q1)(r2:gX w c s.heap i2 k DT q2)
  (ap:TI≠it/\TO≠it/\i1≠it/\i2≠it/\TI≠TO/\TI≠i1/\TI≠i2/\TO≠i1/\TO≠i2/\i1≠i2)(AL:PB U q1 k≠DP)(AM:PB U q2 k≠DP):YS Y w A Ex E' target it N C_ s:=by
 subst hs;subst ho;refine vb (P:=λ target=>YS Y w A Ex E' target it N C_ s) tt λ xK j pp=>r1.now I AL λ a1 xs us b1 v1 zM wB J pY=>r2.now I AM λ a2 ys B b2 v2 zO wC J uB=> ?_;have no:∀{a:DZ},(c.fz a∨∃p∈c.ρ,a=p.1)->a∉[it,TI,TO,i1,i2]:=λ hs m=>hs.elim (P.fz _ m) λ z2=>by obtain⟨p,hp,e⟩:=z2;exact(P.ρ _ m p hp).1 e
 have hb5:∀{b:DZ},b∉[it,TI,TO,i1,i2]->b≠it/\b≠TO/\b≠i1/\b≠i2:=λ h=>⟨λ e=>h (e▸ .head _),λ e=>h (e▸ .tail _ (.tail _ (.head _))),λ e=>h (e▸ .tail _ (.tail _ (.tail _ (.head _)))),λ e=>h (e▸ .tail _ (.tail _ (.tail _ (.tail _ (.head _)))))⟩;have n1:=hb5 (no wB);have n2:=hb5 (no wC);have E_:Zp s.heap it TI TO i1 i2 k a1 a2 xs ys .none:=⟨r,t1,t2,b1,b2,⟨ap.1,ap.2.1,ap.2.2.1,ap.2.2.2.1,ap.2.2.2.2.1,ap.2.2.2.2.2.1,ap.2.2.2.2.2.2.1,ap.2.2.2.2.2.2.2.1,ap.2.2.2.2.2.2.2.2.1,ap.2.2.2.2.2.2.2.2.2,n1.1,n1.2.1,n1.2.2.1,n1.2.2.2,n2.1,n2.2.1,n2.2.2.1,n2.2.2.2⟩⟩;have gI:∀y z,us[k]? =y->B[k]? =z->MN U (.zip q1 q2) k=DK (y.bind λ y=>z.map λ z=>.aR [y,z]):=λ y z e e'=>by unfold MN;dsimp only;rw[zM,zO,e,e'];rfl
 have mM:(us[k]? =DP∨B[k]? =DP)->MN U (.zip q1 q2) k=DK DP->YS Y w A Ex E' (.Tuple xK j pp) it N C_ s:=λ hu ha=>
  E_.mM hh (hu.imp (λ q=>v1.mG q) λ q=>v2.mG q) λ h' kp=>hN ha h' ⟨λ b o hb e=>have q:=hb5 hb;kp b o q.1 q.2.1 q.2.2.1 q.2.2.2 e,.inl rfl⟩
 cases hu:us[k]? with
 |none=>exact mM (.inl hu) (gI _ _ hu rfl)|some u=>
  cases hv:B[k]? with
  |none=>exact mM (.inr hv) (gI _ _ hu hv)|some v=>
   obtain⟨x,hx,rx⟩:=v1.get hu;obtain⟨y,hy,ry⟩:=v2.get hv;refine E_.item hx hy λ h1 Z1 t kp=>wpAny_letOwnedTupleGo_zip (s:={s with heap:=h1}) Z1.hz λ h2 r' S=> ?_;have xH:=S.extBut _ _ (YO (HV r)) t;have aS:dG [it,TI,TO,i1,i2] c s.heap (c.eP s.heap.objs.size) h2:=⟨λ b o hb e'=>have q:=hb5 hb;S.extBut b o q.1 (kp b o q.1 q.2.1 q.2.2.1 q.2.2.2 e'),.inr ⟨_,rfl,KI (FG _),_,xH⟩⟩;have m:=aS.bB P;exact hY _ (gI _ _ hu hv) _ h2 _ (.ref s.heap.objs.size) aS (.aR (xs:=[x,y]) xH (.inr rfl) (.cons (rx.bB m) (.cons (ry.bB m) .nil))) (.zip r' (S.extBut _ _ ap.1 Z1.ti) (Z1.to.imp λ a q=>q.imp λ b q=>S.extBut _ _ ap.2.1 q)
    (pY _ h2 (Z1.b1.at (λ o e=>S.extBut _ o ap.2.2.1 e) (λ o e=>S.extBut _ o n1.1 e)) m.fz m.ρ (v1.bB m) λ o e=>aS.keep _ o (no wB) e)
    (uB _ h2 (Z1.b2.at (λ o e=>S.extBut _ o ap.2.2.2.1 e) (λ o e=>S.extBut _ o n2.1 e)) m.fz m.ρ (v2.bB m) λ o e=>aS.keep _ o (no wC) e) ap)
include cS
theorem eN.mN(R:eN w c s.heap it own bE k)(tt:Cj bE=DN∨dK target=DN):YS Y w A Ex E' target it N C_ s:=by
 cases R with
 |bN r=>exact aDQ I P hh hN hY rfl rfl r cS|nO r=>exact aDS I P hh hN hY rfl rfl r|gO r ht f v lz kb=>exact aDR I P hh hN hY rfl rfl r ht f v lz kb|dT r rq ne=>exact aDP I P hh hN hY rfl rfl (tt.resolve_left FJ) r rq ne λ e=>cS (DX (NN _) e)
 | @zip _ _ _ _ _ q1 q2 r t1 t2 r1 r2 ap=>exact aDT I P hh hN hY rfl rfl (tt.resolve_left FJ) r t1 t2 r1 r2 ap (λ e=>cS (DX (λ x=>Option.bind x _) e)) λ e=>cS (by show((PB U q1 k).bind λ x=>(PB U q2 k).map _)=DP;rw[e];cases PB U q1 k<;>rfl)
end
end
def Jg(w:EV)(lo:ES)(c:Cx)(h:ES)(bE:HP)(v:DS):Prop:=∃it own,v=.ref it/\eN w c h it own bE 0/\Pv c own/\∀a∈own,lo.get? a=DP
section
variable (Y:TK)(w:EV)(K:EQ)(n:DL)(D:Tb)(o:JM)
def ML(L:Mx)(e:It)(x:Expr):Prop:=∀(A:HG) (fr:DM Env) (Z:Env) (m:Lv) (c:Cx) (U:aS) (s:EB) (Q:aJ) (E:aJ),
 Ct w K n A fr L m c U s.heap Z->PR w K (Jg w s.heap) FE [] c s (NU (EE D) o e m U) Q E->DW (ED Y w) A (HM x Z) (λ v s1=>DW (ED Y w) A (Cm v) Q E s1) E s
end
section
variable {w:EV}{K:EQ}{D:Tb}{L:Mx}{mb:EA->DQ DS}{Ex:aJ}{lo:ES}
def Mk(w:EV)(c:Cx)(h:ES)(v:V)(q:JO)(a:DZ)(xs:DM DS):Prop:=∀ls it c' h',(ls=DN->QX v=DT)->Bs h' it 0 a xs->dR c h c' h'->(∀o,h.get? a=DK o->h'.get? a=DK o)->gX w c' h' it 0 ls q
theorem Mk.cX{v:V}{i n:DL}{a:DZ}{xs:DM DS}(h1:IsL h a (ER xs) n)(eW:c.ρ[i]? =DK (a,a)):Mk w c h v (.cX i) a xs:=λ ls it c' h' hl b m kk=>.cX (by
  cases b with
  |aX n' b1 b2=>exact b1|aR b1 b2=>exact EP (R5 (DX Q4 (EJ ((kk _ h1).symm.trans b2)))) (by decide)) (m.ρ _ _ eW)
@[elab_as_elim] theorem Zv{P:aN}{v:V}{q:JO}{x:DS}(I:aZ w K U c s.heap)(e:SN U v=DK q)(r:VR w c s.heap v x)(k:∀a xs,jA s.heap a xs->(QX v=DT->∃n,IsL s.heap a (ER xs) n)->Mk w c s.heap v q a xs->P (.ref a)):P x:=
 FH e (λ e=>om (P:=λ q=>(∀a xs,jA s.heap a xs->(QX v=DT->∃n,IsL s.heap a (ER xs) n)->Mk w c s.heap v q a xs->P (.ref a))->P x) e (λ us hu k=>r.eT hu λ a xs h1 h2 h3=>
   have ht:QX v=DN:=by unfold QX;rw[hu];rfl
   k a xs (.tuple h1) (λ h=>(by cases ht.symm.trans h)) λ ls it c' h' hl b m J=>.dX b (m.fz _ h2) (h3.bB m) λ e=>(by cases ht.symm.trans (hl e))) k) λ e=>
 FH e (λ e=>om (P:=λ q=>(∀a xs,jA s.heap a xs->(QX v=DT->∃n,IsL s.heap a (ER xs) n)->Mk w c s.heap v q a xs->P (.ref a))->P x) e (λ us hu k=>by
   obtain⟨a,xs,n,e,h1,h2,h3⟩:=(OI hu▸r.bW:TQ w c s.heap (.aX us) x);exact e▸k a xs (.list n h1) (λ J=>⟨n,h1⟩) λ ls it c' h' hl b m kk=>.dX b (m.fz _ h2) (h3.bB m) λ J=>⟨n,kk _ h1⟩) k) λ e=>
 ob e λ i hi e=>om (P:=λ q=>(∀a xs,jA s.heap a xs->(QX v=DT->∃n,IsL s.heap a (ER xs) n)->Mk w c s.heap v q a xs->P (.ref a))->P x) e (λ us hu k=>r.eR hi λ p hp=>ob hu λ o ho hu=>by
   obtain⟨xs,n,h1,h2,h3⟩:=I.obj i _ p (XP hu▸ho) hp;exact k p.1 xs (.list n h1) (λ J=>⟨n,h1⟩) (.cX h1 (hp.trans (DX DK (cc rfl h3))))) k
theorem azP{own:DM DZ}(I:aZ w K U c h)(hn:∀a∈own,h.get? a=DP):Pv c own:=
 ⟨λ a ha f=>(by obtain⟨_,e⟩:=I.dom a f;exact FZ e (hn a ha) rfl),λ a ha p hp=>(by obtain⟨⟨_,e1⟩,⟨_,e2⟩⟩:=I.mV hp;exact⟨(FZ e1 (hn a ha)).symm,(FZ e2 (hn a ha)).symm⟩),
  λ a ha z=>(by obtain⟨_,e⟩:=I.cC.2.2;exact FZ e (hn a ha) z.symm)⟩
theorem Oq{own:DM DZ}{s0:EB}{E:aJ}{h1:ES}(p:PR w K (Jg w lo) FE [] c0 s0 (.ok bE U) Q E)(X:bM [] c0 s0.heap c h)(I:aZ w K U c h)(gY:∀b,h.get? b=DP->lo.get? b=DP)
  (kp:∀b o,h.get? b=DK o->h1.get? b=DK o)(hn:∀a∈own,h.get? a=DP)(r:eN w c h1 it own bE 0):Q (.ref it) {s0 with heap:=h1,toks:=tk}:=by
 have C_:bM [] c h c h1:=bM.eY kp;exact p c h1 tk (.ref it) (I.eY kp) (X.trans C_) ⟨it,own,rfl,r,azP I hn,λ a ha=>gY a (hn a ha)⟩
theorem afZ(h1:SE Y w K n D o L e x):ML Y w K n D o L (.seq e) x:=by
 intro A fr Z m c U s Q E C p;refine seq p (λ Q E=>h1 A fr Z m c U s Q E C) λ v G c' h' tk y J I X rv p'=> ?_;refine PR.om p' λ q hq p=>Zv (s:={s with heap:=h',toks:=tk}) (P:=λ y=>DW (ED Y w) A (Cm y) Q E {s with heap:=h',toks:=tk}) I hq rv λ a xs sq J mk=> ?_;refine sq.iter λ h2 b ⟨ob,e2⟩=> ?_;have kp:∀b o,h'.get? b=DK o->h2.get? b=DK o:=by subst e2;exact FO _ _
 exact Oq (s0:={s with heap:=h',toks:=tk}) (tk:=tk) p (.refl ..) I (λ b hb=>JP X.dom hb) kp (λ a ha=>GY.mp ha▸KI (FG _)) (.bN (mk DT _ c' h2 (λ e=>FB e) b (.fO kp) (λ o=>kp _ o)))
theorem Z0(F_:Gf w K D gn mg mb){H:Es}{id:EA}{T:HB}{xs:DM Expr}(h2:LZ Y w K n D o L H xs)(hn:xs=[]->H=.nil)(hs:IB xs=DN)(hk:L.sc.lookup id=DK .globalImplicit)(g1:mg id=DP)(g2:mb id=DK (.type T))(hd:(id==("__debug__" :EA))=DT)
  (C:Ct w K n A fr L m c U s.heap Z)(p:PR w K (bI w) FE [] c s (MX D o H m U) (λ ys s'=>DW (ED Y w) A (call (.type T) ys) Q Ex s') Ex):DW (ED Y w) A (HM (.Call (.Name id np) xs [] pos) Z) Q Ex s:=by
 refine Rq (N? F_ hk g1 g2 hd C (PySem.callWith_type (Ck hs) (As h2 hn hs C ?_))) rfl;exact p
theorem Rz(F_:Gf w K D gn mg mb){e:It}{H:Es}{id:EA}{T:HB}{xs:DM Expr}{f:DM V->aB HP}(h2:LZ Y w K n D o L H xs)(hn:xs=[]->H=.nil)(hs:IB xs=DN)(hk:L.sc.lookup id=DK .globalImplicit)(g1:mg id=DP)(g2:mb id=DK (.type T))(hd:(id==("__debug__" :EA))=DT)
  (he:∀m,NU (EE D) o e m=aB.bind (MX D o H m) f)
  (op:∀(A:HG) (lo:ES) (c0:Cx) (s0:EB) (c:Cx) (U:aS) (h:ES) (tk:DL) (B:DM V) (ys:DM DS) (Q:aJ) (E:aJ),Rm n A->(∀b,h.get? b=DP->lo.get? b=DP)->bM [] c0 s0.heap c h->aZ w K U c h->bI w c h B ys->
   PR w K (Jg w lo) FE [] c0 s0 (f B U) Q E->DW (ED Y w) A (call (.type T) ys) (λ v s1=>DW (ED Y w) A (Cm v) Q E s1) E {s0 with heap:=h,toks:=tk}):
  ML Y w K n D o L e (.Call (.Name id np) xs [] pos):=by
 intro A fr Z m c U s Q E C p;refine Z0 F_ h2 hn hs hk g1 g2 hd C ?_;rw[he]at p;have p:PR w K (Jg w s.heap) FE [] c s (R.bind (MX D o H m U) f) Q E:=p;cases hq:MX D o H m U with
 |ok B G=>
  rw[hq]at p;exact λ c' h' tk ys I X ra=>op A s.heap c s c' G h' tk B ys Q E C.rm (λ b hb=>JP X.dom hb) X I ra p
 |cD ex G=>rw[hq]at p;exact p|bL=>rw[hq]at p;exact p.elim
theorem aaA(nn:DL):aHS 0 (RN nn) 1=(nn:DY):=by
 cases nn with
 |zero=>rfl|succ m=>
  show(if(0:DY)<((m+1:DL):DY)then(((m+1:DL):DY)-0-1)/1+1 else 0)=((m+1:DL):DY);rw[GG (show(0:DY)<((m+1:DL):DY)from UY.mpr (Ma m)),up1]
theorem aAI{nn:DL}(h:nn<1000):aeT 0 (RN nn) 1=DN:=by
 unfold aeT;rw[aaA];unfold aHR;simp;omega
theorem afX(F_:Gf w K D gn mg mb){H:Es}{id:EA}{xs:DM Expr}(h2:LZ Y w K n D o L H xs)(hn:xs=[]->H=.nil)(hs:IB xs=DN)(hk:L.sc.lookup id=DK .globalImplicit)(g1:mg id=DP)(g2:mb id=DK (.type "range"))(hd:(id==("__debug__" :EA))=DT):
  ML Y w K n D o L (.range H) (.Call (.Name id np) xs [] pos):=by
 refine Rz F_ h2 hn hs hk g1 g2 hd (λ m=>rfl) λ A lo c0 s0 c U h tk B ys Q E J gY X I ra p=>PR.op p λ q e p=>ob e λ v h1 e=>ob e λ i h2 e=>ob e λ nn h3 e=>EO e λ hb e=> ?_;rw[<-EJ e]at p;refine RE h1 ra λ y r=>r.eI (P:=λ y=>DW (ED Y w) A (call (.type "range") [y]) _ E {s0 with heap:=h,toks:=tk}) h2 λ tt=> ?_;rw[Ht h3];refine call_range_1 ?_;have hr:IsRange (h.push {cls:=.type "range",data:=.fields #[.int 0 tk,.int (RN nn) tt,.int 1 (tk+1)]}) h.objs.size 0 (RN nn) 1 tk tt (tk+1):=IsRange.new ..;refine wpAny_pyIter_range (s:={s0 with heap:=h.push {cls:=.type "range",data:=.fields #[.int 0 tk,.int (RN nn) tt,.int 1 (tk+1)]},toks:=tk+1+1}) hr (aAI (TC.mp hb)) ?_;rw[aaA];refine Oq (s0:=s0) (tk:=tk+1+1) (own:=[(h.push {cls:=.type "range",data:=.fields #[.int 0 tk,.int (RN nn) tt,.int 1 (tk+1)]}).objs.size]) p X I gY (λ b o e=>FO _ _ _ _ (FO _ _ _ _ e)) (λ a ha=>GY.mp ha▸KI (Pp _ _)) (.nO (n:=nn) (k:=0) ?_);show(Heap.push _ _).get? _=_;rw[Int.natCast_zero,N8];exact HH _ rfl
theorem ag0(F_:Gf w K D gn mg mb){H:Es}{id:EA}{xs:DM Expr}(h2:LZ Y w K n D o L H xs)(hn:xs=[]->H=.nil)(hs:IB xs=DN)(hk:L.sc.lookup id=DK .globalImplicit)(g1:mg id=DP)(g2:mb id=DK (.type "zip"))(hd:(id==("__debug__" :EA))=DT):
  ML Y w K n D o L (.zip H) (.Call (.Name id np) xs [] pos):=by
 refine Rz F_ h2 hn hs hk g1 g2 hd (λ m=>rfl) λ A lo c0 s0 c U h tk B ys Q E J gY X I ra p=>PR.op p λ q e p=>ob e λ z h1 e=>ob e λ u h2 e=> ?_;refine om (P:=λ q=>PR w K (Jg w lo) FE [] c0 s0 (.ok q U) Q E->_) e (λ v h3 p=> ?_) p;refine Kx h1 ra λ x y r1 r2=>Zv (s:={s0 with heap:=h,toks:=tk}) (P:=λ x=>DW (ED Y w) A (call (.type "zip") [x,y]) _ E {s0 with heap:=h,toks:=tk}) I h2 r1 λ a1 xL CC J pY=>Zv (s:={s0 with heap:=h,toks:=tk}) (P:=λ y=>DW (ED Y w) A (call (.type "zip") [.ref a1,y]) _ E {s0 with heap:=h,toks:=tk}) I h3 r2 λ a2 CR CD J uB=> ?_;refine kz CC CD λ h1 E_ kp=>t9 E_.hz ?_;have I_:=E_.ap;have g:∀j,h.get? (h.objs.size+j)=DP:=λ j=>KI (HD _ _);refine Oq (s0:=s0) (tk:=tk) p X I gY kp (λ a ha=> ?_) (.zip E_.hz E_.ti E_.to (pY DT _ c h1 (λ e=>FB e) E_.b1 (.fO kp) (λ o=>kp _ o)) (uB DT _ c h1 (λ e=>FB e) E_.b2 (.fO kp) (λ o=>kp _ o)) ⟨I_.TIz,I_.TOz,I_.i1z,I_.i2z,I_.TITO,I_.TIi1,I_.TIi2,I_.TOi1,I_.TOi2,I_.i12⟩);simp only[IV,KG,yt]at ha;rcases ha with rfl|rfl|rfl|rfl|rfl
 ·exact g 4
 ·exact g 2
 ·exact g 3
 ·exact g 0
 ·exact g 1
theorem afW(F_:Gf w K D gn mg mb){H:Es}{id:EA}{xs:DM Expr}(h2:LZ Y w K n D o L H xs)(hn:xs=[]->H=.nil)(hs:IB xs=DN)(hk:L.sc.lookup id=DK .globalImplicit)(g1:mg id=DP)(g2:mb id=DK (.type "enumerate"))(hd:(id==("__debug__" :EA))=DT):
  ML Y w K n D o L (.dT H) (.Call (.Name id np) xs [] pos):=by
 refine Rz F_ h2 hn hs hk g1 g2 hd (λ m=>rfl) λ A lo c0 s0 c U h tk B ys Q E J gY X I ra p=>PR.op p λ q e p=>ob e λ z h1 e=>EO e λ hy e=> ?_;have hy:QX z=DT:=by simpa using hy
 refine om (P:=λ q=>PR w K (Jg w lo) FE [] c0 s0 (.ok q U) Q E->_) e (λ v h3 p=> ?_) p;refine RE h1 ra λ x r1=>Zv (s:={s0 with heap:=h,toks:=tk}) (P:=λ x=>DW (ED Y w) A (call (.type "enumerate") [x]) _ E {s0 with heap:=h,toks:=tk}) I h3 r1 λ a1 xL J hl pY=> ?_;obtain⟨nl,hl⟩:=hl hy;refine call_enumerate_list (IsL.isList hl) λ h1 e1 i1 J kp=>aiI e1 ?_;refine Oq (s0:=s0) (tk:=tk) (own:=[h.objs.size+1,h.objs.size]) p X I gY kp (λ a ha=> ?_) (.dT e1 (pY DN _ c h1 (λ J=>hy) (.aX nl i1 (kp _ _ hl)) (.fO kp) (λ o=>kp _ o)) (Nat.succ_ne_self _));exact(IV.mp ha).elim (λ e=>e▸KI (TD _)) λ ha=>GY.mp ha▸KI (FG _)
theorem afY(F_:Gf w K D gn mg mb){H:Es}{id:EA}{xs:DM Expr}(h2:LZ Y w K n D o L H xs)(hn:xs=[]->H=.nil)(hs:IB xs=DN)(hk:L.sc.lookup id=DK .globalImplicit)(g1:mg id=DP)(g2:mb id=DK (.type "reversed"))(hd:(id==("__debug__" :EA))=DT):
  ML Y w K n D o L (.gO H) (.Call (.Name id np) xs [] pos):=by
 refine Rz F_ h2 hn hs hk g1 g2 hd (λ m=>rfl) λ A lo c0 s0 c U h tk B ys Q E J gY X I ra p=>PR.op p λ q e p=>ob e λ z h1 e=>ob e λ u h2 e=>EO e λ hz e=> ?_;rw[<-EJ e]at p;refine RE h1 ra λ x r1=>r1.eT (P:=λ x=>DW (ED Y w) A (call (.type "reversed") [x]) _ E {s0 with heap:=h,toks:=tk}) h2 λ a ys g1 g2 g3=> ?_;have hl:ys.length=u.length:=g3.bQ;refine am5 (s:={s0 with heap:=h,toks:=tk}) (by rw[HW,hl];exact Qg hz) g1 λ bT=> ?_;have hr:Do (h.push (Px a (((ER ys).size:DY)-1))) h.objs.size a (((ER ys).size:DY)-1):=HH _ rfl;refine vf (s:={s0 with heap:=h.push (Px a (((ER ys).size:DY)-1)),toks:=bT}) hr ?_;have e0:((ER ys).size:DY)-1=(ys.length:DY)-1-((0:DL):DY):=by rw[HW];exact aAA
 exact Oq (s0:=s0) (tk:=bT) (own:=[h.objs.size]) p X I gY (FO _ _) (λ a ha=>GY.mp ha▸KI (FG _)) (.gO (e0▸hr) (FO _ _ _ _ g1) g2 (g3.bB (.fO (FO _ _))) (by rw[hl];exact WF hz) (GI _))
end
section
variable {M:NM}{w:EV}{K:EQ}{D:Tb}{L:Mx}{E Ex:aJ}{s0:EB}{lo:ES}{e:V}{a:DZ}{st:dF}{own:DM DZ}
theorem axB(fV:A.frames=DK (Z::fr))(hf:gF (Z::fr) c s.heap)(hL:Z.frame=DK Z.locals)(hl:Lo lo (Z::fr))(kD:∀b,s.heap.get? b=DP->lo.get? b=DP)(I:aZ w K U c s.heap)(F:fY w lo c s.heap e a st)(eZ:HA Z.locals st)
  (hQ:∀h' π,(∀x∈π,lo.get? x=DP)->aZ w K U c h'->bM π c s.heap c h'->fY w lo c h' e a (.at Z.locals)->E (.ref a) {s with heap:=h'}):PQ M A Z (λ x s'=>V6 M A Z E x s') (.ref a) s:=by
 refine Q! (M:=M) (Q:=λ J kG=>V6 M A Z E (.ref a) kG) fV hf hL hl kD I F eZ λ h1 uP q1 I1 X1 F1=> ?_;have F1':=F1;obtain⟨oe,B,d,H,nn,ks,us,_,x,T,_,_,t⟩:=F1;show DW M A _ _ _ _;refine DV (IT x.g1 x.g3 t.t1 ?_);rw[FU (show¬((NO T==LC)=DN)from FJ)];rw[hL];refine Wp (fo:=DK Z.locals) hl.cC I1 F1' (by simp) λ h2 qP q2 I2 X2 F2=> ?_;exact hQ h2 (uP++qP) (λ x hx=>(OW.mp hx).elim (q1 x) (q2 x)) I2 ((X1.dL λ x hx=>RO _ hx).trans (X2.dL λ x hx=>WP _ hx)) F2
theorem apN(C:eO w K n A fr L m c U h Z)(X:bM (FD Z) c h c' h'):gF (Z::fr) c' h':=λ x hx=>by
 rcases IV.mp hx with rfl|hx
 ·obtain⟨mm,⟨ob,H,ep,h1,h2,_⟩,_⟩:=C.er.loc;have pv:=C.er.eJ _ (.head _);obtain⟨o',e',d'⟩:=X.dk _ ob h1 ⟨H,ep,h2⟩ pv.2;exact⟨by rw[C.er.kind];simp,_,o',C.here,e',d',⟨λ f=>(X.newfz _ f).elim pv.1 λ q=>FZ h1 q rfl,λ z=>C.cC (z▸agM ..)⟩,λ p hp=>(X.newρ p hp).elim (λ q=>pv.2 p q) λ q=>⟨FZ h1 q.1,FZ h1 q.2⟩⟩
 ·exact(C.iH.ext X C.qA) x hx
theorem av6(C:eO w K n A fr L m c U h Z):Lo h (Z::fr):=⟨C.bW.cC.2.2,λ x hx H_ hL=>by
 obtain⟨_,L',o,h1,h2,_⟩:=C.ct.iH x hx;rw[h1]at hL;cases hL;exact⟨o,h2⟩⟩
theorem dD.nP(r:dD w L m c h Z)(S:dG own c h c' h')(P:Pv c own)(hn:∀a∈FD Z,a∉own)(hc:∀a∈FD Z,∃o,h.get? a=DK o):dD w L m c' h' Z where
 names:=r.names
 kind:=r.kind
 glob:=r.glob
 bu:=r.bu
 loc:=by
  obtain⟨mm,hm,q⟩:=r.loc;exact⟨mm,Zu hm λ o ho=>.inl (S.keep _ o (hn _ (.head _)) ho),λ n i a b=>(q n i a b).bB (S.bB P)⟩
 jU n i a b:=by
  obtain⟨ad,vo,e1,e2,e3⟩:=r.jU n i a b;have hm:ad∈FD Z:=.tail _ (LN.mpr ⟨(n,ad),mem_of_lookup e1,rfl⟩);exact⟨ad,vo,e1,abA e2 λ o ho=>.inl (S.keep _ o (hn _ hm) ho),e3.bB (S.bB P)⟩
 eJ a ha:=by
  obtain⟨oa,ea⟩:=hc a ha;rcases S.cx with q|⟨T,q,nn,_⟩
  ·rw[q];exact r.eJ a ha
  ·rw[q];exact⟨λ f=>f.elim (r.eJ a ha).1 λ z=>FZ ea nn z,(r.eJ a ha).2⟩
 free:=r.free
theorem eO.nP(C:eO w K n A fr L m c U h Z)(S:dG own c h c' h')(P:Pv c own)(hn:∀a∈FD Z,a∉own)(hf:∀x∈fr,∀H_,x.frame=DK H_->H_∉own):eO w K n A fr L m c' U h' Z:=
 ⟨C.rm,C.jV,λ x hx=>by
  obtain⟨h1,H_,o,h2,h3,hd,h4,h5⟩:=C.iH x hx;refine⟨h1,H_,o,h2,S.keep H_ o (hf x hx H_ h2) h3,hd,?_,?_⟩
  ·rcases S.cx with q|⟨T,q,nn,_⟩
   ·rw[q];exact h4
   ·rw[q];exact⟨λ f=>f.elim h4.1 λ z=>FZ h3 nn z,h4.2⟩
  ·rcases S.cx with q|⟨T,q,nn,_⟩<;>(rw[q];exact h5),C.er.nP S P hn C.dS,λ a ha=>by obtain⟨o,q⟩:=C.dS a ha;exact⟨o,S.keep a o (hn a ha) q⟩,S.bW P C.bW,C.apart,C.qA,C.here,C.cC⟩
theorem Pv.ext(P:Pv c own)(X:bM π c h c' h')(hl:∀a∈own,∃o,h.get? a=DK o):Pv c' own:=
 ⟨λ a ha f=>(by obtain⟨_,q⟩:=hl a ha;exact(X.newfz a f).elim (P.fz a ha) λ z=>FZ q z rfl),λ a ha p hp=>(by obtain⟨_,q⟩:=hl a ha;exact(X.newρ p hp).elim (λ z=>P.ρ a ha p z) λ z=>⟨FZ q z.1,FZ q z.2⟩),P.cC⟩
theorem eN.ext(R:eN w c h it own bE k)(P:Pv c own)(X:bM π c h c' h')(hn:∀a∈own,a∉π):eN w c' h' it own bE k:=
 R.at X.bB λ a ha o e=>by
  rcases X.keep a o e (hn a ha) (P.ρ a ha)with q|⟨⟨_,H,ep,d⟩,_⟩
  ·exact q
  ·obtain⟨o',e',nd⟩:=R.kW a ha;rw[e]at e';cases e';exact EP ⟨H,ep,d⟩ nd
theorem aaP{α β γ δ:Type}{Rl:Cx->ES->α->β->Prop}{jS:Cx->ES->γ->δ->Prop}{ok:aM}{t:JN β}{x:aB α}{f:α->aB γ}{Q:δ->EB->Prop}{g:β->EB->Prop}
  (p:PR w K jS jF hH c0 s0 (aB.bind x f U) Q E)(ih:∀(Q:β->EB->Prop) (E:aJ),PR w K Rl ok π c {s0 with heap:=h,toks:=tk} (x U) Q E->DW Mo A t Q E {s0 with heap:=h,toks:=tk})
  (kx:∀v G c' h' bT y,aZ w K G c' h'->bM π c h c' h'->Rl c' h' v y->PR w K jS jF hH c0 s0 (f v G) Q E->g y {s0 with heap:=h',toks:=bT})
  (ke:∀e G c' h' bT a st,ok st->aZ w K G c' h'->bM π c h c' h'->fY w h c' h' e a st->PR w K jS jF hH c0 s0 (.cD e G) Q E->E2 (.ref a) {s0 with heap:=h',toks:=bT}):DW Mo A t g E2 {s0 with heap:=h,toks:=tk}:=by
 have p:PR w K jS jF hH c0 s0 (R.bind (x U) f) Q E:=p;cases hx:x U with
 |ok v G=>
  rw[hx]at p ih;exact ih g E2 λ c' h' bT y I X r=>kx v G c' h' bT y I X r p
 |cD e G=>
  rw[hx]at p ih;exact ih g E2 λ c' h' bT a st o I X F=>ke e G c' h' bT a st o I X F p
 |bL=>
  rw[hx]at p;exact p.elim
def Qx(bE:HP):DQ (DM V):=match bE with|.bN q=>(match q with|.dX us=>DK us|.cX _=>DP)|.zip _ _=>DP|.dT _=>DP
theorem aE6(h:Qx bE=DK us):bE=.bN (.dX us):=HS Qx (λ us=>.bN (.dX us)) (λ v=>by rcases v with(_|_)|_|_<;>rfl) h
def rest(f:V->Lv->aB (Fl×Lv))(bE:HP)(n k:DL):Lv->aB (Fl×Lv):=oe (Qx bE) (KZ f bE n k) λ us=>Df f (us.drop k)
def Mq(f:V->Lv->aB (Fl×Lv))(bE:HP)(n k:DL):Fl×Lv->aB (Fl×Lv):=LJ (rest f bE n k)
def left(bE:HP)(n k:DL):DL:=oe (Qx bE) n λ us=>us.length+1-k
theorem aaI(f:V->Lv->aB (Fl×Lv))(bE:HP)(a:Lv):WC f bE a=rest f bE 1000 0 a:=by
 rcases bE with(_|_)|_|_<;>rfl
theorem aa6{f:V->Lv->aB (Fl×Lv)}{a:Lv}(gA:R.ns (rest f bE n k a U)){P:Prop}(k0:MN U bE k=DK DP->rest f bE n k a U=.ok (.next,a) U->P)
  (k1:∀v n',MN U bE k=DK (DK v)->left bE n' (k+1)<left bE n k->rest f bE n k a U=aB.bind (f v a) (Mq f bE n' (k+1)) U->P):P:=by
 cases hv:Qx bE with
 |none=>
  have er:∀n k,rest f bE n k=KZ f bE n k:=λ n k=>by unfold rest;rw[hv];rfl
  have el:∀n k,left bE n k=n:=λ n k=>by unfold left;rw[hv];rfl
  rw[er]at gA;cases n with
  |zero=>exact gA.elim|succ n=>
   have e1:KZ f bE (n+1) k a U=oe (MN U bE k) .bL λ x=>oe x (.ok (.next,a) U) λ v=>aB.bind (f v a) (LJ (KZ f bE n (GH k))) U:=rfl;rw[e1]at gA;cases dM:MN U bE k with
   |none=>rw[dM]at gA;exact gA.elim|some y=>
    cases y with
    |none=>exact k0 dM (by rw[er,e1,dM];rfl)|some v=>exact k1 v n dM (by rw[el,el];exact Sp _) (by unfold Mq;rw[er,er,e1,dM];rfl)
 |some us=>
  have e:=aE6 hv;subst e;have dM:MN U (.bN (.dX us)) k=DK (us[k]?):=rfl;cases hu:us[k]? with
  |none=>exact k0 (dM.trans (DX DK hu)) (by show Df f (us.drop k) a U=_;rw[List.drop_of_length_le (O5.mp hu)];rfl)|some v=>
   obtain⟨hk,ev⟩:=JV.mp hu;exact k1 v n (dM.trans (DX DK hu)) (by show us.length+1-(k+1)<us.length+1-k;rw[Nat.add_sub_add_right,Nat.succ_sub (WQ hk)];exact Sp _) (by show Df f (us.drop k) a U=_;rw[List.drop_eq_getElem_cons hk,ev];rfl)
end
theorem xr(h:UG x=DN)(v:DS):foldedSetIterable x Z v=pure v:=by
 revert h
 apply @Q6 _ x<;>intros<;>first|exact @rfl _ (pure v)|exact EP ‹_› FJ
section
variable {w:EV}{K:EQ}{D:Tb}{L:Mx}
theorem X_{α β:Type}{r:aD α}{f:α->aB β}{b:β}(e:R.bind r f=.ok b U){P:Prop}(k:∀a τ,r=.ok a τ->f a τ=.ok b U->P):P:=
 match r,e,k with
 |.ok a τ,e,k=>k a τ rfl e
theorem T!{α:Type}{x:DQ α}{b:α}(e:aB.eH x τ=.ok b U){P:Prop}(k:x=DK b->P):P:=
 match x,e,k with
 |some a,e,k=>k (DX DK (R.ok.inj e).1)
theorem qf{it:It}(h:UK it=DN)(e:NU (EE D) o it m U=.ok bE G):Cj bE=DN:=by
 cases it with
 |zip=>cases h
 |dT=>cases h
 |seq x=>exact X_ e λ v τ J e=>T! e λ e=>om (P:=λ bE=>Cj bE=DN) e λ J J=>rfl
 |range x=>exact X_ e λ v τ J e=>T! e λ e=>ob e λ J J e=>ob e λ J J e=>ob e λ J J e=>EO e λ J e=>EJ e▸rfl
 |gO x=>exact X_ e λ v τ J e=>T! e λ e=>ob e λ J J e=>ob e λ J J e=>EO e λ J e=>EJ e▸rfl
theorem X!{α β γ:Type}(r:aD α)(f:α->aB β)(g:β->aB γ):R.bind (R.bind r f) g=R.bind r λ a=>aB.bind (f a) g:=by cases r<;>rfl
theorem jr{α β γ:Type}(x:aB α)(f:α->aB β)(g:β->aB γ)(U:aS):aB.bind (aB.bind x f) g U=aB.bind x (λ a=>aB.bind (f a) g) U:=X! (x U) f g
structure afU(w:EV)(K:EQ)(n:DL)(A:HG)(fr:DM Env)(L:Mx)(Z:Env)(it:DZ)(own:DM DZ)(bE:HP)(f:V->Lv->aB (Fl×Lv))(c0:Cx)(s0:EB)(Q:SX->EB->Prop)(E:aJ)(nn k:DL)(m:Lv)(U:aS)(c:Cx)(h:ES):Prop where
 C:eO w K n A fr L m c U h Z
 hl:Ln L m
 R:eN w c h it own bE k
 P:Pv c own
 X:bM (FD Z) c0 s0.heap c h
 p:PR w K (eV w L Z) (HA Z.locals) (FD Z) c0 s0 (rest f bE nn k m U) Q E
inductive ac(w:EV)(K:EQ)(n:DL)(A:HG)(fr:DM Env)(L:Mx)(Z:Env)(it:DZ)(own:DM DZ)(bE:HP)(f:V->Lv->aB (Fl×Lv))(c0:Cx)(s0:EB)(Q:SX->EB->Prop)(E:aJ):DL->EB->Prop
 |mk (nn k:DL) (m:Lv) (U:aS) (c:Cx) (h:ES) (tk:DL):afU w K n A fr L Z it own bE f c0 s0 Q E nn k m U c h->ac w K n A fr L Z it own bE f c0 s0 Q E (left bE nn k) {s0 with heap:=h,toks:=tk}
theorem rh{m0 m1:Lv}{c1 c2:Cx}{bS:aS}{s0:EB}{h1 h2:ES}{eK:DL}{a:DZ}{st:dF}{e:V}{Q:SX->EB->Prop}{E:aJ}(C0:eO w K n A fr L m0 c0 cI s0.heap Z)(Cc:eO w K n A fr L m1 c1 bS h1 Z)(Xc:bM (FD Z) c0 s0.heap c1 h1)
  (eZ:HA Z.locals st)(I2:aZ w K G c2 h2)(X2:bM (FD Z) c1 h1 c2 h2)(F:fY w h1 c2 h2 e a st)(pe:PR w K (eV w L Z) (HA Z.locals) (FD Z) c0 s0 (.cD e G) Q E):PQ (ED Y w) A Z (λ e s'=>V6 (ED Y w) A Z E e s') (.ref a) {s0 with heap:=h2,toks:=eK}:=
 axB (s:={s0 with heap:=h2,toks:=eK}) (lo:=s0.heap) Cc.jV (apN Cc X2) Cc.here (av6 C0) (λ b hb=>JP Xc.dom (JP X2.dom hb)) I2 (F.dS λ b hb=>JP Xc.dom hb) eZ λ h3 CX q3 I3 X3 F3=>
  pe c2 h3 eK a (.at Z.locals) rfl I3 ((((Xc.trans X2).dL λ x hx=>RO _ hx).trans (X3.dL λ x hx=>WP _ hx)).drop λ x hx=>(OW.mp hx).imp id (q3 x)) F3
theorem eN.sG{own:DM DZ}(R:eN w c h it own bE k):∀a∈own,∃o,h.get? a=DK o:=λ a ha=>(R.kW a ha).imp λ J e=>e.1
theorem aiT{it:It}{b:Ss}{xs:DM EY}(h1:ML Y w K n D o L it y)(h2:KS Y w K n D o L t x)(h3:TL Y w K n D o L b xs)(iS:UG y=DN)(ht:UK it=DN∨dK x=DN):
  SS Y w K n D o L (.for t it b) (.For x y xs [] pos):=by
 intro A fr Z m c0 cI s0 Q E C0 vW p0;have p:PR w K (eV w L Z) (HA Z.locals) (FD Z) c0 s0 (R.bind (NU (EE D) o it m cI) λ bE=>WC (λ v m=>aB.bind (IY (EE D) o t v m) λ m'=>FC (EE D) o b m') bE m) Q E:=p0;clear p0;refine wpAny_For (h1 A _ Z m c0 cI s0 _ _ C0.ct ?_) (xr iS);cases hq:NU (EE D) o it m cI with
 |bL=>rw[hq]at p;exact p.elim|cD e G=>
  rw[hq]at p;exact λ c' h' tk a st ho I X F=>p c' h' tk a st (PG st ho) I (X.dL JB) F
 |ok bE G=>
  rw[hq]at p
  replace p:PR w K (eV w L Z) (HA Z.locals) (FD Z) c0 s0 (WC (λ v m=>aB.bind (IY (EE D) o t v m) λ m'=>FC (EE D) o b m') bE m G) Q E:=p
  have iI:Cj bE=DN∨dK x=DN:=ht.imp (λ q=>qf q hq) λ q=>q;rw[aaI]at p;clear hq;generalize hf:(λ v m=>aB.bind (IY (EE D) o t v m) λ m'=>FC (EE D) o b m')=f at p
  rintro c h tk _ I X ⟨BF,own,rfl,R,P,jP⟩
  have hno:∀a∈FD Z,a∉own:=λ a ha hm=>by
   obtain⟨ob,e⟩:=C0.dS a ha;rw[jP a hm]at e;cases e
  have hnf:∀q∈fr,∀H_,q.frame=DK H_->H_∉own:=λ q hq H_ hL hm=>by
   obtain⟨_,L',ob,e1,e2,_⟩:=C0.iH q hq;rw[e1]at hL;cases hL;rw[jP _ hm]at e2;cases e2
  have hno':∀a∈own,a∉FD Z:=λ a ha hm=>hno a hm ha;refine codeAny_forLoop_any (R:=λ r s'=>match r with|.ok f=>Q f s'|.error e=>V6 (ED Y w) A Z E e s')
   (ac w K n A fr L Z BF own bE f c0 s0 Q E) (λ d s' hI=> ?_) (left bE 1000 0) (.mk 1000 0 m G c h tk ⟨C0.ext I X,vW,R,P,X.dL JB,p⟩)
  clear p R P X I h c tk G vW;obtain⟨nn,k,m,U,c,h,tk,S⟩:=hI;refine aa6 (Pg S.p) (λ dM er=> ?_) λ v n' dM fW er=> ?_
  ·refine eN.mN (s:={s0 with heap:=h,toks:=tk}) S.C.bW S.P S.C.rm.hh (by rw[dM];exact nofun) (λ J h' aS=> ?_) (λ v hv=>(by cases dM.symm.trans hv)) S.R iI;have p:=S.p;rw[er]at p;have C':=S.C.nP aS S.P hno hnf;exact acW (p c h' tk .next C'.bW (aS.mB S.P S.X jP) ⟨RR,C'.er,S.hl⟩)
  ·refine eN.mN (s:={s0 with heap:=h,toks:=tk}) S.C.bW S.P S.C.rm.hh (by rw[dM];exact nofun) (λ hv=>(by cases dM.symm.trans hv)) (λ v' kU c' h' bT xv aS rv R'=> ?_) S.R iI;have p:=S.p;rw[er]at p;cases dM.symm.trans kU;have C':=S.C.nP aS S.P hno hnf;have X':=aS.mB S.P S.X jP;have P':=aS.pv S.P S.R.sG;have hl:=S.hl;clear S aS er dM kU;rw[<-hf,jr]at p;refine aaP (s0:=s0) p (λ Q E=>h2 A fr Z m c' U {s0 with heap:=h',toks:=bT} v xv Q E C' hl rv) (λ m2 dB c2 iB eK J I2 X2 r2 p2=> ?_) λ e dB c2 iB eK a st eZ I2 X2 F pe=>rh C0 C' X' eZ I2 X2 F pe;have C2:=C'.step I2 X2 r2.1;have X02:=X'.trans X2;have R2:=R'.ext P' X2 hno';have P2:=P'.ext X2 R'.sG;clear p C' X' P' R';refine aaP (s0:=s0) p2 (λ Q E=>h3 A fr Z m2 c2 dB {s0 with heap:=iB,toks:=eK} Q E C2 r2.2) (λ r cN c3 tB cU f1 I3 X3 rf p3=> ?_) λ e cN c3 tB cU a st eZ I3 X3 F pe=>rh C0 C2 X02 eZ I3 X3 F pe
   revert p3
   exact rf.el (λ m3 q2 q3 p3=>⟨_,fW,.mk n' (k+1) m3 cN c3 tB cU ⟨C2.step I3 X3 q2,q3,R2.ext P2 X3 hno',P2.ext X3 R2.sG,X02.trans X3,hf▸p3⟩⟩) λ v x m3 q1 q2 q3 p3=>p3 c3 tB cU _ I3 (X02.trans X3) ⟨q1,q2,q3⟩
end
theorem RC{id:EA}(h:PO x=DK id){P:aL}(k:∀p,P (.Name id p)):P x:=by
 unfold PO at h;by_cases hx:x.ctorIdx=23
 ·rw[En hx]at h
  revert h
  exact Al (motive_1:=λ x=>∀hx,DK (Al (motive_1:=λ J=>EA) x hx λ id J=>id)=DK id->P x) x hx (λ id' p J h=>(EJ h:id'=id)▸k p) hx
 ·rw[XE hx]at h;exact EW h
theorem Ku{xs:DM Expr}(h:Dd x=DK xs){P:aL}(k:∀j p,P (.Tuple xs j p)):P x:=by
 unfold Dd at h;by_cases hx:x.ctorIdx=25
 ·rw[En hx]at h
  revert h
  exact Hj (motive_1:=λ x=>∀hx,DK (Hj (motive_1:=λ J=>DM Expr) x hx λ xs J J=>xs)=DK xs->P x) x hx (λ ys j p J h=>(EJ h:ys=xs)▸k j p) hx
 ·rw[XE hx]at h;exact EW h
theorem abV{i:Ts}(h:Qp t=DK i):t=.aR i:=HS Qp .aR (λ v=>by cases v<;>rfl) h
section
variable {M:NM}{w:EV}{K:EQ}{D:Tb}{L:Mx}{E Ex:aJ}{s0:EB}{lo:ES}{own:DM DZ}
theorem PR.qE{α β γ δ:Type}{Rf:Cx->ES->α->γ->Prop}{Rl:Cx->ES->β->δ->Prop}{ok:aM}{x:R β}{f:β->aB α}{Q:γ->EB->Prop}{Q':δ->EB->Prop}(p:PR w K Rf ok π c s (R.bind x f) Q E)
  (k:∀v G,x=.ok v G->PR w K Rf ok π c s (f v G) Q E->PR w K Rl ok π c s (.ok v G) Q' E):PR w K Rl ok π c s x Q' E:=by
 obtain v|e|e:=x
 ·exact k _ _ rfl p
 ·exact p
 ·exact p
theorem bM.kZ{p:DZ×DZ}(X:bM π c h c' h')(n1:h.get? p.1=DP)(n2:h.get? p.2=DP):bM π c h (c'.own p) h':=
 ⟨λ i q e=>(dR.own (c:=c') (h:=h') (h':=h') λ J J e=>e).ρ i q (X.ρ i q e),X.fz,X.newfz,λ q hq=>by
  rcases OW.mp (show q∈c'.ρ++[p]from hq)with z|z
  ·exact X.newρ q z
  ·rw[GY]at z;subst z;exact .inr ⟨n1,n2⟩,X.kf,X.keep,X.dk,X.dom⟩
theorem abJ(ho:KC L=DN){id:EA}(hs:GK id L.nm=DK i)(hk:L.sc.lookup id=DK .local)(I:aZ w K U c s.heap)(er:dD w L m c s.heap Z)(hC:∀a∈Z.cells.map (·.2),a≠Z.locals)(lU:Z.locals≠GQ){x:DS}(r:VR w c s.heap v x){Q:aK}
  (q:∀h' tk,aZ w K U c h'->dG [Z.locals] c s.heap c h'->dD w L (m.set i (DK v)) c h' Z->Q () {s with heap:=h',toks:=tk}):DW M A (abI Z id x) Q Ex s:=by
 have hi:Jc L.nm=DN:=by unfold KC at ho;rw[Gu]at ho;exact ho.1
 have rF:∀j∈L.cs,∀u,(m.set i (DK v))[j]?≠DK (DK u):=λ j hj u=>by
  unfold KC at ho;rw[Gu]at ho;obtain⟨t,ht,_⟩:=Qh hs;have:=FQ.mp (FQ.mp ho.2 _ ht) j hj;have cS:i≠j:=λ z=>by subst z;simp[RQ]at this
  rw[TA cS];exact er.free j hj u
 obtain⟨mm,hn,hl⟩:=er.loc;have P:Pv c [Z.locals]:=.bN (er.eJ _ (.head _)).1 (er.eJ _ (.head _)).2 lU;refine aEM ((PN er id).trans hk) hn (λ h' jO sb=> ?_) (by rw[er.kind];rfl);have aS:dG [Z.locals] c s.heap c h':=.bN sb.extBut;have mo:=aS.bB P;have set_:∀{j:DL} {vo:DQ DS},(j=i->vo=DK x)->(j≠i->lI w c s.heap m j vo)->lI w c h' (m.set i (DK v)) j vo:=by
  intro j vo h1 h2 u hu;by_cases hj:j=i
  ·subst hj;have cE:j<m.length:=by
    have:=(JV.mp hu).1;rwa [NL]at this
   rw[OV cE]at hu;cases hu;exact⟨x,h1 rfl,r.bB mo⟩
  ·rw[TA (JY hj)]at hu;obtain⟨y,hy,ry⟩:=h2 hj u hu;exact⟨y,hy,ry.bB mo⟩
 refine q h' _ (aS.bW P I) aS ⟨er.names,er.kind,er.glob,er.bu,⟨_,jO,λ n' j e1 e2=> ?_⟩,λ n' j e1 e2=> ?_,er.eJ,rF⟩
 ·refine set_ (λ hj=> ?_) (λ hj=> ?_)
  ·subst hj;rw[Jd hi e1 hs];simp
  ·have:n'≠id:=λ z=>hj (by rw[z,hs]at e1;exact(EJ e1).symm);simp only[FU this];exact hl n' j e1 e2
 ·obtain⟨a,vo,c1,c2,c3⟩:=er.jU n' j e1 e2;have cS:a≠Z.locals:=hC a (LN.mpr ⟨(n',a),mem_of_lookup c1,rfl⟩);refine⟨a,vo,c1,c2.sameBut sb cS,set_ (λ hj=> ?_) (λ J=>c3)⟩;subst hj;rw[Jd hi e1 hs,hk]at e2;cases e2
theorem eN.self(R:eN w c s.heap it own bE k)(hQ:Q (.ref it) s):DW (ED Y w) A (Cm (.ref it)) Q Ex s:=by
 cases R with
 |bN r=>
  cases r with
  |dX b _ _ _=>
   cases b with
   |aX n b1 b2=>exact aEK b1 hQ|aR b1 b2=>exact wpAny_pyIter_tupleiter b1 hQ
  |cX li _=>exact aEK li hQ
 |nO r=>exact wpAny_pyIter_rangeiter r hQ|gO r _ _ _ _ _=>exact vf r hQ|dT r _ _=>exact aiI r hQ|zip r _ _ _ _ _=>exact t9 r hQ
noncomputable def Gh(xs:DM Expr)(Z:Env)(b:DU):JN DU:=Wt xs b λ c r=>if r=DN then do let ok<-isTrue c Z (HM c Z);pure (Lq ok)else pure (Lq r)
theorem aCX{Q:DU->EB->Prop}(xs:DM Expr)(h:Q DT s):DW M A (Gh xs Z DT) Q Ex s:=by
 induction xs with
 |nil=>exact EK h|cons x xs ih=>
  unfold Gh;rw[Ac];refine DV ?_;rw[FU FJ];exact EK ih
end
section
variable (Y:TK)(w:EV)(K:EQ)(n:DL)(D:Tb)(o:JM)
def WR(L:Mx)(H:Es)(xs:DM Expr):Prop:=∀(A:HG) (fr:DM Env) (Z:Env) (m:Lv) (c:Cx) (U:aS) (s:EB) (Q:DU->EB->Prop) (E:aJ),
 Ct w K n A fr L m c U s.heap Z->PR w K Bl FE [] c s (aoI D o H m U) Q E->DW (ED Y w) A (Gh xs Z DN) Q E s
end
section
variable {w:EV}{K:EQ}{D:Tb}{L:Mx}
theorem z0:WR Y w K n D o L .nil []:=by
 intro A fr Z m c U s Q E C p;exact EK (PR.here (p:PR w K Bl FE [] c s (.ok DN U) Q E) C.bW rfl)
theorem aeK{H:Es}{xs:DM Expr}(h1:SB Y w K n D o L e x)(h2:WR Y w K n D o L H xs):WR Y w K n D o L (.cons e H) (x::xs):=by
 intro A fr Z m c U s Q E C p;unfold Gh;rw[Ac];refine DV ?_;rw[GG rfl];refine DV (seq p (λ Q E=>h1 A fr Z m c U s Q E C) λ b G c' h' tk b' J I X r p'=> ?_);cases r;refine EK ?_;cases b with
 |true=>exact h2 A fr Z m c' G _ Q E (C.ext I X) p'|false=>exact aCX xs (PR.here (p':PR w K Bl FE [] c' _ (.ok DT G) Q E) I rfl)
end
section
variable {w:EV}{R:QL->EB->Prop}
theorem avN{fF iter:Expr}{ifs:DM Expr}{it acc:DS}(I:DL->EB->Prop)
  (mN:∀n s,I n s->DW (ED Y w) A (PU it) (λ r dQ=>match r with
   |none=>R (.ok .next) dQ|some v=>DW (ED Y w) A (VU target it v) (λ J nQ=>DW (ED Y w) A (OJ target Z v) (λ J hU=>DW (ED Y w) A (Gh ifs Z DN) (λ ok lD=>
      if ok=DN then DW (ED Y w) A (HM fF Z) (λ x qG=>
       DW (ED Y w) A (call (.builtin "list.append") [acc,x]) (λ J qH=>∃m,m<n/\I m qH) (PQ (ED Y w) A Z λ e s'=>R (.error e) s') qG) (PQ (ED Y w) A Z λ e s'=>R (.error e) s') lD
      else∃m,m<n/\I m lD) (PQ (ED Y w) A Z λ e s'=>R (.error e) s') hU) (PQ (ED Y w) A Z λ e s'=>R (.error e) s') nQ) (PQ (ED Y w) A Z λ e s'=>R (.error e) s') dQ) (PQ (ED Y w) A Z λ e s'=>R (.error e) s') s)
  (n:DL)(h:I n s):MC (ED Y w) A (.compLoop (.ListComp fF [⟨target,iter,ifs,0⟩] scope pos) 0 it acc Z) R s:=by
 refine codeAny_loop rfl I (λ n s hI=> ?_) n h;show DW _ A ((compTurn (.ListComp fF [⟨target,iter,ifs,0⟩] scope pos) 0 it acc Z).onRaise (λ x=>do Q? x Z;aCZ x)) _ _ s;refine wpAny_noted ?_;rw[compTurn_list];refine DV (OS (DV (IF (mN n s hI) (λ r dQ dJ=> ?_) λ J J h'=>h')));cases r with
 |none=>exact EK dJ|some v=>
  refine DV (IF dJ (λ J nQ tW=>DV (IF tW (λ J hU iU=>DV (IF iU (λ ok lD jD=> ?_) λ J J h'=>h')) λ J J h'=>h')) λ J J h'=>h');cases ok with
  |false=>exact EK ⟨rfl,jD⟩|true=>exact DV (DV (IF jD (λ x qG nG=>DV (IF nG (λ J qH gZ=>EK (EK ⟨rfl,gZ⟩)) λ J J h'=>h')) λ J J h'=>h'))
theorem avM{iter:Expr}{ifs:DM Expr}{it:DS}{I_:DZ}(I:DL->EB->Prop)
  (mN:∀n s,I n s->DW (ED Y w) A (PU it) (λ r dQ=>match r with
   |none=>R (.ok .next) dQ|some v=>DW (ED Y w) A (VU target it v) (λ J nQ=>DW (ED Y w) A (OJ target Z v) (λ J hU=>DW (ED Y w) A (Gh ifs Z DN) (λ ok lD=>
      if ok=DN then DW (ED Y w) A (HM kx Z) (λ x qG=>DW (ED Y w) A (HM vx Z) (λ y qH=>
       DW (ED Y w) A (El I_ x y) (λ J xG=>∃m,m<n/\I m xG) (PQ (ED Y w) A Z λ e s'=>R (.error e) s') qH) (PQ (ED Y w) A Z λ e s'=>R (.error e) s') qG) (PQ (ED Y w) A Z λ e s'=>R (.error e) s') lD
      else∃m,m<n/\I m lD) (PQ (ED Y w) A Z λ e s'=>R (.error e) s') hU) (PQ (ED Y w) A Z λ e s'=>R (.error e) s') nQ) (PQ (ED Y w) A Z λ e s'=>R (.error e) s') dQ) (PQ (ED Y w) A Z λ e s'=>R (.error e) s') s)
  (n:DL)(h:I n s):MC (ED Y w) A (.compLoop (.DictComp kx vx [⟨target,iter,ifs,0⟩] scope pos) 0 it (.ref I_) Z) R s:=by
 refine codeAny_loop rfl I (λ n s hI=> ?_) n h;show DW _ A ((compTurn (.DictComp kx vx [⟨target,iter,ifs,0⟩] scope pos) 0 it (.ref I_) Z).onRaise (λ x=>do Q? x Z;aCZ x)) _ _ s;refine wpAny_noted ?_;rw[compTurn_dict];refine DV (OS (DV (IF (mN n s hI) (λ r dQ dJ=> ?_) λ J J h'=>h')));cases r with
 |none=>exact EK dJ|some v=>
  refine DV (IF dJ (λ J nQ tW=>DV (IF tW (λ J hU iU=>DV (IF iU (λ ok lD jD=> ?_) λ J J h'=>h')) λ J J h'=>h')) λ J J h'=>h');cases ok with
  |false=>exact EK ⟨rfl,jD⟩|true=>exact DV (DV (IF jD (λ x qG nG=>DV (HE (IF nG (λ y qH gZ=>DV (OS (HE (IF gZ (λ J xG BB=>EK ⟨rfl,BB⟩) λ J J h'=>h')))) λ J J h'=>h'))) λ J J h'=>h'))
end
noncomputable def Kh:DM (EA×DL)->DM V->Lv->Lv
 |(_,i)::H_,v::B,m=>Kh H_ B (m.set i (DK v))|_,_,m=>m
section
variable {M:NM}{w:EV}{K:EQ}{D:Tb}{L:Mx}{E Ex:aJ}{s0:EB}{own:DM DZ}
theorem dG.dL{a b:DM DZ}(S:dG a c h c' h')(q:∀x∈a,x∈b):dG b c h c' h':=⟨λ x ob hx e=>S.keep x ob (λ z=>hx (q x z)) e,S.cx⟩
theorem dG.seq{a:DM DZ}{cV:ES}(x:dG a c h c h')(y:dG a c h' c cV):dG a c h c cV:=⟨λ b ob hb e=>y.keep b ob hb (x.keep b ob hb e),.inl rfl⟩
theorem aCY{ts:Ts}{xs:DM Expr}{H_:DM (EA×DL)}{B:DM V}{m:Lv}(e:A7 ts xs=DK H_)(hl:LL ts=B.length)(U:aS):MY (EE D) o ts B m U=.ok (Kh H_ B m) U:=by
 induction ts using Ts.nH generalizing xs H_ B m with
 |n=>
  cases O4 hl.symm;exact EO e λ J e=>EJ e▸rfl
 |c t ts ih=>
  obtain- |⟨x,xs⟩:=xs
  ·exact EW e
  obtain- |⟨v,B⟩:=B
  ·exact EP hl (Q2 _)
  exact ob e λ i hi e=>ob e λ id J e=>om (P:=λ H_=>MY (EE D) o (.cons t ts) (v::B) m U=.ok (Kh H_ (v::B) m) U) e λ l oN=>by
   rw[l7 hi];exact ih (m:=m.set i (DK v)) oN (Q0 hl)
theorem awN(ho:KC L=DN)(lU:Z.locals≠GQ)(hC:∀a∈Z.cells.map (·.2),a≠Z.locals){ts:Ts}{xs:DM Expr}{H_:DM (EA×DL)}{B:DM V}{ys:DM DS}{m:Lv}{s:EB}(e:A7 ts xs=DK H_)
  (hL:∀q∈H_,GK q.1 L.nm=DK q.2/\L.sc.lookup q.1=DK .local)(r:bI w c s.heap B ys)(hl:LL ts=B.length)(I:aZ w K U c s.heap)(er:dD w L m c s.heap Z)
  (Q:aK)(q:∀h' tk,aZ w K U c h'->dG [Z.locals] c s.heap c h'->dD w L (Kh H_ B m) c h' Z->Q () {s with heap:=h',toks:=tk}):DW M A (Hv ((At xs Z).map (·.2)) ys) Q Ex s:=by
 induction ts using Ts.nH generalizing xs H_ B ys m s with
 |n=>
  cases O4 hl.symm;refine EO e λ hx e=> ?_;rw[HN hx,r.zero];rw[<-EJ e]at q;exact EK (q s.heap s.toks I ⟨λ J J J e=>e,.inl rfl⟩ er)
 |c t ts ih=>
  obtain- |⟨x,xs⟩:=xs
  ·exact EW e
  obtain- |⟨v,B⟩:=B
  ·exact EP hl (Q2 _)
  refine ob e λ i J e=>ob e λ id hx e=>RC (P:=λ x=>DW M A (Hv ((At (x::xs) Z).map (·.2)) ys) Q Ex s) hx λ p=> ?_;refine om (P:=λ H_=>(∀q∈H_,GK q.1 L.nm=DK q.2/\L.sc.lookup q.1=DK .local)->(∀h' tk,aZ w K U c h'->dG [Z.locals] c s.heap c h'->dD w L (Kh H_ (v::B) m) c h' Z->Q () {s with heap:=h',toks:=tk})->_) e (λ l oN hL q=> ?_) hL q;refine r.el (P:=λ ys=>DW M A (Hv ((At (.Name id p::xs) Z).map (·.2)) ys) Q Ex s) λ y ys rv r=> ?_;have q1:=hL (id,i) (.head _);have P:Pv c [Z.locals]:=.bN (er.eJ _ (.head _)).1 (er.eJ _ (.head _)).2 lU;refine DV (HE (assign_Name (abJ ho q1.1 q1.2 I er hC lU rv λ h' tk I' S yL=> ?_)));exact ih (s:={s with heap:=h',toks:=tk}) oN (λ q hq=>hL q (.tail _ hq)) (r.bB (S.bB P)) (Q0 hl) I' yL λ cV bT mR S' sZ=>q cV bT mR (S.seq S') sZ
theorem akM{y:DS}(hL:QC t x=DK H_)(kR:∀q∈H_,GK q.1 L.nm=DK q.2/\L.sc.lookup q.1=DK .local)(ho:KC L=DN)(lU:Z.locals≠GQ)(hC:∀a∈Z.cells.map (·.2),a≠Z.locals)
  (hg:RK t x=DN)(hh:A.handled=DP)(dS:∀a∈FD Z,∃ob,s.heap.get? a=DK ob)(I:aZ w K U c s.heap)(er:dD w L m c s.heap Z)(r:VR w c s.heap v y)(gA:R.ns (IY (EE D) o t v m U)){P:Prop}
  (k:∀m',IY (EE D) o t v m U=.ok m' U->(∀(Q:aK),(∀h' tk,aZ w K U c h'->dG [Z.locals] c s.heap c h'->dD w L m' c h' Z->Q () {s with heap:=h',toks:=tk})->DW (ED Y w) A (OJ x Z y) Q Ex s)->P):P:=by
 refine FH hL (λ e=>ob e λ i hi e=> ?_) λ e=>ob e λ ts ht e=>ob e λ xs hx e=> ?_
 ·refine om (P:=λ H_=>(∀q∈H_,GK q.1 L.nm=DK q.2/\L.sc.lookup q.1=DK .local)->P) e (λ id hx kR=> ?_) kR;obtain⟨q1,q2⟩:=kR (id,i) (.head _);exact k (m.set i (DK v)) (by rw[l7 hi];rfl) λ Q q=>RC (P:=λ x=>DW (ED Y w) A (OJ x Z y) Q Ex s) hx λ p=>assign_Name (abJ ho q1 q2 I er hC lU r q)
 ·have hg:(IB xs&&EG (LL ts) xs.length)=DN:=by
   unfold RK at hg;rw[ht,show Dd x=DK xs from hx]at hg;exact hg
  have e0:IY (EE D) o t v m U=R.bind (aB.eH (GZ v) U) λ B=>cQ (EG (LL ts) B.length) (MY (EE D) o ts B m) aB.none:=by rw[abV ht];rfl
  rw[e0]at gA;cases hv:GZ v with
  |none=>rw[hv]at gA;exact gA.elim|some B=>
   rw[hv]at gA e0;have gA:R.ns (cQ (EG (LL ts) B.length) (MY (EE D) o ts B m) aB.none U):=gA;cases hb:EG (LL ts) B.length with
   |false=>rw[hb]at gA;exact gA.elim|true=>
    have hl:=GV hb;refine k (Kh H_ B m) (e0.trans (by show cQ (EG (LL ts) B.length) (MY (EE D) o ts B m) aB.none U=_;rw[hb];exact aCY e hl U)) λ Q q=> ?_;refine Ku (P:=λ x=>DW (ED Y w) A (OJ x Z y) Q Ex s) hx λ j p=>r.eT hv λ a ys g1 g2 g3=> ?_;refine akN hh (IsT.dK g1) (by rw[(Uy (DO hg).1).1,HW,<-g3.length,<-hl];exact(GV (DO hg).2).symm) (Uy (DO hg).1).2 λ h' he=> ?_;obtain⟨I',X'⟩:=U0 I he;have kk:∀b ob,s.heap.get? b=DK ob->h'.get? b=DK ob:=λ b ob e=>he b ob (VC (HV e)) e;exact awN (s:={s with heap:=h'}) ho lU hC e kR (g3.bB X'.bB) hl I' (er.nP (own:=[]) ⟨λ b ob J e=>kk b ob e,.inl rfl⟩ ⟨λ J h=>(IK h),λ J h=>(IK h),λ J h=>(IK h)⟩ (λ J J h=>(IK h)) dS) Q λ cV bT mR S' sZ=>q cV bT mR (dG.seq ⟨λ b ob J e=>kk b ob e,.inl rfl⟩ S') sZ
structure fQ(w:EV)(K:EQ)(n:DL)(A:HG)(fr:DM Env)(L:Mx)(Z:Env)(it:DZ)(own:DM DZ)(bE:HP)(i0:DL)(I_:DZ)(c0:Cx)(h0:ES)(k:DL)(m:Lv)(c:Cx)(U:aS)(h:ES):Prop where
 ct:Ct w K n A fr L m c U h Z
 itr:eN w c h it own bE k
 pv:Pv c (Z.locals::own)
 new:∀a∈Z.locals::own,h0.get? a=DP
 nd:Z.locals∉own
 cels:∀a∈Z.cells.map (·.2),a∉Z.locals::own
 ext:bM [] c0 h0 c h
 fr0:gF fr c0 h0
 acc:c.ρ[i0]? =DK (I_,I_)
section
variable {i0:DL}{I_:DZ}{k':DL}
theorem fQ.kW(C:fQ w K n A fr L Z it own bE i0 I_ c0 h0 k m c U h):∀a∈Z.locals::own,∃ob,h.get? a=DK ob:=λ a ha=>by
 rcases IV.mp ha with rfl|ha
 ·exact C.ct.dS _ (.head _)
 ·exact by obtain⟨ob,e,_⟩:=C.itr.kW a ha;exact⟨ob,e⟩
theorem fQ.step(C:fQ w K n A fr L Z it own bE i0 I_ c0 h0 k m c U h)(S:dG (Z.locals::own) c h c' h')(I:aZ w K U c' h')(er:dD w L m' c' h' Z)(R:eN w c' h' it own bE k'):fQ w K n A fr L Z it own bE i0 I_ c0 h0 k' m' c' U h' where
 ct:=⟨C.ct.rm,C.ct.jV,λ x hx=>by
   obtain⟨h1,H_,o,h2,h3,hd,h4,h5⟩:=C.ct.iH x hx;obtain⟨_,L',o',g2,g3,_⟩:=C.fr0 x hx;rw[h2]at g2;cases g2;have hL:H_∉Z.locals::own:=λ z=>by rw[C.new H_ z]at g3;cases g3
   refine⟨h1,H_,o,h2,S.keep H_ o hL h3,hd,?_,?_⟩
   ·rcases S.cx with q|⟨T,q,nn,_⟩
    ·rw[q];exact h4
    ·rw[q];exact⟨λ f=>f.elim h4.1 λ z=>FZ h3 nn z,h4.2⟩
   ·rcases S.cx with q|⟨T,q,nn,_⟩<;>(rw[q];exact h5),er,λ a ha=>by
   rcases IV.mp ha with rfl|ha
   ·obtain⟨mm,⟨ob,H,ep,e1,_⟩,_⟩:=er.loc;exact⟨ob,e1⟩
   ·obtain⟨ob,e⟩:=C.ct.dS a (.tail _ ha);exact⟨ob,S.keep a ob (C.cels a ha) e⟩,I⟩
 itr:=R
 pv:=S.pv C.pv C.kW
 new:=C.new
 nd:=C.nd
 cels:=C.cels
 ext:=S.mB C.pv C.ext C.new
 fr0:=C.fr0
 acc:=(S.bB C.pv).ρ _ _ C.acc
theorem fQ.oE(C:fQ w K n A fr L Z it own bE i0 I_ c0 h0 k m c U h)(X:bM [] c h c' h')(I:aZ w K G c' h'):fQ w K n A fr L Z it own bE i0 I_ c0 h0 k m c' G h' where
 ct:=C.ct.ext I X
 itr:=C.itr.ext (Pv.mk (λ a ha=>C.pv.fz a (.tail _ ha)) (λ a ha=>C.pv.ρ a (.tail _ ha)) (λ a ha=>C.pv.cC a (.tail _ ha))) X (λ J J h=>IK h)
 pv:=C.pv.ext X C.kW
 new:=C.new
 nd:=C.nd
 cels:=C.cels
 ext:=C.ext.trans X
 fr0:=C.fr0
 acc:=X.ρ _ _ C.acc
def MD(i:DL)(r:R (Fl×Lv)):R V:=R.bind (Yp r) (pg (.ref i))
theorem qr{r:R (Fl×Lv)}(h:R.ns (MD i r)):R.ns r:=by
 cases r with
 |bL=>exact h|_=>trivial
theorem aaQ{α β γ:Type}{Rf:Cx->ES->V->γ->Prop}{Rl:Cx->ES->α->β->Prop}{ok:aM}{t:JN β}{x:aB α}{f:α->aB (Fl×Lv)}{Q:γ->EB->Prop}{g:β->EB->Prop}
  (p:PR w K Rf FE [] c0 s0 (MD i (aB.bind x f U)) Q E)(ih:∀(Q:β->EB->Prop) (E:aJ),PR w K Rl ok π c {s0 with heap:=h,toks:=tk} (x U) Q E->DW Mo A t Q E {s0 with heap:=h,toks:=tk})
  (kx:∀v G c' h' bT y,aZ w K G c' h'->bM π c h c' h'->Rl c' h' v y->PR w K Rf FE [] c0 s0 (MD i (f v G)) Q E->g y {s0 with heap:=h',toks:=bT}):DW Mo A t g E2 {s0 with heap:=h,toks:=tk}:=by
 have p:PR w K Rf FE [] c0 s0 (MD i (R.bind (x U) f)) Q E:=p;cases hx:x U with
 |ok v G=>
  rw[hx]at p ih;exact ih g E2 λ c' h' bT y I X r=>kx v G c' h' bT y I X r p
 |cD e G=>rw[hx]at p;exact p.elim|bL=>rw[hx]at p;exact p.elim
def cF(D:Tb)(o:JM)(t:T)(ifs:Es)(emit:Lv->aB (Fl×Lv)):V->Lv->aB (Fl×Lv):=λ v m=>aB.bind (IY (EE D) o t v m) λ m'=>aB.bind (HL (EE D) o ifs m').2 λ b=>cQ b (emit m') (aB.pure (.next,m'))
theorem axE{α β:Type}{r:aD α}{f:α->aB β}(h:R.ns (R.bind r f)):R.ns r:=by
 cases r with
 |bL=>exact h|_=>trivial
theorem mw{xs:DM Expr}{emit:Lv->aB (Fl×Lv)}{γ:Type}{Rf:Cx->ES->V->γ->Prop}{Q:γ->EB->Prop}{N EM SK:EB->Prop}{nn:DL}
  (hL:QC t x=DK H_)(kR:∀q∈H_,GK q.1 L.nm=DK q.2/\L.sc.lookup q.1=DK .local)(ho:KC L=DN)(hg:RK t x=DN)
  (gM:Cj bE=DN∨dK x=DN)(hB:WR Y w K n D o L ifs xs)
  (C:fQ w K n A fr L Z it own bE i0 I_ c0 s0.heap k m c U h)(p:PR w K Rf FE [] c0 s0 (MD i0 (rest (cF D o t ifs emit) bE nn k m U)) Q E)
  (hN:∀c' h' tk,fQ w K n A fr L Z it own bE i0 I_ c0 s0.heap k m c U h->dG own c h c' h'->PR w K Rf FE [] c0 s0 (.ok (.ref i0) U) Q E->N {s0 with heap:=h',toks:=tk})
  (zF:∀m' lW G c' h' bT,fQ w K n A fr L Z it own bE i0 I_ c0 s0.heap (k+1) m' c' G h'->left bE lW (k+1)<left bE nn k->PR w K Rf FE [] c0 s0 (MD i0 (aB.bind (emit m') (Mq (cF D o t ifs emit) bE lW (k+1)) G)) Q E->EM {s0 with heap:=h',toks:=bT})
  (zG:∀m' lW G c' h' bT,fQ w K n A fr L Z it own bE i0 I_ c0 s0.heap (k+1) m' c' G h'->left bE lW (k+1)<left bE nn k->PR w K Rf FE [] c0 s0 (MD i0 (rest (cF D o t ifs emit) bE lW (k+1) m' G)) Q E->SK {s0 with heap:=h',toks:=bT}):
  DW (ED Y w) A (PU (.ref it)) (λ r dQ=>match r with
   |none=>N dQ|some v=>DW (ED Y w) A (VU x (.ref it) v) (λ J nQ=>DW (ED Y w) A (OJ x Z v) (λ J hU=>DW (ED Y w) A (Gh xs Z DN) (λ ok lD=>if ok=DN then EM lD else SK lD) E2 hU) E2 nQ) E2 dQ) E2 {s0 with heap:=h,toks:=tk}:=by
 have pown:Pv c own:=⟨λ a ha=>C.pv.fz a (.tail _ ha),λ a ha=>C.pv.ρ a (.tail _ ha),λ a ha=>C.pv.cC a (.tail _ ha)⟩;refine aa6 (qr (Pg p)) (λ dM e1=> ?_) λ v n' dM fW e1=> ?_
 ·refine eN.mN (s:={s0 with heap:=h,toks:=tk}) C.ct.bW pown C.ct.rm.hh (by rw[dM];exact nofun) (λ J h' aS=> ?_) (λ v hv=>(by cases dM.symm.trans hv)) C.itr gM;rw[e1]at p;exact hN c h' tk C aS p
 ·refine eN.mN (s:={s0 with heap:=h,toks:=tk}) C.ct.bW pown C.ct.rm.hh (by rw[dM];exact nofun) (λ hv=>(by cases dM.symm.trans hv)) (λ v' kU c' h' bT xv aS rv R'=> ?_) C.itr gM;cases dM.symm.trans kU;rw[e1]at p;have S1:=aS.dL (b:=Z.locals::own) λ a ha=>.tail _ ha;have er1:dD w L m c' h' Z:=C.ct.er.nP aS pown (λ a ha hm=>(IV.mp ha).elim (λ e=>C.nd (e▸hm)) λ ha=>C.cels a ha (.tail _ hm)) C.ct.dS;have C1:=C.step S1 (S1.bW C.pv C.ct.bW) er1 R';have hh:=C.ct.rm.hh;clear C aS S1 R' pown e1 dM kU;have p1:PR w K Rf FE [] c0 s0 (MD i0 (R.bind (R.bind (IY (EE D) o t v m U) λ m'=>aB.bind (HL (EE D) o ifs m').2 λ b=>cQ b (emit m') (aB.pure (.next,m'))) (Mq (cF D o t ifs emit) bE n' (k+1)))) Q E:=p;rw[X!]at p1;clear p;refine akM (s:={s0 with heap:=h',toks:=bT}) (A:=A) (Ex:=E2) (Y:=Y) (v:=v) hL kR ho (C1.pv.cC _ (.head _)) (λ a ha z=>C1.cels a ha (by rw[z];exact .head _)) hg hh C1.ct.dS C1.ct.bW er1 rv (axE (qr (Pg p1))) λ m' em go=>go _ λ h2 eK I2 S2 vB=> ?_;have C2:=C1.step (S2.dL λ a ha=>GY.mp ha▸ .head _) I2 vB (C1.itr.at (S2.bB (.bN (C1.pv.fz _ (.head _)) (C1.pv.ρ _ (.head _)) (C1.pv.cC _ (.head _)))) λ a ha ob e=>S2.keep a ob (λ z=>C1.nd (GY.mp z▸ha)) e);rw[em]at p1;clear C1 S2 vB I2 em go;have p2:PR w K Rf FE [] c0 s0 (MD i0 (R.bind (R.bind ((HL (EE D) o ifs m').2 U) λ b=>cQ b (emit m') (aB.pure (.next,m'))) (Mq (cF D o t ifs emit) bE n' (k+1)))) Q E:=p1;rw[X!]at p2;refine aaQ (s0:=s0) p2 (λ Q E=>hB A fr Z m' c' U {s0 with heap:=h2,toks:=eK} Q E C2.ct) λ b cN c3 h3 cU b' I3 X3 rb p3=> ?_;cases rb;have C3:=C2.oE X3 I3;cases b with
  |true=>rw[GG rfl];exact zF m' n' cN c3 h3 cU C3 fW p3|false=>rw[FU FJ];exact zG m' n' cN c3 h3 cU C3 fW p3
end
end
section
variable {w:EV}{K:EQ}{D:Tb}{L:Mx}{E Ex:aJ}{s0:EB}{own:DM DZ}{nn:DL}{i0:DL}{I_:DZ}
 {xs:DM Expr}{γ:Type}{Rf:Cx->ES->V->γ->Prop}{Q:γ->EB->Prop}
def Wd(D:Tb)(o:JM)(fF:aA)(d:V)(m':Lv):aB (Fl×Lv):=aB.bind (MW D o fF m') λ y=>aB.bind (aB.st (gK .append d [y])) λ J=>aB.pure (.next,m')
def Wc(D:Tb)(o:JM)(a b:aA)(d:V)(m':Lv):aB (Fl×Lv):=aB.bind (MW D o a m') λ k=>aB.bind (MW D o b m') λ y=>aB.bind (Kb d k y) λ J=>aB.pure (.next,m')
inductive N3(w:EV)(K:EQ)(n:DL)(A:HG)(fr:DM Env)(L:Mx)(Z:Env)(it:DZ)(own:DM DZ)(bE:HP)(i0:DL)(I_:DZ)(c0:Cx)(s0:EB){γ:Type}(Rf:Cx->ES->V->γ->Prop)(Q:γ->EB->Prop)(E:aJ)(F:V->Lv->aB (Fl×Lv)):DL->EB->Prop
 |mk {nn k:DL} {m:Lv} {c:Cx} {U:aS} {h:ES} {tk:DL}:fQ w K n A fr L Z it own bE i0 I_ c0 s0.heap k m c U h->PR w K Rf FE [] c0 s0 (MD i0 (rest F bE nn k m U)) Q E->N3 w K n A fr L Z it own bE i0 I_ c0 s0 Rf Q E F (left bE nn k) {s0 with heap:=h,toks:=tk}
theorem a8{α β:Type}{Rl:Cx->ES->α->β->Prop}{ok:aM}{t:JN β}{x:aB α}{f:α->aB (Fl×Lv)}{f2:Fl×Lv->aB (Fl×Lv)}{g:β->EB->Prop}
  (p:PR w K Rf FE [] c0 s0 (MD i (aB.bind (aB.bind x f) f2 U)) Q E)(ih:∀(Q:β->EB->Prop) (E:aJ),PR w K Rl ok π c {s0 with heap:=h,toks:=tk} (x U) Q E->DW Mo A t Q E {s0 with heap:=h,toks:=tk})
  (kx:∀v G c' h' bT y,aZ w K G c' h'->bM π c h c' h'->Rl c' h' v y->PR w K Rf FE [] c0 s0 (MD i (aB.bind (f v) f2 G)) Q E->g y {s0 with heap:=h',toks:=bT}):DW Mo A t g E2 {s0 with heap:=h,toks:=tk}:=
 aaQ (f:=λ v=>aB.bind (f v) f2) (by rw[<-jr];exact p) ih kx
theorem qq{α:Type}{y:DQ (α×aS)}{f:α->aB (Fl×Lv)}{f2:Fl×Lv->aB (Fl×Lv)}(p:PR w K Rf FE [] c0 s0 (MD i (R.bind (R.bind (aB.o2 y) f) f2)) Q E){P:Prop}
  (kx:∀v G,y=DK (v,G)->PR w K Rf FE [] c0 s0 (MD i (aB.bind (f v) f2 G)) Q E->P):P:=by
 obtain- |q:=y
 ·exact p.elim
 ·exact kx q.1 q.2 rfl p
theorem avK{fF:aA}{iter:Expr}{R:QL->EB->Prop}
  (hL:QC t x=DK H_)(kR:∀q∈H_,GK q.1 L.nm=DK q.2/\L.sc.lookup q.1=DK .local)(ho:KC L=DN)(hg:RK t x=DN)(gM:Cj bE=DN∨dK x=DN)(hB:WR Y w K n D o L ifs xs)(he:SE Y w K n D o L fF ex)
  (C:fQ w K n A fr L Z it own bE i0 I_ c0 s0.heap k m c U h)(p:PR w K Rf FE [] c0 s0 (MD i0 (rest (cF D o t ifs (Wd D o fF (.ref i0))) bE nn k m U)) Q E)
  (hR:∀k' m' c G h c' h' tk,fQ w K n A fr L Z it own bE i0 I_ c0 s0.heap k' m' c G h->dG own c h c' h'->PR w K Rf FE [] c0 s0 (.ok (.ref i0) G) Q E->R (.ok .next) {s0 with heap:=h',toks:=tk}):
  MC (ED Y w) A (.compLoop (.ListComp ex [⟨x,iter,xs,0⟩] scope pos) 0 (.ref it) (.ref I_) Z) R {s0 with heap:=h,toks:=tk}:=by
 refine avN (N3 w K n A fr L Z it own bE i0 I_ c0 s0 Rf Q E (cF D o t ifs (Wd D o fF (.ref i0)))) (λ d s' hI=> ?_) (left bE nn k) (.mk C p);clear C p;obtain⟨C,p⟩:=hI;refine mw hL kR ho hg gM hB C p (λ c' h' tk C S p=>hR _ _ _ _ _ c' h' tk C S p) (λ m' lW G c' h' bT C' fW p'=> ?_) λ m' lW G c' h' bT C' fW p'=>⟨_,fW,.mk C' p'⟩;refine a8 (s0:=s0) p' (λ Q E=>he A fr Z m' c' G {s0 with heap:=h',toks:=bT} Q E C'.ct) λ y dB c2 h2 eK yv I2 X2 ry p2=>qq p2 λ u cN e p3=> ?_;have C2:=C'.oE X2 I2;exact yl (b:=.append) (v:=.ref i0) (x:=.ref I_) (s:={s0 with heap:=h2,toks:=eK}) I2 (.ref C2.acc) (.cons ry .nil) e λ c3 h3 cU J I3 X3 J=>⟨_,fW,.mk (C2.oE X3 I3) p3⟩
theorem avJ{ka va:aA}{iter:Expr}{R:QL->EB->Prop}
  (hL:QC t x=DK H_)(kR:∀q∈H_,GK q.1 L.nm=DK q.2/\L.sc.lookup q.1=DK .local)(ho:KC L=DN)(hg:RK t x=DN)(gM:Cj bE=DN∨dK x=DN)(hB:WR Y w K n D o L ifs xs)(h1:SE Y w K n D o L ka kx)(h2:SE Y w K n D o L va vx)
  (C:fQ w K n A fr L Z it own bE i0 I_ c0 s0.heap k m c U h)(p:PR w K Rf FE [] c0 s0 (MD i0 (rest (cF D o t ifs (Wc D o ka va (.ref i0))) bE nn k m U)) Q E)
  (hR:∀k' m' c G h c' h' tk,fQ w K n A fr L Z it own bE i0 I_ c0 s0.heap k' m' c G h->dG own c h c' h'->PR w K Rf FE [] c0 s0 (.ok (.ref i0) G) Q E->R (.ok .next) {s0 with heap:=h',toks:=tk}):
  MC (ED Y w) A (.compLoop (.DictComp kx vx [⟨x,iter,xs,0⟩] scope pos) 0 (.ref it) (.ref I_) Z) R {s0 with heap:=h,toks:=tk}:=by
 refine avM (N3 w K n A fr L Z it own bE i0 I_ c0 s0 Rf Q E (cF D o t ifs (Wc D o ka va (.ref i0)))) (λ d s' hI=> ?_) (left bE nn k) (.mk C p);clear C p;obtain⟨C,p⟩:=hI;refine mw hL kR ho hg gM hB C p (λ c' h' tk C S p=>hR _ _ _ _ _ c' h' tk C S p) (λ m' lW G c' h' bT C' fW p'=> ?_) λ m' lW G c' h' bT C' fW p'=>⟨_,fW,.mk C' p'⟩;refine a8 (s0:=s0) p' (λ Q E=>h1 A fr Z m' c' G {s0 with heap:=h',toks:=bT} Q E C'.ct) λ kv dB c2 iB eK DE I2 X2 rk p2=> ?_;have C2:=C'.oE X2 I2;refine a8 (s0:=s0) p2 (λ Q E=>h2 A fr Z m' c2 dB {s0 with heap:=iB,toks:=eK} Q E C2.ct) λ y cN c3 h3 cU yv I3 X3 ry p3=> ?_;have C3:=C2.oE X3 I3;exact qq p3 λ J qQ e p4=>ob e λ tx ht e=>zv (s:={s0 with heap:=h3,toks:=cU}) I3 C3.acc ht (rk.bB X3.bB) ry e λ h4 rY I4 X4=>⟨_,fW,.mk (C3.oE X4 I4) p4⟩
end
theorem i5{n:EA}{L:Mx}(h:Zs n L i=DN):GK n L.nm=DK i:=EL h λ j e q=>by rw[e,GV q]
noncomputable def NS(names:DM (EA×KR))(cells:DM (EA×DZ))(acc:DM (EA×DZ)):DM (EA×DZ):=match names with
 |[]=>acc|(n,k)::r=>if(k==.free)=DN then NS r cells ((n,(cells.lookup n).getD 0)::acc)else NS r cells acc
theorem amX{Z:Env}(names:DM (EA×KR))(acc:DM (EA×DZ))(h:∀q∈names,q.2=.free->∃a,Z.cells.lookup q.1=DK a):
  (Wt names acc λ x cs=>(do if(x.2==.free)=DN then(do let a<-cellOf Z x.1;pure (Lq ((x.1,a)::cs)))else pure (Lq cs)):JN (DM (EA×DZ)))=pure (NS names Z.cells acc):=by
 induction names generalizing acc with
 |nil=>rfl|cons q r ih=>
  have i:=λ acc=>ih acc λ q hq=>h q (.tail _ hq);rw[Ac];show _=pure (if(q.2==.free)=DN then NS r Z.cells ((q.1,(Z.cells.lookup q.1).getD 0)::acc)else NS r Z.cells acc);by_cases hk:(q.2==bj)=DN
  ·obtain⟨a,ha⟩:=h q (.head _) (Eg.mp hk);have ec:cellOf Z q.1=pure a:=by unfold cellOf;rw[ha]
   rw[GG hk,GG hk,ha,ec,pure_bind,pure_bind];exact i _
  ·rw[FU hk,FU hk,pure_bind];exact i _
theorem amY(h:∀q∈scope.names,q.2=.free->∃a,Z.cells.lookup q.1=DK a):closureFor scope Z=pure (NS scope.names Z.cells []):=by
 have:=amX scope.names [] h;unfold closureFor
 first
  |(rw[<-this];rfl)
  |(simp only[this,pure_bind];done)
theorem amQ{cells:DM (EA×DZ)}(names:DM (EA×KR))(acc:DM (EA×DZ)){q:EA×DZ}(hf:∀p∈names,p.2=.free->∃a,cells.lookup p.1=DK a)(h:q∈NS names cells acc):q∈acc∨cells.lookup q.1=DK q.2:=by
 induction names generalizing acc with
 |nil=>exact .inl h|cons p r ih=>
  have h:q∈(if(p.2==.free)=DN then NS r cells ((p.1,(cells.lookup p.1).getD 0)::acc)else NS r cells acc):=h;have i:=λ acc=>ih acc λ p hp=>hf p (.tail _ hp);by_cases hk:(p.2==bj)=DN
  ·rw[GG hk]at h;obtain⟨a,ha⟩:=hf p (.head _) (Eg.mp hk);refine(i _ h).elim (λ h=>(IV.mp h).elim (λ z=>.inr ?_) .inl) .inr;rw[z];show cells.lookup p.1=DK ((cells.lookup p.1).getD 0);rw[ha];rfl
  ·rw[FU hk]at h;exact i _ h
theorem amP{cells:DM (EA×DZ)}(names:DM (EA×KR))(acc:DM (EA×DZ)){n:EA}(h:(∃p∈names,p.2=.free/\p.1=n)∨∃p∈acc,p.1=n):∃p∈NS names cells acc,p.1=n:=by
 induction names generalizing acc with
 |nil=>exact h.elim (λ ⟨p,hp,_⟩=>EP hp KG) id|cons q r ih=>
  show∃p∈(if(q.2==.free)=DN then NS r cells ((q.1,(cells.lookup q.1).getD 0)::acc)else NS r cells acc),p.1=n;by_cases hk:(q.2==bj)=DN
  ·rw[GG hk];refine ih _ (h.elim (λ ⟨p,hp,e1,e2⟩=>(IV.mp hp).elim (λ z=>.inr ⟨_,.head _,z▸e2⟩) λ hp=>.inl ⟨p,hp,e1,e2⟩) λ ⟨p,hp,e⟩=>.inr ⟨p,.tail _ hp,e⟩)
  ·rw[FU hk];exact ih _ (h.imp (λ ⟨p,hp,e1,e2⟩=>(IV.mp hp).elim (λ z=>EP (Eg.mpr (z▸e1)) hk) λ hp=>⟨p,hp,e1,e2⟩) id)
theorem avE{β:Type}{f:EA->DQ β}{l:DM (EA×β)}{n:EA}(hf:∀p∈l,f p.1=DK p.2)(h:∃p∈l,p.1=n):l.lookup n=f n:=by
 induction l with
 |nil=>obtain⟨p,hp,_⟩:=h;exact EP hp KG
 |cons q l ih=>
  rw[Af];cases hy:n==q.1 with
  |true=>exact(Eg.mp hy▸hf q (.head _)).symm|false=>
   refine ih (λ p hp=>hf p (.tail _ hp)) ?_;obtain⟨p,hp,e⟩:=h;rcases IV.mp hp with z|hp
   ·exact EP (z▸e).symm (Nc.mp hy)
   ·exact⟨p,hp,e⟩
structure M9(L:Mx)(scope:QM)(H_:DM (EA×DL)):Prop where
 kind:scope.kind=.function
 cell:∀q∈scope.names,q.2≠ .cell
 loc:∀q∈scope.names,q.2=.local->scope.names.lookup q.1=DK .local
 ok:KC (II L scope.names H_)=DN
 tg:∀q∈H_,GK q.1 (II L scope.names H_).nm=DK q.2/\(II L scope.names H_).sc.lookup q.1=DK .local
 sl:∀n i,GK n (II L scope.names H_).nm=DK i->ab8 L (II L scope.names H_) scope.names n i=DN
 fr:∀q∈scope.names,q.2=.free->(∃i,GK q.1 L.nm=DK i)/\L.sc.lookup q.1=DK .cell
theorem Ph{a b:DU}(h:(!a||b)=DN)(z:a=DN):b=DN:=by
 rw[z]at h;exact h
theorem No{L:Mx}(h:XB L scope H_=DN):M9 L scope H_:=
 have h7:=(DO h).2;have h:=(DO h).1;have h6:=(DO h).2;have h:=(DO h).1;have h5:=(DO h).2;have h:=(DO h).1;have h4:=(DO h).2;have h:=(DO h).1;have h3:=(DO h).2;have h:=(DO h).1;have h2:=(DO h).2;have h1:=(DO h).1
 ⟨GW h1,λ q hq z=>EP (FQ.mp h2 q hq) (by rw[z];exact FJ),λ q hq z=>UD (Ph (FQ.mp h3 q hq) (by rw[z];rfl)),h4,
  λ q hq=>⟨i5 (DO (FQ.mp h5 q hq)).1,UD (DO (FQ.mp h5 q hq)).2⟩,
  λ n i e=>by
   obtain⟨t,ht,en⟩:=Qh e;have:=FQ.mp h6 _ ht;rw[<-en,e]at this;exact this,
  λ q hq z=>have g2:=(DO (Ph (FQ.mp h7 q hq) (by rw[z];rfl))).2;have g1:=(DO (Ph (FQ.mp h7 q hq) (by rw[z];rfl))).1;⟨Md.mp g1,UD g2⟩⟩
section
variable {w:EV}{K:EQ}{D:Tb}{L:Mx}{E Ex:aJ}{s0:EB}{own:DM DZ}{nn:DL}{i0:DL}{I_:DZ}
theorem dD.uU(F:M9 L scope H_)(er:dD w L m c h Z):∀q∈scope.names,q.2=.free->∃a,Z.cells.lookup q.1=DK a:=λ q hq z=>by
 obtain⟨⟨i,hi⟩,hk⟩:=F.fr q hq z;obtain⟨a,vo,e,_⟩:=er.jU q.1 i hi hk;exact⟨a,e⟩
theorem aA3(er:dD w L m c h Z):(relabel scope Z).names=(II L scope.names H_).sc:=by
 show scope.names.map _=scope.names.map _;have hk:Z.scope.kind=.function:=er.kind;have hl:=PN er;simp only[hk,hl]
theorem an9{C:DZ}(F:M9 L scope H_)(er:dD w L m c h Z)(tN:∀a∈FD Z,∃ob,h.get? a=DK ob)(I:aZ w K U c h)(hn:h.get? C=DP)(kp:∀b ob,h.get? b=DK ob->h'.get? b=DK ob)(ns:h'.Ns C (λ J=>DP)):
  dD w (II L scope.names H_) m c h' (compEnvC scope (NS scope.names Z.cells []) C Z)/\∀a∈(NS scope.names Z.cells []).map (·.2),a∈Z.cells.map (·.2):=by
 have hc:=dD.uU F er;have mem:∀q∈NS scope.names Z.cells [],Z.cells.lookup q.1=DK q.2:=λ q hq=>(amQ scope.names [] hc hq).elim (λ z=>(IK z)) λ z=>z;have sub:∀a∈(NS scope.names Z.cells []).map (·.2),a∈Z.cells.map (·.2):=λ a ha=>by
  obtain⟨q,hq,rfl⟩:=LN.mp ha;exact LN.mpr ⟨(q.1,q.2),mem_of_lookup (mem q hq),rfl⟩
 have mo:dR c h c h':=⟨λ J J e=>e,λ J e=>e,λ b ob J e=>kp b ob e⟩;refine⟨⟨aA3 er,by show(relabel scope Z).kind=_;exact F.kind,er.glob,er.bu,⟨_,ns,λ y i e1 e2 v hv=> ?_⟩,λ y i e1 e2=> ?_,λ a ha=> ?_,λ J h=>(IK h)⟩,sub⟩
 ·obtain⟨j,hj,e⟩:=Ab.mp (Ph (DO (F.sl y i e1)).1 (by rw[e2];rfl));rw[GV e]at hv;exact EP hv (er.free j hj v)
 ·have⟨g,g3⟩:=DO (Ph (DO (F.sl y i e1)).2 (by rw[e2];rfl));have hs:=i5 (DO g).1;have hk:=UD (DO g).2;obtain⟨q,hq,g4⟩:=Ab.mp g3;have GF:=amP (cells:=Z.cells) scope.names [] (n:=y) (.inl ⟨q,hq,GW (DO g4).1,GW (DO g4).2⟩);obtain⟨a,vo,c1,⟨oc,c2,c3⟩,c4⟩:=er.jU y i hs hk;refine⟨a,vo,?_,⟨oc,kp _ _ c2,c3⟩,c4.bB mo⟩;show(NS scope.names Z.cells []).lookup y=DK a;rw[avE (f:=λ n=>Z.cells.lookup n) mem GF,c1]
 ·rcases IV.mp ha with rfl|ha
  ·refine⟨λ f=> ?_,λ p hp=> ?_⟩
   ·obtain⟨ob,e⟩:=I.dom _ f;exact FZ e hn rfl
   ·obtain⟨⟨o1,e1⟩,⟨o2,e2⟩⟩:=I.mV hp;exact⟨(FZ e1 hn).symm,(FZ e2 hn).symm⟩
  ·exact er.eJ a (.tail _ (sub a ha))
theorem fQ.CF{wO:Mx}{pB:Env}{dB:aS}{c2:Cx}{h2 h3:ES}(C:Ct w K n A fr L m c U h0 Z)(X:bM [] c h0 c2 h2)(I2:aZ w K dB c2 h2)(f2:gF fr c2 h2)(R2:eN w c2 h2 it own bE 0)(P2:Pv c2 own)(jP:∀a∈own,h0.get? a=DP)(lv:∀a∈own,∃ob,h2.get? a=DK ob)
  (hn:h2.get? pB.locals=DP)(kp:∀b o',h2.get? b=DK o'->h3.get? b=DK o')(oC:dD w wO m c2 h3 pB)(sub:∀a∈pB.cells.map (·.2),a∈Z.cells.map (·.2))(acc:c2.ρ[i0]? =DK (I_,I_)):fQ w K n A fr wO pB it own bE i0 I_ c h0 0 m c2 dB h3:=
 have X3:bM [] c2 h2 c2 h3:=.eY kp;have P3:=P2.ext X3 lv;have hB:h0.get? pB.locals=DP:=JP X.dom hn
 {ct:=⟨C.rm,C.jV,f2.ext X3 Pd,oC,NJ.mpr ⟨by obtain⟨_,⟨o',_,_,e,_⟩,_⟩:=oC.loc;exact⟨o',e⟩,λ a ha=>by obtain⟨_,e⟩:=C.dS a (.tail _ (sub a ha));exact by obtain⟨o2,e2⟩:=X.dom a _ e;exact⟨o2,kp _ _ e2⟩⟩,I2.eY kp⟩
  itr:=R2.at X3.bB λ a J o' e=>kp a o' e
  pv:=⟨NJ.mpr ⟨(oC.eJ _ (.head _)).1,P3.fz⟩,NJ.mpr ⟨(oC.eJ _ (.head _)).2,P3.ρ⟩,NJ.mpr ⟨by obtain⟨_,e⟩:=C.bW.cC.2.2;exact λ z=>FZ e hB z.symm,P3.cC⟩⟩
  new:=NJ.mpr ⟨hB,jP⟩
  nd:=λ hm=>by obtain⟨_,e⟩:=lv _ hm;exact FZ e hn rfl
  cels:=λ a ha hm=>by obtain⟨_,e⟩:=C.dS a (.tail _ (sub a ha));exact(IV.mp hm).elim (λ z=>FZ e hB z) λ z=>by rw[jP a z]at e;exact EW e
  ext:=X.trans X3
  fr0:=C.iH
  acc:=acc}
theorem an8{k':DL}{F_:Prop}(C:fQ w K n A fr L Z it own bE i0 I_ c0 h0 k' m c U h)(S:dG own c h c' h')(g:∀mm,aZ w K U c' h'->bM [] c0 h0 c' h'->VR w c' h' (.ref i0) (.ref I_)->h'.Ns Z.locals mm->Pv c' [Z.locals]->F_):F_:=
 have S6:=S.dL λ a ha=>.tail _ ha
 let⟨mm,ns,_⟩:=C.ct.er.loc
 have P5:=S6.pv C.pv C.kW
 g mm (S6.bW C.pv C.ct.bW) (S6.mB C.pv C.ext C.new) (.ref ((S6.bB C.pv).ρ _ _ C.acc)) (Zu ns λ o' e=>.inl (S.keep _ o' C.nd e)) (.bN (P5.fz _ (.head _)) (P5.ρ _ (.head _)) (P5.cC _ (.head _)))
theorem mf{e0:aA}{emit:V->Lv->aB (Fl×Lv)}{b0:O}{ob:GT}{e iter:Expr}{xs:DM Expr}{wP:JN DS}{γ:Type}{Rf:Cx->ES->V->γ->Prop}{Q:γ->EB->Prop}
  (zU:∀m,MW D o e0 m=aB.bind (NU (EE D) o fM m) λ bE U=>MD U.length (WC (cF D o t ifs (emit (.ref U.length))) bE m (U++[b0])))
  (rC:clausesOf e=[⟨x,iter,xs,0⟩])(iS:UG iter=DN)(hL:QC t x=DK H_)(hg:RK t x=DN)(hF:XB L scope H_=DN)(gM:UK fM=DN∨dK x=DN)
  (fP:ML Y w K n D o L fM iter)
  (oJ:∀{Q:aJ} {E:aJ} {s:EB},Q (.ref s.heap.objs.size) {s with heap:=s.heap.push ob}->DW (ED Y w) A wP Q E s)(AN:ob.isFreed=DT)(AO:∀c h I_,h.get? I_=DK ob->OR w c h b0 (I_,I_))
  (AV:∀{R:QL->EB->Prop} {it acc:DS} {Z:Env} {s:EB},MC (ED Y w) A (.compLoop e 0 it acc Z) R s->DW (ED Y w) A (Cm it) (λ BE s'=>MC (ED Y w) A (.compLoop e 0 BE acc Z) R s') (PQ (ED Y w) A Z λ x s'=>R (.error x) s') s->MC (ED Y w) A (.compStart e 0 it acc Z) R s)
  (AG:∀{Z:Env} {it:DZ} {own:DM DZ} {bE:HP} {i0:DL} {I_:DZ} {c0:Cx} {s0:EB} {k nn:DL} {m:Lv} {c:Cx} {U:aS} {h:ES} {tk:DL} {R:QL->EB->Prop},(Cj bE=DN∨dK x=DN)->fQ w K n A fr (II L scope.names H_) Z it own bE i0 I_ c0 s0.heap k m c U h->
   PR w K Rf FE [] c0 s0 (MD i0 (rest (cF D o t ifs (emit (.ref i0))) bE nn k m U)) Q E->
   (∀k' m' c G h c' h' tk,fQ w K n A fr (II L scope.names H_) Z it own bE i0 I_ c0 s0.heap k' m' c G h->dG own c h c' h'->PR w K Rf FE [] c0 s0 (.ok (.ref i0) G) Q E->R (.ok .next) {s0 with heap:=h',toks:=tk})->
   MC (ED Y w) A (.compLoop e 0 (.ref it) (.ref I_) Z) R {s0 with heap:=h,toks:=tk})
  (C:Ct w K n A fr L m c U s.heap Z)(p:PR w K Rf FE [] c s (MW D o e0 m U) Q E)
  (iC:∀bS i0 c' h' tk I_ D_ mm,PR w K Rf FE [] c s (.ok (.ref i0) bS) Q E->aZ w K bS c' h'->bM [] c s.heap c' h'->VR w c' h' (.ref i0) (.ref I_)->h'.Ns D_ mm->Pv c' [D_]->s.heap.get? D_=DP->Np (ED Y w) A E use Q' (.ref I_) D_ (.ok .next) {s with heap:=h',toks:=tk}):
  DW (ED Y w) A (mz e scope Z pos wP DT (HM iter Z) use) Q' E s:=by
 have F:=No hF;refine wpAny_comprehension_free rC (xr iS) (amY (dD.uU F C.er)) F.kind F.loc ?_;refine fP A fr Z m c U s _ _ C ?_;rw[zU]at p;refine PR.qE p λ bE G hq p c1 h1 gE J I1 X1 hi=> ?_;obtain⟨it,own,rfl,R,P,jP⟩:=hi;refine oJ ?_;have I2:aZ w K (G++[b0]) (c1.own (h1.objs.size,h1.objs.size)) (h1.push ob):=I1.own (p:=(h1.objs.size,h1.objs.size)) (FG _) (FG _) (FO _ _) (AO _ _ _ (HH _ AN));have X2:bM [] c1 h1 (c1.own (h1.objs.size,h1.objs.size)) (h1.push ob):=.own (FG _) (FG _) (FO _ _) (Pp _ _);have C2:=(C.ext I1 X1).ext I2 X2;have lv1:∀a∈own,∃ob,h1.get? a=DK ob:=λ a ha=>by obtain⟨ob,e,_⟩:=R.kW a ha;exact⟨ob,e⟩
 refine wpAny_newFunctionEnv F.cell (λ J hy=>(IK hy)) (λ h3 ns sb=> ?_) F.kind;have hC0:(h1.push ob).get? (h1.push ob).objs.size=DP:=KI (FG _);have kp3:∀b o',(h1.push ob).get? b=DK o'->h3.get? b=DK o':=λ b o' e=>sb.extBut b o' (VC (HV e)) (RM _ e);obtain⟨oC,sub⟩:=an9 (H_:=H_) (scope:=scope) F C2.er C2.dS I2 hC0 kp3 ns;have S:=fQ.CF C (X1.trans X2) I2 C2.iH (R.ext P X2 λ J J h=>(IK h)) (P.ext X2 lv1) jP (λ a ha=>by obtain⟨o',e⟩:=lv1 a ha;exact X2.dom a o' e) hC0 kp3 oC sub (Cx.kZ I1 _);rw[aaI]at p;have go:=AG (tk:=gE+([]:DM (EA×DS)).length) (R:=Np (ED Y w) A E use Q' (.ref h1.objs.size) (h1.push ob).objs.size) (gM.imp (λ q=>qf q hq) λ q=>q) S p λ k' m' c4 qQ h4 c5 h5 lF C4 S5 p5=>an8 C4 S5 λ mm I6 X6 r6 BM P6=>iC qQ G.length c5 h5 lF h1.objs.size (h1.push ob).objs.size mm p5 I6 X6 r6 BM P6 (JP (X1.trans X2).dom hC0);exact AV go (eN.self (s:={s with heap:=h3,toks:=gE+([]:DM (EA×DS)).length}) S.itr go)
theorem aoK{fF:aA}(m:Lv):MW D o (.comp fF t fM ifs) m=aB.bind (NU (EE D) o fM m) λ bE U=>MD U.length (WC (cF D o t ifs (Wd D o fF (.ref U.length))) bE m (U++[.list []])):=rfl
theorem aoL{a b:aA}(m:Lv):MW D o (.iG a b t fM) m=aB.bind (NU (EE D) o fM m) λ bE U=>MD U.length (WC (cF D o t .nil (Wc D o a b (.ref U.length))) bE m (U++[.dict [] []])):=rfl
theorem mj{fF:aA}{iter:Expr}{xs:DM Expr}{ps:FS}{γ:Type}{Rf:Cx->ES->V->γ->Prop}{Q:γ->EB->Prop}
  (iS:UG iter=DN)(hL:QC t x=DK H_)(hg:RK t x=DN)(hF:XB L scope H_=DN)(gM:UK fM=DN∨dK x=DN)(fP:ML Y w K n D o L fM iter)(hB:WR Y w K n D o (II L scope.names H_) ifs xs)(he:SE Y w K n D o (II L scope.names H_) fF ex)
  (C:Ct w K n A fr L m c U s.heap Z)(p:PR w K Rf FE [] c s (MW D o (.comp fF t fM ifs) m U) Q E)
  (iC:∀bS i0 c' h' tk I_ D_ mm,PR w K Rf FE [] c s (.ok (.ref i0) bS) Q E->aZ w K bS c' h'->bM [] c s.heap c' h'->VR w c' h' (.ref i0) (.ref I_)->h'.Ns D_ mm->Pv c' [D_]->s.heap.get? D_=DP->Np (ED Y w) A E use Q' (.ref I_) D_ (.ok .next) {s with heap:=h',toks:=tk}):
  DW (ED Y w) A (mz (.ListComp ex [⟨x,iter,xs,0⟩] scope pos) scope Z ps (newList []) DT (HM iter Z) use) Q' E s:=
 mf (ob:={cls:=.type "list",data:=.seq (ER [])}) (b0:=.list []) (ifs:=ifs) (t:=t) (emit:=Wd D o fF) aoK rfl iS hL hg hF gM fP (λ q=>acX q (by decide)) rfl (λ c h I_ e=>⟨[],0,e,.nil,rfl⟩) (λ h0 h1=>codeAny_compStart_list h0 h1)
  (λ iI S p hR=>avK hL (No hF).tg (No hF).ok hg iI hB he S p hR) C p iC
theorem mh{a b:aA}{iter:Expr}{ps:FS}{γ:Type}{Rf:Cx->ES->V->γ->Prop}{Q:γ->EB->Prop}
  (iS:UG iter=DN)(hL:QC t x=DK H_)(hg:RK t x=DN)(hF:XB L scope H_=DN)(gM:UK fM=DN∨dK x=DN)(fP:ML Y w K n D o L fM iter)(h1:SE Y w K n D o (II L scope.names H_) a kx)(h2:SE Y w K n D o (II L scope.names H_) b vx)
  (C:Ct w K n A fr L m c U s.heap Z)(p:PR w K Rf FE [] c s (MW D o (.iG a b t fM) m U) Q E)
  (iC:∀bS i0 c' h' tk I_ D_ mm,PR w K Rf FE [] c s (.ok (.ref i0) bS) Q E->aZ w K bS c' h'->bM [] c s.heap c' h'->VR w c' h' (.ref i0) (.ref I_)->h'.Ns D_ mm->Pv c' [D_]->s.heap.get? D_=DP->Np (ED Y w) A E use Q' (.ref I_) D_ (.ok .next) {s with heap:=h',toks:=tk}):
  DW (ED Y w) A (mz (.DictComp kx vx [⟨x,iter,[],0⟩] scope pos) scope Z ps newDict DT (HM iter Z) use) Q' E s:=
 mf (ob:=YZ) (b0:=.dict [] []) (ifs:=.nil) (t:=t) (emit:=Wc D o a b) aoL rfl iS hL hg hF gM fP (λ q=>UR q) rfl (λ c h I_ e=>⟨[],0,e,.nil,rfl⟩) (λ h0 h1=>codeAny_compStart_dict h0 h1)
  (λ iI S p hR=>avJ hL (No hF).tg (No hF).ok hg iI z0 h1 h2 S p hR) C p iC
theorem qs{bS:aS}{D_:DZ}{mm:EA->DQ DS}(p:PR w K (VR w) FE [] c s (.ok (.ref i0) bS) Q E)(I:aZ w K bS c' h')(X:bM [] c s.heap c' h')(r:VR w c' h' (.ref i0) (.ref I_))(ns:h'.Ns D_ mm)(P:Pv c' [D_])(hn:s.heap.get? D_=DP):
  Np (ED Y w) A E DP Q (.ref I_) D_ (.ok .next) {s with heap:=h',toks:=tk}:=by
 refine⟨mm,ns,λ cV sb=> ?_⟩;have S:dG [D_] c' h' c' cV:=.bN sb.extBut;exact p c' cV tk (.ref I_) (S.bW P I) (S.mB P X λ a ha=>GY.mp ha▸hn) (r.bB (S.bB P))
theorem af6{fF:aA}{iter:Expr}{xs:DM Expr}
  (iS:UG iter=DN)(hL:QC t x=DK H_)(hg:RK t x=DN)(hF:XB L scope H_=DN)(gM:UK fM=DN∨dK x=DN)(fP:ML Y w K n D o L fM iter)(hB:WR Y w K n D o (II L scope.names H_) ifs xs)(he:SE Y w K n D o (II L scope.names H_) fF ex):
  SE Y w K n D o L (.comp fF t fM ifs) (.ListComp ex [⟨x,iter,xs,0⟩] scope pos):=by
 intro A fr Z m c U s Q E C p;rw[eval_ListComp];exact mj iS hL hg hF gM fP hB he C p λ bS i0 c' h' tk I_ D_ mm p' I X r ns P hn=>qs p' I X r ns P hn
end
section
variable {w:EV}{K:EQ}{D:Tb}{L:Mx}{mb:EA->DQ DS}{Ex:aJ}
theorem Ru(F_:Gf w K D gn mg mb){b:Bi}{H:Es}{id:EA}{T:HB}{xs:DM Expr}(h2:LZ Y w K n D o L H xs)(hn:xs=[]->H=.nil)(hs:IB xs=DN)(hk:L.sc.lookup id=DK .globalImplicit)(g1:mg id=DP)(g2:mb id=DK (.type T))(hd:(id==("__debug__" :EA))=DT)
  (op:∀(A:HG) (c:Cx) (U:aS) (s:EB) (B:DM V) (ys:DM DS) (Q:aJ) (E:aJ),Rm n A->aZ w K U c s.heap->bI w c s.heap B ys->∀v G,gJ b B U=DK (v,G)->PV w K [] c s G v Q->DW (ED Y w) A (call (.type T) ys) Q E s):
  SE Y w K n D o L (.bi b H) (.Call (.Name id np) xs [] pos):=by
 intro A fr Z m c U s Q E C p;refine Z0 F_ h2 hn hs hk g1 g2 hd C ?_;have p2:PR w K (VR w) FE [] c s (R.bind (MX D o H m U) λ B=>aB.st (gJ b B)) Q E:=p;exact PR.qE p2 λ B dB J p2 c2 h2 tk ys I X ra=>PR.o2 (PR.from (tk:=tk) X p2) λ v cN e p=>op A c2 dB _ B ys Q E C.rm I ra v cN e p
theorem ZI(I:aZ w K U c h){a:DZ}(n:h.get? a=DP):¬c.fz a/\(∀p∈c.ρ,a≠p.1/\a≠p.2)/\a≠GQ:=
 ⟨λ f=>by obtain⟨_,e⟩:=I.dom a f;exact FZ e n rfl,λ J hp=>by obtain⟨⟨_,e1⟩,⟨_,e2⟩⟩:=I.mV hp;exact⟨(FZ e1 n).symm,(FZ e2 n).symm⟩,by obtain⟨_,e⟩:=I.cC.2.2;exact(FZ e n).symm⟩
theorem PV.eA{a:DZ}{x:DS}{o:GT}(p:PV w K π c s U v Q)(I:aZ w K U c s.heap)(kk:∀b o,s.heap.get? b=DK o->h'.get? b=DK o)(n:s.heap.get? a=DP)(e:h'.get? a=DK o)(r:VR w (c.eP a) h' v x):Q x {s with heap:=h',toks:=tk}:=
 have N:=ZI I n
 p _ _ tk _ ((I.eY kk).lN ⟨_,e⟩ N.2.1 N.2.2) (.lN (.eY kk) n) r
theorem PV.qB{a:DZ}{b:O}(p:PV w K π c s (U++[b]) (.ref U.length) Q)(I:aZ w K U c s.heap)(kk:∀b o,s.heap.get? b=DK o->h'.get? b=DK o)(n:s.heap.get? a=DP)(r:OR w (c.own (a,a)) h' b (a,a)):Q (.ref a) {s with heap:=h',toks:=tk}:=
 have N:=ZI I n
 p _ _ tk _ ((I.eY kk).kZ (p:=(a,a)) r ⟨N.1,N.1⟩ (λ q hq=>have l:=N.2.1 q hq;⟨l.1,l.2,l.1,l.2⟩) ⟨N.2.2,N.2.2⟩) (.kZ (.eY kk) n n) (.ref (Cx.kZ I _))
theorem anR:∀n,n<10->LB (toString (RN n))=sx [48+n]:=by decide+kernel
theorem anQ:∀n,n<10->(RN n).natAbs.log2<1920:=by decide+kernel
theorem ay7(I:aZ w K U c s.heap)(ra:bI w c s.heap B ys)(e:gJ .str B U=DK (v,G))(p:PV w K [] c s G v Q):DW (ED Y w) A (call (.type "str") ys) Q Ex s:=
 ob e λ u h1 e=>ob e λ i h2 e=>ob e λ n h3 e=>EO e λ hb e=>RE h1 ra λ y r=>r.eI h2 λ t=>by
  rw[Ht h3];have fW:n<10:=GO hb;refine PySem.P.str_of_int (anQ n fW) ?_;rw[show((toString (RN n):HB):EA)=sx [48+n]from anR n fW];exact(p.eq e rfl).iD I (.str _ _)
theorem ayA(I:aZ w K U c s.heap)(ra:bI w c s.heap B ys)(e:gJ .tuple B U=DK (v,G))(p:PV w K [] c s G v Q):DW (ED Y w) A (call (.type "tuple") ys) Q Ex s:=
 ob e λ u h1 e=>RE h1 ra λ y r=>FH e (λ e=>ob e λ us h2 e=>r.eT (P:=λ y=>DW (ED Y w) A (call (.type "tuple") [y]) Q Ex s) h2 λ a xs hT f rs=>call_tuple_same (by obtain⟨o,a,b,d⟩:=IsT.dK hT;exact⟨o,a,b,d⟩) ((p.eq e rfl).here I (.aR hT f rs)))
  λ e=>ob e λ us h2 e=>EO e λ hz e=>I.eL (P:=λ y=>DW (ED Y w) A (call (.type "tuple") [y]) Q Ex s) h2 r λ a xs n hL hr=>call_tuple_list (IsL.isList hL) (λ h' hk=>by
   have kk:∀b o,s.heap.get? b=DK o->(h'.push {cls:=.type "tuple",data:=.seq xs.toArray}).get? b=DK o:=λ b o e=>RM _ (hk b o e);exact(p.eq e rfl).eA I kk (JP (λ b o e=>⟨o,hk b o e⟩) (KI (FG _))) (HH _ rfl) (.aR (HH _ rfl) (.inr rfl) (hr.bB (.eP kk)))) (by rw[HW,hr.bQ];exact WF hz)
theorem ay0(I:aZ w K U c s.heap)(ra:bI w c s.heap B ys)(e:gJ .list B U=DK (v,G))(p:PV w K [] c s G v Q):DW (ED Y w) A (call (.type "list") ys) Q Ex s:=
 ob e λ u h1 e=>ob e λ us h2 e=>EO e λ hz e=>RE h1 ra λ y r=>I.eQ (P:=λ y=>DW (ED Y w) A (call (.type "list") [y]) Q Ex s) h2 r λ a xs nC hr=>by
  have cY:∀h' c',(∀b o',s.heap.get? b=DK o'->h'.get? b=DK o')->h'.get? s.heap.objs.size=DK {cls:=.type "list",dict:=DP,data:=.seq xs.toArray c',slots:= #[]}->Q (.ref s.heap.objs.size) {s with heap:=h'}:=λ h' k kk e'=>
   PV.qB (b:=.list us) (p.eq e rfl) I kk (KI (FG _)) ⟨xs,k,e',hr.bB (.own kk),rfl⟩
  have hf:xs.toArray.size<=JC:=by rw[HW,hr.bQ];exact WF hz
  rcases nC with⟨k,hL⟩|hT
  ·exact am3 a (.inl rfl) hL rfl rfl cY hf
  ·exact am3 a (.inr rfl) hT rfl rfl cY hf
theorem ay2(hh:A.handled=DP)(I:aZ w K U c s.heap)(ra:bI w c s.heap B ys)(e:gJ .max B U=DK (v,G))(p:PV w K [] c s G v Q):DW (ED Y w) A (call (.builtin "max") ys) Q Ex s:=
 ob e λ u h1 e=>ob e λ x h2 e=>ob e λ y h3 e=>Kx h1 ra λ J J r1 r2=>r1.eI h2 λ t=>r2.eI (P:=λ z=>DW (ED Y w) A (call (.builtin "max") [.int x t,z]) Q Ex s) h3 λ u=>max_two_ints hh λ h' tk kk=>by
  have eq:(if y>x then ajC y u else ajC x t)=.int (if x<y then y else x) (if x<y then u else t):=by
   by_cases q:x<y
   ·rw[GG q,GG q,GG q]
   ·rw[FU q,FU q,FU q]
  rw[eq];exact p.eq e rfl c h' tk _ (I.eY kk) (.eY kk) (.int _ _)
def Rn(xs:DM DS)(r:DU):Prop:=∃bs:DM DU,xs=bs.map .bool/\r=bs.all id
theorem ajY{B:DM V}:∀{xs:DM DS} {r:DU},bI w c h B xs->Ms B=DK r->Rn xs r:=by
 induction B with
 |nil=>exact λ r e=>⟨[],r.zero,(EJ e).symm⟩
 |cons v B ih=>exact λ r e=>ob e λ b h1 e=>om (P:=Rn _) e λ r' h2=>r.el (P:=λ xs=>Rn xs (b&&r')) λ y ys ry r=>ry.eB (P:=λ y=>Rn (y::ys) (b&&r')) h1 (by obtain⟨bs,e1,e2⟩:=ih r h2;exact⟨b::bs,DX _ e1,DX _ e2⟩)
theorem ajZ(bs:DM DU):((MR (bs.map R3).toArray.size).all λ i=>(bs[i]?).getD DN)=bs.all id:=by
 rw[HW,LM];apply Bool.eq_iff_iff.mpr;rw[FQ,FQ];constructor
 ·intro h x hx;obtain⟨i,hi,rfl⟩:=Lx hx;have:=h i (YM.mpr hi);rw[JU hi]at this;exact this
 ·intro h i hi;rw[JU (YM.mp hi)];exact h _ (av _)
theorem alN{bs:DM DU}{v:DS}(e:(bs.map R3).toArray[i]? =DK v):v=.bool ((bs[i]?).getD DN):=by
 rw[List.getElem?_toArray,SZ]at e;exact om (P:=λ v=>v=.bool ((bs[i]?).getD DN)) e λ b e=>by rw[e];rfl
theorem axQ(hh:A.handled=DP)(I:aZ w K U c s.heap)(ra:bI w c s.heap B ys)(e:gJ .all B U=DK (v,G))(p:PV w K [] c s G v Q):DW (ED Y w) A (call (.builtin "all") ys) Q Ex s:=
 ob e λ u h1 e=>ob e λ us h2 e=>ob e λ q h3 e=>EO e λ J e=>RE h1 ra λ y r=>I.eL (P:=λ y=>DW (ED Y w) A (call (.builtin "all") [y]) Q Ex s) h2 r λ a xs n hL hr=>by
  obtain⟨bs,rfl,rfl⟩:=ajY hr h3;refine call_all_walk (ad0 (IsL.isList hL) ?_);refine⟨s.heap.objs.size,[s.heap.objs.size,a],[s.heap.objs.size],(bs.map R3).toArray.size,_,_,λ i=>(bs[i]?).getD DN,rfl,Walks.list (A:=A.in1) hh _ a (VC (HV hL)) (bs.map R3).toArray,
   ⟨⟨_,HH _ rfl,rfl,rfl⟩,(IsL.isList hL).push _⟩,λ i v s' Q' E' hP hQ=>by rw[alN hP];exact D9 hQ,λ h' tk hk=> ?_⟩
  have kk:∀b o,s.heap.get? b=DK o->h'.get? b=DK o:=λ b o e=>hk b o (λ hm=>by rw[GY.mp hm]at e;exact VB _ (HV e)) (RM _ e);rw[ajZ];exact p.eq e rfl c h' tk _ (I.eY kk) (.eY kk) (.bool _)
end
theorem aH4:La (.type "zip") "__len__" =pure DP:=by rw[Dg,Ay];kernel_rfl
theorem aH3:La (.type "zip") "__length_hint__" =pure DP:=by rw[Dg,Ay];kernel_rfl
section
variable {w:EV}{K:EQ}{D:Tb}{L:Mx}{mb:EA->DQ DS}{Ex:aJ}
theorem R9{α:Type}{P:α->Prop}{a b c d:α}(h1:P a)(h2:P b)(h3:P c)(h4:P d):∀x∈[a,b,c,d],P x:=NJ.mpr ⟨h1,NJ.mpr ⟨h2,NJ.mpr ⟨h3,NJ.mpr ⟨h4,λ J h=>(IK h)⟩⟩⟩⟩
theorem no4{α:Type}{x a b c d:α}{P:Prop}(h:x∉[a,b,c,d])(k:x≠a->x≠b->x≠c->x≠d->P):P:=k (λ e=>h (e▸ .head _)) (λ e=>h (e▸ .tail _ (.head _))) (λ e=>h (e▸ .tail _ (.tail _ (.head _)))) (λ e=>h (e▸ .tail _ (.tail _ (.tail _ (.head _)))))
theorem Zp.kW{f:DS}(E_:Zp h z TI TO i1 i2 k a1 a2 xs ys f):∀b∈[z,TI,TO,i1,i2,a1,a2],∃o,h.get? b=DK o:=
 let⟨_,_,to⟩:=E_.to
 NJ.mpr ⟨⟨_,E_.hz⟩,NJ.mpr ⟨⟨_,E_.ti⟩,NJ.mpr ⟨⟨_,to⟩,R9 (E_.b1.cX.1.imp λ J h=>h.1) (E_.b2.cX.1.imp λ J h=>h.1) E_.b1.cX.2 E_.b2.cX.2⟩⟩⟩
theorem aH5(hh:A.handled=DP)(pJ:xs[0]? =DP∨ys[0]? =DP):
  Walks Y w A z [z,TI,TO,i1,i2,a1,a2] [z,TO,i1,i2] 0 (λ J J=>True) (λ J h=>Zp h z TI TO i1 i2 0 a1 a2 xs ys .none) where
 sub:=R9 (.head _) (.tail _ (.tail _ (.head _))) (.tail _ (.tail _ (.tail _ (.head _)))) (.tail _ (.tail _ (.tail _ (.tail _ (.head _)))))
 frame:=λ J J J E_ g=>E_.at λ b o hb e=>g b hb o e
 item:=λ J J J J h=>EP h (St _)
 done:=λ s Q E E_ hQ=>E_.mM hh pJ λ h' k=>hQ h' s.toks λ b o hb e=>no4 hb λ q1 q2 q3 q4=>k b o q1 q2 q3 q4 e
 self:=λ J J J J E_ hQ=>t9 E_.hz hQ
theorem aH1{f:DS}{Q:DU->EB->Prop}(hz:UZ s.heap z TI TO f)(hQ:Q DN s):DW (ED Y w) A (aeP (.ref z)) Q Ex s:=by
 have hT:s.TypeIs (.ref z) "zip" :=⟨_,hz,rfl⟩;unfold aeP;refine DV (Go hT aH4 ?_);show DW _ _ (Gb (NO z) (LB "__length_hint__")>>=_) _ _ _;refine DV (Go hT aH3 ?_);exact EK hQ
theorem am4(hh:A.handled=DP)(pJ:xs[0]? =DP∨ys[0]? =DP)(E_:Zp s.heap z TI TO i1 i2 0 a1 a2 xs ys .none)
  (hQ:∀h' tk c',(∀b o,b∉[z,TO,i1,i2]->s.heap.get? b=DK o->h'.get? b=DK o)->h'.get? s.heap.objs.size=DK {cls:=.type "list",dict:=DP,data:=.seq #[] c',slots:= #[]}->Q (.ref s.heap.objs.size) {s with heap:=h',toks:=tk}):
  DW (ED Y w) A (call (.type "list") [.ref z]) Q Ex s:=by
 have lv:∀b,b∈[z,TI,TO,i1,i2,a1,a2]->b≠s.heap.objs.size:=λ b hb=>by obtain⟨_,e⟩:=E_.kW b hb;exact VC (HV e)
 refine alZ (Q₁:=λ obj dQ=>obj=.ref s.heap.objs.size/\dQ={s with heap:=s.heap.push {cls:=.type "list",data:=.seq #[]}}) PySem.F.called_list (PySem.F.typeCall_list_1 _) PySem.F.entry_list_init
  (code_list_new _ ⟨rfl,rfl⟩) λ obj dQ dJ=> ?_
 obtain⟨rfl,rfl⟩:=dJ;have hS:(s.heap.push {cls:=.type "list",data:=.seq #[]}).get? s.heap.objs.size=DK {cls:=.type "list",data:=.seq #[]}:=HH _ rfl;refine⟨⟨_,hS,rfl⟩,PySem.F.args_list_init_2 _ _,?_⟩;show DW _ _ (do let mH<-aeO (.ref s.heap.objs.size);aHN (.ref s.heap.objs.size) (λ J=> #[]);letGo mH.toList.reverse;z5 (.ref s.heap.objs.size) (.ref z) .none) _ _ _;refine DV ?_;unfold aeO;refine DV (WI hS rfl (EK ?_));show DW _ _ (acM s.heap.objs.size (λ J=> #[])>>=λ J=>letGo (#[]:FM DS).toList.reverse>>=λ J=>z5 (.ref s.heap.objs.size) (.ref z) .none) _ _ _;refine DV (ad2 hS rfl ?_);have hS₂:=WM (TH (λ J=>(#[]:FM DS))) hS rfl;refine DV (D2 ?_);generalize hg:(s.heap.push {cls:=.type "list",data:=.seq #[]}).update s.heap.objs.size (TH (λ J=>(#[]:FM DS)))=hp at *;have k0:∀b o,b≠s.heap.objs.size->s.heap.get? b=DK o->hp.get? b=DK o:=λ b o hb e=>hg▸(OU _ _ (JY hb)).trans (RM _ e);have Z2:Zp hp z TI TO i1 i2 0 a1 a2 xs ys .none:=E_.at λ b o hb e=>k0 b o (lv b hb) e;unfold z5;have hT:aj0 {s with heap:=hp} (.ref z) "zip" :=⟨_,Z2.hz,rfl⟩;refine DV (E0 hT ?_);have h1:aeQ (.ref s.heap.objs.size) (.ref z)=DT:=by rw[aeQ];exact Nc.mpr (lv z (.head _)).symm
 have h2:(Dv "zip" ==Dv "list")=DT:=by decide
 have h3:(Dv "zip" ==Dv "tuple")=DT:=by decide
 simp only[h1,h2,h3,Bool.or_false,Rk,Od];refine DV (t9 Z2.hz ?_);refine DV (HE (aH1 Z2.hz ?_));show DW _ _ (rule "list.extend.makes-room" >>=λ J=>aHM (.ref s.heap.objs.size)>>=λ J=>
  again (.builtin "list.extend.loop" ⟨[.ref s.heap.objs.size,.ref z,.none],[]⟩)) _ _ _
 refine DV (YA ?_);refine DV ?_;show DW _ _ (acM s.heap.objs.size (·.push .none)>>=λ J=>acM s.heap.objs.size (·.pop)) _ _ _;refine DV (ad2 hS₂ rfl ?_);have hS₃:=WM (TH (·.push LC)) hS₂ rfl;refine ad2 (hz:=by seq_fits) hS₃ rfl ?_;have hS₄:=WM (TH (·.pop)) hS₃ rfl;have iW:∀b o,b≠s.heap.objs.size->hp.get? b=DK o->((hp.update s.heap.objs.size (TH (·.push LC))).update s.heap.objs.size (TH (·.pop))).get? b=DK o:=
  λ b o hb e=>(OU _ _ (JY hb)).trans ((OU _ _ (JY hb)).trans e)
 refine EK ⟨zi PySem.F.plain_extend_loop _,codeAny_extend_loopS (aH5 (A:=A.in1.in1) hh pJ).toS (GI _) _ (λ hm=>lv _ hm rfl) _ 0 0 _ _ _ rfl (GI _)
  (Z2.at λ b o hb e=>iW b o (lv b hb) e) hS₄ (ItemsOf.nil _) λ s' xT c' hm vO oJ=> ?_⟩
 rw[Moved.eq_with hm];refine⟨rfl,hQ s'.heap s'.toks c' (λ b o hb e=>hm.heap b o (λ q=> ?_) (iW b o (VC (HV e)) (k0 b o (VC (HV e)) e))) ?_⟩
 ·rcases IV.mp q with q|q
  ·exact EP q (VC (HV e))
  ·exact hb q
 ·have:xT= #[]:=ae9 oJ.1;rw[this]at vO;exact vO
theorem axN{b:DL}(h:b<n):b∉[n+4,n+3,n,n+1]:=λ hb=>EP h (IG.mpr (R9 (P:=λ x=>n<=x) (HD _ _) (HD _ _) (FG _) (HD _ _) b hb))
theorem afD(F_:Gf w K D gn mg mb){H:Es}{id qM:EA}{zp pz:FS}{xs:DM Expr}(h2:LZ Y w K n D o L H xs)(hn:xs=[]->H=.nil)(hs:IB xs=DN)(hk:L.sc.lookup id=DK .globalImplicit)(g1:mg id=DP)(g2:mb id=DK (.type "list"))(hd:(id==("__debug__" :EA))=DT)
  (AD:L.sc.lookup qM=DK .globalImplicit)(z1:mg qM=DP)(z2:mb qM=DK (.type "zip"))(zT:(qM==("__debug__" :EA))=DT):
  SE Y w K n D o L (.bi .lV H) (.Call (.Name id np) [.Call (.Name qM zp) xs [] pz] [] pos):=by
 intro A fr Z m c U s Q E C p;refine Rq (N? F_ hk g1 g2 hd C (aHY (S3 ?_ rfl)));refine Z0 F_ h2 hn hs AD z1 z2 zT C ?_;have p2:PR w K (VR w) FE [] c s (R.bind (MX D o H m U) λ B=>aB.st (gJ .lV B)) Q E:=p;refine PR.qE p2 λ B dB J p2 c1 h1 gE ys I1 X1 ra=>PR.o2 (PR.from (tk:=gE) X1 p2) λ v cN e p=>ob e λ q e1 e=>ob e λ us e2 e=>ob e λ ws e3 e=>EO e λ n1 e=>EO e λ n2 e=> ?_;have p:PV w K [] c1 {s with heap:=h1,toks:=gE} (dB++[.list []]) (.ref dB.length) Q:=PV.eq e p rfl;refine Kx (P:=λ ys=>DW (ED Y w) A (call (.type "zip") ys) _ E {s with heap:=h1,toks:=gE}) e1 ra λ y1 y2 r1 r2=> ?_;refine r1.eT (P:=λ y=>DW (ED Y w) A (call (.type "zip") [y,y2]) _ E {s with heap:=h1,toks:=gE}) e2 λ a1 xL t1 J q1=> ?_;refine r2.eT (P:=λ y=>DW (ED Y w) A (call (.type "zip") [.ref a1,y]) _ E {s with heap:=h1,toks:=gE}) e3 λ a2 CR t2 J q2=> ?_;rw[HN n1]at q1;rw[q1.zero]at t1;refine kz (s:={s with heap:=h1,toks:=gE}) (xs:=[]) (.tuple t1) (.tuple t2) λ h2 E_ kp=>gz ?_;refine am4 (s:={s with heap:=h2,toks:=gE}) C.rm.hh (.inl rfl) E_ λ h3 cU c3 k3 e3=> ?_;exact p.qB (s:={s with heap:=h1,toks:=gE}) I1 (λ b o e=>k3 b o (axN (HV e)) (kp b o e)) (JP (λ b o e=>⟨o,kp b o e⟩) (KI (FG _))) ⟨[],c3,e3,.nil,rfl⟩
theorem ap1{acc:FM DS}{kvs:DM (EA×DS)}(h1:kvs.length<=1)(hl:acc.toList.length=kvs.length)(g:∀(j:DL) (v:DS),acc[j]? =DK v->∃k x,kvs[j]? =DK (k,x)/\(ff Y w).is k v=DN):StrsAre acc.toList (kvs.map (·.1)):=by
 cases kvs with
 |nil=>rw[List.length_eq_zero_iff.mp hl];exact .nil|cons kv r=>
  cases r with
  |cons _ _=>simp at h1|nil=>
   obtain⟨v,hv⟩:=List.length_eq_one_iff.mp hl;obtain⟨k,x,hx,hy⟩:=g 0 v (by rw[<-aeA,hv];rfl);cases hx;obtain⟨t,rfl⟩:=Value.isStrOf_shape hy;rw[hv];exact .cons _ _ .nil
theorem ayW{α:Type}{x y:DM α}(h1:y.length<=1)(p:x.Perm y):x=y:=by
 cases y with
 |nil=>exact List.perm_nil.mp p|cons a r=>
  cases r with
  |cons _ _=>simp at h1|nil=>exact List.perm_singleton.mp p
theorem abF{d:DZ}{kvs:DM (EA×DS)}{ep:DL}(hh:A.handled=DP)(lo:(d==GQ)=DT)(hd:s.heap.DictAt (ff Y w) d kvs ep)(h1:kvs.length<=1)
  (hQ:∀(I_:DZ) h' tk vs' k,(∀b o,s.heap.get? b=DK o->h'.get? b=DK o)->s.heap.get? I_=DP->IsL h' I_ (ER vs') k->StrsAre vs' (kvs.map (·.1))->Q (.ref I_) {s with heap:=h',toks:=tk}):
  DW (ED Y w) A (call (.builtin "sorted") [.ref d]) Q Ex s:=by
 refine Calls.call_function_entry kind_sorted plain_sorted entry_sorted (args_sorted1 _) ?_;unfold Builtin.«sorted»;refine DV (m:=checkCount "sorted" 1 1 _) (EK ?_);refine DV (kdu_collect (A:=A.in1) (kdl_dict (knd:=ff Y w) (kvs:=kvs) (ep:=ep) lo) hh hd (EZ h1 (by unfold JC;decide)) λ h' tk acc hk oJ=> ?_);have hl:acc.toList.length=kvs.length:=by rw[Array.length_toList];exact oJ.1
 have hS:StrsAre acc.toList (kvs.map (·.1)):=ap1 h1 hl oJ.2;refine DV (acX ?_ (by rw[hl];exact EZ h1 (by unfold JC;decide)));have tP:(h'.push {cls:=.type "list",data:=.seq acc.toList.toArray}).get? h'.objs.size=DK (a9 "list" acc.toList.toArray 0):=HH _ rfl;refine DV (HE (SP slot_list_sort ⟨_,tP,rfl⟩ entry_list_sort (list_sort_treeK strKind_oneLt tP hS.keysOf (λ DH DI rest e=>EP hl (by rw[e];simp only[List.length_cons];omega)) (by rw[hl];omega) λ xD a1 a2=>⟨_,rfl,?_⟩) (args_list_sort _)));refine EK ⟨_,rfl,?_⟩;obtain⟨CE,b1,b2,b3⟩:=sorted_out_str hS a1 a2;have pT:CE=kvs.map (·.1):=ayW (by rw[LM];exact h1) b2;rw[pT]at b1;obtain⟨k1,e1⟩:∃k,((h'.push {cls:=.type "list",data:=.seq acc.toList.toArray}).update h'.objs.size (TH λ J=> #[])).get? h'.objs.size=DK (a9 "list" #[] k):=⟨_,as9 tP λ J=> #[]⟩;have e2:=FO _ (a9 "list" #[] 0) _ _ (FO _ (a9 "tuple" acc.toList.toArray 0) _ _ e1);have e3:=as9 e2 λ J=>(arrOf xD).map (·.2);refine hQ h'.objs.size _ tk ((arrOf xD).map (·.2)).toList _ (λ b o e=> ?_) (JP (λ b o e=>⟨o,hk b o e⟩) (KI (FG _))) (by rw[y8];exact e3) b1;have hb:h'.objs.size≠b:=YO (HV (hk b o e));exact(OU _ _ hb).trans (FO _ _ _ _ (FO _ _ _ _ ((OU _ _ hb).trans (FO _ _ _ _ (hk b o e)))))
theorem ay6(hh:A.handled=DP)(I:aZ w K U c s.heap)(ra:bI w c s.heap B ys)(e:gJ .sorted B U=DK (v,G))(p:PV w K [] c s G v Q):DW (ED Y w) A (call (.builtin "sorted") ys) Q Ex s:=
 ob e λ u h1 e=>ob e λ d h2 e=>RE h1 ra λ y r=>I.eD (P:=λ y=>DW (ED Y w) A (call (.builtin "sorted") [y]) Q Ex s) h2 r λ a H n hd rd lo=>by
  refine FH e (λ e=>EO e λ n1 e=> ?_) λ e=>ob e λ kv h3 e=>ob e λ t h4 e=>EO e λ ht e=> ?_
  ·have p:PV w K [] c s (U++[.list []]) (.ref U.length) Q:=PV.eq e p rfl;rw[HN n1]at rd;refine rd.e0 (P:=λ J H=>s.heap.get? a=DK (FK (ER H) n)->DW (ED Y w) A (call (.builtin "sorted") [.ref a]) Q Ex s) (λ hd=> ?_) hd;refine abF (kvs:=[]) (ep:=n) hh lo ⟨_,_,hd,⟨rfl,rfl,rfl⟩,rfl,DR.rP (c:=c) (h:=s.heap) .nil rfl,.nil,.nil⟩ (GI _) λ I_ h' tk vs' k' kk hn hL hS=> ?_;cases hS;exact p.qB I kk hn ⟨[],k',hL,.nil,rfl⟩
  ·have p:PV w K [] c s (U++[.list [.str t]]) (.ref U.length) Q:=PV.eq e p rfl;rw[LH h3]at rd;refine rd.el (P:=λ J H=>s.heap.get? a=DK (FK (ER H) n)->DW (ED Y w) A (call (.builtin "sorted") [.ref a]) Q Ex s) (λ v us kx vx fs q1 q2 r0=> ?_) hd;refine r0.e0 (P:=λ J fs=>s.heap.get? a=DK (FK (ER (⟨hK w kv,kx,vx⟩::fs)) n)->DW (ED Y w) A (call (.builtin "sorted") [.ref a]) Q Ex s) λ hd=> ?_;have rk:=DR.rP (Y:=Y) (DR.cons q1 q2 .nil) (by show(oe (GJ kv) DT LG&&DN)=DN;rw[h4];exact DX (·&&DN) ht);refine q1.eS (P:=λ kx=>s.heap.get? a=DK (FK (ER [⟨hK w kv,kx,vx⟩]) n)->KeysOf (strKind Y w) [⟨hK w kv,kx,vx⟩].toArray->DW (ED Y w) A (call (.builtin "sorted") [.ref a]) Q Ex s) h4 (λ CI hd rk=> ?_) hd rk;refine abF (kvs:=[(sx t,vx)]) (ep:=n) hh lo ⟨_,_,hd,⟨rfl,rfl,rfl⟩,rfl,rk,.cons (XN _ _) rfl .nil,.cons (λ J h=>IK h) .nil⟩ (FG _) λ I_ h' tk vs' k' kk hn hL hS=> ?_;rcases hS with _|⟨_,gE,hS⟩;rcases hS with _|_;exact p.qB I kk hn ⟨_,k',hL,.cons (.str _ _) .nil,rfl⟩
end
theorem py:Wf A3 "dict.update.loop" =DK Builtin.«dict.update.loop»:=px (by kernel_rfl)
theorem Yy:plainId "dict.update.loop" =DN:=by decide+kernel
theorem av1:La (.type "list") "keys" =pure DP:=by rw[Dg,Ay];kernel_rfl
theorem aCI:C! (.type "AttributeError") (.type "AttributeError")=pure DN:=by rw[Jf];kernel_rfl
section
variable {w:EV}{K:EQ}{Ex:aJ}{a:DZ}
theorem awD{xs:FM DS}{u:KT}(hx:IsL s.heap a xs k)(hA:A.handled=DP)
  (h:∀h' tk e,Heap.NewExcOf s.heap h' e "AttributeError" ->Ex (.ref e) {s with heap:=h',toks:=tk}):DW (ED Y w) A (tc (.ref a) (.str "keys" u) DT) Q Ex s:=by
 obtain⟨hp,g,d,tk,os⟩:=s;have hT:∀bT,(⟨hp,g,d,bT,os⟩:EB).TypeIs (.ref a) "list" :=λ J=>⟨_,hx,rfl⟩;have f1:=sub_AttributeError;have f3:=di.lookup;have f4:=di.bind (.ref a);have f5:=am_list_getattr_none;have hmiss:=av1;have hname:(["__module__", "__name__", "__qualname__", "__doc__", "__annotations__"]:DM EA).contains "keys" =DT:=by decide
 unfold tc
 repeat (any_goals (first|assumption|exact hT _|((with_reducible show DW _ _ (call (fp "list.__getattribute__") _ _) _ _ _);refine Ig di (hT _) am_entry_list_getattribute (PySem.F.args_list_getattribute_2 _ _) (meets_getattribute_miss_list a xs k #[] "keys" _ hmiss hname) ⟨hx,hA,λ h' bT e rK=> ?_⟩)|wp_step))
 obtain⟨t',u',he⟩:=rK.there;show DW _ _ (asK _ _ _ _ _ _ _) _ _ _;unfold asK
 repeat (any_goals (first|assumption|wp_step))
 exact h _ _ _ rK.of
theorem awC{xs:FM DS}{Q:DQ DS->EB->Prop}(hx:IsL s.heap a xs k)(hA:A.handled=DP)
  (hQ:∀h' tk,(∀b o,s.heap.get? b=DK o->h'.get? b=DK o)->Q DP {s with heap:=h',toks:=tk}):DW (ED Y w) A (getAttr? (.ref a) "keys") Q Ex s:=by
 unfold getAttr?;refine DV (D5 ?_);unfold getAttrBy?;refine DV (Ld (awD (s:={s with toks:=s.toks+1}) hx hA λ h' tk e he=> ?_));obtain⟨kk,_,o,_,ho,hc,_⟩:=he;refine DV (Ra (T:= "AttributeError") (b:=DN) ⟨o,ho,hc⟩ aCI ?_);exact EK (hQ _ _ kk)
theorem anV{k:V}{t:Tx}{d:DM V×DM V}(ht:GJ k=DK t)(e:XF ks B k v=DK d):XS ks B k v t=DK d:=
 FH e (λ e=>ob e λ t' e1 e=>EJ (ht.symm.trans e1)▸e) λ e=>ob e λ J e1 J=>by rw[IP ht]at e1;exact EW e1
theorem Pb(hi:¬c.fz it)(e:Gz it h h'):dR c h c h':=⟨λ J J e=>e,λ J e=>e,λ b o f q=>e b o (λ z=>hi (z▸f)) q⟩
theorem bI.yF{rs:DM V}(r:bI w c h (v::rs) (xs.drop k)):∃y,xs[k]? =DK y/\VR w c h v y/\bI w c h rs (xs.drop (k+1)):=by
 rw[<-agB (i:=1),<-List.head?_drop];exact r.el (P:=λ l=>∃y,l.head? =DK y/\VR w c h v y/\bI w c h rs (l.drop 1)) λ y ys a b=>⟨y,rfl,a,b⟩
theorem anP{it bE I_:DZ}(hi:¬c.fz it)(hD:¬c.fz I_)(tG:I_≠it)(zE:I_≠bE){dE:DM V×DM V}{R:QL->EB->Prop}{xs:DM DS}(hh:A.handled=DP){rs:DM V}:
  ∀{k:DL} {j:DY} {d p:DM V×DM V} {H:DM FL} {nn:DL} {s:EB},Bs s.heap it k bE xs->s.heap.get? I_=DK (FK (ER H) nn)->DR w c s.heap d.1 d.2 H->bI w c s.heap rs (xs.drop k)->Pn rs=DK p->GN p.1=DN->Io p.1 p.2 d.1 d.2=DK dE->
   (∀h' tk dZ n',(∀b o,b≠it->b≠I_->s.heap.get? b=DK o->h'.get? b=DK o)->h'.get? I_=DK (FK (ER dZ) n')->DR w c h' dE.1 dE.2 dZ->R (.ok (.ret .none)) {s with heap:=h',toks:=tk})->
   MC (ED Y w) A (.builtin "dict.update.loop" ⟨[.ref I_,.ref it,JS j,.none],[]⟩) R s:=by
 induction rs with
 |nil=>
  intro k j d p H nn s b hd rd rr hp hs hf hR;refine an4 py ?_;rw[ae8 Yy _];show DW _ A.in1 (PU (.ref it)>>=_) _ _ s;refine DV (b.mM hh (MQ (O3.mp rr.zero)) λ h' eb=> ?_);show DW _ _ (aHG I_ []>>=_) _ _ _;rw[<-EJ hp]at hf;exact DV (EK (EK (hR h' s.toks H nn (λ b o hb J e=>eb b o hb e) (eb I_ _ tG hd) (EJ hf▸rd.bB (Pb hi eb)))))
 |cons v rs ih=>
  intro k j d p H nn s b hd rd rr hp hs hf hR;refine ob hp λ l hl hp=>ob hp λ q hq hp=>om (P:=λ p=>GN p.1=DN->Io p.1 p.2 d.1 d.2=DK dE->MC (ED Y w) A (.builtin "dict.update.loop" ⟨[.ref I_,.ref it,JS j,.none],[]⟩) R s) hp (λ p' mE hs hf=> ?_) hs hf;obtain⟨⟨t,ht,_⟩,hs⟩:=B? hs;refine ob hf λ d1 AS hf=> ?_;obtain⟨y,AZ,r1,BX⟩:=bI.yF rr;clear rr hp;refine an4 py ?_;rw[ae8 Yy _];show DW _ A.in1 (PU (.ref it)>>=_) _ _ s;refine DV (b.next AZ λ h1 b1 sb=> ?_);have m1:=Pb (c:=c) hi sb.extBut;refine DV (HE (DV (wpAny_tryCatch ?_)));refine(r1.bB m1).eT hl λ T zs hT J rz=> ?_;unfold aHH;refine DV (E0 (s:={s with heap:=h1}) (T:= "tuple") ⟨_,hT,rfl⟩ ?_);rw[GG (show(Dv "tuple" ==Dv "list" ||Value.type "tuple" ==Dv "tuple")=DN by decide)];refine DV (WI (s:={s with heap:=h1}) hT rfl (EK ?_));clear hT;refine Kx hq rz λ kx vx rk rx=> ?_;show DW _ _ (Oc [kx,vx] (El I_ kx vx)) _ _ _;refine rk.eS ht λ CI=>HE ?_;refine X9 (s:={s with heap:=h1}) (sb.extBut I_ _ tG hd) (rd.bB m1) (IP ht) (anV ht AS) rx λ h2 DB n2 zR BW rX=> ?_;have m2:=Pb (c:=c) hD rX.extBut;refine EK ⟨zi Yy _,?_⟩;exact ih (s:={s with heap:=h2,toks:=s.toks+1}) (b1.at (λ o e=>rX.extBut _ _ tG.symm e) (λ o e=>rX.extBut _ _ zE.symm e)) zR (BW.bB m2) ((BX.bB m1).bB m2) mE hs hf λ h' tk dZ n' kk e r=>
   hR h' tk dZ n' (λ b o q1 q2 e=>kk b o q1 q2 (rX.extBut b o q2 (sb.extBut b o q1 e))) e r
theorem axX(hh:A.handled=DP)(I:aZ w K U c s.heap)(ra:bI w c s.heap B ys)(e:gJ .dict B U=DK (v,G))(p:PV w K [] c s G v Q):DW (ED Y w) A (call (.type "dict") ys) Q Ex s:=
 ob e λ u h1 e=>ob e λ us h2 e=>ob e λ pr AP e=>EO e λ hs e=>ob e λ d h4 e=>RE h1 ra λ y r=>I.eL (P:=λ y=>DW (ED Y w) A (call (.type "dict") [y]) Q Ex s) h2 r λ a xs k hL hr=>by
  have p:PV w K [] c s (U++[.dict d.1 d.2]) (.ref U.length) Q:=PV.eq e p rfl;clear e h2 h1 r ra;refine alZ (Q₁:=λ obj dQ=>obj=.ref s.heap.objs.size/\dQ={s with heap:=s.heap.push {cls:=.type "dict",data:=.dict #[]}}) PySem.F.kt_called_dict (PySem.F.kt_typeCall_dict_1 _) PySem.F.entry_dict_init (kt_code_dict_new _ ⟨rfl,rfl⟩) ?_
  rintro obj dQ ⟨rfl,rfl⟩
  have jP:(s.heap.push {cls:=.type "dict",data:=.dict #[]}).get? s.heap.objs.size=DK (FK #[] 0):=HH _ rfl;have lQ:=FO s.heap {cls:=.type "dict",data:=.dict #[]} _ _ hL;have pD:aj0 {s with heap:=s.heap.push {cls:=.type "dict",data:=.dict #[]}} (.ref s.heap.objs.size) "dict" :=⟨_,jP,rfl⟩;refine⟨pD,PySem.F.args_dict_init_2 _ _,?_⟩;unfold Builtin.«dict.__init__»;refine DV ?_;unfold aHJ;refine DV (acZ pD ?_);show DW _ _ (pure (s.heap.objs.size,[NO a])) _ _ _;refine EK ?_;show DW _ _ (aeN "dict.__init__" s.heap.objs.size (.ref a) [] .none) _ _ _;unfold aeN;refine DV (E0 (T:= "list") ⟨_,lQ,rfl⟩ ?_);rw[GG (by decide)];refine DV (awC (s:={s with heap:=s.heap.push {cls:=.type "dict",data:=.dict #[]}}) lQ hh λ h2 eK k2=> ?_);show DW _ _ (rule _>>=λ J=>Cm (.ref a)>>=λ i=>again (.builtin "dict.update.loop" ⟨[.ref s.heap.objs.size,i,JS 0,.none],[]⟩)) _ _ _;refine DV (YA ?_);refine DV (jA.iter (s:={s with heap:=h2,toks:=eK}) (.list k (k2 _ _ lQ)) λ h3 b3 e3=> ?_);clear pD lQ;have k23:∀b o,h2.get? b=DK o->h3.get? b=DK o:=λ b o e=>e3.elim λ J e3=>e3▸FO _ _ _ _ e;have k3:∀b o,s.heap.get? b=DK o->h3.get? b=DK o:=λ b o e=>k23 b o (k2 b o (FO _ _ _ _ e));have hnD:s.heap.get? s.heap.objs.size=DP:=KI (FG _);have pP:s.heap.get? h2.objs.size=DP:=JP (λ b o e=>⟨o,k2 b o (FO _ _ _ _ e)⟩) (KI (FG _));refine EK ⟨zi Yy _,?_⟩;exact anP (Y:=Y) (A:=A.in1) (c:=c) (xs:=xs) (d:=([],[])) (H:=[]) (s:={s with heap:=h3,toks:=eK}) (ZI I pP).1 (ZI I hnD).1 (FZ (k2 _ _ jP) (KI (FG _))) (λ z=>FZ hL hnD z.symm) hh b3 (k23 _ _ (k2 _ _ jP)) .nil (hr.bB (.fO k3)) AP hs h4 λ h' tk dZ n' kk e r'=>
   ⟨rfl,p.qB I (λ b o e=>kk b o (FZ e pP) (FZ e hnD) (k3 b o e)) hnD ⟨dZ,n',e,r'.bB (.own λ J J e=>e),rfl⟩⟩
end
section
variable {w:EV}{K:EQ}{D:Tb}{L:Mx}{Ex:aJ}
theorem aCR(h1:¬x.ctorIdx=8)(h2:¬x.ctorIdx=9)(h3:¬x.ctorIdx=10){id:EA}{l:DL}:RJ x (DK (.Name id tp)) l Z=pure DT:=by
 revert h1 h2 h3
 apply @Q6 (λ x=>¬x.ctorIdx=8->¬x.ctorIdx=9->¬x.ctorIdx=10->RJ x (DK (.Name id tp)) l Z=pure DT) x<;>intros<;>first|exact @rfl _ (pure DT)|exact EP rfl ‹¬_›
theorem abQ{id:EA}{line:DL}(er:dD w L m c h Z):RJ x (DK (.Name id tp)) line Z=pure (SO L x id tp):=by
 have hb:(Z.blockKind==.function)=DN:=by unfold afM;rw[er.kind];rfl
 have hs:∀(sc:QM) (p:FS),(pure (Z.blockKind==.function&&Z.kindOf id==DK .local&&tp.line==p.line&& !(sc.names.any λ (n,k)=>n==id&&(k==.local||k==.cell))):JN DU)=pure (Gg L id tp sc p):=λ sc p=>by rw[hb,PN er id];rfl
 by_cases h1:x.ctorIdx=8
 ·rw[SO,En h1];exact Mh (motive_1:=λ x=>∀h,RJ x (DK (.Name id tp)) line Z=pure (Mh (motive_1:=λ J=>DU) x h λ J J s p=>Gg L id tp s p)) x h1 (λ J J s p J=>hs s p) h1
 by_cases h2:x.ctorIdx=9
 ·rw[SO,XE h1,En h2];exact da (motive_1:=λ x=>∀h,RJ x (DK (.Name id tp)) line Z=pure (da (motive_1:=λ J=>DU) x h λ J J s p=>Gg L id tp s p)) x h2 (λ J J s p J=>hs s p) h2
 by_cases h3:x.ctorIdx=10
 ·rw[SO,XE h1,XE h2,En h3];exact Mg (motive_1:=λ x=>∀h,RJ x (DK (.Name id tp)) line Z=pure (Mg (motive_1:=λ J=>DU) x h λ J J J s p=>Gg L id tp s p)) x h3 (λ J J J s p J=>hs s p) h3
 ·rw[SO,XE h1,XE h2,XE h3];exact aCR h1 h2 h3
theorem aiO{id:EA}(h1:SE Y w K n D o L e x)(h2:KS Y w K n D o L t (.Name id tp))(hx:SO L x id tp=DT):SS Y w K n D o L (.aV t e) (.Assign [.Name id tp] x pos):=by
 intro A fr Z m c U s Q E C hl p;have e0:exec (.Assign [.Name id tp] x pos) Z=(do
   Km pos
   if<-RJ x (DK (.Name id tp)) pos.line Z then
    Y9 x Z (OJ (.Name id tp) Z)
    return .next
   let v<-HM x Z
   OJ (.Name id tp) Z v
   pure .next):=rfl
 rw[e0,abQ C.er,hx];refine DV (OS (DV (EK ?_)));rw[FU (by decide)];refine DV (seq p (λ Q E=>h1 A _ Z m c U s Q E C.ct) (λ v G c' h' tk y J I X r p'=> ?_) PG JB);have C':=C.ext I X;refine DV (seq p' (λ Q E=>h2 A fr Z m c' G _ v y Q E C' hl r) (λ m' cZ eG cV bT u J I' X' r' fN=> ?_) (λ J x=>x) (λ J x=>x));exact EK (PR.here (fN:PR w K (eV w L Z) (HA Z.locals) (FD Z) eG _ (.ok (.next,m') cZ) Q E) I' ⟨RR,r'.1,r'.2⟩)
theorem axF{a:DZ}{m:EA->DQ DS}:h.Ns a m->∃o,h.get? a=DK o|⟨o,_,_,e,_⟩=>⟨o,e⟩
def uf(w:EV)(c':Cx)(h':ES)(v:V)(x:Cx×DS):Prop:=x.1=c'/\VR w c' h' v x.2
inductive fj(w:EV)(K:EQ){γ:Type}{Rf:Cx->ES->Fl×Lv->γ->Prop}{ok:aM}{π:DM DZ}(c:Cx)(s:EB)(f:V->aB (Fl×Lv))(Q:γ->EB->Prop)(E:aJ)(x:Cx×DS)(s':EB):Prop
 |mk (v:V) (bS:aS):aZ w K bS x.1 s'.heap->bM [] c s.heap x.1 s'.heap->VR w x.1 s'.heap v x.2->PR w K Rf ok π c s (f v bS) Q E->fj w K c s f Q E x s'
theorem PR.uI{α β γ δ:Type}{Rf:Cx->ES->α->γ->Prop}{Rl:Cx->ES->β->δ->Prop}{ok:aM}{E:aJ}{x:R β}{f:β->aB α}{Q:γ->EB->Prop}{Q':δ->EB->Prop}(X:bM π c s.heap c' h')(p:PR w K Rf ok π c s (R.bind x f) Q E)
  (k:∀v G,x=.ok v G->PR w K Rf ok π c s (f v G) Q E->PR w K Rl jF hH c' {s with heap:=h',toks:=tk} (.ok v G) Q' E)(ho:∀st,jF st->ok st)(gN:∀a∈hH,a∈π):PR w K Rl jF hH c' {s with heap:=h',toks:=tk} x Q' E:=by
 obtain v|e| - :=x
 ·exact k _ _ rfl p
 ·exact λ c2 h2 eK a st o I X2 F=>(PR.from (tk:=tk) X (p:PR w K Rf ok π c s (.cD e _) Q E)) c2 h2 eK a st (ho st o) I (X2.dL gN) F
 ·exact p
theorem abP{id:EA}(hx:SO L x id tp=DN)(h2:KS Y w K n D o L t (.Name id tp))
  (hc:∀(A:HG) (fr:DM Env) (Z:Env) (m:Lv) (c:Cx) (U:aS) (s:EB) (Q:Cx×DS->EB->Prop) (Q':EB->Prop) (E:aJ) (u:DS->JN HI),Ct w K n A fr L m c U s.heap Z->PR w K (uf w) FE [] c s (MW D o e m U) Q E->
   (∀bS i0 c' h' tk I_ D_ mm,PR w K (uf w) FE [] c s (.ok (.ref i0) bS) Q E->aZ w K bS c' h'->bM [] c s.heap c' h'->VR w c' h' (.ref i0) (.ref I_)->h'.Ns D_ mm->Pv c' [D_]->s.heap.get? D_=DP->Np (ED Y w) A E (DK u) (λ J=>Q') (.ref I_) D_ (.ok .next) {s with heap:=h',toks:=tk})->
   DW (ED Y w) A (Y9 x Z u) (λ J s'=>Q' s') E s):
  SS Y w K n D o L (.aV t e) (.Assign [.Name id tp] x pos):=by
 intro A fr Z m c U s Q E C hl p;rw[exec_Assign_Name_used _ _ _ _ ((abQ C.er).trans (by rw[hx]))];refine DV (OS (DV ?_));have p0:PR w K (eV w L Z) (HA Z.locals) (FD Z) c s (R.bind (MW D o e m U) λ v=>aB.bind (IY (EE D) o t v m) λ m'=>aB.pure (.next,m')) Q E:=p;refine IF (hc A _ Z m c U s (fj w K c s (λ v=>aB.bind (IY (EE D) o t v m) λ m'=>aB.pure (.next,m')) Q E (Rf:=eV w L Z) (ok:=HA Z.locals) (π:=FD Z)) (λ s'=>Q .next s') E _ C.ct
  (PR.uI (tk:=s.toks) (.refl _ c s.heap) p0 (λ v bS J p1 c' h' tk x I X r=>by obtain⟨rfl,r⟩:=r;exact .mk v bS I X r p1) PG JB) λ J i0 c' h' tk I_ D_ mm p' I X r ns P hn=> ?_) (λ J J q=>EK q) λ J J q=>q
 obtain⟨v,bS,I1,X1,r1,p1⟩:=p' c' h' tk (c',.ref I_) I X ⟨rfl,r⟩;clear p' p0 p hc;have C1:=C.ext I1 X1;have hB:∀a∈FD Z,a∉[D_]:=λ a ha hm=>by obtain⟨ob,e⟩:=C.dS a ha;exact FZ e hn (GY.mp hm)
 refine h2 A fr Z m c' bS {s with heap:=h',toks:=tk} v (.ref I_) _ E C1 hl r1 (PR.uI (X1.dL JB) p1 (λ m' dB J p0 c2 iB eK u I2 X2 r2=> ?_) (λ J x=>x) λ J x=>x);have P2:=P.ext X2 λ a ha=>GY.mp ha▸axF ns;refine⟨mm,Zu ns λ ob e=>X2.keep D_ ob e (λ hm=>hB D_ hm (.head _)) (λ q hq=>P.ρ D_ (.head _) q hq),λ h3 sb=> ?_⟩;have S:dG [D_] c2 iB c2 h3:=.bN sb.extBut;exact p0 c2 h3 eK .next (S.bW P2 I2) (S.mB P2 ((X1.dL JB).trans X2) λ a ha=>GY.mp ha▸hn) ⟨RR,r2.1.nP S P2 hB (λ a ha=>by obtain⟨ob,e⟩:=C1.dS a ha;exact X2.dom a ob e),r2.2⟩
theorem aiM{fF:E}{tt:T}{iter:Expr}{xs:DM Expr}{cp:FS}{id:EA}(hx:SO L (.ListComp ex [⟨x,iter,xs,0⟩] scope cp) id tp=DN)(h2:KS Y w K n D o L t (.Name id tp))
  (iS:UG iter=DN)(hL:QC tt x=DK H_)(hg:RK tt x=DN)(hF:XB L scope H_=DN)(gM:UK fM=DN∨dK x=DN)(fP:ML Y w K n D o L fM iter)(hB:WR Y w K n D o (II L scope.names H_) ifs xs)(he:SE Y w K n D o (II L scope.names H_) fF ex):
  SS Y w K n D o L (.aV t (.comp fF tt fM ifs)) (.Assign [.Name id tp] (.ListComp ex [⟨x,iter,xs,0⟩] scope cp) pos):=
 abP hx h2 λ A fr Z m c U s Q Q' E u C p iC=>DV (IF (mj (use:=DK u) (Q':=λ J=>Q') iS hL hg hF gM fP hB he C p iC) (λ J J q=>EK q) λ J J q=>q)
theorem aiN{a b:E}{tt:T}{iter:Expr}{cp:FS}{id:EA}(hx:SO L (.DictComp kx vx [⟨x,iter,[],0⟩] scope cp) id tp=DN)(h2:KS Y w K n D o L t (.Name id tp))
  (iS:UG iter=DN)(hL:QC tt x=DK H_)(hg:RK tt x=DN)(hF:XB L scope H_=DN)(gM:UK fM=DN∨dK x=DN)(fP:ML Y w K n D o L fM iter)(h3:SE Y w K n D o (II L scope.names H_) a kx)(h4:SE Y w K n D o (II L scope.names H_) b vx):
  SS Y w K n D o L (.aV t (.iG a b tt fM)) (.Assign [.Name id tp] (.DictComp kx vx [⟨x,iter,[],0⟩] scope cp) pos):=
 abP hx h2 λ A fr Z m c U s Q Q' E u C p iC=>DV (IF (mh (use:=DK u) (Q':=λ J=>Q') iS hL hg hF gM fP h3 h4 C p iC) (λ J J q=>EK q) λ J J q=>q)
end
inductive R7(K:EQ)(C:DZ):Prop
 |mk {nm q:EA} {N:DZ} {bs bm:DM DS} {pH:DU} {sn:DM EA} {sub:DM DS} {ab:DU} {col:DQ DU} {dd:DQ DZ} {k0 k1 k2 k3 k5:DQ DS}:K.lookup C=DK (qn nm q C N bs bm pH sn sub ab col dd k0 k1 k2 k3 k5 "Exception.__new__")->bm.contains (.type "Exception")=DN->bm.contains (.type "BaseException")=DN->bm.contains (.type "AttributeError")=DT->bm.contains (.type "NameError")=DT->R7 K C
structure Dw(K:EQ)(C f:DZ):Prop where
 ob:R7 K C
 call:Qj K (.ref C) "__call__" =DK (DK (.builtin "type.__call__"))
 CL:instIn K (.ref C) (.type "type")=DK DN
 rO:GM K (.ref C) "__init__" =DK (DK (.ref f))
 fn:Gj K (.ref f)=DK (.type "function")
 sa:GM K (.ref C) "__setattr__" =DK (DK (.builtin "object.__setattr__"))
 pl:Gd K C=DN
 keep:Ji K (.ref C)=DN
 cd:∃cd,Bf K C=DK cd/\cd.hasDict=DN
noncomputable abbrev MZ(C t:DZ)(dd:DQ DZ):GT:={cls:=.ref C,dict:=dd,data:=.fields #[.ref t,.none,.none,.none,.bool DT,.none]}
section
variable {w:EV}{K:EQ}{g:FM af}{d:Drawn}{t:DL}{os:Hf}{R:QL->EB->Prop}{E:aJ}{C f:DZ}
variable {nm q:EA}{N:DZ}{bs:DM DS}{pH:DU}{sn:DM EA}{sub:DM DS}{ab:DU}{col:DQ DU}{k0 k1 k2 k3 k5:DQ DS}
theorem aF2{rest:DM DS}(hC:h.get? C=DK (qn nm q C N bs bm pH sn sub ab col dd k0 k1 k2 k3 k5 "Exception.__new__"))(hB:bm.contains (.type "Exception")=DN)(hA:bm.contains (.type "AttributeError")=DT)(hN:bm.contains (.type "NameError")=DT)
  (hq:R (.ok (.ret (.ref (h.objs.size+1)))) ⟨(h.push {cls:=.type "tuple",data:=.seq rest.toArray}).push (MZ C h.objs.size DP),g,d,t,os⟩)(wA:rest.length<=JC):
  MC (ED Y w) A (.call (.builtin "Exception.__new__") ⟨.ref C::rest,[]⟩) R ⟨h,g,d,t,os⟩:=by
 have Fn:=de;have hends:=Fn.ends;have c1:(NO C::bm).contains (.type "Exception")=DN:=by rw[Ha,hB,M4]
 have c2:(NO C::bm).contains (.type "AttributeError")=DT:=by rw[Ha,hA];rfl
 have c3:(NO C::bm).contains (.type "NameError")=DT:=by rw[Ha,hN];rfl
 refine codeAny_call_builtin_code (aeZ _ Fn.quiet) (wpAny_check_new_subU Fn hB (.base (bmB:=bm)) hC ?_);refine codeAny_builtinAt Fn.entry ?_;unfold Builtin.«BaseException.__new__»;refine aiJ ?_;show PySem.wpAt _ _ _ (stack>>=_) _ _ _;refine aiJ (PySem.wpAt_stack λ p below=>aiK ?_)
 wp_walk
 refine aiK ?_;rw[Fn.owner]
 repeat (first|with_reducible refine wpAny_madeHere_exc Fn.canon hC ?_|with_reducible refine D4 hC ?_|(with_reducible refine s9 hC ?_;first|rw[c1]|rw[c2]|rw[c3])|wp_step)
 show R _ _;rw[ZZ];exact hq
theorem aEZ{rest:DM DS}(X:K.In h)(F_:Dw K C f)(wA:rest.length<=JC)
  (hq:MC (ED Y w) (A.under (.builtin "type.__call__" ⟨.ref C::rest,[]⟩)) (.call (.ref f) ⟨.ref (h.objs.size+1)::rest,[]⟩) (InitBack (h.objs.size+1) R)
   ⟨(h.push {cls:=.type "tuple",data:=.seq rest.toArray}).push (MZ C h.objs.size DP),g,d,t,os⟩):
  MC (ED Y w) A (.call (.ref C) ⟨rest,[]⟩) R ⟨h,g,d,t,os⟩:=by
 obtain⟨hK,hB,pC,hA,hN⟩:=F_.ob;have hC:=X _ _ hK;refine codeAny_of_tree ?_;show DW _ _ (callAny (.ref C) _) _ _ _;refine nd_load hC ?_;show DW _ _ (alX (.ref C) _) _ _ _;unfold alX;refine DV ((looks_specialIn (M:=ED Y w) X F_.call).at ?_);dsimp only;rw[tc_bind];refine DV (EK (DV (EK ?_)));refine EK (a:=Fin.again (.call (.builtin "type.__call__") ⟨.ref C::rest,[]⟩)) (And.intro rfl ?_);refine codeAny_call_builtin_at (aeZ _ (by decide+kernel)) entry_typeCall (lh tc_kind tc_split (looks_instIn (M:=ED Y w) X F_.CL) (tc_args _ _ _) ?_);unfold Builtin.«type.__call__»;have hm:YN (ED Y w) h (mroOf (.ref C)) (.ref C::_):=((agU (part:=DP) hC).andThen .now).andThen .now;have made:YN (ED Y w) h (Bind.madeBy (.ref C)) (DK "Exception.__new__"):=λ A Q E s k q=>by
  obtain⟨h',g',d',t',rW⟩:=s;exact wpAny_madeBy_exc (k _ _ hC) q
 repeat (first|simp only[List.isEmpty_cons,Rk,Od]|with_reducible refine Dh ?_|lk)
 clear made hm;refine aF2 hC hB hA hN ?_ wA;have k:∀b o,h.get? b=DK o->((h.push {cls:=.type "tuple",data:=.seq rest.toArray}).push (MZ C h.objs.size DP)).get? b=DK o:=λ b o e=>RM _ (RM _ e);have hx:((h.push {cls:=.type "tuple",data:=.seq rest.toArray}).push (MZ C h.objs.size DP)).get? (h.objs.size+1)=DK (MZ C h.objs.size DP):=by heap_get
 have t1:YN (ED Y w) ((h.push {cls:=.type "tuple",data:=.seq rest.toArray}).push (MZ C h.objs.size DP)) (r8 (.ref (h.objs.size+1))) (.ref C):=(agU hx).andThen .now;have s1:YN (ED Y w) ((h.push {cls:=.type "tuple",data:=.seq rest.toArray}).push (MZ C h.objs.size DP)) (C! (.ref C) (.ref C)) DN:=λ A Q E s kk q=>by
  obtain⟨h',g',d',t',rW⟩:=s;refine s9 (kk _ _ (k _ _ hC)) ?_;rw[Ha,beq_self_eq_true,Bool.true_or];exact q
 have i1:=(Ov (M:=ED Y w) X F_.rO).keeps k;have b1:=(bind_fn (M:=ED Y w) X (.ref (h.objs.size+1)) F_.fn).keeps k;unfold isInstance callSpecial? Gb
 repeat (first|with_reducible refine Dh ?_|lk)
 refine codeAny_mono hq λ r s' z=> ?_;rcases r with e|(v|_|_|_)<;>first|exact z|exact z.elim|skip
 obtain⟨rfl,z⟩:=z;exact EK (EK z)
end
section
variable {w:EV}{K:EQ}{D:Tb}{L:Mx}
theorem ao7{f:DZ}(F_:∀h,K.In h->h.NoLimit)(G_:YF w K f fn L body ps){R:QL->EB->Prop}
  (pI:A.depth<Cn)(I:aZ w K U c s.heap)(ra:bI w c s.heap args xs)(dU:(IQ fn args).length=fn.np)
  (k:∀(Z:Env) (hh:ES) (tk:DL),mP w L c s.heap (frame fn args) Z hh->DW (ED Y w) (A.deeper Z) (Wm body Z) (λ fl s'=>(fl=.next∨fl=.ret .none)/\R (.ok (.ret .none)) s') (λ J J=>False) {s with heap:=hh,toks:=tk}):
  MC (ED Y w) A (.call (.ref f) ⟨xs,[]⟩) R s:=
 qy F_ G_ pI I ra dU λ Z hh tk T=>IF (k Z hh tk T) (λ fl s' z=>by rcases z with⟨rfl|rfl,z⟩<;>exact z) λ J J z=>z.elim
end
section
variable {w:EV}{K:EQ}{Ex:aJ}{C e:DZ}
noncomputable abbrev ZB(C t d:DZ):GT:=MZ C t (DK d)
theorem azN{ks ks':DM DL}(hp:IL a v ks B=(ks',vs'))(hz:ks.length<900):ks'.length<=JC:=by
 have h1:=zt (a:=a) (v:=v) (ks:=ks) (B:=B);rw[hp]at h1;rw[sizeLine_eq];exact EZ h1 (EZ hz (by decide))
theorem xy{I_:DZ}{H:DM FL}{ks ks':DM DL}{y:DS}{tk:KT}{Q:PySem.Fin->EB->Prop}(kP:s.heap.get? I_=DK (FK (ER H) j))(mY:AR w c s.heap ks B H)(ha:a<256^60)(hv:VR w c s.heap v y)(hp:IL a v ks B=(ks',vs'))(hz:ks.length<900)(pK:¬c.fz I_)
  (h:∀h' bT,(∀b o,b≠I_->s.heap.get? b=DK o->h'.get? b=DK o)->(∃dZ j',h'.get? I_=DK (FK (ER dZ) j')/\AR w c h' ks' vs' dZ)->Q (.done (.ret .none)) {s with heap:=h',toks:=bT}):
  DW (ED Y w) A (aeS I_ (.str (sx (EU a)) tk) (sx (EU a)) y) Q Ex s:=by
 have e1:Mb (sx (EU a)) (PI w (sx (EU a))) (.str (sx (EU a)) s.toks) y (FK (ER H) j)=FK (ER (putL (sx (EU a)) (PI w (sx (EU a))) (.str (sx (EU a)) s.toks) y H)) (putN (sx (EU a)) H j):=putName_dict _ _ _ _ H j;have D':(s.heap.update I_ (Mb (sx (EU a)) (PI w (sx (EU a))) (.str (sx (EU a)) s.toks) y)).get? I_=DK (FK (ER (putL (sx (EU a)) (PI w (sx (EU a))) (.str (sx (EU a)) s.toks) y H)) (putN (sx (EU a)) H j)):=
  (WM _ kP (by rw[e1];rfl)).trans (by rw[e1])
 have hA:=mY.wX (tk:=s.toks) ha hv;rw[hp]at hA;unfold aeS;refine DV (EK (DV ?_));unfold nsSet;refine DV (DV (aEF (EK (DV (D5 (DV (D3 kP ?_)))))));have c0:(!(ER H).any (·.key.isStr (sx (EU a)))&&(ER H).any (·.refKey))=DT:=by
  rw[O1,O1,mY.jX,M3]
 dsimp only;rw[ajG,c0];refine aEO kP ?_;refine DV (aEJ D' (ayV ?_) ?_)
 ·rw[HW,hA.length];exact P9 (azN hp hz)
 ·have kk:∀b o,b≠I_->s.heap.get? b=DK o->(s.heap.update I_ (Mb (sx (EU a)) (PI w (sx (EU a))) (.str (sx (EU a)) s.toks) y)).get? b=DK o:=λ b o hb q=>(OU _ _ (JY hb)).trans q;have m:dR c s.heap c (s.heap.update I_ (Mb (sx (EU a)) (PI w (sx (EU a))) (.str (sx (EU a)) s.toks) y)):=Pb pK kk;exact EK (h _ _ kk ⟨_,_,D',hA.bB m⟩)
theorem aF4{T:DZ}{cd:Gv}{y:DS}{Q:aK}(X:K.In s.heap)(sa:GM K (.ref C) "__setattr__" =DK (DK (.builtin "object.__setattr__")))(pl:Gd K C=DN)(hc:Bf K C=DK cd)(hd:cd.hasDict=DN)
  (hf:GM K (.ref C) (sx (EU a))=DK DP)(ha:a<256^60)(he:s.heap.get? e=DK (MZ C T DP))(hv:VR w c s.heap v y)(I:aZ w K U c s.heap)(zX:¬c.fz e)
  (h:∀h' bT I_,(∀b o,b≠e->s.heap.get? b=DK o->h'.get? b=DK o)->h'.get? e=DK (ZB C T I_)->s.heap.get? I_=DP->(∃H j,h'.get? I_=DK (FK (ER H) j)/\AR w c h' [a] [v] H)->Q () {s with heap:=h',toks:=bT}):
  DW (ED Y w) A (Zo (.ref e) (sx (EU a)) y) Q Ex s:=by
 have IA:InstAt s.heap e (MZ C T DP) C DP:=⟨he,rfl,rfl,RR⟩;have ht:Ko K C (sx (EU a))=DK DP:=by unfold Ko;rw[hf];rfl
 refine aaX X IA sa ?_;refine U! (s:={s with toks:=s.toks+1}) X IA pl ht λ b=> ?_;refine DV (EK (DV (DV (D3 he (DV ((I? (M:=ED Y w) (K:=K) (h:=({s with toks:=s.toks+1}:EB).heap) X hc).here (s:={s with toks:=s.toks+1}) ?_))))));rw[hd];have kD:e≠s.heap.objs.size:=VC (HV he);have jN:=FO s.heap {cls:=.type "dict",data:=.dict #[]} _ _ he;have hD1:(s.heap.push {cls:=.type "dict",data:=.dict #[]}).get? s.heap.objs.size=DK (FK #[] 0):=HH _ rfl;refine DV (wpAny_alloc (DV (wpAny_update jN ?_)));refine EK ?_;have he2:((s.heap.push {cls:=.type "dict",data:=.dict #[]}).update e λ o=>{o with dict:=DK s.heap.objs.size}).get? e=DK (ZB C T s.heap.objs.size):=WM _ jN rfl;have hD2:((s.heap.push {cls:=.type "dict",data:=.dict #[]}).update e λ o=>{o with dict:=DK s.heap.objs.size}).get? s.heap.objs.size=DK (FK (ER []) 0):=(OU _ _ kD).trans hD1;have kk:∀b o,b≠e->s.heap.get? b=DK o->((s.heap.push {cls:=.type "dict",data:=.dict #[]}).update e λ o=>{o with dict:=DK s.heap.objs.size}).get? b=DK o:=λ b o hb q=>(OU _ _ (JY hb)).trans (FO _ _ _ _ q);have hn:s.heap.get? s.heap.objs.size=DP:=KI (FG _);have pK:=(ZI I hn).1;have m:dR c s.heap c ((s.heap.push {cls:=.type "dict",data:=.dict #[]}).update e λ o=>{o with dict:=DK s.heap.objs.size}):=Pb zX kk;refine xy (w:=w) (c:=c) (ks:=[]) (B:=[]) (ks':=[a]) (vs':=[v]) (v:=v) (s:={s with heap:=((s.heap.push {cls:=.type "dict",data:=.dict #[]}).update e λ o=>{o with dict:=DK s.heap.objs.size}),toks:=s.toks+1}) hD2 .nil ha (hv.bB m) rfl (by decide) pK λ h' bT k' q=> ?_;exact h h' bT s.heap.objs.size (λ b o hb q=>k' b o (FZ q hn) (kk b o hb q)) (k' e _ kD he2) hn q
theorem aF5{T I_:DZ}{cd:Gv}{H:DM FL}{ks ks':DM DL}{y:DS}{Q:aK}(X:K.In s.heap)(sa:GM K (.ref C) "__setattr__" =DK (DK (.builtin "object.__setattr__")))(pl:Gd K C=DN)(hc:Bf K C=DK cd)(hd:cd.hasDict=DN)
  (hf:GM K (.ref C) (sx (EU a))=DK DP)(ha:a<256^60)(he:s.heap.get? e=DK (ZB C T I_))(hD:s.heap.get? I_=DK (FK (ER H) j))(mY:AR w c s.heap ks B H)(hv:VR w c s.heap v y)(hp:IL a v ks B=(ks',vs'))(hz:ks.length<900)(pK:¬c.fz I_)
  (h:∀h' bT,(∀b o,b≠I_->s.heap.get? b=DK o->h'.get? b=DK o)->(∃H j,h'.get? I_=DK (FK (ER H) j)/\AR w c h' ks' vs' H)->Q () {s with heap:=h',toks:=bT}):
  DW (ED Y w) A (Zo (.ref e) (sx (EU a)) y) Q Ex s:=by
 have IA:InstAt s.heap e (ZB C T I_) C (DK (FK (ER H) j)):=⟨he,rfl,rfl,hD⟩;have ht:Ko K C (sx (EU a))=DK DP:=by unfold Ko;rw[hf];rfl
 refine aaX X IA sa ?_;refine U! (s:={s with toks:=s.toks+1}) X IA pl ht λ b=> ?_;refine DV (EK (DV (DV (D3 he (DV ((I? (M:=ED Y w) (K:=K) (h:=({s with toks:=s.toks+1}:EB).heap) X hc).here (s:={s with toks:=s.toks+1}) ?_))))));rw[hd];refine EK (a:=DK I_) ?_;exact xy (w:=w) (c:=c) (s:={s with toks:=s.toks+1}) hD mY ha hv hp hz pK h
end
theorem an1(K:EQ):findCls K (.type "Exception") (.type "type") ("__init__" :EA)=DK (.val (.builtin "Exception.__init__")):=by kernel_rfl
theorem aCE:Manifest.isStub "Exception" =DT:=by decide+kernel
theorem aDY:r8 (.type "Exception")=pure (.type "type"):=by kernel_rfl
section
variable {w:EV}{K:EQ}{D:Tb}{L:Mx}{mb:EA->DQ DS}{Ex:aJ}{C e:DZ}
theorem amM{M:NM}{nm q:EA}{N:DZ}{bs:DM DS}{pH:DU}{sn:DM EA}{sub:DM DS}{ab:DU}{col:DQ DU}{k0 k1 k2 k3 k5:DQ DS}{g:FM af}{d:Drawn}{t:DL}{os:Hf}{oe:GT}{rest:DM DS}{Q:aK}
  (hC:h.get? C=DK (qn nm q C N bs bm pH sn sub ab col dd k0 k1 k2 k3 k5 "Exception.__new__"))(hB:bm.contains (.type "Exception")=DN)(he:h.get? e=DK oe)(zP:oe.cls=.ref C)(hq:Q () ⟨h,g,d,t,os⟩):
  DW M A (lg "Exception.__init__" ⟨.ref e::rest,[]⟩) Q Ex ⟨h,g,d,t,os⟩:=by
 have F:=de;have hcB:(NO C::bm).contains (.type "Exception")=DN:=by rw[Ha,hB,M4]
 have hshort:=F.noStar;simp only[lg,F.initKind,F.initSplit,F.initRow]
 repeat (first|(with_reducible refine D4 he ?_;rw[zP])|with_reducible refine D4 hC ?_|(with_reducible refine s9 hC ?_;rw[hcB])|wp_step)
 refine D6 ?_;rw[show∀(a b:HB) (n:DL),Bind.check ⟨.positional, "*", "Exception",.self,[⟨"args",.varPos,DT⟩]⟩ a b n (Sj (λ x=>x.fst) ({pos:=NO e::rest}:Args).kw)=pure ()from
  λ a b n=>check_star_args _ _ _ _ _ _]
 exact EK hq
theorem am1{f T:DZ}{y:DS}(X:K.In s.heap)(F_:Dw K C f)(he:s.heap.get? e=DK (MZ C T DP))
  (h:∀h' T',(∀b o,b≠e->s.heap.get? b=DK o->h'.get? b=DK o)->h'.get? e=DK (MZ C T' DP)->Q .none {s with heap:=h'}):DW (ED Y w) A (call (.builtin "Exception.__init__") [.ref e,y]) Q Ex s:=by
 have Fn:=de;obtain⟨hK,hB,pC,hA,hN⟩:=F_.ob;obtain⟨hp,g,d,t,os⟩:=s;refine Dh (me Fn.init.plain Fn.initEntry (amM (X _ _ hK) hB he rfl ?_));show DW _ _ (O? [y]>>=λ t=>aeL (.ref e) 0 t>>=λ J=>ret .none) _ _ _;refine DV (acY ?_ (by show 1<=JC;unfold JC;decide));have jN:=FO hp {cls:=.type "tuple",data:=.seq (ER [y])} _ _ he;unfold aeL;refine DV (DV (IT jN rfl (x:=.ref T) rfl (DV (ZS jN (by simp) λ h1 g1 sb=> ?_))));refine D2 ?_;exact EK (h h1 _ (λ b o hb q=>sb.extBut b o hb (FO _ _ _ _ q)) g1)
theorem awB{pl:JN DU}{Q:DS×DM DS->EB->Prop}(X:K.In s.heap)(h:Q (.builtin "Exception.__init__",[]) {s with toks:=s.toks+1}):DW (ED Y w) A (QU (.type "Exception") ("__init__" :EA) pl) Q Ex s:=by
 have hstub:ayC (.type "Exception")=pure DP:=by unfold ayC;dsimp only;rw[aCE];rfl
 have L0:YN (ED Y w) s.heap (r8 (.type "Exception")) (.type "type"):=agV aDY;have hg:GM K (.type "type") "__getattribute__" =DK (DK (.builtin "type.__getattribute__")):=type_tga;unfold QU Gb;refine DV (DV (L0.here ((Ov X hg).here ?_)));dsimp only;rw[GG canon_tga];refine DV (IF (Q:=λ v=>Q (v,[])) (E:=Ex) ?_ (λ J J z=>EK z) λ J J z=>z);refine cls_open X (agV hstub) L0 hg (looks_hook X (r:=DP) (by rfl)) (by show subIn K _ _=_;rfl) (an1 K)
  (EK (by show DW _ _ (handedOut _) _ _ _;rw[handedOut_of (by rfl)];exact EK h))
theorem Fg{x:DL}{id:EA}(er:dD w L m c s.heap Z)(hs:GK id L.nm=DK x)(hk:L.sc.lookup id=DK .local)(hd:(id==("__debug__" :EA))=DT)(hv:m[x]? =DK (DK v))(q:∀y,VR w c s.heap v y->Q y s):DW (ED Y w) A (HM (.Name id pos) Z) Q Ex s:=by
 refine wpAny_Name ?_ hd;obtain⟨mm,hn,r⟩:=er.loc;obtain⟨y,hy,g⟩:=r id x hs hk v hv;exact aEI er.kind ((PN er id).trans hk) hn hy (q y g)
structure Xb(w:EV)(K:EQ)(L:Mx)(m:Lv)(c:Cx)(U:aS)(Z:Env)(e:DZ)(ob:GT)(h:ES):Prop where
 er:dD w L m c h Z
 bW:aZ w K U c h
 dS:∀a∈FD Z,∃o,h.get? a=DK o
 jT:h.get? e=DK ob
theorem Xb.step{ob jY:GT}(D_:Xb w K L m c U Z e ob h)(P:Pv c [e])(he:e∉FD Z)(hd:¬PL ob)(k:∀b o,b≠e->h.get? b=DK o->h'.get? b=DK o)(g:h'.get? e=DK jY):Xb w K L m c U Z e jY h':=
 have S:=ayG P D_.bW (λ a ha=>GY.mp ha▸⟨_,D_.jT,hd⟩) (λ a ha=>GY.mp ha▸⟨_,g⟩) λ b o hb q=>k b o (sm1 hb) q
 ⟨D_.er.ext S.2 (λ a ha z=>he (GY.mp z▸ha)) D_.dS,S.1,λ a ha=>(D_.dS a ha).imp λ o q=>k a o (λ z=>he (z▸ha)) q,g⟩
theorem aCQ{ob:Expr}{aU:EA}{l:DL}:RJ x (DK (.Attribute ob aU tp)) l Z=pure DT:=by
 apply @Q6 (λ x=>RJ x (DK (.Attribute ob aU tp)) l Z=pure DT) x<;>(intros;exact @rfl _ (pure DT))
theorem iy{M:NM}{ob:Expr}{aU:EA}{Q:SX->EB->Prop}(h:DW M A (HM x Z) (λ y s1=>DW M A (HM ob Z) (λ ov s2=>DW M A (Zo ov aU y) (λ J s3=>Q .next s3) Ex s2) Ex s1) Ex s):DW M A (exec (.Assign [.Attribute ob aU tp] x pos) Z) Q Ex s:=by
 have e0:exec (.Assign [.Attribute ob aU tp] x pos) Z=(do
   Km pos
   if<-RJ x (DK (.Attribute ob aU tp)) pos.line Z then
    Y9 x Z (OJ (.Attribute ob aU tp) Z)
    return .next
   let v<-HM x Z
   OJ (.Attribute ob aU tp) Z v
   pure .next):=rfl
 rw[e0,aCQ];refine DV (OS (DV (EK ?_)));rw[FU (by decide)];refine DV (IF h (λ y s1 h1=>DV (iw (IF h1 (λ J J z=>IF z (λ J J z=>EK z) λ J J z=>z) λ J J z=>z))) λ J J z=>z)
end
section
variable {w:EV}{K:EQ}{D:Tb}{L:Mx}{mb:EA->DQ DS}{Ex:aJ}{C e f:DZ}
theorem aoP{M:NM}{rest:DM Expr}{f:DS}{Q:Args->EB->Prop}(hx:UH x=DN)(h:DW M A (HM x Z) (λ v dQ=>DW M A (spliced (TR pos (RI rest Z))) (λ B hU=>Q ⟨v::B,[]⟩ hU) Ex dQ) Ex s):
  DW M A (evalArgs f DN (TR pos (RI (x::rest) Z)) []) Q Ex s:=by
 have:=S3 (pos:=pos) (Q:=λ B s=>Q ⟨B,[]⟩ s) h (Kn hx);rw[Kn hx]at this⊢;exact aoQ this
theorem awM(F_:Gf w K D gn mg mb)(D_:dD w L m c s.heap Z)(X:K.In s.heap){id:EA}{v:DS}(hk:L.sc.lookup id=DK .globalImplicit)(h1:mg id=DP)(h2:mb id=DK v)(hd:(id==("__debug__" :EA))=DT)(q:Q v s):
  DW (ED Y w) A (HM (.Name id pos) Z) Q Ex s:=
 Sl D_.kind ((PN D_ id).trans hk) (av8 (D_.glob▸F_.mZ _ X) h1 (D_.bu▸F_.vX _ X) h2 q) hd
theorem xo{T:DZ}:¬PL (MZ C T dd):=λ z1=>by obtain⟨_,_,z⟩:=z1;exact(by cases z)
@[elab_as_elim] theorem h_{P:aN}{y:DS}(r:VR w c h (.fn e) y)(k:P (.ref e)):P y:=by cases r;exact k
theorem akW{I_:DZ}{ob:GT}(k:∀b o,b≠e->h.get? b=DK o->h'.get? b=DK o)(g:h'.get? e=DK ob)(n:h'.get? I_=DP):h.get? I_=DP:=
 Option.eq_none_iff_forall_not_mem.mpr λ o z=>Ch ((k I_ o (λ q=>EW ((q▸n:h'.get? e=DP).symm.trans g)) z).symm.trans n)
theorem atE(F_:Gf w K D gn mg mb)(XC:Dw K C f){cd:Gv}(hc:Bf K C=DK cd)(oK:cd.hasDict=DN){a1 a2:DL}(zH:a1<256^60)(zI:a2<256^60)(cS:EG a2 a1=DT)(tK:GM K (.ref C) (sx (EU a1))=DK DP)(zV:GM K (.ref C) (sx (EU a2))=DK DP)
  {n0 n1 n2:EA}{p1 p2 p3 p4 p5 p6 p7 p8 p9 nJ nK nL nM nN:FS}(pO:(p2.endLine==p5.line)=DN)(hk:L.sc.lookup fK=DK .globalImplicit)(h1:mg fK=DP)(h2:mb fK=DK (.type "Exception"))(hd:(fK==("__debug__" :EA))=DT)
  (s0:GK n0 L.nm=DK 0)(s1:GK n1 L.nm=DK 1)(s2:GK n2 L.nm=DK 2)(k0:L.sc.lookup n0=DK .local)(k1:L.sc.lookup n1=DK .local)(k2:L.sc.lookup n2=DK .local)(d0:(n0==("__debug__" :EA))=DT)(d1:(n1==("__debug__" :EA))=DT)(d2:(n2==("__debug__" :EA))=DT)
  {T0:DZ}{u2:V}{Q:SX->EB->Prop}(D_:Xb w K L [DK (.fn e),DK u1,DK u2] c U Z e (MZ C T0 DP) s.heap)(P:Pv c [e])(he:e∉FD Z)
  (h:∀h' tk T I_,(∀b o,b≠e->s.heap.get? b=DK o->h'.get? b=DK o)->h'.get? e=DK (ZB C T I_)->s.heap.get? I_=DP->(∃H j,h'.get? I_=DK (FK (ER H) j)/\AR w c h' [a1,a2] [u1,u2] H)->Q .next {s with heap:=h',toks:=tk}):
  DW (ED Y w) A (Wm [.Expr (.Call (.Attribute (.Name fK p1) "__init__" p2) [.Name n0 p3,.Name n1 p4] [] p5) p6,.Assign [.Attribute (.Name n0 p7) (sx (EU a1)) p8] (.Name n1 p9) nJ,.Assign [.Attribute (.Name n0 nK) (sx (EU a2)) nL] (.Name n2 nM) nN] Z) Q Ex s:=by
 refine Qz (acU (wx rfl rfl (by show 2<30;decide) pO ?_) (by unfold um;rw[D_.er.kind];rfl) (k7 rfl DP));refine awM F_ D_.er D_.bW.In hk h1 h2 hd ?_;refine awB D_.bW.In ?_;refine z6 (Ck rfl) (aoP rfl ?_);refine Fg D_.er s0 k0 d0 rfl λ y0 r0=>h_ r0 ?_;refine S3 ?_ rfl;refine Fg D_.er s1 k1 d1 rfl λ y1 r1=>gz ?_;refine am1 (s:={s with toks:=s.toks+1}) D_.bW.In XC D_.jT λ h3 T3 tX g3=> ?_;have B3:=D_.step P he xo tX g3;refine Qz (iy ?_);refine Fg (s:={s with heap:=h3,toks:=s.toks+1}) B3.er s1 k1 d1 rfl λ y1 r1=> ?_;refine Fg (s:={s with heap:=h3,toks:=s.toks+1}) B3.er s0 k0 d0 rfl λ y0 r0=>h_ r0 ?_;refine aF4 (s:={s with heap:=h3,toks:=s.toks+1}) B3.bW.In XC.sa XC.pl hc oK tK zH g3 r1 B3.bW (P.fz _ (.head _)) λ h4 rY I_ wI g4 vY q=> ?_;obtain⟨H,j,q1,q2⟩:=q;have B4:=B3.step P he xo wI g4;refine Qz (iy ?_);refine Fg (s:={s with heap:=h4,toks:=rY}) B4.er s2 k2 d2 rfl λ y2 r2=> ?_;refine Fg (s:={s with heap:=h4,toks:=rY}) B4.er s0 k0 d0 rfl λ y0 r0=>h_ r0 ?_;have hnD:s.heap.get? I_=DP:=akW tX g3 vY;have hDe:e≠I_:=FZ D_.jT hnD;exact aF5 (s:={s with heap:=h4,toks:=rY}) (ks':=[a1,a2]) (vs':=[u1,u2]) B4.bW.In XC.sa XC.pl hc oK zV zI g4 q1 q2 r2 (Pq cS) (IW Nat.one_lt_two (by decide)) (ZI B3.bW vY).1 λ h5 lF oP q5=>
  EK (h h5 lF T3 I_ (λ b o hb q=>oP b o (FZ q hnD) (wI b o hb (tX b o hb q))) (oP e _ hDe g4) hnD q5)
end
section
variable {w:EV}{K:EQ}{D:Tb}{L:Mx}{mb:EA->DQ DS}{E:aJ}{C e f:DZ}
theorem amG{C:DZ}(h:bm.contains (.type "BaseException")=DN):(NO C::bm).contains (.type "BaseException")=DN:=by rw[Ha,h,M4]
theorem PR.oe{α β γ:Type}{Rl:Cx->ES->α->β->Prop}{ok:aM}{x:DQ γ}{f:γ->R α}{Q:β->EB->Prop}(p:PR w K Rl ok π c s (oe x .bL f) Q E){P:Prop}(k:∀v,x=DK v->PR w K Rl ok π c s (f v) Q E->P):P:=
 match x,p,k with
 |some v,p,k=>k v rfl p
inductive fy(K:EQ)(C:DZ)(E:aJ)(s:EB):DS->Prop
 |mk {e t I_:DZ}:K.In s.heap->s.heap.get? e=DK (ZB C t I_)->E (.ref e) s->fy K C E s (.ref e)
theorem azR{M:NM}{x:JN DS}{Q:SX->EB->Prop}(hh:A.handled=DP)(XC:Dw K C f)
  (h:DW M A x (λ v dQ=>fy K C E dQ v) E s):DW M A (raiseStmt Z (DK x) DP) Q E s:=by
 obtain⟨hK,hB,pC,hA,hN⟩:=XC.ob;have hcB:=amG pC (C:=C);unfold raiseStmt;refine DV (IF h (λ v dQ dJ=> ?_) λ J J x=>x);obtain⟨X,he,hE⟩:=dJ;have hC:=X _ _ hK;obtain⟨hp,g,d,tk,os⟩:=dQ
 repeat (first|with_reducible refine D4 he ?_|with_reducible refine D4 hC ?_|(with_reducible refine s9 hC ?_;rw[hcB])|wp_step)
 exact wpAny_raiseNew_none hh hE
inductive Dx(mg mb:EA->DQ DS)(mi:Mx):DM EY->Prop
 |mk {x0 n0 n1 n2:EA} {p1 p2 p3 p4 p5 p6 p7 p8 p9 nJ nK nL nM nN:FS}:(p2.endLine==p5.line)=DN->mi.sc.lookup x0=DK .globalImplicit->mg x0=DP->mb x0=DK (.type "Exception")->(x0==("__debug__" :EA))=DT->
  GK n0 mi.nm=DK 0->GK n1 mi.nm=DK 1->GK n2 mi.nm=DK 2->mi.sc.lookup n0=DK .local->mi.sc.lookup n1=DK .local->mi.sc.lookup n2=DK .local->(n0==("__debug__" :EA))=DT->(n1==("__debug__" :EA))=DT->(n2==("__debug__" :EA))=DT->
  Dx mg mb mi [.Expr (.Call (.Attribute (.Name x0 p1) "__init__" p2) [.Name n0 p3,.Name n1 p4] [] p5) p6,.Assign [.Attribute (.Name n0 p7) (sx (EU 28542640894207341)) p8] (.Name n1 p9) nJ,.Assign [.Attribute (.Name n0 nK) (sx (EU 1953460339)) nL] (.Name n2 nM) nN]
structure Mn(w:EV)(K:EQ)(mg mb:EA->DQ DS)(C f:DZ)(fn:Fn)(mi:Mx)(body:DM EY)(ps:DM Tx)(fK:EA):Prop where
 xc:Dw K C f
 fo:YF w K f fn mi body ps
 np:fn.np=3/\fn.ns=3
 bd:Dx mg mb mi body
 f1:GM K (.ref C) (sx (EU 28542640894207341))=DK DP
 f2:GM K (.ref C) (sx (EU 1953460339))=DK DP
 gl:mg fK=DK (.ref C)
theorem ap2(h:args.length=fn.np):IQ fn args=args:=by
 unfold IQ;rw[h,Nat.sub_self,Nat.sub_zero,List.drop_length];exact KP args
theorem ro{a d:V}(np:fn.np=3/\fn.ns=3):(IQ fn [a,b,d]).length=fn.np/\frame fn [a,b,d]=[DK a,DK b,DK d]:=by
 unfold frame;rw[ap2 (by rw[np.1];rfl),np.1,np.2];exact⟨rfl,rfl⟩
theorem aDV:2<=JC:=by unfold JC;decide
theorem dp1{b:DL}(h:a+2<b):a+1<b:=Nat.lt_of_succ_lt h
theorem aF0{t i:V}{y1 y2:DS}{T0:DZ}{R:QL->EB->Prop}(F_:Gf w K D gn mg mb)(XI:Mn w K mg mb C f fn mi body ps fK)(pI:A.depth<Cn)(I:aZ w K U c s.heap)(he:s.heap.get? e=DK (MZ C T0 DP))(P:Pv c [e])(r1:VR w c s.heap t y1)(r2:VR w c s.heap i y2)
  (h:∀h' tk T I_,(∀b o,b≠e->s.heap.get? b=DK o->h'.get? b=DK o)->h'.get? e=DK (ZB C T I_)->s.heap.get? I_=DP->(∃H j,h'.get? I_=DK (FK (ER H) j)/\AR w c h' [28542640894207341,1953460339] [t,i] H)->R (.ok (.ret .none)) {s with heap:=h',toks:=tk}):
  MC (ED Y w) A (.call (.ref f) ⟨[.ref e,y1,y2],[]⟩) R s:=by
 have hf:=XI.fo;have np:=XI.np;have xc:=XI.xc;have f1:=XI.f1;have f2:=XI.f2;obtain⟨cd,hc,oK⟩:=xc.cd;obtain⟨b1,b2,b3,b4,b5,b6,b7,b8,b9,xU,xV,xW,xX,xY⟩:=XI.bd;clear XI;refine ao7 F_.wQ hf pI I (.cons (.fn _) (.cons r1 (.cons r2 .nil))) (ro np).1 λ Z hh gE T=> ?_;have er:=T.er;rw[(ro np).2]at er;exact atE (s:={s with heap:=hh,toks:=gE}) F_ xc hc oK (by decide) (by decide) (by decide) f1 f2 b1 b2 b3 b4 b5 b6 b7 b8 b9 xU xV xW xX xY ⟨er,I.eY T.keep,T.dS,T.keep _ _ he⟩ P (λ hm=>EP (HV he) (IG.mpr (T.own _ hm)))
  λ h5 lF T5 I_ oP g5 rH ae=>⟨.inl rfl,h h5 lF T5 I_ (λ b o hb q=>oP b o hb (T.keep b o q)) g5 (JP (λ b o q=>⟨o,T.keep b o q⟩) rH) ae⟩
theorem aF1{t i:V}{y1 y2:DS}(F_:Gf w K D gn mg mb)(XI:Mn w K mg mb C f fn mi body ps fK)(pI:A.depth+2<Cn)(I:aZ w K U c s.heap)(r1:VR w c s.heap t y1)(r2:VR w c s.heap i y2)
  (h:∀e T I_ h' tk,(∀b o,s.heap.get? b=DK o->h'.get? b=DK o)->s.heap.get? e=DP->s.heap.get? I_=DP->e≠I_->h'.get? e=DK (ZB C T I_)->(∃H j,h'.get? I_=DK (FK (ER H) j)/\AR w c h' [28542640894207341,1953460339] [t,i] H)->Q (.ref e) {s with heap:=h',toks:=tk}):
  DW (ED Y w) A (call (.ref C) [y1,y2]) Q E s:=by
 obtain⟨hp,g,d,tk,os⟩:=s;refine Dh (aEZ I.In XI.xc aDV ?_);have k0:∀b o,hp.get? b=DK o->((hp.push {cls:=.type "tuple",data:=.seq [y1,y2].toArray}).push (MZ C hp.objs.size DP)).get? b=DK o:=λ b o q=>FO _ _ _ _ (FO _ _ _ _ q);have he0:((hp.push {cls:=.type "tuple",data:=.seq [y1,y2].toArray}).push (MZ C hp.objs.size DP)).get? (hp.objs.size+1)=DK (MZ C hp.objs.size DP):=by heap_get
 have hn0:hp.get? (hp.objs.size+1)=DP:=KI (TD _);have N:=ZI I hn0;refine aF0 (s:=⟨_,g,d,tk,os⟩) F_ XI (dp1 pI) (I.eY k0) he0 (.bN N.1 N.2.1 N.2.2) (r1.bB (.fO k0)) (r2.bB (.fO k0)) λ h5 lF T I_ oP g5 rH ae=> ?_;exact⟨rfl,h _ T I_ h5 lF (λ b o q=>oP b o (FZ q hn0) (k0 b o q)) hn0 (JP (λ b o q=>⟨o,k0 b o q⟩) rH) (FZ he0 rH) g5 ae⟩
theorem dp2(h:d+6 * n+6<Cn):d+2<Cn:=JX (OF (HD d _) (by decide)) h
theorem axC{a:V}{t:Tx}{i:DY}(e2:GJ a=DK t)(e3:HX b=DK i):PP [a,b]=DN:=by
 rw[IP e2,Ea e3];rfl
theorem aiV{H:Es}{xs:DM Expr}{uW:FS}(F_:Gf w K D gn mg mb)(XI:Mn w K mg mb 88 f fn mi body ps fK)(h2:LZ Y w K n D o L H xs)(hn:xs=[]->H=.nil)(hs:IB xs=DN)(hk:L.sc.lookup fK=DK .globalImplicit)(hd:(fK==("__debug__" :EA))=DT):
  SS Y w K n D o L (.raise H) (.Raise (DK (.Call (.Name fK np) xs [] uW)) DP pos):=by
 intro A fr Z m c U s Q E C hl p;rw[arm_exec_Raise];have iI:((TR uW (RI xs Z)).any (·.1)||([]:DM (DQ EA×JN DS)).any (·.1.isNone))=DT:=by rw[Ck hs];rfl
 refine DV (OS (azR C.rm.hh XI.xc (DV (Rq (Sl C.er.kind ((PN C.er fK).trans hk) (wi (C.er.glob▸F_.mZ _ C.bW.In) XI.gl ?_) hd) rfl))));have p0:PR w K (eV w L Z) (HA Z.locals) (FD Z) c s (R.bind (MX D o H m U) Zf) Q E:=p;refine Vp (P:=λ h=>K.In h) iI (E! XI.xc.keep) (As h2 hn hs C.ct (PR.uI (tk:=s.toks) (.refl _ c s.heap) p0 (λ B G J p1 c1 h1 gE ys I1 X1 ra=>⟨I1.In,?_⟩) PG JB));refine PR.oe p1 λ q e1 p1=>PR.oe p1 λ t e2 p1=>PR.oe p1 λ i e3 p1=> ?_;rw[<-IP e2,<-Ea e3]at p1;refine Kx e1 ra λ y1 y2 r1 r2=> ?_;refine aF1 (s:={s with heap:=h1,toks:=gE}) F_ XI (dp2 C.rm.dp) I1 r1 r2 λ e T I_ h3 cU k3 ne nD cS ge q=> ?_;obtain⟨yO,j3,gD,ar⟩:=q;have N1:=ZI I1 ne;have N2:=ZI I1 nD;refine DV (OS (EK (.mk (I1.In.keeps k3) ge ?_)));exact p1 c1 h3 cU e .fresh RR (I1.eY k3) ((X1.trans (.eY k3)).dL JB) ⟨ZB 88 T I_,_,I_,yO,j3,_,_,rfl,⟨JP X1.dom ne,JP X1.dom nD,axC e2 e3,ge,rfl,rfl,rfl,gD,ar,N1.1,N2.1,cS,λ q hq=>⟨N1.2.1 q hq,N2.2.1 q hq⟩⟩,rfl⟩
end
section
variable {w:EV}{K:EQ}{D:Tb}{L:Mx}{mb:EA->DQ DS}{E:aJ}{f:DZ}
theorem mG{α β:Type}{l:DM α}{v:β}:(l.map λ J=>(DP:DQ β))[j]?≠DK (DK v):=λ q=>by
 rw[SZ]at q;exact om (P:=λ x=>x=DK v->False) q (λ J J q=>EW q) rfl
theorem eO.yA(C:eO w K n A fr L m c U h Z){a:DZ}(ha:a∈FD Z)(sb:WL a h h')(hd:∃o,h'.get? a=DK o/\PL o):aZ w K U c h'/\bM (FD Z) c h c h':=
 have k:∀b ob,b∉FD Z->h.get? b=DK ob->h'.get? b=DK ob:=λ b ob hb e=>sb.extBut b ob (λ z=>hb (z▸ha)) e
 ⟨C.bW.fO (π:=FD Z) (λ b hb=>⟨(C.er.eJ b hb).1,(C.er.eJ b hb).2,λ z=>C.cC (z▸hb)⟩) k,
  .of_keep (λ b hb=>(C.er.eJ b hb).1) (λ b hb ob e d=>if z:b=a then z▸hd else⟨ob,sb.extBut b ob z e,d⟩) k (λ b hb ob e=>if z:b=a then z▸hd.imp λ J q=>q.1 else⟨ob,sb.extBut b ob z e⟩)⟩
theorem eO.CQ(C:eO w K n A fr L m c U h Z){m7:EA->DQ DS}(hn:h'.Ns Z.locals m7)(sb:WL Z.locals h h'):aZ w K U c h'/\bM (FD Z) c h c h'/\dD w L (m.map λ J=>DP) c h' Z:=
 have S:=C.yA (.head _) sb (by obtain⟨o,H,ep,e,d,_⟩:=hn;exact⟨o,e,H,ep,d⟩)
 ⟨S.1,S.2,C.er.names,C.er.kind,C.er.glob,C.er.bu,⟨m7,hn,λ J J J J v q=>EP q mG⟩,λ n' j q1 q2=>let⟨b,vo,c1,c2,_⟩:=C.er.jU n' j q1 q2
  ⟨b,vo,c1,c2.sameBut sb (JY ((agO.mp C.apart).1 b (LN.mpr ⟨(n',b),mem_of_lookup c1,rfl⟩))),λ v q=>EP q mG⟩,C.er.eJ,λ J J J=>mG⟩
theorem aD7{x:DL}{F:Fl×Lv->aB (Fl×Lv)}(hx:x<m.length):aB.bind (FC (EE D) o (.cons (.ret (.aU (.loc x) a)) .nil) (m.set x (DK ev))) F U=oe (GR D U ev a) .bL λ u=>F (.ret u,m.set x (DK ev)) U:=by
 have hs:ZN (m.set x (DK ev)) x=DK ev:=by unfold ZN;rw[OV hx];rfl
 show R.bind (R.bind (R.bind (R.bind (aB.eH (ZN (m.set x (DK ev)) x) U) λ v=>aB.rd λ U=>GR D U v a) λ v=>aB.pure (.ret v,m.set x (DK ev))) (LJ (FC (EE D) o .nil))) F=_;rw[hs];show R.bind (R.bind (R.bind (aB.eH (GR D U ev a) U) λ v=>aB.pure (.ret v,m.set x (DK ev))) (LJ (FC (EE D) o .nil))) F=_;cases GR D U ev a<;>rfl
theorem fY.cls{lo:ES}{e:V}{a:DZ}{st:dF}(F:fY w lo c h e a st):∃ob,h.get? a=DK ob/\ob.cls=.ref 88:=by
 obtain⟨_,_,_,_,_,_,_,_,T,_⟩:=F;exact⟨_,T.g1,T.g2⟩
theorem fY.yS{lo:ES}{a:DZ}{st:dF}(F:fY w lo c h ev a st)(I:aZ w K U c h)(gY:Lo lo (Z::fr)):∃d,lo.get? a=DP/\lo.get? d=DP/\(∃o,h.get? a=DK o)/\(∃o,h.get? d=DK o)/\aZ w K U ((c.eP a).eP d) h/\VR w ((c.eP a).eP d) h ev (.ref a):=by
 obtain⟨oe,B,d,H,nn,ks,us,rfl,T,_⟩:=F;have m:dR c h ((c.eP a).eP d) h:=⟨λ J J e=>e,λ J e=>.inl (.inl e),λ J J J q=>q⟩;exact⟨d,T.la,T.ld,⟨_,T.g1⟩,⟨_,T.g5⟩,(I.lN ⟨_,T.g1⟩ (λ p q=>(T.hp p q).1) (gY.ne T.la).1).lN ⟨_,T.g5⟩ (λ p q=>(T.hp p q).2) (gY.ne T.ld).1,
  .obj T.g1 T.g2 T.g4 (by unfold notCls;rw[T.g3]) T.g5 (.inl (.inr rfl)) (.inr rfl) (T.ar.bB m)⟩
theorem amF{D_:HG}{x:DL}{ad:DZ}{gL:EA}{uE uF uG:FS}{G_:SX->EB->Prop}{E1:EB->DS->EB->Prop}(ho:KC L=DN)(F_:Gf w K D gn mg mb)(hs:GK gL L.nm=DK x)(pN:L.sc.lookup gL=DK .local)(rE:(gL==("__debug__" :EA))=DT)
  (C0:eO w K n A fr L m c0 G h0 Z)(hl:Ln L m)(I:aZ w K U c h)(X:bM [] c0 h0 c h)(r:VR w c h ev (.ref ad))(dM:GR D U ev a=DK u)
  (k:∀c6 h6 qJ y,eO w K n A fr L (m.set x (DK ev)) c6 U h6 Z->bM (FD Z) c0 h0 c6 h6->VR w c6 h6 u y->G_ (.ret y) {s with heap:=h6,toks:=qJ}):
  DW (ED Y w) D_ (abI Z gL (.ref ad)) (λ J hU=>DW (ED Y w) D_ (Wm [.Return (DK (.Attribute (.Name gL uE) (sx (EU a)) uF)) uG] Z) G_ (E1 hU) hU) E2 {s with heap:=h,toks:=tk}:=by
 have C1:=C0.ext I X;refine j7 (s:={s with heap:=h,toks:=tk}) ho hs (.inl pN) (hl gL x hs) C1 r λ h5 lF I5 X5 yM=> ?_;have C5:=C1.step I5 X5 yM;refine Qz (aEE (aeB ?_ (by rw[akC,U3 rfl])));refine Fg (s:={s with heap:=h5,toks:=lF}) C5.er hs pN rE (v:=ev) (OV (hl gL x hs)) λ y r5=> ?_;exact yk (s:={s with heap:=h5,toks:=lF}) F_ I5 dM r5 λ c6 h6 qJ y I6 X6 r6=>k c6 h6 qJ y (C5.ext I6 X6) (((X.dL JB).trans X5).trans (X6.dL JB)) r6
theorem aiY{e:aA}{x:DL}{gL:EA}{BQ BR uE uF uG BS:FS}(ho:KC L=DN)(F_:Gf w K D gn mg mb)(XC:Dw K 88 f)(h1:SE Y w K n D o L e ex)(AK:Pf ex=DN)(gl:mg fK=DK (.ref 88))(hk:L.sc.lookup fK=DK .globalImplicit)(hd:(fK==("__debug__" :EA))=DT)
  (hs:GK gL L.nm=DK x)(pN:L.sc.lookup gL=DK .local)(rE:(gL==("__debug__" :EA))=DT):
  SS Y w K n D o L (.try (.cons (.ex e) .nil) x (.cons (.ret (.aU (.loc x) a)) .nil)) (.Try [.Expr ex BQ] [.ExceptHandler (DK (.Name fK BR)) (DK gL) [.Return (DK (.Attribute (.Name gL uE) (sx (EU a)) uF)) uG] BS] [] [] pos):=by
 intro A fr Z m c U s Q E C hl p;rw[arm_exec_Try];refine DV (OS (wpAny_tryStmt_except ?_));have p0:PR w K (eV w L Z) (HA Z.locals) (FD Z) c s (Kt x (FC (EE D) o (.cons (.ret (.aU (.loc x) a)) .nil)) m (R.bind (R.bind (MW D o e m U) λ J=>aB.pure (.next,m)) (LJ (FC (EE D) o .nil)))) Q E:=p;clear p;refine Qz (acU (h1 A _ Z m c U s _ _ C.ct ?_) (by unfold um;rw[C.er.kind];rfl) (k7 AK DP));cases hq:MW D o e m U with
 |bL=>rw[hq]at p0;exact p0.elim|ok v bS=>
  rw[hq]at p0;exact λ c1 h1 gE y I1 X1 r1=>EK (EK ((p0:PR w K (eV w L Z) (HA Z.locals) (FD Z) c s (.ok (.next,m) bS) Q E) c1 h1 gE .next I1 (X1.dL JB) ⟨RR,(C.ext I1 X1).er,hl⟩))
 |cD ev bS=>
  rw[hq]at p0;have p0:PR w K (eV w L Z) (HA Z.locals) (FD Z) c s (aB.bind (FC (EE D) o (.cons (.ret (.aU (.loc x) a)) .nil) (m.set x (DK ev))) (λ r=>aB.pure (r.1,r.2.map λ J=>DP)) bS) Q E:=p0;intro c1 h1 gE ad st eZ I1 X1 F1;have gY:Lo s.heap (Z::fr):=⟨C.bW.cC.2.2,λ y hy H_ hL=>by
   rcases IV.mp hy with rfl|hy
   ·rw[C.here]at hL;exact EJ hL▸C.dS _ (.head _)
   ·obtain⟨_,L',o',q1,q2,_⟩:=C.iH y hy;rw[q1]at hL;exact⟨_,EJ hL▸q2⟩⟩
  refine Q! (s:={s with heap:=h1,toks:=gE}) C.jV (C.ext I1 X1).ct.iH C.here gY (λ b hb=>JP X1.dom hb) I1 F1 (PG st eZ) λ h2 qP q2 I2 X2 F2=> ?_;refine Wp (s:={s with heap:=h2,toks:=gE}) (fo:=DP) gY.cC I2 F2 (λ z=>(by cases z)) λ h3 CX q3 I3 X3 F3=> ?_;refine wpAny_handleBy_cons (codeAny_handlers_test (Sl C.er.kind ((PN C.er fK).trans hk) (wi (C.er.glob▸F_.mZ _ I3.In) gl ?_) hd)) (by intro q;cases q);obtain⟨hK,_,pC,_,_⟩:=XC.ob;obtain⟨DF,vL,yU⟩:=F3.cls;refine wpAny_excMatches_sub_self (I3.In _ _ hK) vL yU pC (codeAny_handlers_suite_as ?_);refine Wp (s:={s with heap:=h3,toks:=gE}) (fo:=DP) gY.cC I3 F3 (λ z=>(by cases z)) λ h4 CY q4 I4 X4 F4=> ?_;have Y4:bM [] c s.heap c1 h4:=((((X1.dL JB).trans (X2.dL λ b hb=>RO _ (RO _ hb))).trans (X3.dL λ b hb=>RO CY (WP qP hb))).trans (X4.dL λ b hb=>WP _ hb)).drop λ b hb=>.inr
   ((OW.mp hb).elim (λ hb=>(OW.mp hb).elim (q2 b) (q3 b)) (q4 b))
  clear X1 X2 X3 X4 F1 F2 F3 I1 I2 I3 q2 q3 q4 vL hK;obtain⟨d,la,ld,ga,gd,Id,r⟩:=F4.yS I4 gY;have X5:bM [] c s.heap ((c1.eP ad).eP d) h4:=(Y4.lN la).lN ld;rw[aD7 (hl gL x hs)]at p0;refine PR.oe p0 λ u dM p1=>amF ho F_ hs pN rE C hl Id X5 r dM λ c6 h6 qJ y C6 X6 r6=> ?_;obtain⟨m6,n6,_⟩:=C6.er.loc;refine wpAny_nameGoes (s:={s with heap:=h6,toks:=qJ}) ((PN C.er gL).trans pN) n6 (by rw[C.er.kind];rfl) λ h7 m7 AJ BY=> ?_;obtain⟨I7,X7,yN⟩:=C6.CQ AJ BY;exact(p1:PR w K (eV w L Z) (HA Z.locals) (FD Z) c s (.ok (.ret u,(m.set x (DK ev)).map λ J=>DP) bS) Q E) c6 h7 _ (.ret y) I7 (X6.trans X7) ⟨r6.bB X7.bB,yN,λ n' j q=>by rw[LM,NL];exact hl n' j q⟩
end
theorem HK{α:Type}{c:Prop}[N4 c]{f:c->α}{v:α}(h:(if h:c then DK (f h)else DP)=DK v){P:Prop}(k:∀hc,f hc=v->P):P:=by
 by_cases hc:c
 ·rw[En hc]at h;exact k hc (EJ h)
 ·rw[XE hc]at h;exact EW h
theorem W0{v:Dn}(h:Im x=DK v){P:aL}(k:∀a1 a2,P (.Constant v a1 a2)):P x:=
 HK h λ h e=>Q5 (motive_1:=λ x=>∀h,(Q5 (motive_1:=λ J=>Dn) x h λ a0 J J=>a0)=v->P x) x h (λ a0 a1 a2 J e=>by subst e;exact k a1 a2) h e
theorem acH{v:R1×Expr}(h:r9 x=DK v){P:aL}(k:∀a2,P (.UnaryOp v.1 v.2 a2)):P x:=
 HK h λ h e=>dc (motive_1:=λ x=>∀h,(dc (motive_1:=λ J=>R1×Expr) x h λ a0 a1 J=>(a0,a1))=v->P x) x h (λ a0 a1 a2 J e=>by subst e;exact k a2) h e
theorem auZ{v:DM Expr}(h:wd x=DK v){P:aL}(k:∀a1,P (.List v a1)):P x:=
 HK h λ h e=>cz (motive_1:=λ x=>∀h,(cz (motive_1:=λ J=>DM Expr) x h λ a0 J=>a0)=v->P x) x h (λ a0 a1 J e=>by subst e;exact k a1) h e
theorem oq{v:(DM (DQ Expr))×(DM Expr)}(h:W8 x=DK v){P:aL}(k:∀a2,P (.Dict v.1 v.2 a2)):P x:=
 HK h λ h e=>cv (motive_1:=λ x=>∀h,(cv (motive_1:=λ J=>(DM (DQ Expr))×(DM Expr)) x h λ a0 a1 J=>(a0,a1))=v->P x) x h (λ a0 a1 a2 J e=>by subst e;exact k a2) h e
theorem Ee{v:Expr×EA×FS}(h:Ed x=DK v){P:aL}(k:P (.Attribute v.1 v.2.1 v.2.2)):P x:=
 HK h λ h e=>Me (motive_1:=λ x=>∀h,(Me (motive_1:=λ J=>Expr×EA×FS) x h λ a0 a1 a2=>(a0,a1,a2))=v->P x) x h (λ a0 a1 a2 J e=>by subst e;exact k) h e
theorem Ql{v:Expr×Expr×FS}(h:Qk x=DK v){P:aL}(k:P (.Subscript v.1 v.2.1 v.2.2)):P x:=
 HK h λ h e=>Ta (motive_1:=λ x=>∀h,(Ta (motive_1:=λ J=>Expr×Expr×FS) x h λ a0 a1 a2=>(a0,a1,a2))=v->P x) x h (λ a0 a1 a2 J e=>by subst e;exact k) h e
theorem ab7{v:(DQ Expr)×(DQ Expr)×(DQ Expr)}(h:i3 x=DK v){P:aL}(k:∀a3,P (.Slice v.1 v.2.1 v.2.2 a3)):P x:=
 HK h λ h e=>db (motive_1:=λ x=>∀h,(db (motive_1:=λ J=>(DQ Expr)×(DQ Expr)×(DQ Expr)) x h λ a0 a1 a2 J=>(a0,a1,a2))=v->P x) x h (λ a0 a1 a2 a3 J e=>by subst e;exact k a3) h e
theorem al2{v:Expr×Sv×Expr}(h:jq x=DK v){P:aL}(k:∀a3,P (.BinOp v.1 v.2.1 v.2.2 a3)):P x:=
 HK h λ h e=>cq (motive_1:=λ x=>∀h,(cq (motive_1:=λ J=>Expr×Sv×Expr) x h λ a0 a1 a2 J=>(a0,a1,a2))=v->P x) x h (λ a0 a1 a2 a3 J e=>by subst e;exact k a3) h e
theorem an2{v:Expr×(DM Gw)×(DM Expr)}(h:ly x=DK v){P:aL}(k:∀a3,P (.Compare v.1 v.2.1 v.2.2 a3)):P x:=
 HK h λ h e=>cu (motive_1:=λ x=>∀h,(cu (motive_1:=λ J=>Expr×(DM Gw)×(DM Expr)) x h λ a0 a1 a2 J=>(a0,a1,a2))=v->P x) x h (λ a0 a1 a2 a3 J e=>by subst e;exact k a3) h e
theorem alM{v:SU×(DM Expr)×FS}(h:jx x=DK v){P:aL}(k:P (.BoolOp v.1 v.2.1 v.2.2)):P x:=
 HK h λ h e=>cr (motive_1:=λ x=>∀h,(cr (motive_1:=λ J=>SU×(DM Expr)×FS) x h λ a0 a1 a2=>(a0,a1,a2))=v->P x) x h (λ a0 a1 a2 J e=>by subst e;exact k) h e
theorem at9{v:Expr×Expr×Expr}(h:Oe x=DK v){P:aL}(k:∀a3,P (.IfExp v.1 v.2.1 v.2.2 a3)):P x:=
 HK h λ h e=>cy (motive_1:=λ x=>∀h,(cy (motive_1:=λ J=>Expr×Expr×Expr) x h λ a0 a1 a2 J=>(a0,a1,a2))=v->P x) x h (λ a0 a1 a2 a3 J e=>by subst e;exact k a3) h e
theorem Vn{v:Expr×(DM Expr)×(DM Lw)×FS}(h:Ni x=DK v){P:aL}(k:P (.Call v.1 v.2.1 v.2.2.1 v.2.2.2)):P x:=
 HK h λ h e=>Mf (motive_1:=λ x=>∀h,(Mf (motive_1:=λ J=>Expr×(DM Expr)×(DM Lw)×FS) x h λ a0 a1 a2 a3=>(a0,a1,a2,a3))=v->P x) x h (λ a0 a1 a2 a3 J e=>by subst e;exact k) h e
theorem vz{v:Expr×(DM UX)×QM}(h:vy x=DK v){P:aL}(k:∀a3,P (.ListComp v.1 v.2.1 v.2.2 a3)):P x:=
 HK h λ h e=>Mh (motive_1:=λ x=>∀h,(Mh (motive_1:=λ J=>Expr×(DM UX)×QM) x h λ a0 a1 a2 J=>(a0,a1,a2))=v->P x) x h (λ a0 a1 a2 a3 J e=>by subst e;exact k a3) h e
theorem nu{v:Expr×Expr×(DM UX)×QM}(h:nk x=DK v){P:aL}(k:∀a4,P (.DictComp v.1 v.2.1 v.2.2.1 v.2.2.2 a4)):P x:=
 HK h λ h e=>Mg (motive_1:=λ x=>∀h,(Mg (motive_1:=λ J=>Expr×Expr×(DM UX)×QM) x h λ a0 a1 a2 a3 J=>(a0,a1,a2,a3))=v->P x) x h (λ a0 a1 a2 a3 a4 J e=>by subst e;exact k a4) h e
theorem aDW{x:DS}{v:HB}(h:tyO x=DK v):x=.type v:=HK h λ h e=>fe (motive:=λ x=>∀h,(fe (motive:=λ J=>HB) x h λ T=>T)=v->x=.type v) x h (λ T J e=>DX _ e) h e
theorem alJ{x:DS}{v:HB}(h:jv x=DK v):x=.builtin v:=HK h λ h e=>ej (motive:=λ x=>∀h,(ej (motive:=λ J=>HB) x h λ T=>T)=v->x=.builtin v) x h (λ T J e=>DX _ e) h e
section
variable (gn:DL->Tx)(bt:DM (Tx×DS))
end
theorem Ii{α:Type}{c:DU}{a b v:α}(h:EN c a b=v){P:Prop}(k1:c=DN->a=v->P)(k2:c=DT->b=v->P):P:=match c,h with
 |true,h=>k1 rfl h|false,h=>k2 rfl h
theorem alR{bt:DM (Tx×DS)}{id:EA}{v:DS}(h:WW bt id=DK v):∃t,(t,v)∈bt/\id=sx t:=by
 induction bt with
 |nil=>exact EW h|cons p r ih=>exact Ii h (λ q e=>⟨p.1,EJ e▸ .head _,PE q⟩) λ J e=>by obtain⟨t,h1,h2⟩:=ih e;exact⟨t,.tail _ h1,h2⟩
theorem vc{T:HB}{v:DQ DS}(h:D! T v=DN):v=DK (.type T):=EL h λ v e h=>EL h λ B_ e2 h=>by rw[e,aDW e2,of_decide_eq_true h]
theorem atM{T:HB}{v:DQ DS}(h:uo T v=DN):v=DK (.builtin T):=EL h λ v e h=>EL h λ B_ e2 h=>by rw[e,alJ e2,of_decide_eq_true h]
theorem jm:∀t:Tx,FT t t=DN
 |[]=>rfl|a::t=>by show(EG a a&&FT t t)=DN;rw[RQ,jm t];rfl
theorem xj{id:EA}(h:N_ id=DN):(id==("__debug__" :EA))=DT:=by
 refine jn λ e=> ?_;subst e;exact EP h (by decide)
theorem By{L:Mx}{id:EA}{x:DL}(h:Om L id x=DN):GK id L.nm=DK x/\(L.sc.lookup id=DK .local∨L.sc.lookup id=DK .cell)/\(id==("__debug__" :EA))=DT:=
 have h3:=(DO h).2;have h:=(DO h).1;have h2:=(DO h).2;have h1:=(DO h).1
 ⟨i5 h1,MJ h2 (λ q=>.inl (UD q)) λ q=>.inr (UD q),xj h3⟩
theorem XM{L:Mx}{id:EA}(h:Je L id=DN):L.sc.lookup id=DK .globalImplicit/\(id==("__debug__" :EA))=DT:=⟨UD (DO h).1,xj (DO h).2⟩
theorem atG{k:Dn}{i:DY}(h:u_ k=DK i):k=.int i:=HS u_ .int (λ v=>by cases v<;>rfl) h
@[elab_as_elim] theorem Ei{P:aL}{x:Expr}{q:EA×DM Expr}(h:Bd x=DK q)(k:∀p np,P (.Call (.Name q.1 np) q.2 [] p)):P x:=
 ob h λ c hc h=>Vn hc (EO h λ n h=>om (P:=λ q:EA×DM Expr=>(∀p np,P (.Call (.Name q.1 np) q.2 [] p))->P (.Call c.1 c.2.1 c.2.2.1 c.2.2.2)) h (λ id hi k=>HN n▸RC (P:=λ f=>P (.Call f c.2.1 [] c.2.2.2)) hi λ p=>k _ p) k)
@[elab_as_elim] theorem xq{P:aL}{x:Expr}{i:DY}(h:O_ x=DK i)(k:∀p j q,P (.UnaryOp .USub (.Constant (.int i) j p) q)):P x:=
 ob h λ c hc h=>acH hc λ q=>EO h λ n h=>ob h λ k' hk h=>(of_decide_eq_true n)▸W0 (P:=λ y=>P (.UnaryOp .USub y q)) hk λ j p=>atG h▸k p j q
@[elab_as_elim] theorem axP{P:aL}{x:Expr}{op:SU}{v:Expr×DM Expr×FS}(h:Jx op x=DK v)(k:∀z r,v.2.1=z::r->P (.BoolOp op (v.1::z::r) v.2.2)):P x:=by
 refine ob h λ c hc h=>alM hc (EO h λ n h=> ?_);obtain⟨c1,c2,c3⟩:=c;cases(of_decide_eq_true n:c1=op);refine om (P:=λ v:Expr×DM Expr×FS=>(∀z r,v.2.1=z::r->P (.BoolOp op (v.1::z::r) v.2.2))->P (.BoolOp op c2 c3)) h (λ q hq k=> ?_) k;rcases c2 with _|⟨y,_|⟨z,r⟩⟩
 ·exact EW hq
 ·exact EW hq
 ·rw[<-EJ hq]at k;exact k z r rfl
section
variable {w:EV}{K:EQ}{D:Tb}{L:Mx}{mb:EA->DQ DS}
theorem Rx:SE Y w K n D o L .bL x:=λ A fr Z m c U s Q E C p=>(p:False).elim
theorem Ri:SB Y w K n D o L .bL x:=λ A fr Z m c U s Q E C p=>(p:False).elim
theorem afH{a:aA}:SE Y w K n D o L (.not a) x:=λ A fr Z m c U s Q E C p=>(p:False).elim
theorem z7{k:DY}(h:Xx k x=DN):SE Y w K n D o L (.k (.int k)) x:=by
 unfold Xx at h;cases e:Im x with
 |some c=>rw[e]at h;exact W0 e λ j p=>z8 h
 |none=>rw[e]at h;exact EL h λ i hi h=>GW h▸xq hi λ p j q=>z9
theorem af7{a b:aA}{iter:Expr}
  (iS:UG iter=DN)(hL:QC t x=DK H_)(hg:RK t x=DN)(hF:XB L scope H_=DN)(gM:UK fM=DN∨dK x=DN)(fP:ML Y w K n D o L fM iter)(h1:SE Y w K n D o (II L scope.names H_) a kx)(h2:SE Y w K n D o (II L scope.names H_) b vx):
  SE Y w K n D o L (.iG a b t fM) (.DictComp kx vx [⟨x,iter,[],0⟩] scope pos):=by
 intro A fr Z m c U s Q E C p;rw[arm_eval_DictComp];exact mh iS hL hg hF gM fP h1 h2 C p λ bS i0 c' h' tk I_ D_ mm p' I X r ns P hn=>qs p' I X r ns P hn
theorem A8{L:Mx}{sc:QM}{iter:Expr}{it:It}(h:l9 L sc t x iter it=DN):UG iter=DN/\QC t x=DK (Da t x)/\RK t x=DN/\XB L sc (Da t x)=DN/\(UK it=DN∨dK x=DN):=
 have h5:=(DO h).2;have h:=(DO h).1;have h4:=(DO h).2;have h:=(DO h).1;have h3:=(DO h).2;have h:=(DO h).1;have h2:=(DO h).2;have h1:=(DO h).1
 ⟨h1,by unfold Da;cases q:QC t x with|none=>rw[q]at h2;exact FB h2|some H_=>rfl,h3,h4,MJ h5 .inl .inr⟩
theorem ON{H:Es}{L:Mx}{xs:DM Expr}(h:(OM gn bt H L xs).1=DN):xs=[]->H=.nil:=λ e=>by
 rw[e]at h;cases H with
 |nil=>rfl|cons _ _=>exact FB h
theorem Yu{l:DM UX}{g:UX}(h:T_ l=DK g):l=[⟨g.target,g.iter,g.ifs,0⟩]:=ob h λ g' e h=>EO h λ z h=>by
 rw[LH e,<-EJ h,<-of_decide_eq_true z];obtain⟨_,_,_,_⟩:=g';rfl
variable (cB:∀id v,WW bt id=DK v->mg id=DP/\mb id=DK v)
include cB
theorem Hx{p:DU}{T:HB}{id:EA}(h:Ef bt p T L id=DN):L.sc.lookup id=DK .globalImplicit/\mg id=DP/\mb id=DK (EN p (.type T) (.builtin T))/\(id==("__debug__" :EA))=DT:=
 have g:WW bt id=DK (EN p (.type T) (.builtin T)):=match p,(DO h).1 with
  |true,h=>vc h|false,h=>atM h
 ⟨(XM (DO h).2).1,(cB _ _ g).1,(cB _ _ g).2,(XM (DO h).2).2⟩
end
section
variable (Y:TK)(w:EV)(K:EQ)(n:DL)(D:Tb)(o:JM)(gn:DL->Tx)(bt:DM (Tx×DS))
def PX(e:aA):Prop:=∀L x,((mX gn bt e L x).1=DN->SE Y w K n D o L e x)/\((mX gn bt e L x).2=DN->SB Y w K n D o L e x)
def MU(H:Es):Prop:=∀L xs,((OM gn bt H L xs).1=DN->LZ Y w K n D o L H xs)/\((OM gn bt H L xs).2=DN->WR Y w K n D o L H xs)
def TJ(e:It):Prop:=∀L x,Xy gn bt e L x=DN->ML Y w K n D o L e x
def PT(t:T):Prop:=∀L x,KC L=DN->mT gn bt t L x=DN->KS Y w K n D o L t x
def Ak(ts:Ts):Prop:=∀L xs,KC L=DN->K! gn bt ts L xs=DN->Mj Y w K n D o L ts xs
end
section
variable {w:EV}{K:EQ}{D:Tb}{L:Mx}{mb:EA->DQ DS}
theorem Q_{P Q:Prop}:(((DT,DT):DU×DU).1=DN->P)/\(((DT,DT):DU×DU).2=DN->Q):=⟨λ h=>(FJ h).elim,λ h=>(FJ h).elim⟩
theorem UI{b:DU}(h:(!b)=DN):b=DT:=by
 cases b with
 |false=>rfl|true=>exact FB h
theorem pX{e:aA}{b:DU}(k:b=DN->(SE Y w K n D o) L e x/\(SB Y w K n D o) L e x):((HQ b).1=DN->(SE Y w K n D o) L e x)/\((HQ b).2=DN->(SB Y w K n D o) L e x):=⟨λ h=>(k h).1,λ h=>(k h).2⟩
theorem NB{e:aA}(h:(SE Y w K n D o) L e x)(hx:∀Z fG,isTrue x Z fG=(do let v<-fG;Km x.pos;Oc [v] (o6 v)))(ha:∀m,Bn D o e m=aB.bind (MW D o e m) λ v=>aB.rd λ U=>Dc U v):(SE Y w K n D o) L e x/\(SB Y w K n D o) L e x:=⟨h,aeH h hx ha⟩
theorem Ud:(PX Y w K n D o gn bt) (.loc i):=λ L x=>pX λ h=>EL h λ id e h=>RC (P:=λ x=>(SE Y w K n D o) L (.loc i) x/\(SB Y w K n D o) L (.loc i) x) e λ J=>NB (afE (By h).1 (By h).2.1 (By h).2.2) (λ J J=>rfl) λ J=>rfl
theorem Ua(F_:Gf w K D gn mg mb){g:DL}:(PX Y w K n D o gn bt) (.bJ g):=λ L x=>pX λ h=>EL h λ id e h=>RC (P:=λ x=>(SE Y w K n D o) L (.bJ g) x/\(SB Y w K n D o) L (.bJ g) x) e λ J=>NB (afA F_ (PE (DO h).1) (XM (DO h).2).1 (XM (DO h).2).2) (λ J J=>rfl) λ J=>rfl
theorem Uc:(PX Y w K n D o gn bt) (.k v):=λ L x=>pX λ h=>by
 cases e:Im x with
 |some c=>rw[e]at h;exact W0 (P:=λ x=>(SE Y w K n D o) L (.k v) x/\(SB Y w K n D o) L (.k v) x) e λ j p=>NB (z8 h) (λ J J=>rfl) λ J=>rfl
 |none=>
  rw[e]at h;refine EL h λ i hi h=>EL h λ j hj h=> ?_;rw[Ea hj,GW h];exact xq (P:=λ x=>(SE Y w K n D o) L (.k (.int (-i))) x/\(SB Y w K n D o) L (.k (.int (-i))) x) hi λ J J J=>NB z9 (λ J J=>rfl) λ J=>rfl
theorem Uj{H:Es}(i:(MU Y w K n D o gn bt) H):(PX Y w K n D o gn bt) (.aR H):=λ L x=>pX λ h=>EL h λ xs e h=>Ku (P:=λ x=>(SE Y w K n D o) L (.aR H) x/\(SB Y w K n D o) L (.aR H) x) e λ J J=>NB (afJ ((i L xs).1 h)) (λ J J=>rfl) λ J=>rfl
theorem Ue{H:Es}(i:(MU Y w K n D o gn bt) H):(PX Y w K n D o gn bt) (.aX H):=λ L x=>pX λ h=>EL h λ xs e h=>auZ (P:=λ x=>(SE Y w K n D o) L (.aX H) x/\(SB Y w K n D o) L (.aX H) x) e λ J=>NB (afF ((i L xs).1 h)) (λ J J=>rfl) λ J=>rfl
theorem Tw:(PX Y w K n D o gn bt) .fE:=λ L x=>pX λ h=>EL h λ p e h=>oq (P:=λ x=>(SE Y w K n D o) L .fE x/\(SB Y w K n D o) L .fE x) e λ J=>by
 rw[HN (DO h).1,HN (DO h).2];exact NB af8 (λ J J=>rfl) λ J=>rfl
theorem Tz{a b:aA}(i:(PX Y w K n D o gn bt) a)(j:(PX Y w K n D o gn bt) b):(PX Y w K n D o gn bt) (.kA a b):=λ L x=>pX λ h=>EL h λ p e h=>EL h λ y e1 h=>EL h λ y e2 h=>EL h λ z e3 h=>oq (P:=λ x=>(SE Y w K n D o) L (.kA a b) x/\(SB Y w K n D o) L (.kA a b) x) e λ J=>by
 rw[LH e1,e2,LH e3];exact NB (af9 ((i L y).1 (DO h).1) ((j L z).1 (DO h).2)) (λ J J=>rfl) λ J=>rfl
theorem Tm(F_:Gf w K D gn mg mb){a:aA}{m:DL}(i:(PX Y w K n D o gn bt) a):(PX Y w K n D o gn bt) (.aU a m):=λ L x=>pX λ h=>EL h λ p e h=>have h3:=(DO h).2;have h:=(DO h).1
 Ee (P:=λ x=>(SE Y w K n D o) L (.aU a m) x/\(SB Y w K n D o) L (.aU a m) x) e (NB (af0 F_ ((i L p.1).1 (DO h).1) (PE (DO h).2) h3) (λ J J=>rfl) λ J=>rfl)
theorem Ui{a b:aA}(i:(PX Y w K n D o gn bt) a)(j:(PX Y w K n D o gn bt) b):(PX Y w K n D o gn bt) (.sub a b):=λ L x=>pX λ h=>EL h λ p e h=>have h3:=(DO h).2;have h:=(DO h).1
 Ql (P:=λ x=>(SE Y w K n D o) L (.sub a b) x/\(SB Y w K n D o) L (.sub a b) x) e (NB (afI ((i L p.1).1 (DO h).1) ((j L p.2.1).1 (DO h).2) h3) (λ J J=>rfl) λ J=>rfl)
theorem nS{α:Type}{x:DQ α}(h:(!x.isSome)=DN):x=DP:=by
 cases x with
 |none=>rfl|some _=>exact FB h
theorem Uk{a:aA}{k:DY}(i:(PX Y w K n D o gn bt) a):(PX Y w K n D o gn bt) (.jI a k):=λ L x=>pX λ h=>EL h λ p e h=>EL h λ q e2 h=>have h3:=(DO h).2;have h:=(DO h).1
 EL h3 λ z e3 h3=>Ql (P:=λ x=>(SE Y w K n D o) L (.jI a k) x/\(SB Y w K n D o) L (.jI a k) x) e (ab7 (P:=λ y=>(SE Y w K n D o) L (.jI a k) (.Subscript p.1 y p.2.2)/\(SB Y w K n D o) L (.jI a k) (.Subscript p.1 y p.2.2)) e2 λ J=>by
  rw[nS (DO h).1,nS (DO h).2,e3];exact NB (afK ((i L p.1).1 (DO h3).1) (z7 (DO h3).2)) (λ J J=>rfl) λ J=>rfl)
theorem Tn{a:aA}(i:(PX Y w K n D o gn bt) a):(PX Y w K n D o gn bt) (.jB a):=λ L x=>pX λ h=>EL h λ p e h=>EL h λ q e2 h=>have h3:=(DO h).2;have h:=(DO h).1
 EL h3 λ z e3 h3=>Ql (P:=λ x=>(SE Y w K n D o) L (.jB a) x/\(SB Y w K n D o) L (.jB a) x) e (ab7 (P:=λ y=>(SE Y w K n D o) L (.jB a) (.Subscript p.1 y p.2.2)/\(SB Y w K n D o) L (.jB a) (.Subscript p.1 y p.2.2)) e2 λ J=>by
  rw[nS (DO h).1,nS (DO h).2,e3];exact NB (af1 ((i L p.1).1 (DO h3).1) (z7 (DO h3).2)) (λ J J=>rfl) λ J=>rfl)
theorem Tp{b:UW}{a d:aA}(i:(PX Y w K n D o gn bt) a)(j:(PX Y w K n D o gn bt) d):(PX Y w K n D o gn bt) (.bV b a d):=λ L x=>pX λ h=>EL h λ p e h=>have h3:=(DO h).2;have h:=(DO h).1
 al2 (P:=λ x=>(SE Y w K n D o) L (.bV b a d) x/\(SB Y w K n D o) L (.bV b a d) x) e λ J=>by
  rw[of_decide_eq_true (DO h).1];exact NB (af2 ((i L p.1).1 (DO h).2) ((j L _).1 h3)) (λ J J=>rfl) λ J=>rfl
theorem Tt{b:SV}{a d:aA}(i:(PX Y w K n D o gn bt) a)(j:(PX Y w K n D o gn bt) d):(PX Y w K n D o gn bt) (.aW b a d):=λ L x=>pX λ h=>EL h λ p e h=>EL h λ op e1 h=>EL h λ z e2 h=>have h4:=(DO h).2;have h:=(DO h).1;have h3:=(DO h).2;have h:=(DO h).1
 an2 (P:=λ x=>(SE Y w K n D o) L (.aW b a d) x/\(SB Y w K n D o) L (.aW b a d) x) e λ J=>by
  rw[LH e1,LH e2];rw[of_decide_eq_true (DO h).1]at h4⊢;have h4:=UI h4;exact⟨af5 ((i L p.1).1 (DO h).2) ((j L z).1 h3) h4,aeD ((i L p.1).1 (DO h).2) ((j L z).1 h3) h4⟩
theorem aa5{b:aA}{op:SU}{z:Expr}{r:DM Expr}(j:(PX Y w K n D o gn bt) b):((mX gn bt b L (Fr op (z::r) pos)).1=DN->(SE Y w K n D o) L b (.BoolOp op (z::r) pos))/\((mX gn bt b L (Fr op (z::r) pos)).2=DN->(SB Y w K n D o) L b (.BoolOp op (z::r) pos)):=by
 cases r with
 |nil=>exact⟨λ h=>afC ((j L z).1 h),λ h=>aeF ((j L z).2 h)⟩|cons _ _=>exact j L _
theorem zc{op:SU}{a b ab:aA}(oH:(op=.Or/\ab=.or a b)∨(op=.And/\ab=.and a b))(i:(PX Y w K n D o gn bt) a)(j:(PX Y w K n D o gn bt) b){f:Expr×DM Expr×FS->DU×DU}(hf:f=λ p=>TT (mX gn bt a L p.1) (mX gn bt b L (Fr op p.2.1 p.2.2))):
  ((oe (Jx op x) (HQ DT) f).1=DN->(SE Y w K n D o) L ab x)/\((oe (Jx op x) (HQ DT) f).2=DN->(SB Y w K n D o) L ab x):=by
 subst hf;cases e:Jx op x with
 |none=>exact Q_|some p=>
  exact axP (P:=λ x=>(_->(SE Y w K n D o) L ab x)/\(_->(SB Y w K n D o) L ab x)) e λ z r e=>by
   rw[show oe (DK p) (HQ DT) (λ p=>TT (mX gn bt a L p.1) (mX gn bt b L (Fr op p.2.1 p.2.2)))=TT (mX gn bt a L p.1) (mX gn bt b L (Fr op p.2.1 p.2.2))from rfl,e];exact⟨λ h=>af3 ((i L p.1).1 (DO h).1) ((aa5 j).1 (DO h).2) ab oH,λ h=>aeC ((i L p.1).2 (DO h).1) ((aa5 j).2 (DO h).2) ab oH⟩
theorem Uh{a b:aA}(i:(PX Y w K n D o gn bt) a)(j:(PX Y w K n D o gn bt) b):(PX Y w K n D o gn bt) (.or a b):=λ L x=>zc (.inl ⟨rfl,rfl⟩) i j rfl
theorem Tl{a b:aA}(i:(PX Y w K n D o gn bt) a)(j:(PX Y w K n D o gn bt) b):(PX Y w K n D o gn bt) (.and a b):=λ L x=>zc (.inr ⟨rfl,rfl⟩) i j rfl
theorem Ug{a:aA}(i:(PX Y w K n D o gn bt) a):(PX Y w K n D o gn bt) (.not a):=λ L x=>⟨λ J=>afH,λ h=>EL h λ p e h=>acH (P:=λ x=>(SB Y w K n D o) L (.not a) x) e λ J=>by
 rw[of_decide_eq_true (DO h).1];exact aeG ((i L p.2).2 (DO h).2)⟩
theorem Ub{c a b:aA}(l:(PX Y w K n D o gn bt) c)(i:(PX Y w K n D o gn bt) a)(j:(PX Y w K n D o gn bt) b):(PX Y w K n D o gn bt) (.cH c a b):=λ L x=>by
 show((oe (Oe x) (HQ DT) λ p=>TT (HQ (mX gn bt c L p.1).2) (TT (mX gn bt a L p.2.1) (mX gn bt b L p.2.2))).1=DN->_)/\((oe (Oe x) (HQ DT) λ p=>TT (HQ (mX gn bt c L p.1).2) (TT (mX gn bt a L p.2.1) (mX gn bt b L p.2.2))).2=DN->_);cases e:Oe x with
 |none=>exact Q_|some p=>exact at9 (P:=λ x=>(_->(SE Y w K n D o) L (.cH c a b) x)/\(_->(SB Y w K n D o) L (.cH c a b) x)) e λ J=>
   ⟨λ h=>afB ((l L p.1).2 (DO h).1) ((i L p.2.1).1 (DO (DO h).2).1) ((j L p.2.2).1 (DO (DO h).2).2),λ h=>aeE ((l L p.1).2 (DO h).1) ((i L p.2.1).2 (DO (DO h).2).1) ((j L p.2.2).2 (DO (DO h).2).2)⟩
theorem Tq(F_:Gf w K D gn mg mb)(O:OX Y w K n o){f:aA}{H:Es}(i:(PX Y w K n D o gn bt) f)(j:(MU Y w K n D o gn bt) H):(PX Y w K n D o gn bt) (.call f H):=λ L x=>pX λ h=>EL h λ p e h=>have h5:=(DO h).2;have h:=(DO h).1;have h4:=(DO h).2;have h:=(DO h).1;have h3:=(DO h).2;have h:=(DO h).1
 Vn (P:=λ x=>(SE Y w K n D o) L (.call f H) x/\(SB Y w K n D o) L (.call f H) x) e (by
  rw[HN (DO h).1];exact NB (af4 F_ O ((i L p.1).1 (DO h).2) ((j L _).1 h3) (ON h3) h4 h5) (λ J J=>rfl) λ J=>rfl)
theorem Uf(F_:Gf w K D gn mg mb)(O:OX Y w K n o){f:aA}{m:DL}{H:Es}(i:(PX Y w K n D o gn bt) f)(j:(MU Y w K n D o gn bt) H):(PX Y w K n D o gn bt) (.bK f m H):=λ L x=>pX λ h=>EL h λ p e h=>EL h λ q e2 h=>
 have h8:=(DO h).2;have h:=(DO h).1;have h7:=(DO h).2;have h:=(DO h).1;have h6:=(DO h).2;have h:=(DO h).1;have h5:=(DO h).2;have h:=(DO h).1;have h4:=(DO h).2;have h:=(DO h).1;have h3:=(DO h).2;have h:=(DO h).1
 Vn (P:=λ x=>(SE Y w K n D o) L (.bK f m H) x/\(SB Y w K n D o) L (.bK f m H) x) e (Ee (P:=λ y=>(SE Y w K n D o) L (.bK f m H) (.Call y p.2.1 p.2.2.1 p.2.2.2)/\(SB Y w K n D o) L (.bK f m H) (.Call y p.2.1 p.2.2.1 p.2.2.2)) e2 (by
  rw[HN (DO h).1];exact NB (afG F_ O ((i L q.1).1 (DO h).2) ((j L _).1 h3) (ON h3) h4 (GO h5) (PE h6) h7 h8) (λ J J=>rfl) λ J=>rfl))
theorem Tu{e:aA}{it:It}{H:Es}(i:(PX Y w K n D o gn bt) e)(k:(TJ Y w K n D o gn bt) it)(j:(MU Y w K n D o gn bt) H):(PX Y w K n D o gn bt) (.comp e t it H):=λ L x=>pX λ h=>EL h λ p e1 h=>EL h λ g e2 h=>
 have h4:=(DO h).2;have h:=(DO h).1;have h3:=(DO h).2;have h:=(DO h).1;have T:=A8 (DO h).1
 vz (P:=λ x=>(SE Y w K n D o) L (.comp e t it H) x/\(SB Y w K n D o) L (.comp e t it H) x) e1 λ J=>by
  rw[Yu e2];exact NB (af6 T.1 T.2.1 T.2.2.1 T.2.2.2.1 T.2.2.2.2 (k L _ (DO h).2) ((j _ _).2 h3) ((i _ _).1 h4)) (λ J J=>rfl) λ J=>rfl
theorem Tv{a b:aA}{it:It}(i:(PX Y w K n D o gn bt) a)(j:(PX Y w K n D o gn bt) b)(k:(TJ Y w K n D o gn bt) it):(PX Y w K n D o gn bt) (.iG a b t it):=λ L x=>pX λ h=>EL h λ p e1 h=>EL h λ g e2 h=>
 have h4:=(DO h).2;have h:=(DO h).1;have h3:=(DO h).2;have h:=(DO h).1;have h2:=(DO h).2;have h:=(DO h).1;have T:=A8 (DO h).2
 nu (P:=λ x=>(SE Y w K n D o) L (.iG a b t it) x/\(SB Y w K n D o) L (.iG a b t it) x) e1 λ J=>by
  rw[Yu e2,HN (DO h).1];exact NB (af7 T.1 T.2.1 T.2.2.1 T.2.2.2.1 T.2.2.2.2 (k L _ h2) ((i _ _).1 h3) ((j _ _).1 h4)) (λ J J=>rfl) λ J=>rfl
theorem Um:(MU Y w K n D o gn bt) .nil:=λ L xs=>⟨λ h=>HN (h:FV xs=DN)▸afO,λ h=>HN (h:FV xs=DN)▸z0⟩
theorem Ul{e:aA}{H:Es}(i:(PX Y w K n D o gn bt) e)(j:(MU Y w K n D o gn bt) H):(MU Y w K n D o gn bt) (.cons e H):=λ L xs=>by
 cases xs with
 |nil=>exact Q_|cons x xs=>exact⟨λ h=>afN ((i L x).1 (DO (DO h).1).1) ((j L xs).1 (DO h).2) (DO (DO h).1).2,λ h=>aeK ((i L x).2 (DO h).1) ((j L xs).2 (DO h).2)⟩
theorem Se{e:aA}(i:(PX Y w K n D o gn bt) e):(TJ Y w K n D o gn bt) (.seq e):=λ L x h=>afZ ((i L x).1 h)
variable (F_:Gf w K D gn mg mb)(O:OX Y w K n o)(cB:∀id v,WW bt id=DK v->mg id=DP/\mb id=DK v)
include F_ cB
theorem Sc{H:Es}(j:(MU Y w K n D o gn bt) H):(TJ Y w K n D o gn bt) (.range H):=λ L x h=>EL h λ p e h=>have h3:=(DO h).2;have h:=(DO h).1;have D_:=Hx cB (DO h).1
 Ei (P:=λ x=>ML Y w K n D o L (.range H) x) e λ J J=>afX F_ ((j L _).1 (DO h).2) (ON (DO h).2) h3 D_.1 D_.2.1 D_.2.2.1 D_.2.2.2
theorem Sf{H:Es}(j:(MU Y w K n D o gn bt) H):(TJ Y w K n D o gn bt) (.zip H):=λ L x h=>EL h λ p e h=>have h3:=(DO h).2;have h:=(DO h).1;have D_:=Hx cB (DO h).1
 Ei (P:=λ x=>ML Y w K n D o L (.zip H) x) e λ J J=>ag0 F_ ((j L _).1 (DO h).2) (ON (DO h).2) h3 D_.1 D_.2.1 D_.2.2.1 D_.2.2.2
theorem Sb{H:Es}(j:(MU Y w K n D o gn bt) H):(TJ Y w K n D o gn bt) (.dT H):=λ L x h=>EL h λ p e h=>have h3:=(DO h).2;have h:=(DO h).1;have D_:=Hx cB (DO h).1
 Ei (P:=λ x=>ML Y w K n D o L (.dT H) x) e λ J J=>afW F_ ((j L _).1 (DO h).2) (ON (DO h).2) h3 D_.1 D_.2.1 D_.2.2.1 D_.2.2.2
theorem Sd{H:Es}(j:(MU Y w K n D o gn bt) H):(TJ Y w K n D o gn bt) (.gO H):=λ L x h=>EL h λ p e h=>have h3:=(DO h).2;have h:=(DO h).1;have D_:=Hx cB (DO h).1
 Ei (P:=λ x=>ML Y w K n D o L (.gO H) x) e λ J J=>afY F_ ((j L _).1 (DO h).2) (ON (DO h).2) h3 D_.1 D_.2.1 D_.2.2.1 D_.2.2.2
theorem To{b:Bi}{H:Es}(j:(MU Y w K n D o gn bt) H):(PX Y w K n D o gn bt) (.bi b H):=λ L x=>pX λ h=>EL h λ p e h=>have D_:=Hx cB (DO h).1
 Ei (P:=λ x=>(SE Y w K n D o) L (.bi b H) x/\(SB Y w K n D o) L (.bi b H) x) e λ J J=>NB (by
  have h:=(DO h).2;cases b with
  |lV=>exact EL h λ y e1 h=>EL h λ q e2 h=>have h3:=(DO h).2;have h:=(DO h).1;have C:=Hx cB (DO h).1;LH e1▸Ei (P:=λ y=>(SE Y w K n D o) L (.bi .lV H) (.Call _ [y] [] _)) e2 λ J J=>afD F_ ((j L _).1 (DO h).2) (ON (DO h).2) h3 D_.1 D_.2.1 D_.2.2.1 D_.2.2.2 C.1 C.2.1 C.2.2.1 C.2.2.2
  |bQ=>exact Rs F_ ((j L _).1 (DO h).1) (ON (DO h).1) (DO h).2 D_.1 D_.2.1 D_.2.2.1 D_.2.2.2 λ A c U s B ys Q E r I ra v G e p=>axY I ra e p
  |tuple=>exact Ru F_ ((j L _).1 (DO h).1) (ON (DO h).1) (DO h).2 D_.1 D_.2.1 D_.2.2.1 D_.2.2.2 λ A c U s B ys Q E r I ra v G e p=>ayA I ra e p
  |list=>exact Ru F_ ((j L _).1 (DO h).1) (ON (DO h).1) (DO h).2 D_.1 D_.2.1 D_.2.2.1 D_.2.2.2 λ A c U s B ys Q E r I ra v G e p=>ay0 I ra e p
  |dict=>exact Ru F_ ((j L _).1 (DO h).1) (ON (DO h).1) (DO h).2 D_.1 D_.2.1 D_.2.2.1 D_.2.2.2 λ A c U s B ys Q E r I ra v G e p=>axX r.hh I ra e p
  |str=>exact Ru F_ ((j L _).1 (DO h).1) (ON (DO h).1) (DO h).2 D_.1 D_.2.1 D_.2.2.1 D_.2.2.2 λ A c U s B ys Q E r I ra v G e p=>ay7 I ra e p
  |max=>exact Rs F_ ((j L _).1 (DO h).1) (ON (DO h).1) (DO h).2 D_.1 D_.2.1 D_.2.2.1 D_.2.2.2 λ A c U s B ys Q E r I ra v G e p=>ay2 r.hh I ra e p
  |all=>exact Rs F_ ((j L _).1 (DO h).1) (ON (DO h).1) (DO h).2 D_.1 D_.2.1 D_.2.2.1 D_.2.2.2 λ A c U s B ys Q E r I ra v G e p=>axQ r.hh I ra e p
  |sorted=>exact Rs F_ ((j L _).1 (DO h).1) (ON (DO h).1) (DO h).2 D_.1 D_.2.1 D_.2.2.1 D_.2.2.2 λ A c U s B ys Q E r I ra v G e p=>ay6 r.hh I ra e p) (λ J J=>rfl) λ J=>rfl
end
theorem aa7{x:EY}{v:DQ Expr}(h:Z! x=DK v){P:EY->Prop}(k:∀a1,P (.Return v a1)):P x:=
 HK h λ h e=>dz (motive_2:=λ x=>∀h,(dz (motive_2:=λ J=>DQ Expr) x h λ a0 J=>a0)=v->P x) x h (λ a0 a1 J e=>by subst e;exact k a1) h e
theorem Z9{x:EY}{v:Expr}(h:Wn x=DK v){P:EY->Prop}(k:∀a1,P (.Expr v a1)):P x:=
 HK h λ h e=>dv (motive_2:=λ x=>∀h,(dv (motive_2:=λ J=>Expr) x h λ a0 J=>a0)=v->P x) x h (λ a0 a1 J e=>by subst e;exact k a1) h e
theorem aBP{x:EY}{v:Expr×(DM EY)×(DM EY)}(h:ab2 x=DK v){P:EY->Prop}(k:∀a3,P (.If v.1 v.2.1 v.2.2 a3)):P x:=
 HK h λ h e=>dx (motive_2:=λ x=>∀h,(dx (motive_2:=λ J=>Expr×(DM EY)×(DM EY)) x h λ a0 a1 a2 J=>(a0,a1,a2))=v->P x) x h (λ a0 a1 a2 a3 J e=>by subst e;exact k a3) h e
theorem aEA{x:EY}{v:Expr×(DM EY)×(DM EY)}(h:acS x=DK v){P:EY->Prop}(k:∀a3,P (.While v.1 v.2.1 v.2.2 a3)):P x:=
 HK h λ h e=>eg (motive_2:=λ x=>∀h,(eg (motive_2:=λ J=>Expr×(DM EY)×(DM EY)) x h λ a0 a1 a2 J=>(a0,a1,a2))=v->P x) x h (λ a0 a1 a2 a3 J e=>by subst e;exact k a3) h e
theorem apI{x:EY}{v:Expr×Expr×(DM EY)×(DM EY)}(h:rc x=DK v){P:EY->Prop}(k:∀a4,P (.For v.1 v.2.1 v.2.2.1 v.2.2.2 a4)):P x:=
 HK h λ h e=>dw (motive_2:=λ x=>∀h,(dw (motive_2:=λ J=>Expr×Expr×(DM EY)×(DM EY)) x h λ a0 a1 a2 a3 J=>(a0,a1,a2,a3))=v->P x) x h (λ a0 a1 a2 a3 a4 J e=>by subst e;exact k a4) h e
theorem ip{x:EY}{v:(DM Expr)×Expr}(h:T7 x=DK v){P:EY->Prop}(k:∀a2,P (.Assign v.1 v.2 a2)):P x:=
 HK h λ h e=>du (motive_2:=λ x=>∀h,(du (motive_2:=λ J=>(DM Expr)×Expr) x h λ a0 a1 J=>(a0,a1))=v->P x) x h (λ a0 a1 a2 J e=>by subst e;exact k a2) h e
theorem azQ{x:EY}{v:(DQ Expr)×(DQ Expr)}(h:zz x=DK v){P:EY->Prop}(k:∀a2,P (.Raise v.1 v.2 a2)):P x:=
 HK h λ h e=>dy (motive_2:=λ x=>∀h,(dy (motive_2:=λ J=>(DQ Expr)×(DQ Expr)) x h λ a0 a1 J=>(a0,a1))=v->P x) x h (λ a0 a1 a2 J e=>by subst e;exact k a2) h e
theorem aD6{x:EY}{v:(DM EY)×(DM Gy)×(DM EY)×(DM EY)}(h:ac0 x=DK v){P:EY->Prop}(k:∀a4,P (.Try v.1 v.2.1 v.2.2.1 v.2.2.2 a4)):P x:=
 HK h λ h e=>ee (motive_2:=λ x=>∀h,(ee (motive_2:=λ J=>(DM EY)×(DM Gy)×(DM EY)×(DM EY)) x h λ a0 a1 a2 a3 J=>(a0,a1,a2,a3))=v->P x) x h (λ a0 a1 a2 a3 a4 J e=>by subst e;exact k a4) h e
theorem ao1{P:Gy->Prop}{x:Gy}(k:∀p,P (.ExceptHandler (YY x).1 (YY x).2.1 (YY x).2.2 p)):P x:=by
 revert k
 exact ai2 (motive_4:=λ x=>(∀p,P (.ExceptHandler (YY x).1 (YY x).2.1 (YY x).2.2 p))->P x) x λ J J J p k=>k p
theorem an7{e:aA}{q:aA×T×It×Es}(h:Vu e=DK q):e=.comp q.1 q.2.1 q.2.2.1 q.2.2.2:=HS Vu (λ q=>.comp q.1 q.2.1 q.2.2.1 q.2.2.2) (λ v=>by apply @E.casesOn _ v<;>intros<;>rfl) h
theorem anI{e:aA}{q:aA×aA×T×It}(h:Vz e=DK q):e=.iG q.1 q.2.1 q.2.2.1 q.2.2.2:=HS Vz (λ q=>.iG q.1 q.2.1 q.2.2.1 q.2.2.2) (λ v=>by apply @E.casesOn _ v<;>intros<;>rfl) h
theorem ac3{e:aA}{q:Es}(h:B0 e=DK q):e=.aR q:=HS B0 .aR (λ v=>by apply @E.casesOn _ v<;>intros<;>rfl) h
set_option tactic.hygienic true in
theorem yj{l:Ss}{s:S}(h:Yt l=DK s):l=.cons s .nil:=HS Yt (.cons · .nil) (λ v=>by apply @Ss.casesOn _ v<;>intros<;>first|rfl|(rename_i r;apply @Ss.casesOn _ r<;>intros<;>rfl)) h
theorem aoW{s:S}{e:aA}(h:Z7 s=DK e):s=.ex e:=HS Z7 .ex (λ v=>by apply @S.casesOn _ v<;>intros<;>rfl) h
theorem aA9{s:S}{e:aA}(h:Z? s=DK e):s=.ret e:=HS Z? .ret (λ v=>by apply @S.casesOn _ v<;>intros<;>rfl) h
theorem akQ{e:aA}{q:aA×DL}(h:U2 e=DK q):e=.aU q.1 q.2:=HS U2 (λ q=>.aU q.1 q.2) (λ v=>by apply @E.casesOn _ v<;>intros<;>rfl) h
theorem av9{e:aA}{q:DL}(h:I! e=DK q):e=.loc q:=HS I! .loc (λ v=>by apply @E.casesOn _ v<;>intros<;>rfl) h
theorem awL{v:EA×FS}(h:xl x=DK v){P:aL}(k:P (.Name v.1 v.2)):P x:=
 HK h λ h e=>Al (motive_1:=λ x=>∀h,(Al (motive_1:=λ J=>EA×FS) x h λ id p=>(id,p))=v->P x) x h (λ J J J e=>by subst e;exact k) h e
section
variable (gn:DL->Tx)(bt:DM (Tx×DS))(xn:Tx)
end
section
variable {w:EV}{K:EQ}{D:Tb}{L:Mx}{mb:EA->DQ DS}
set_option tactic.hygienic true in
theorem avV(h:mT gn bt t L x=DN):UH x=DN:=by
 revert h
 apply @T.casesOn _ t<;>intros<;>rename_i h
 ·exact EL h λ id e J=>RC (P:=λ x=>UH x=DN) e λ J=>rfl
 ·exact EL h λ id e J=>Ku (P:=λ x=>UH x=DN) e λ J J=>rfl
 ·exact EL h λ id e J=>Ee (P:=λ x=>UH x=DN) e rfl
 ·exact EL h λ id e J=>Ql (P:=λ x=>UH x=DN) e rfl
theorem Tf:(PT Y w K n D o gn bt) (.loc i):=λ L x ho h=>EL h λ id e h=>RC (P:=λ x=>KS Y w K n D o L (.loc i) x) e λ J=>aj7 ho (By h).1 (By h).2.1
theorem Th{ts:Ts}(i:(Ak Y w K n D o gn bt) ts):(PT Y w K n D o gn bt) (.aR ts):=λ L x ho h=>EL h λ xs e h=>have h3:=(DO h).2;have h:=(DO h).1
 Ku (P:=λ x=>KS Y w K n D o L (.aR ts) x) e λ J J=>aj9 (i L xs ho (DO h).1) (GV (DO h).2) h3
theorem Te(F_:Gf w K D gn mg mb){e:aA}(i:(PX Y w K n D o gn bt) e):(PT Y w K n D o gn bt) (.aU e a):=λ L x J h=>EL h λ p e1 h=>Ee (P:=λ x=>KS Y w K n D o L (.aU e a) x) e1 (aj6 F_ ((i L p.1).1 (DO h).1) (PE (DO h).2))
theorem Tg{e d:aA}(i:(PX Y w K n D o gn bt) e)(j:(PX Y w K n D o gn bt) d):(PT Y w K n D o gn bt) (.sub e d):=λ L x J h=>EL h λ p e1 h=>Ql (P:=λ x=>KS Y w K n D o L (.sub e d) x) e1 (aj8 ((i L p.1).1 (DO h).1) ((j L p.2.1).1 (DO h).2))
theorem Tj:(Ak Y w K n D o gn bt) .nil:=λ L xs J h=>HN (h:FV xs=DN)▸ajB
theorem Ti{ts:Ts}(i:(PT Y w K n D o gn bt) t)(j:(Ak Y w K n D o gn bt) ts):(Ak Y w K n D o gn bt) (.cons t ts):=λ L xs ho h=>by
 cases xs with
 |nil=>exact FB h|cons x xs=>exact ajA (i L x ho (DO h).1) (j L xs ho (DO h).2) (avV (DO h).1)
section
variable (F_:Gf w K D gn mg mb)(O:OX Y w K n o)(cB:∀id v,WW bt id=DK v->mg id=DP/\mb id=DK v)
include F_ O cB
theorem UF(e:aA):(PX Y w K n D o gn bt) e:=aA.rec (motive_1:=(PX Y w K n D o gn bt)) (motive_2:=(MU Y w K n D o gn bt)) (motive_3:=(TJ Y w K n D o gn bt)) (motive_4:=(PT Y w K n D o gn bt)) (motive_5:=(Ak Y w K n D o gn bt)) (λ J=>Ud) (λ J=>Ua F_) (λ J=>Uc) (λ J=>Uj) (λ J=>Ue) Tw (λ J J=>Tz) (λ J J=>Tm F_) (λ J J=>Ui) (λ J J=>Uk) (λ J=>Tn) (λ J J J=>Tp) (λ J J J=>Tt) (λ J J=>Uh) (λ J J=>Tl) (λ J=>Ug) (λ J J J=>Ub) (λ J J=>Tq F_ O) (λ J J=>To F_ cB) (λ J J J=>Uf F_ O) (λ J J J J i J k j=>Tu i k j) (λ J J J J i j J k=>Tv i j k) (λ J J=>⟨λ J=>Rx,λ J=>Ri⟩) Um (λ J J=>Ul) (λ J=>Se) (λ J=>Sf F_ cB) (λ J=>Sb F_ cB) (λ J=>Sc F_ cB) (λ J=>Sd F_ cB) (λ J=>Tf) (λ J=>Th) (λ J J=>Te F_) (λ J J=>Tg) Tj (λ J J=>Ti) e
theorem wv(e:aE):(MU Y w K n D o gn bt) e:=aE.rec (motive_1:=(PX Y w K n D o gn bt)) (motive_2:=(MU Y w K n D o gn bt)) (motive_3:=(TJ Y w K n D o gn bt)) (motive_4:=(PT Y w K n D o gn bt)) (motive_5:=(Ak Y w K n D o gn bt)) (λ J=>Ud) (λ J=>Ua F_) (λ J=>Uc) (λ J=>Uj) (λ J=>Ue) Tw (λ J J=>Tz) (λ J J=>Tm F_) (λ J J=>Ui) (λ J J=>Uk) (λ J=>Tn) (λ J J J=>Tp) (λ J J J=>Tt) (λ J J=>Uh) (λ J J=>Tl) (λ J=>Ug) (λ J J J=>Ub) (λ J J=>Tq F_ O) (λ J J=>To F_ cB) (λ J J J=>Uf F_ O) (λ J J J J i J k j=>Tu i k j) (λ J J J J i j J k=>Tv i j k) (λ J J=>⟨λ J=>Rx,λ J=>Ri⟩) Um (λ J J=>Ul) (λ J=>Se) (λ J=>Sf F_ cB) (λ J=>Sb F_ cB) (λ J=>Sc F_ cB) (λ J=>Sd F_ cB) (λ J=>Tf) (λ J=>Th) (λ J J=>Te F_) (λ J J=>Tg) Tj (λ J J=>Ti) e
theorem J?(e:aF):(TJ Y w K n D o gn bt) e:=aF.rec (motive_1:=(PX Y w K n D o gn bt)) (motive_2:=(MU Y w K n D o gn bt)) (motive_3:=(TJ Y w K n D o gn bt)) (motive_4:=(PT Y w K n D o gn bt)) (motive_5:=(Ak Y w K n D o gn bt)) (λ J=>Ud) (λ J=>Ua F_) (λ J=>Uc) (λ J=>Uj) (λ J=>Ue) Tw (λ J J=>Tz) (λ J J=>Tm F_) (λ J J=>Ui) (λ J J=>Uk) (λ J=>Tn) (λ J J J=>Tp) (λ J J J=>Tt) (λ J J=>Uh) (λ J J=>Tl) (λ J=>Ug) (λ J J J=>Ub) (λ J J=>Tq F_ O) (λ J J=>To F_ cB) (λ J J J=>Uf F_ O) (λ J J J J i J k j=>Tu i k j) (λ J J J J i j J k=>Tv i j k) (λ J J=>⟨λ J=>Rx,λ J=>Ri⟩) Um (λ J J=>Ul) (λ J=>Se) (λ J=>Sf F_ cB) (λ J=>Sb F_ cB) (λ J=>Sc F_ cB) (λ J=>Sd F_ cB) (λ J=>Tf) (λ J=>Th) (λ J J=>Te F_) (λ J J=>Tg) Tj (λ J J=>Ti) e
theorem K_(e:aG):(PT Y w K n D o gn bt) e:=aG.rec (motive_1:=(PX Y w K n D o gn bt)) (motive_2:=(MU Y w K n D o gn bt)) (motive_3:=(TJ Y w K n D o gn bt)) (motive_4:=(PT Y w K n D o gn bt)) (motive_5:=(Ak Y w K n D o gn bt)) (λ J=>Ud) (λ J=>Ua F_) (λ J=>Uc) (λ J=>Uj) (λ J=>Ue) Tw (λ J J=>Tz) (λ J J=>Tm F_) (λ J J=>Ui) (λ J J=>Uk) (λ J=>Tn) (λ J J J=>Tp) (λ J J J=>Tt) (λ J J=>Uh) (λ J J=>Tl) (λ J=>Ug) (λ J J J=>Ub) (λ J J=>Tq F_ O) (λ J J=>To F_ cB) (λ J J J=>Uf F_ O) (λ J J J J i J k j=>Tu i k j) (λ J J J J i j J k=>Tv i j k) (λ J J=>⟨λ J=>Rx,λ J=>Ri⟩) Um (λ J J=>Ul) (λ J=>Se) (λ J=>Sf F_ cB) (λ J=>Sb F_ cB) (λ J=>Sc F_ cB) (λ J=>Sd F_ cB) (λ J=>Tf) (λ J=>Th) (λ J J=>Te F_) (λ J J=>Tg) Tj (λ J J=>Ti) e
end
section
variable (Y:TK)(w:EV)(K:EQ)(n:DL)(D:Tb)(o:JM)(gn:DL->Tx)(bt:DM (Tx×DS))
def PS(xn:Tx)(s:S):Prop:=∀L x,KC L=DN->mS gn bt xn s L x=DN->SS Y w K n D o L s x
def YP(xn:Tx)(s:Ss):Prop:=∀L xs,KC L=DN->Ce gn bt xn s L xs=DN->TL Y w K n D o L s xs
end
variable {f:DZ}{fx:Fn}{xZ:DM EY}{BU:DM Tx}
theorem aiX{x:EY}:SS Y w K n D o L .bL x:=λ A fr Z m c U s Q E C J p=>(p:False).elim
theorem aj4{ss:Ss}{xs:DM EY}:TL Y w K n D o L (.cons .bL ss) xs:=λ A fr Z m c U s Q E C J p=>(p:False).elim
theorem aCF{s:S}(h:uv s=DN):s=.bL:=by
 revert h
 apply @S.casesOn _ s<;>intros<;>first|rfl|exact EP ‹_› FJ
theorem ahY:(YP Y w K n D o gn bt xn) .nil:=λ L xs J h=>HN (h:FV xs=DN)▸aj3
theorem ahX{s:S}{ss:Ss}(i:(PS Y w K n D o gn bt xn) s)(j:(YP Y w K n D o gn bt xn) ss):(YP Y w K n D o gn bt xn) (.cons s ss):=λ L xs ho h=>MJ h (λ h=>aCF h▸aj4) λ h=>by
 cases xs with
 |nil=>exact FB h|cons x xs=>exact aj2 (i L x ho (DO h).1) (j L xs ho (DO h).2)
variable (F_:Gf w K D gn mg mb)(O:OX Y w K n o)(cB:∀id v,WW bt id=DK v->mg id=DP/\mb id=DK v)
include F_ O cB
theorem ahT{e:aA}:(PS Y w K n D o gn bt xn) (.ret e):=λ L s J h=>EL h λ v e1 h=>EL h λ x e2 h=>aa7 (P:=λ s=>SS Y w K n D o L (.ret e) s) e1 λ J=>e2▸aiW ((UF F_ O cB e L x).1 h)
theorem ahP{e:aA}:(PS Y w K n D o gn bt xn) (.ex e):=λ L s J h=>EL h λ x e1 h=>Z9 (P:=λ s=>SS Y w K n D o L (.ex e) s) e1 λ J=>aiS ((UF F_ O cB e L x).1 (DO h).1) (DO h).2
theorem ahR{c:aA}{a b:Ss}(i:(YP Y w K n D o gn bt xn) a)(j:(YP Y w K n D o gn bt xn) b):(PS Y w K n D o gn bt xn) (.bH c a b):=λ L s ho h=>EL h λ p e1 h=>have h3:=(DO h).2;have h:=(DO h).1
 aBP (P:=λ s=>SS Y w K n D o L (.bH c a b) s) e1 λ J=>aiU ((UF F_ O cB c L _).2 (DO h).1) (i L _ ho (DO h).2) (j L _ ho h3)
theorem ahV{c:aA}{a:Ss}(i:(YP Y w K n D o gn bt xn) a):(PS Y w K n D o gn bt xn) (.jJ c a):=λ L s ho h=>EL h λ p e1 h=>have h3:=(DO h).2;have h:=(DO h).1
 aEA (P:=λ s=>SS Y w K n D o L (.jJ c a) s) e1 λ J=>HN (DO h).1▸aiZ ((UF F_ O cB c L _).2 (DO h).2) (i L _ ho h3)
theorem ahQ{it:It}{b:Ss}(i:(YP Y w K n D o gn bt xn) b):(PS Y w K n D o gn bt xn) (.for t it b):=λ L s ho h=>EL h λ p e1 h=>
 have h6:=(DO h).2;have h:=(DO h).1;have h5:=(DO h).2;have h:=(DO h).1;have h4:=(DO h).2;have h:=(DO h).1;have h3:=(DO h).2;have h:=(DO h).1
 apI (P:=λ s=>SS Y w K n D o L (.for t it b) s) e1 λ J=>HN (DO h).1▸aiT (J? F_ O cB it L _ (DO h).2) (K_ F_ O cB t L _ ho h3) (i L _ ho h4) h5 (MJ h6 .inl .inr)
theorem ahN{e:aA}{tx:Expr}(h1:(mX gn bt e L x).1=DN)(ht:KS Y w K n D o L t tx)(h:io t e L tx x=DN):SS Y w K n D o L (.aV t e) (.Assign [tx] x pos):=EL h λ p e1 h=>by
 refine awL (P:=λ tx=>KS Y w K n D o L t tx->SS Y w K n D o L (.aV t e) (.Assign [tx] x pos)) e1 (λ ht=> ?_) ht;cases kT:SO L x p.1 p.2 with
 |false=>exact aiO ((UF F_ O cB e L x).1 h1) ht kT|true=>
  rw[kT]at h;cases ec:Vu e with
  |some q=>
   rw[an7 ec]at h1⊢;refine EL h1 λ u e2 h1=>EL h1 λ g e3 h1=>have h4:=(DO h1).2;have h:=(DO h1).1;have h3:=(DO h).2;have h:=(DO h).1;have T:=A8 (DO h).1
    vz (P:=λ x=>SO L x p.1 p.2=DN->SS Y w K n D o L (.aV t (.comp q.1 q.2.1 q.2.2.1 q.2.2.2)) (.Assign [.Name p.1 p.2] x pos)) e2 (λ J kT=> ?_) kT
   rw[Yu e3]at kT⊢;exact aiM kT ht T.1 T.2.1 T.2.2.1 T.2.2.2.1 T.2.2.2.2 (J? F_ O cB _ L _ (DO h).2) ((wv F_ O cB _ _ _).2 h3) ((UF F_ O cB _ _ _).1 h4)
  |none=>
   rw[ec]at h;cases ed:Vz e with
   |none=>rw[ed]at h;exact FB h|some q=>
    rw[anI ed]at h1⊢;refine EL h1 λ u e2 h1=>EL h1 λ g e3 h1=>have h4:=(DO h1).2;have h:=(DO h1).1;have h3:=(DO h).2;have h:=(DO h).1;have h2:=(DO h).2;have h:=(DO h).1;have T:=A8 (DO h).2
     nu (P:=λ x=>SO L x p.1 p.2=DN->SS Y w K n D o L (.aV t (.iG q.1 q.2.1 q.2.2.1 q.2.2.2)) (.Assign [.Name p.1 p.2] x pos)) e2 (λ J kT=> ?_) kT
    rw[Yu e3,HN (DO h).1]at kT⊢;exact aiN kT ht T.1 T.2.1 T.2.2.1 T.2.2.2.1 T.2.2.2.2 (J? F_ O cB _ L _ h2) ((UF F_ O cB _ _ _).1 h3) ((UF F_ O cB _ _ _).1 h4)
theorem ahO{e:aA}{tx:Expr}(ho:KC L=DN)(h1:(mX gn bt e L x).1=DN)(h:iq gn bt t e L tx x=DN):SS Y w K n D o L (.aV t e) (.Assign [tx] x pos):=EL h λ xs e1 h=>EL h λ r e2 h=>by
 cases r with
 |none=>exact Ku (P:=λ tx=>KS Y w K n D o L t tx->SS Y w K n D o L (.aV t e) (.Assign [tx] x pos)) e1 (λ J J ht=>aiR ((UF F_ O cB e L x).1 h1) ht e2) (K_ F_ O cB t L tx ho h)|some names=>
  refine EL h λ ts e3 h=> ?_;cases e4:B0 e with
  |none=>rw[e4]at h;exact FB h|some H=>
   refine EL (DO h).2 λ is e5 h5=> ?_;rw[abV e3,ac3 e4];rw[ac3 e4]at h1;exact Ku (P:=λ tx=>SS Y w K n D o L (.aV (.aR ts) (.aR H)) (.Assign [tx] x pos)) e1 λ J J=>aiQ ho ((UF F_ O cB _ L x).1 h1) e2 e5 (DO h5).1 (DO h5).2 (GV (DO (DO h).1).2)
theorem ahM{e:aA}:(PS Y w K n D o gn bt xn) (.aV t e):=λ L s ho h=>EL h λ p e1 h=>EL h λ tx e2 h=>ip (P:=λ s=>SS Y w K n D o L (.aV t e) s) e1 λ pos=>by
 have h1:=(UF F_ O cB e L p.2).1 (DO h).1;rw[LH e2];refine MJ (DO h).2 (λ h3=> ?_) λ h3=>ahO F_ O cB ho (DO h).1 h3;have ht:=K_ F_ O cB t L tx ho (DO h3).1;refine MJ (DO h3).2 (λ h4=>MJ h4 (λ h5=> ?_) λ h5=> ?_) λ h4=>ahN F_ O cB (DO h).1 ht h4
 ·exact Me (motive_1:=λ tx=>KS Y w K n D o L t tx->SS Y w K n D o L (.aV t e) (.Assign [tx] p.2 pos)) tx (VS h5) (λ J J J ht=>aiL h1 ht) ht
 ·exact Ta (motive_1:=λ tx=>KS Y w K n D o L t tx->SS Y w K n D o L (.aV t e) (.Assign [tx] p.2 pos)) tx (VS h5) (λ J J J ht=>aiP h1 ht) ht
variable (XI:Mn w K mg mb 88 f fx mi xZ BU fK)(hx:fK=sx xn)
include XI hx
theorem ahS{H:Es}:(PS Y w K n D o gn bt xn) (.raise H):=λ L s J h=>EL h λ p e1 h=>have h2:=(DO h).2;have h:=(DO h).1
 EL h2 λ y e2 h2=>EL h2 λ q e3 h2=>have h5:=(DO h2).2;have h2:=(DO h2).1;have h4:=(DO h2).2;have h2:=(DO h2).1;azQ (P:=λ s=>SS Y w K n D o L (.raise H) s) e1 λ J=>by
  rw[nS h,e2];have hq:q.1=fK:=(PE (DO h2).1).trans hx.symm;refine Ei (P:=λ y=>SS Y w K n D o L (.raise H) (.Raise (DK y) DP _)) e3 λ J J=> ?_;rw[hq];exact aiV F_ XI ((wv F_ O cB H L _).1 h4) (ON h4) h5 (hq▸(XM (DO h2).2).1) (hq▸(XM (DO h2).2).2)
theorem ahU{b h:Ss}:(PS Y w K n D o gn bt xn) (.try b i h):=λ L s ho q=>EL q λ p e1 q=>have q3:=(DO q).2;have q:=(DO q).1
 EL q3 λ bs e2 q3=>EL q3 λ ex e3 q3=>EL q3 λ hd e4 q3=>EL q3 λ tx e5 q3=>EL q3 λ CT e6 q3=>EL q3 λ gL e7 q3=>EL q3 λ rs e8 q3=>EL q3 λ rv e9 q3=>EL q3 λ ra sN q3=>EL q3 λ u sO q3=>EL q3 λ vM sP q3=>EL q3 λ s1 sQ q3=>EL q3 λ e sR q3=>EL q3 λ s2 sT q3=>EL q3 λ uY sU q3=>EL q3 λ aa sV q3=>EL q3 λ j sX q3=>by
  have g9:=(DO q3).2;have q3:=(DO q3).1;have g8:=(DO q3).2;have q3:=(DO q3).1;have g7:=(DO q3).2;have q3:=(DO q3).1;have g6:=(DO q3).2;have q3:=(DO q3).1;have g5:=(DO q3).2;have q3:=(DO q3).1;have g4:=(DO q3).2;have q3:=(DO q3).1;have g3:=(DO q3).2;have q3:=(DO q3).1;have hq:CT=fK:=(PE g3).trans hx.symm;rw[yj sQ,aoW sR,yj sT,aA9 sU,akQ sV,av9 sX,<-GV g5];refine aD6 (P:=λ s=>SS Y w K n D o L (.try (.cons (.ex e) .nil) i (.cons (.ret (.aU (.loc i) aa.2)) .nil)) s) e1 λ J=> ?_;rw[HN (DO q).1,HN (DO q).2,LH e2,LH e4];refine Z9 (P:=λ bs=>SS Y w K n D o L _ (.Try [bs] [hd] [] [] _)) e3 λ J=>ao1 (P:=λ hd=>SS Y w K n D o L _ (.Try _ [hd] [] [] _)) λ J=> ?_;rw[e5,e7,LH e8];refine RC (P:=λ tx=>SS Y w K n D o L _ (.Try _ [.ExceptHandler (DK tx) _ _ _] [] [] _)) e6 λ J=>aa7 (P:=λ rs=>SS Y w K n D o L _ (.Try _ [.ExceptHandler _ _ [rs] _] [] [] _)) e9 λ J=> ?_;rw[sN];refine Ee (P:=λ ra=>SS Y w K n D o L _ (.Try _ [.ExceptHandler _ _ [.Return (DK ra) _] _] [] [] _)) sO (RC (P:=λ y=>SS Y w K n D o L _ (.Try _ [.ExceptHandler _ _ [.Return (DK (.Attribute y _ _)) _] _] [] [] _)) sP λ J=> ?_);rw[GW g8,PE g9,hq];have H_:=By g6;rw[hq]at g4;exact aiY ho F_ XI.xc ((UF F_ O cB e L ex).1 (DO q3).1) (DO q3).2 XI.gl (XM g4).1 (XM g4).2 H_.1 (UD g7) H_.2.2
theorem avU(s:Ss):(YP Y w K n D o gn bt xn) s:=Internal.Ss.rec (motive_1:=(PS Y w K n D o gn bt xn)) (motive_2:=(YP Y w K n D o gn bt xn)) (λ J J=>ahM F_ O cB) (λ J=>ahP F_ O cB) (λ J=>ahT F_ O cB) (λ J J J=>ahR F_ O cB) (λ J J J=>ahQ F_ O cB) (λ J J=>ahV F_ O cB) (λ J=>ahS F_ O cB XI hx) (λ J J J J J=>ahU F_ O cB XI hx) (λ J J J J=>aiX) ahY (λ J J=>ahX) s
end
noncomputable def Fp(names:DM EA)(I_:DM DS)(xs:DM DS):DM DS:=I_.drop (I_.length-(names.length-xs.length))
theorem ap4{α β:Type}{l:DM α}{C_:DM β}{f:α->DQ (α×β)}(hl:l.length=C_.length)(h:∀(i:DL) (a:α) (b:β),l[i]? =DK a->C_[i]? =DK b->f a=DK (a,b)):l.filterMap f=l.zip C_:=by
 induction l generalizing C_ with
 |nil=>rfl|cons a l ih=>cases C_ with
  |nil=>exact EP hl (Q2 _)|cons b C_=>
   rw[Si,h 0 a b rfl rfl];exact DX ((a,b)::·) (ih (Q0 hl) λ i x y e1 e2=>h (i+1) x y e1 e2)
noncomputable def Gc(s:DM (EA×DS))(p:EA×DS):DM (EA×DS):=if(s.lookup p.1).isNone=DN then s++[(p.1,p.2)]else s
theorem avI{n:EA}{p:EA×DS}{s:DM (EA×DS)}:(s++[(p.1,p.2)]).lookup n=match s.lookup n with|some v=>DK v|none=>([p]:DM (EA×DS)).lookup n:=by
 induction s with
 |nil=>rfl|cons q s ih=>
  show WO n ((q.1,q.2)::(s++[(p.1,p.2)]))=match WO n ((q.1,q.2)::s)with|some v=>DK v|none=>_
  rw[Af,Af];cases n==q.1 with
  |true=>rfl|false=>exact ih
theorem aC8{n:EA}{s:DM (EA×DS)}{p:EA×DS}:(Gc s p).lookup n=match s.lookup n with|some v=>DK v|none=>([p]:DM (EA×DS)).lookup n:=by
 unfold Gc;by_cases hn:(s.lookup p.1).isNone=DN
 ·rw[GG hn];exact avI
 ·rw[FU hn];cases h:s.lookup n with
  |some v=>rfl|none=>
   dsimp only;obtain⟨k,v⟩:=p;rw[Af];cases hk:n==k with
   |false=>rfl|true=>
    rw[Eg]at hk;subst hk;rw[h]at hn;exact EP rfl hn
theorem avF{n:EA}{l s:DM (EA×DS)}:(l.foldl Gc s).lookup n=match s.lookup n with|some v=>DK v|none=>l.lookup n:=by
 induction l generalizing s with
 |nil=>
  show s.lookup n=_;cases s.lookup n<;>rfl
 |cons p l ih=>
  rw[agH,ih,aC8];cases s.lookup n with
  |some v=>rfl|none=>
   show(match WO n [p]with|some v=>DK v|none=>l.lookup n)=WO n ((p.1,p.2)::l);rw[Af,Af];cases n==p.1<;>rfl
theorem wk{n:EA}:∀{s:DM (EA×DS)},(∀p∈s,p.1≠n)->s.lookup n=DP
 |[],_=>rfl|(k,v)::s,h=>by
  rw[Af,jn λ e=>h _ (.head _) e.symm];exact wk λ p hp=>h p (.tail _ hp)
theorem aw5{α β:Type}{l:DM α}{m:DM β}{p:α×β}(h:p∈l.zip m):∃i:DL,l[i]? =DK p.1/\m[i]? =DK p.2:=
 let⟨i,e⟩:=YK h
 ⟨i,agJ.mp e⟩
theorem ax8{α:Type}{l:DM α}(nd:l.Nodup){i j:DL}{a:α}(h1:l[i]? =DK a)(h2:l[j]? =DK a):i=j:=by
 obtain⟨l1,e1⟩:=JV.mp h1;obtain⟨l2,e2⟩:=JV.mp h2;exact(List.getElem_inj nd).mp (e1.trans e2.symm)
theorem J_{names:DM EA}{ys:DM DS}(nd:names.Nodup){i:DL}{n:EA}{v:DS}(h1:names[i]? =DK n)(h2:ys[i]? =DK v):(names.zip ys).lookup n=DK v:=by
 induction names generalizing ys i with
 |nil=>simp at h1|cons a l ih=>
  cases ys with
  |nil=>simp at h2|cons y ys=>
   rw[List.zip_cons_cons,Af];cases i with
   |zero=>cases h1;cases h2;rw[beq_self_eq_true]
   |succ i=>
    rw[Ag]at nd;have cS:n≠a:=λ e=>nd.1 (by rw[<-e];exact JK (show l[i]? =DK n from h1));rw[jn cS];exact ih nd.2 h1 h2
theorem ax5(nd:names.Nodup)(hx:k<=xs.length):agD (λ n=>(WO n (names.zip xs)).isNone) (agQ k names)=[]:=by
 rw[List.filter_eq_nil_iff];intro n hn;obtain⟨i,hi,e⟩:=Lx hn;have hk:i<k:=IW hi (O8 _ _);have e':names[i]? =DK n:=(Ae hk).symm.trans (e▸JU hi);rw[J_ nd e' (JU (IW hk hx))];exact FJ
theorem apG:∀(l s:DM (EA×DS)),(Wt l s λ (x:EA×DS) (sE:DM (EA×DS))=>(match x with
   |(name,d)=>if(WO name sE).isNone=DN then(pure (Lq (sE++[(name,d)])):JN (ForInStep (DM (EA×DS))))else pure (Lq sE)))=pure (l.foldl Gc s):=by
 intro l
 induction l with
 |nil=>intro s;rfl
 |cons p l ih=>
  intro s;rw[Ac,agH,<-ih];unfold Gc;by_cases q:(WO p.1 s).isNone=DN
  ·rw[GG q];exact(DX (·>>=_) (GG q)).trans (pure_bind _ _)
  ·rw[FU q];exact(DX (·>>=_) (FU q)).trans (pure_bind _ _)
theorem aCK{x:DL}(h:n-d<=x):n-x<=d:=ahE (Ly x d▸Nat.le_add_of_sub_le h)
theorem aA7{I_:DM DS}(hl:xs.length<=names.length)(hx:names.length-I_.length<=xs.length):(xs++Fp names I_ xs).length=names.length:=by
 unfold Fp;rw[GC,agK,Nat.sub_sub_self (aCK hx),Dq hl]
theorem at7{x:DL}(hl:x<=n)(hx:n-d<=x)(hD:d<=n)(pL:x<=i):n-d+(i-(n-d))=i/\d-(n-x)+(i-x)=i-(n-d):=by
 have e:d-(n-x)=x-(n-d):=by rw[ahF _ hl,ahF _ hD,Ly]
 exact⟨Dq (EZ hx pL),by rw[e,Ly];exact Nat.sub_add_sub_cancel pL hx⟩
theorem ayR{I_:DM DS}(nd:names.Nodup)(hl:xs.length<=names.length)(hx:names.length-I_.length<=xs.length)(hD:I_.length<=names.length):
  ao (λ n=>NN (λ x=>(n,x)) (WO n (((Sg (names.length-I_.length) names).zip I_).foldl Gc (names.zip xs)))) names=names.zip (xs++Fp names I_ xs):=by
 refine ap4 (aA7 hl hx).symm λ i a b e1 e2=> ?_;rw[avF];by_cases fW:i<xs.length
 ·rw[KQ fW]at e2;rw[J_ nd e1 e2];rfl
 ·have pL:=Lz fW;rw[Ad pL]at e2;unfold Fp at e2;obtain⟨i1,i2⟩:=at7 hl hx hD pL;rw[aq,i2]at e2;have h0:WO a (names.zip xs)=DP:=wk λ p hp z=>by
   obtain⟨j,q1,q2⟩:=aw5 hp;rw[z]at q1;exact fW (ax8 nd e1 q1▸(JV.mp q2).1)
  rw[h0,J_ (i:=i-(names.length-I_.length)) (nd.sublist (List.drop_sublist _ _)) (by rw[aq,i1];exact e1) e2];rfl
theorem u3{M:NM}{α:Type}{c:Prop}[N4 c]{a b:JN α}{Q:α->EB->Prop}{E:aJ}(hc:¬c)(h:DW M A b Q E s):DW M A (if c then a else b) Q E s:=by rw[FU hc];exact h
theorem ad4{M:NM}{α β:Type}{x:β}{f:α->β->JN (ForInStep β)}{Q:β->EB->Prop}{E:aJ}(h:Q x s):DW M A (Wt ([]:DM α) x f) Q E s:=EK h
theorem aEP{M:NM}{α:Type}{a:JN α}{x:α}{Q:α->EB->Prop}{E:aJ}(e:a=pure x)(h:Q x s):DW M A a Q E s:=e▸EK h
theorem al8{I_:DM DS}{o:DQ (FM DS)}(vZ:fd.params.posonlyargs=[])(rG:fd.params.kwonlyargs=[])(wD:fd.params.vararg=DP)(vV:fd.params.kwarg=DP)(names:DM EA)(rI:fd.params.args.map (·.arg)=names)(nd:names.Nodup)(hl:xs.length<=names.length)(hD:I_.length<=names.length)(hx:names.length-I_.length<=xs.length)
  (ho:(o.getD #[]).toList=I_)(hs:∀(M:NM) (A:HG) (E:aJ) (Q:DQ (FM DS)->EB->Prop),Q o s->DW M A (Zm fd.defaults) Q E s):Rj s fd ⟨xs,[]⟩ (names.zip (xs++Fp names I_ xs)):=by
 intro M A E Q q;obtain⟨q0,q1,⟨po,ar,va,ko,kd,kw,df⟩,q2,q3,q4,q5,q6,q7,q8,q9⟩:=fd;dsimp only at vZ rG wD vV rI;subst vZ rG wD vV rI ho;refine DV (ad4 ?_);refine DV (hs M A E _ ?_);refine u3 (c:=(decide (xs.length>(ar.map (·.arg)).length)&&(DP:DQ Arg).isNone)=DN) (by rw[Nq (IG.mpr hl)];exact FJ) ?_;refine u3 (c:=(!(agD (λ n=>(WO n ((ar.map (·.arg)).zip xs)).isNone) (agQ ((ar.map (·.arg)).length-(Sg ((o.getD #[]).toList.length-(ar.map (·.arg)).length) (o.getD #[]).toList).length) (ar.map (·.arg)))).isEmpty)=DN) (by
  rw[br hD,agC,ax5 nd hx];exact FJ) ?_
 refine DV (aEP (apG _ _) ?_);refine DV (ad4 ?_);refine u3 (c:=(!([]:DM EA).isEmpty)=DN) FJ ?_;refine EK ?_;show Q (ao (λ n=>NN (λ x=>(n,x)) (WO n (((Sg ((ar.map (·.arg)).length-(Sg ((o.getD #[]).toList.length-(ar.map (·.arg)).length) (o.getD #[]).toList).length) (ar.map (·.arg))).zip (Sg ((o.getD #[]).toList.length-(ar.map (·.arg)).length) (o.getD #[]).toList)).foldl Gc ((ar.map (·.arg)).zip xs)))) (ar.map (·.arg)++[])) s;rw[br hD,agC,KP,ayR nd hl hx hD];exact q
theorem atH{x:DS}{v:DY}(h:ul x=DK v){P:aN}(k:∀t,P (.int v t)):P x:=HK h λ h e=>ez (motive:=λ x=>∀h,(ez (motive:=λ J=>DY) x h λ i J=>i)=v->P x) x h (λ J t J e=>by subst e;exact k t) h e
theorem j8{x:DS}{v:EA}(h:A0 x=DK v){P:aN}(k:∀t,P (.str v t)):P x:=HK h λ h e=>fc (motive:=λ x=>∀h,(fc (motive:=λ J=>EA) x h λ i J=>i)=v->P x) x h (λ J t J e=>by subst e;exact k t) h e
theorem aa3{x:DS}{v:DZ}(h:Y_ x=DK v):x=.ref v:=HK h λ h e=>fa (motive:=λ x=>∀h,(fa (motive:=λ J=>DZ) x h λ i=>i)=v->x=.ref v) x h (λ J J e=>DX _ e) h e
theorem aaN{x:YE}{v:FM DS×DL}(h:a7 x=DK v):x=.seq v.1 v.2:=HK h λ h e=>co (motive:=λ x=>∀h,(co (motive:=λ J=>FM DS×DL) x h λ a n=>(a,n))=v->x=.seq v.1 v.2) x h (λ J J J e=>by subst e;rfl) h e
theorem apQ{x:YE}{v:YG}(h:sk x=DK v):x=.func v:=HK h λ h e=>cn (motive:=λ x=>∀h,(cn (motive:=λ J=>YG) x h λ f=>f)=v->x=.func v) x h (λ J J e=>DX _ e) h e
theorem ac5{K:EQ}{a:DZ}(h:ac4 K a=DK xs):K.lookup a=DK ⟨.type "tuple",DP,.seq xs.toArray 0,#[]⟩:=
 ob h λ o e h=>EO h λ h1 h=>EO h λ h2 h=>EO h λ h3 h=>ob h λ p e2 h=>EO h λ h4 h9=>by
  obtain⟨c,d,dt,sl⟩:=o;rw[e,<-EJ h9,y8,show c=_ from of_decide_eq_true h1,show d=_ from nS h2,show dt=_ from aaN e2,show sl= #[]from ae9 (GV h3),GV h4]
def RU(fd:YG):DM Tx:=Hs fd.params
theorem aC9{x:FuncBody}{v:DM EY}(h:Qm x=DK v):x=.stmts v:=HK h λ h e=>dn (motive:=λ x=>∀h,(dn (motive:=λ J=>DM EY) x h λ l=>l)=v->x=.stmts v) x h (λ J J e=>DX _ e) h e
section
variable {w:EV}{K:EQ}
theorem xw{x:DS}(h:EG x.ctorIdx 0=DN):x=.none:=aI8 (motive:=λ x=>x=.none) x (GV h) rfl
def Sz(w:EV)(K:EQ)(c:Cx)(h:ES)(v:V):Prop:=∀x,C9 K v x=DN->VR w c h v x
def Hh(w:EV)(K:EQ)(c:Cx)(h:ES)(B:DM V):Prop:=∀xs,D1 K B xs=DN->bI w c h B xs
theorem aE5(I:aZ w K U c h)(B:DM V)(i:Hh w K c h B):Sz w K c h (.aR B):=λ x e=>EL e λ a e1 e=>EL e λ xs e2 e=>aa3 e1▸ .aR (I.gV _ _ (ac5 e2)).1 (I.gV _ _ (ac5 e2)).2 (i xs e)
theorem acQ(v:V)(B:DM V)(i:Sz w K c h v)(j:Hh w K c h B):Hh w K c h (v::B):=λ xs e=>by
 cases xs with
 |nil=>exact FB e|cons x xs=>exact .cons (i x (DO e).1) (j xs (DO e).2)
theorem acR:Hh w K c h []:=λ xs e=>HN (e:FV xs=DN)▸ .nil
theorem acO(I:aZ w K U c h)(v:V):Sz w K c h v:=V.rec (motive_1:=Sz w K c h) (motive_2:=Hh w K c h) (λ x e=>xw e▸ .none) (λ a x e=>of_decide_eq_true e▸ .bool a) (λ i x e=>EL e λ j e1 e=>GW e▸atH (P:=λ x=>VR w c h (.int i) x) (GW e▸e1) λ J=>.int _ _)
 (λ t x e=>EL e λ u e1 e=>j8 (P:=λ x=>VR w c h (.str t) x) e1 λ J=>PE e▸ .str _ _) (aE5 I) (λ J J J e=>FB e) (λ J J J J J e=>FB e) (λ J J J J J e=>FB e) (λ J J e=>FB e) (λ a x e=>of_decide_eq_true e▸ .fn a) (λ a x e=>of_decide_eq_true e▸ .cls a) (λ J J J e=>FB e) (λ J J J J e=>FB e) acR acQ v
theorem aE8(I:aZ w K U c h)(B:DM V):Hh w K c h B:=by
 induction B with
 |nil=>exact acR|cons v B ih=>exact acQ v B (acO I v) ih
theorem pc{l:DM Tx}:Wb l=DN->l.Nodup:=by
 induction l with
 |nil=>exact λ J=>Hb
 |cons t r ih=>
  intro h;refine Ag.mpr ⟨λ hm=> ?_,ih (DO h).2⟩;have:=FQ.mp (DO h).1 t hm;rw[jm]at this;exact FJ this
theorem bI.drop{B:DM V}{xs:DM DS}(r:bI w c h B xs)(k:DL):bI w c h (B.drop k) (xs.drop k):=by
 induction k generalizing B xs with
 |zero=>exact r|succ k ih=>cases r with
  |nil=>exact .nil|cons a r=>exact ih r
theorem S4:(RU fd).map sx=fd.params.args.map (·.arg):=by
 unfold RU Hs;rw[az];refine ax λ a J=> ?_;show sx a.arg.cps.toList=a.arg;cases a.arg;simp
theorem ax9{l:DM Tx}(h:l.Nodup):(l.map sx).Nodup:=O9.mpr (h.imp λ h1 h2=>h1 (abR h2))
theorem ap3(hf:(IQ fn args).length=fn.np):args.length<=fn.np/\fn.np-fn.fZ.length<=args.length:=by
 have hf:args.length+(fn.fZ.length-(fn.fZ.length-(fn.np-args.length)))=fn.np:=by
  rw[<-agK,<-GC];exact hf
 refine⟨EZ (HD ..) (MT hf),ahE (EZ (MT hf.symm) (RP (bv ..) _))⟩
theorem gy{I_:DM DS}{o:DQ (FM DS)}(kO:((RU fd).map sx).Nodup)(dU:(RU fd).length=fn.np)(h1:fd.params.posonlyargs=[])(h2:fd.params.kwonlyargs=[])(h3:fd.params.vararg=DP)(h4:fd.params.kwarg=DP)(hn:fn.fZ.length<=fn.np)
  (ra:bI w c s.heap args xs)(hf:(IQ fn args).length=fn.np)(rD:bI w c s.heap fn.fZ I_)(ho:(o.getD #[]).toList=I_)(hq:∀(M:NM) (A:HG) (E:aJ) (Q:DQ (FM DS)->EB->Prop),Q o s->DW M A (Zm fd.defaults) Q E s):
  ∃ys,bI w c s.heap (IQ fn args) ys/\Rj s fd ⟨xs,[]⟩ (((RU fd).map sx).zip ys):=by
 have hln:(fd.params.args.map (·.arg)).length=fn.np:=by rw[<-S4,LM,dU]
 have tH:I_.length=fn.fZ.length:=rD.length.symm;have hL:=ap3 hf;rw[ra.length]at hL;refine⟨xs++Fp (fd.params.args.map (·.arg)) I_ xs,bI.sJ ra ?_,?_⟩
 ·unfold Fp;rw[hln,tH,<-ra.length];exact rD.drop _
 ·rw[S4];exact al8 h1 h2 h3 h4 _ rfl (S4▸kO) (hln▸hL.1) (by rw[hln,tH];exact hn) (by rw[hln,tH];exact hL.2) ho hq
theorem axA{v:DS}(h:v=.none){M:NM}{E:aJ}{Q:DQ (FM DS)->EB->Prop}(q:Q DP s):DW M A (Zm v) Q E s:=h▸DV (EK (EK q))
theorem ak8(kO:((RU fd).map sx).Nodup)(dU:(RU fd).length=fn.np)(h1:fd.params.posonlyargs=[])(h2:fd.params.kwonlyargs=[])(h3:fd.params.vararg=DP)(h4:fd.params.kwarg=DP)(hd:W5 K fd fn.fZ=DN)(hn:fn.fZ.length<=fn.np)
  (I:aZ w K U c s.heap)(ra:bI w c s.heap args xs)(hf:(IQ fn args).length=fn.np):∃ys,bI w c s.heap (IQ fn args) ys/\Rj s fd ⟨xs,[]⟩ (((RU fd).map sx).zip ys):=
 MJ hd (λ hd=>gy (o:=DP) kO dU h1 h2 h3 h4 hn ra hf (HN (DO hd).1▸ .nil) rfl λ J J J J q=>axA (xw (DO hd).2) q) λ hd=>EL hd λ T e1 hd=>EL hd λ ds e2 hd=>ob e2 λ x e3 e2=>om (P:=λ ds:FM DS=>bI w c s.heap fn.fZ ds.toList->∃ys,bI w c s.heap (IQ fn args) ys/\Rj s fd ⟨xs,[]⟩ (((RU fd).map sx).zip ys)) e2
  (λ p e4 rD=>gy (o:=DK p.1) kO dU h1 h2 h3 h4 hn ra hf rD rfl λ J J J J q=>by rw[aa3 e1];exact WI (I.gV _ _ e3).1 (aaN e4) q) (aE8 I _ _ hd)
theorem qw{x:Fx}(e:Ev K gn bt xn a x=DN):∃ps,YF w K a x.fn ⟨Fu K a,x.nm,x.cs⟩ (Ic K a) ps/\KC ⟨Fu K a,x.nm,x.cs⟩=DN/\Ce gn bt xn x.fn.body ⟨Fu K a,x.nm,x.cs⟩ (Ic K a)=DN:=by
 refine EL e λ fd hq e=>EL e λ body hb e=> ?_;have hsc:Fu K a=fd.scope.names:=by unfold Fu;rw[hq];rfl
 have hbo:Ic K a=body:=by unfold Ic;rw[hq];exact DX (·.getD []) hb
 rw[hsc,hbo];refine ob hq λ ob hK zW=> ?_;have ek:=(DO e).1;have e:=(DO e).2;have yH:=(DO ek).2;have ek:=(DO ek).1;have sP:=(DO ek).2;have ek:=(DO ek).1;have e4:=(DO ek).2;have ek:=(DO ek).1;have e3:=(DO ek).2;have ek:=(DO ek).1;have e2:=(DO ek).2;have e1:=(DO ek).1;have yK:=(DO e).2;have e:=(DO e).1;have yJ:=(DO e).2;have e:=(DO e).1;have uY:=(DO e).2;have e:=(DO e).1;have e19:=(DO e).2;have e:=(DO e).1;have sX:=(DO e).2;have e:=(DO e).1;have sV:=(DO e).2;have e:=(DO e).1;have ea:=(DO e).2;have e:=(DO e).1;have sQ:=(DO e).2;have e:=(DO e).1;have ep:=(DO e).2;have e:=(DO e).1;have e7:=(DO e).2;have e:=(DO e).1;have e6:=(DO e).2;have e5:=(DO e).1;have sO:=(DO ep).2;have ep:=(DO ep).1;have sN:=(DO ep).2;have ep:=(DO ep).1;have e9:=(DO ep).2;have e8:=(DO ep).1;have sU:=(DO ea).2;have ea:=(DO ea).1;have sT:=(DO ea).2;have sR:=(DO ea).1;have dU:(RU fd).length=x.fn.np:=GV sR;have kO:((RU fd).map sx).Nodup:=ax9 (pc sT);refine⟨RU fd,⟨⟨ob,fd,hK,apQ zW,aC9 hb,aw.mp e1,GV e2,GV e3,e4,rfl,GW e5,UI e6,UI e7,λ s c U args xs I ra hf=>ak8 kO dU (aw.mp e8) (aw.mp e9) (Sx.mp sN) (Sx.mp sO) sP (GO sQ) I ra hf⟩,
  dU,kO,λ n' i hs=> ?_,λ p hp=>MJ (FQ.mp sU p hp) (λ q=>.inl (UD q)) λ q=>.inr (UD q),GO sX,λ i hi=>GO (FQ.mp e19 i hi),?_,yH⟩,yJ,yK⟩
 ·obtain⟨t,ht,en⟩:=Qh hs;have q:=FQ.mp sV _ ht;refine⟨GO (DO q).1,λ fW=>MJ (DO q).2 (λ q=>EP (GO q) (Nat.not_le.mpr fW)) λ q=>EL q λ u hu q=> ?_⟩;rw[SZ,show(RU fd)[i]? =DK u from hu,en,hJ q];rfl
 ·have h1:((Ek 0 fd.scope.names []).map (λ p=>p.1.cps.toList)).Nodup:=pc uY;rw[show((Ek 0 fd.scope.names []).map (λ p=>p.1.cps.toList))=((Ek 0 fd.scope.names []).map (·.1)).map (λ s:EA=>s.cps.toList) by rw[az];rfl]at h1;exact(O9.mp h1).imp λ h2 h3=>h2 (by rw[h3])
end
theorem uX{x:YE}{v:FM FL×DL}(h:oi x=DK v):x=.dict v.1 v.2:=HK h λ h e=>cj (motive:=λ x=>∀h,(cj (motive:=λ J=>FM FL×DL) x h λ a n=>(a,n))=v->x=.dict v.1 v.2) x h (λ J J J e=>by subst e;rfl) h e
theorem auE{H:FM FL}(h:vi H=DN):StrKeys H:=λ e he=>by
 obtain⟨s,hs⟩:=Md.mp (FQ.mp h e (Array.mem_toList_iff.mpr he));exact j8 (P:=λ x=>∃s t,x=.str s t) hs λ t=>⟨_,_,rfl⟩
theorem Yq{K:EQ}{a:DZ}(e:Fi K a=DN){h:ES}(X:K.In h):h.Ns a (ND (KJ K a)):=
 EL e λ p hp e=>ob hp λ o ho hd=>⟨_,p.1,p.2,X _ _ ho,uX hd,auE e,λ name=>by unfold KJ;rw[hp];rfl⟩
noncomputable def Cz(gT:Tr (V×Tx))(cT:Tr (Tr DL))(iT:Tr DL):Tb:=
 ⟨λ g=>(gT.get g).map (·.1),λ c a=>(cT.get c).bind λ t=>(t.get a).map λ f=>EN (EG f 0) DP (DK f),λ c=>iT.get c⟩
def Yg(K:EQ)(C a f:DL):DU:=decide (a<256^60)&&GM K (.ref C) (sx (EU a))==DK (DK (.ref f))&&GM K (.ref C) "__getattribute__" ==DK (DK (.builtin "object.__getattribute__"))&&Gj K (.ref f)==DK (.type "function")&&XG K f&&
 Qj K (.ref f) "__get__" ==DK (DK (.builtin "function.__get__"))&&takesIn K (.ref f)==DK DT&& !(W2.contains (sx (EU a)))
def tm(K:EQ)(gT:Tr (V×Tx))(cT:Tr (Tr DL))(iT:Tr DL):DU:=
 Fi K V5&&(ND (KJ K V5) "sys.recursionlimit").isNone&&Fi K KW&&Fi K QP&&gT.all (λ J p=>oe (ND (KJ K KW) (sx p.2)) DT (C9 K p.1))&&
 cT.all (λ C t=>Nm K C&&t.all (λ a f=>EN (EG f 0) (Nb K C a) (Yg K C a f)))&&iT.all (uh K)
theorem amZ{K:EQ}{C:DL}(e:Nm K C=DN):M8 K C:=
 have e5:=(DO e).2;have e:=(DO e).1;have e4:=(DO e).2;have e:=(DO e).1;have e3:=(DO e).2;have e:=(DO e).1;have e2:=(DO e).2;have e1:=(DO e).1
 ⟨gu e1,MJ e2 (λ q=>.inl (GW q)) λ q=>.inr ⟨GW (DO q).1,GW (DO q).2⟩,GW e3,GW e4,e5⟩
theorem asN{w:EV}{K:EQ}(e:tm K gT cT iT=DN):Gf w K (Cz gT cT iT) (XJ gT) (ND (KJ K KW)) (ND (KJ K QP)):=by
 have e7:=(DO e).2;have e:=(DO e).1;have e6:=(DO e).2;have e:=(DO e).1;have e5:=(DO e).2;have e:=(DO e).1;have e4:=(DO e).2;have e:=(DO e).1;have e3:=(DO e).2;have e:=(DO e).1;have e2:=(DO e).2;have e1:=(DO e).1;refine⟨λ h X=>⟨_,Yq e1 X,Sx.mp e2⟩,λ h X=>Yq e3 X,λ h X=>Yq e4 X,λ g v hg=>om (P:=λ v=>∃x,ND (KJ K KW) (sx (XJ gT g))=DK x/\∀c h U,aZ w K U c h->VR w c h v x) hg λ p hp=> ?_,λ C a r hr=>ob hr λ t hc hr=> ?_,λ C f hf=> ?_⟩
 ·rw[show XJ gT g=p.2 by unfold XJ;rw[hp];rfl];exact EL (Tr.lO e5 hp) λ x hx q=>⟨x,hx,λ c h U I=>acO I _ _ q⟩
 ·have h1:=Tr.lO e6 hc;have hC:=amZ (DO h1).1;obtain⟨f,ht,rfl⟩:=Sy.mp hr;have h4:=Tr.lO (DO h1).2 ht;cases h0:EG f 0 with
  |true=>
   rw[h0]at h4;exact⟨hC,of_decide_eq_true (DO h4).1,GW (DO h4).2,λ J q=>EW q⟩
  |false=>
   rw[h0]at h4;have m8:=(DO h4).2;have h4:=(DO h4).1;have m7:=(DO h4).2;have h4:=(DO h4).1;have m6:=(DO h4).2;have h4:=(DO h4).1;have m5:=(DO h4).2;have h4:=(DO h4).1;have m4:=(DO h4).2;have h4:=(DO h4).1;have m3:=(DO h4).2;have h4:=(DO h4).1;exact⟨hC,of_decide_eq_true (DO h4).1,GW (DO h4).2,λ J q=>EJ q▸⟨GW m3,GW m4,m5,GW m6,GW m7,UI m8⟩⟩
 ·have m4:=(DO (Tr.lO e7 (show iT.get C=DK f from hf))).2;have h1:=(DO (Tr.lO e7 (show iT.get C=DK f from hf))).1;have m3:=(DO h1).2;have h1:=(DO h1).1;exact⟨(DO h1).1,(DO h1).2,GW m3,GW m4⟩
def jz(K:EQ)(bt:DM (Tx×DS)):DU:=bt.all (λ p=>(ND (KJ K KW) (sx p.1)).isNone&&ND (KJ K QP) (sx p.1)==DK p.2)
theorem alQ{K:EQ}(e:jz K bt=DN):∀id v,WW bt id=DK v->ND (KJ K KW) id=DP/\ND (KJ K QP) id=DK v:=λ id v h=>by
 obtain⟨t,h1,rfl⟩:=alR h;have:=FQ.mp e _ h1;simp only[Gu,Eg]at this;exact⟨Sx.mp this.1,this.2⟩
theorem sM{x:YE}{v:Gv}(h:Vt x=DK v):x=.cls v:=HK h λ h e=>cg (motive:=λ x=>∀h,(cg (motive:=λ J=>Gv) x h λ c=>c)=v->x=.cls v) x h (λ J J e=>DX _ e) h e
theorem yQ{x:YE}{v:FM DS}(h:qu x=DK v):x=.fields v:=HK h λ h e=>cm (motive:=λ x=>∀h,(cm (motive:=λ J=>FM DS) x h λ c=>c)=v->x=.fields v) x h (λ J J e=>DX _ e) h e
theorem MA{a b:DU}(h:a=DN)(k:b=DN):(a&&b)=DN:=by rw[h,k];rfl
theorem aBU{a:FM (DQ DS)}(h:six a.toList=DN):∃k0 k1 k2 k3 k5,a= #[k0,k1,k2,k3,DK (.builtin "Exception.__new__"),k5]:=by
 obtain⟨l⟩:=a;have h1:=GV (DO h).1;have h2:=of_decide_eq_true (DO h).2;rcases l with _|⟨k0,_|⟨k1,_|⟨k2,_|⟨k3,_|⟨k4,_|⟨k5,_|⟨_,_⟩⟩⟩⟩⟩⟩⟩
 ·exact(by cases h1)
 ·exact(by cases h1)
 ·exact(by cases h1)
 ·exact(by cases h1)
 ·exact(by cases h1)
 ·exact(by cases h1)
 ·exact⟨k0,k1,k2,k3,k5,by rw[EJ (h2:DK k4=_)]⟩
 ·exact(by cases h1)
theorem aEY{K:EQ}{C:DL}(h:xcO K C=DN):R7 K C:=EL h λ ob e1 h=>EL h λ cd e2 h=>by
 have h8:=(DO h).2;have h:=(DO h).1;have h7:=(DO h).2;have h:=(DO h).1;have h6:=(DO h).2;have h:=(DO h).1;have h5:=(DO h).2;have h:=(DO h).1;have h4:=(DO h).2;have h:=(DO h).1;have h3:=(DO h).2;have h:=(DO h).1;have h2:=(DO h).2;have h1:=(DO h).1;obtain⟨k0,k1,k2,k3,k5,hs⟩:=aBU h3;obtain⟨cl,dd,dt,sl⟩:=ob;obtain⟨nm,bs,mro,ns,q,hd,sn,sub,ab,col,yD⟩:=cd;cases mro with
 |nil=>exact EP (of_decide_eq_true h4) (by simp)|cons m bm=>
  rw[show cl=_ from of_decide_eq_true h1,show dt=_ from sM e2,show sl=_ from hs,show yD=DT from UI h2,show m=_ from EJ (of_decide_eq_true h4)]at e1;exact .mk e1 h5 h6 (UI h7) (UI h8)
theorem aEX{K:EQ}{C:DL}(e:xcB K C f=DN):Dw K C f:=
 have e9:=(DO e).2;have e:=(DO e).1;have e8:=(DO e).2;have e:=(DO e).1;have e7:=(DO e).2;have e:=(DO e).1;have e6:=(DO e).2;have e:=(DO e).1;have e5:=(DO e).2;have e:=(DO e).1;have e4:=(DO e).2;have e:=(DO e).1;have e3:=(DO e).2;have e:=(DO e).1;have e2:=(DO e).2;have e1:=(DO e).1
 ⟨aEY e1,GW e2,GW e3,GW e4,GW e5,GW e6,e7,e8,gu e9⟩
theorem ic{s:EY}{v:EA×EA×EA}(h:Mz s=DK v){P:EY->Prop}(k:∀p1 p2 p3 p4,P (.Assign [.Attribute (.Name v.1 p1) v.2.1 p2] (.Name v.2.2 p3) p4)):P s:=
 ob h λ p hp h=>ip hp λ p4=>ob h λ t ht h=>LH ht▸ob h λ q hq h=>Ee (P:=λ t=>P (.Assign [t] p.2 p4)) hq (ob h λ n hn h=>RC (P:=λ x=>P (.Assign [.Attribute x q.2.1 q.2.2] p.2 p4)) hn λ p1=>
  om (P:=λ v:EA×EA×EA=>(∀p1 p2 p3 p4,P (.Assign [.Attribute (.Name v.1 p1) v.2.1 p2] (.Name v.2.2 p3) p4))->P (.Assign [.Attribute (.Name n p1) q.2.1 q.2.2] p.2 p4)) h (λ u hu k=>RC (P:=λ x=>P (.Assign [.Attribute (.Name n p1) q.2.1 q.2.2] x p4)) hu λ p3=>k p1 _ p3 p4) k)
theorem atD{s:EY}{v:Lr}(h:s_ s=DK v){P:EY->Prop}(k:∀p1 p3 p4 p6,P (.Expr (.Call (.Attribute (.Name v.x p1) v.f v.p) [.Name v.a p3,.Name v.b p4] [] v.q) p6)):P s:=
 ob h λ e he h=>Z9 he λ p6=>ob h λ c hc h=>Vn (P:=λ e=>P (.Expr e p6)) hc (EO h λ hn h=>HN hn▸ob h λ q hq h=>Ee (P:=λ f=>P (.Expr (.Call f c.2.1 [] c.2.2.2) p6)) hq (ob h λ x hx h=>RC (P:=λ x=>P (.Expr (.Call (.Attribute x q.2.1 q.2.2) c.2.1 [] c.2.2.2) p6)) hx λ p1=>
  ob h λ a ha h=>Gi ha▸ob h λ n0 h0 h=>RC (P:=λ y=>P (.Expr (.Call (.Attribute (.Name x p1) q.2.1 q.2.2) [y,a.2] [] c.2.2.2) p6)) h0 λ p3=>
  om (P:=λ v:Lr=>(∀p1 p3 p4 p6,P (.Expr (.Call (.Attribute (.Name v.x p1) v.f v.p) [.Name v.a p3,.Name v.b p4] [] v.q) p6))->P (.Expr (.Call (.Attribute (.Name x p1) q.2.1 q.2.2) [.Name n0 p3,a.2] [] c.2.2.2) p6)) h (λ n1 h1 k=>RC (P:=λ y=>P (.Expr (.Call (.Attribute (.Name x p1) q.2.1 q.2.2) [.Name n0 p3,y] [] c.2.2.2) p6)) h1 λ p4=>k p1 p3 p4 p6) k))
theorem Pz{a b:EA}(h:fO a b=DN):a=b:=by
 obtain⟨a⟩:=a;obtain⟨b⟩:=b;exact DX Str.mk (Array.toList_inj.mp (hJ h))
theorem ZD{n:EA}(h:Xk mi n i=DN):GK n mi.nm=DK i/\mi.sc.lookup n=DK .local/\(n==("__debug__" :EA))=DT:=⟨(By (DO h).1).1,UD (DO h).2,(By (DO h).1).2.2⟩
theorem aEW{mb:EA->DQ DS}{i:Lr}{u v:EA×EA×EA}(h:v4 mi mg mb i u v=DN)(p1 p3 p4 p6 p7 p8 p9 nJ nK nL nM nN:FS):Dx mg mb mi [.Expr (.Call (.Attribute (.Name i.x p1) i.f i.p) [.Name i.a p3,.Name i.b p4] [] i.q) p6,.Assign [.Attribute (.Name u.1 p7) u.2.1 p8] (.Name u.2.2 p9) nJ,.Assign [.Attribute (.Name v.1 nK) v.2.1 nL] (.Name v.2.2 nM) nN]:=by
 have hl:=(DO h).2;have h:=(DO h).1;have hn:=(DO h).2;have hx:=(DO h).1;have hg:=(DO hx).2;have hx:=(DO hx).1;have ht:=(DO hg).2;have hg:=(DO hg).1;have hs:=(DO hn).2;have hn:=(DO hn).1;have s3:=(DO hs).2;have hs:=(DO hs).1;have l3:=(DO hl).2;have hl:=(DO hl).1;rw[Pz (DO hx).1,Pz (DO hs).1,Pz (DO hs).2,Pz s3,PE (DO hn).1,PE (DO hn).2];exact .mk (DO hx).2 (XM (DO hg).1).1 (Sx.mp (DO hg).2) (vc ht) (XM (DO hg).1).2 (ZD (DO hl).1).1 (ZD (DO hl).2).1 (ZD l3).1 (ZD (DO hl).1).2.1 (ZD (DO hl).2).2.1 (ZD l3).2.1 (ZD (DO hl).1).2.2 (ZD (DO hl).2).2.2 (ZD l3).2.2
theorem aEV{mb:EA->DQ DS}(h:xbB mi mg mb body=DN):Dx mg mb mi body:=
 match body,h with
 |s::r,h=>EL (show oe (eM r) DT (λ q=>oe (s_ s) DT λ i=>oe (Mz q.1) DT λ u=>oe (Mz q.2) DT λ v=>v4 mi mg mb i u v)=DN from h) λ q hq h=>Gi hq▸EL h λ i hi h=>EL h λ u hu h=>EL h λ v hv h=>
  atD (P:=λ s=>Dx mg mb mi [s,q.1,q.2]) hi λ p1 p3 p4 p6=>ic (P:=λ x=>Dx mg mb mi [_,x,q.2]) hu λ p7 p8 p9 nJ=>ic (P:=λ x=>Dx mg mb mi [_,_,x]) hv λ nK nL nM nN=>aEW h p1 p3 p4 p6 p7 p8 p9 nJ nK nL nM nN
theorem aF3{w:EV}{K:EQ}{mb:EA->DQ DS}{x:Fx}(e:v5 K gn bt xn mg mb f x=DN):∃ps,Mn w K mg mb 88 f x.fn ⟨Fu K f,x.nm,x.cs⟩ (Ic K f) ps (sx xn):=
 have e5:=(DO e).2;have e:=(DO e).1;have e4:=(DO e).2;have e:=(DO e).1;have e3:=(DO e).2;have e:=(DO e).1;have e2:=(DO e).2;have e1:=(DO e).1;have e7:=(DO e5).2;have e5:=(DO e5).1
 let⟨ps,h1,_,_⟩:=qw (w:=w) e2
 ⟨ps,aEX e1,h1,⟨GV (DO e3).1,GV (DO e3).2⟩,aEV e4,GW (DO e5).1,GW (DO e5).2,GW e7⟩
noncomputable def Nz(fT:Tr Fx)(a:DL):DQ Fn:=(fT.get a).map (·.fn)
def Un(K:EQ)(gT:Tr (V×Tx))(cT:Tr (Tr DL))(iT:Tr DL)(fT:Tr Fx)(le:DL)(lx:Fx)(bt:DM (Tx×DS))(xn:Tx):DU:=
 tm K gT cT iT&&jz K bt&&fT.all (λ a x=>Ev K (XJ gT) bt xn a x)&&v5 K (XJ gT) bt xn (ND (KJ K KW)) (ND (KJ K QP)) le lx
theorem aD4{w:EV}{K:EQ}{fT:Tr Fx}{le:DL}{lx:Fx}(e:Un K gT cT iT fT le lx bt xn=DN):∀n,OX Y w K n (Cr (Cz gT cT iT) (Nz fT) n):=
 have e4:=(DO e).2;have e:=(DO e).1;have e3:=(DO e).2;have e:=(DO e).1;have e2:=(DO e).2;have e1:=(DO e).1;have F_:Gf w K (Cz gT cT iT) (XJ gT) (ND (KJ K KW)) (ND (KJ K QP)):=asN e1
 let⟨_,XI⟩:=aF3 (w:=w) e4
 aB1 F_.wQ λ a J hf=>om (P:=λ fn=>∃L body ps,YF w K a fn L body ps/\∀n o,OX Y w K n o->TL Y w K n (Cz gT cT iT) o L fn.body body) hf λ J hx=>by obtain⟨ps,h1,h2,h3⟩:=qw (w:=w) (Tr.lO e3 hx);exact⟨_,_,ps,h1,λ J J O=>avU F_ O (alQ e2) XI rfl _ _ _ h2 h3⟩
theorem Tr.CK{α:Type}{p:DL->α->DU}{t:Tr α}(h:(t.jH.all λ q=>p q.1 q.2)=DN):t.all p=DN:=by
 induction t with
 |nI=>rfl|node l k v r i j=>
  have h:=DO (h:(p k v&&(l.jH++r.jH).all λ q=>p q.1 q.2)=DN);rw[List.all_append]at h;exact MA h.1 (MA (i (DO h.2).1) (j (DO h.2).2))
noncomputable def Zc(gn:DL->Tx)(bt:DM (Tx×DS))(xn:Tx):DM (DL×Fx)->DM (DQ Pt)->DU
 |[],q=>FV q|p::r,q=>oe q.head? DT λ z=>oe z DT (λ t=>Wq gn bt xn p.2 t.1 t.2.1 t.2.2)&&Zc gn bt xn r q.tail
theorem R! :VX=ND:=by
 funext H n;unfold VX;rw[<-aIB]
theorem nsQ{H:FM FL}{n:EA}{r:DQ DS}(h:oe (VX H n) (og (!(H.toList.any (·.refKey))) (DK DP)) (λ v=>DK (DK v))=DK r):(match H.toList.find? (·.key.isStr n)with|some e=>DK (DK e.val)|none=>if H.toList.any (·.refKey)then DP else DK DP)=DK r:=by
 rw[R!,show ND H n=(H.toList.find? (·.key.isStr n)).map (·.val) by unfold ND Et;rw[Array.find?_toList]]at h;cases q:H.toList.find? (·.key.isStr n)with
 |some e=>rw[q]at h;exact h|none=>rw[q]at h;exact EO h λ z h=>(FU (by rw[UI z];decide)).trans h
theorem za{K:EQ}{C:DL}{n:EA}{r:DQ DS}(h:Pm K C n=DK r):ownIn K n (.ref C)=DK r:=ob h λ o e1 h1=>ob h1 λ cd e2 h2=>ob h2 λ p e3 h3=>ob e3 λ o2 e4 e5=>by
 obtain⟨_,_,dt,_⟩:=o;obtain⟨_,_,yG,_⟩:=o2;cases(sM e2:dt=_);cases(uX e5:yG=_);unfold ownIn;dsimp only;rw[e1];unfold nsIn;dsimp only;rw[e4];exact nsQ h3
theorem atQ{x:DQ (DQ DS)}(h:z_ x=DN):x=DK DP:=EL h λ y e h=>by rw[e,nS h]
theorem atT{x:DQ (DQ DS)}(h:A! f x=DN):x=DK (DK (.ref f)):=EL h λ y e h=>EL h λ v e2 h=>EL h λ g e3 h=>by rw[e,e2,Uw e3,GV h]
theorem xe{K:EQ}{C:DL}(h:Yj K C=DN)(n:EA):GM K (.ref C) n=Up K n [.ref C,.type "object"]:=EL h λ o e1 h=>EL h λ cd e2 h=>EL h λ p e3 h=>EL (DO h).1 λ I_ e4 h1=>EL (DO h).2 λ T e5 h2=>by
 obtain⟨_,_,dt,_⟩:=o;cases(sM e2:dt=_);unfold GM;dsimp only;rw[e1];dsimp only;rw[Gi e3,Uw e4,ik e5,of_decide_eq_true h2,<-GV h1]
def P!(cT:Tr (Tr DL)):DU:=cT.all (λ J t=>t.all λ a f=>decide (a<256^60)&&EN (EG f 0) (!(aoZ "object" (sx (EU a))).isSome) (!(W2.contains (sx (EU a)))))&&
 GM [] (.type "function") "__get__" ==DK (DK (.builtin "function.__get__"))&&GM [] (.type "function") "__set__" ==DK DP&&GM [] (.type "function") "__delete__" ==DK DP
theorem Tr.sH{α:Type}{p q r:DL->α->DU}(h:∀k v,p k v=DN->q k v=DN->r k v=DN){t:Tr α}(a:t.all p=DN)(b:t.all q=DN):t.all r=DN:=by
 induction t with
 |nI=>rfl|node _ k v _ i j=>exact MA (h k v (DO a).1 (DO b).1) (MA (i (DO (DO a).2).1 (DO (DO b).2).1) (j (DO (DO a).2).2 (DO (DO b).2).2))
theorem akR{K:EQ}{C:DL}(m:Yj K C=DN)(x:z_ (Pm K C (sx (EU a)))=DN)(y1:decide (a<256^60)=DN)(y2:(!(aoZ "object" (sx (EU a))).isSome)=DN):Nb K C a=DN:=by
 unfold Nb;rw[y1,xe m];unfold Up;rw[za (atQ x)];show(DN&&Up K (sx (EU a)) [.type "object"]==DK DP)=DN;unfold Up ownIn;dsimp only;rw[nS y2];rfl
theorem aw8{K:EQ}{C:DL}(m:Yj K C=DN)(n2:GM [] (.type "function") "__get__" =DK (DK (.builtin "function.__get__")))(n3:GM [] (.type "function") "__set__" =DK DP)(n4:GM [] (.type "function") "__delete__" =DK DP)(g:(GM K (.ref C) "__getattribute__" ==DK (DK (.builtin "object.__getattribute__")))=DN)
  (x1:A! f (Pm K C (sx (EU a)))=DN)(x2:XG K f=DN)(x3:(Gj K (.ref f)==DK (.type "function"))=DN)(y1:decide (a<256^60)=DN)(y2:(!(W2.contains (sx (EU a))))=DN):Yg K C a f=DN:=by
 have e1:GM K (.ref C) (sx (EU a))=DK (DK (.ref f)):=by
  rw[xe m];unfold Up;rw[za (atT x1)]
 have sp:∀m,Qj K (.ref f) m=GM [] (.type "function") m:=λ m=>by
  unfold Qj;rw[GW x3];rfl
 unfold Yg takesIn;rw[y1,e1,g,x2,sp,sp,sp,n2,n3,n4,x3,y2];simp
theorem an0{K:EQ}(h:cT.all (lu K)=DN)(n:P! cT=DN):cT.all (λ C t=>Nm K C&&t.all (λ a f=>EN (EG f 0) (Nb K C a) (Yg K C a f)))=DN:=
 have n4:=(DO n).2;have n:=(DO n).1;have n3:=(DO n).2;have n:=(DO n).1;have n2:=(DO n).2;have n1:=(DO n).1
 Tr.sH (λ J J a b=>Ii a (λ J a=>MA (DO a).1 (Tr.sH (λ J J x J=>by rw[(DO x).1];exact(DO x).2) (DO a).2 b)) λ J a=>
  have a4:=(DO a).2;have a:=(DO a).1;have a3:=(DO a).2;have a:=(DO a).1
  MA (DO a).1 (Tr.sH (λ k f x y=>by
   cases h0:EG f 0 with
   |true=>rw[h0]at x y;exact akR a3 x (DO y).1 (DO y).2|false=>rw[h0]at x y;exact aw8 a3 (GW n2) (GW n3) (GW n4) (DO a).2 (DO (DO x).1).1 (DO (DO x).1).2 (DO x).2 (DO y).1 (DO y).2) a4 b)) h n1
theorem amH{K:EQ}{cd:DS}{q:EA}(h:lc K cd q=DN):V8 K cd q=DN:=EL h λ c e1 h=>EL h λ o e2 h=>EL h λ B e3 h=>EL h λ v e4 h=>EL h λ n e5 h5=>by
 obtain⟨_,_,dt,_⟩:=o;cases(yQ e3:dt=_);rw[Uw e1];unfold V8;dsimp only;rw[e2];dsimp only
 revert e4
 rcases B.toList with _|⟨_,_|⟨x,_⟩⟩
 ·exact λ e=>EW e
 ·exact λ e=>EW e
 ·exact λ e=>j8 (P:=λ v=>∀a r,(match(a::v::r:DM DS)with|_:: .str n _::_=>n==q|_=>DT)=DN) ((EJ e:x=v)▸e5) (λ J J J=>Pz h5▸beq_self_eq_true _) _ _
theorem apE{K:EQ}{x:Fx}(h:Wr K a x fd=DN):qx K a x fd=DN:=by
 have h6:=(DO h).2;have h:=(DO h).1;have h5:=(DO h).2;have h:=(DO h).1;exact MA (MA (MA (DO h).1 (amH (DO h).2)) h5) h6
theorem apD{K:EQ}{x:Fx}(h:oe (Er K a) DT (Wr K a x)=DN)(k:oe (Ka K a) DT (λ t=>Wq gn bt xn x t.1 t.2.1 t.2.2)=DN):Ev K gn bt xn a x=DN:=EL h λ fd e h=>EL k λ t e2 k=>ob e2 λ yP e3 e4=>by
 cases(EJ (e.symm.trans e3):fd=yP);refine om (P:=λ t:Pt=>Wq gn bt xn x t.1 t.2.1 t.2.2=DN->Ev K gn bt xn a x=DN) e4 (λ b e5 k=> ?_) k;unfold Ev;rw[e];show oe (Qm fd.body) DT _=DN;rw[e5];exact MA (apE h) k
theorem azG{K:EQ}{gn:DL->Tx}{bt:DM (Tx×DS)}{xn:Tx}{l:DM (DL×Fx)}(h:(l.all (λ q=>oe (Er K q.1) DT (Wr K q.1 q.2)))=DN)(k:Zc gn bt xn l (l.map λ q=>Ka K q.1)=DN):(l.all λ q=>Ev K gn bt xn q.1 q.2)=DN:=by
 induction l with
 |nil=>rfl|cons q l ih=>exact MA (apD (DO h).1 (DO k).1) (ih (DO h).2 (DO k).2)
theorem ajW{K:EQ}{fT:Tr Fx}{le:DL}{lx:Fx}{ds:DM (DQ Pt)}(h:S0 K gT cT iT fT le lx bt xn=DN)(hn:P! cT=DN)(hd:fT.jH.map (λ q=>Ka K q.1)=ds)(hp:Zc (XJ gT) bt xn fT.jH ds=DN):Un K gT cT iT fT le lx bt xn=DN:=by
 unfold S0 tn kc at h;rw[R!]at h;have h4:=(DO h).2;have h:=(DO h).1;have h3:=(DO h).2;have h:=(DO h).1;have h2:=(DO h).2;have h:=(DO h).1;have h1:=(DO h).2;have h:=(DO h).1;exact MA (MA (MA (MA (MA (DO h).1 (an0 (DO h).2 hn)) h1) h2) (Tr.CK (azG h3 (hd▸hp)))) h4
noncomputable abbrev EF:Tb:=Cz Bq VK Bv
noncomputable abbrev Ny(a:DL):DQ Fn:=Nz SA a
structure Hk where
 nY:DL->DL->DQ V
 sba:DL->V->DQ V
 oS:DL->DL->DQ DL
 oA:DL->DU
 oG:DL->V->DQ V
 ru:DL->DM V->DQ (M V)
noncomputable def Ga(c:DL):DU:=EG c 7001||Nat.beq c 7003
noncomputable def NP(v:V):DQ DL:=match v with|.bD k _=>DK k|_=>DP
def jc(D:Tb)(hk:Hk)(U:aS)(v:V)(a:DL):DQ V:=oe (NP v) (GR D U v a) λ k=>hk.nY k a
def Ye(D:Tb)(hk:Hk)(U:aS)(v:V)(m:DL):DQ DL:=oe (NP v) (KA D U v m) λ k=>hk.oS k m
def t_(c:DL)(U:aS)(v:V):DQ (DL×DM DL×DM V):=(FI v).bind λ i=>(U[i]?).bind λ o=>(oI o).bind λ x=>og (EG x.1 c) (DK (i,x.2.1,x.2.2))
noncomputable abbrev Mw(U:aS)(v:V):DQ (DL×DM DL×DM V):=t_ 7001 U v
def k8(ks:DM DL)(ws:DM V):DU:=oe (bN ks) (FV ks&&HC ws.length 90) λ p=>GE (p+ws.length)
def auX(x:DL×DM DL×DM V)(U:aS):DQ (V×aS):=(bN x.2.1).bind λ p=>og (GE (p+x.2.2.length)) (here (.int (RN (p+x.2.2.length))) U)
def uS(b:Bi)(B:DM V)(U:aS):DQ (V×aS):=oe ((bN B).bind (Mw U)) (gJ b B U) λ x=>og (EG b.ctorIdx 0) (auX x U)
structure Sk where
 i:DL
 c:DL
 ab:DM V
 ks:DM V
 B:DM V
def wo(l:DM V):DQ (DM V×DM V×DM V):=(XY l).bind λ p=>(QO p.1).bind λ ab=>(XY p.2).bind λ q=>(QO q.1).map λ ks=>(ab,ks,q.2)
def Fz(U:aS)(v:V):DQ Sk:=(t_ 7003 U v).bind λ x=>(bN x.2.1).bind λ c=>(wo x.2.2).map λ y=>⟨x.1,c,y.1,y.2.1,y.2.2⟩
def Va(s:Sk)(k:V):DQ V:=(GJ k).bind λ t=>(KV t s.ks).bind λ n=>s.B[n]?
def Vf(hk:Hk)(U:aS)(x:V)(a:DL):DQ Bm:=oe (NP x) (oe (Mw U x) (oe (Fz U x) (iP U x a) λ J=>QV .get a) λ J=>oo (QV .append a) (QV .pop a)) λ k=>og (hk.oA k) (QV .get a)
noncomputable def y_(b:Bm):DU:=EG b.ctorIdx 3
def gw(x:DL×DM DL×DM V)(b:Bm)(B:DM V)(U:aS):DQ (V×aS):=match b with
 |.append=>(bN B).bind λ v=>og (k8 x.2.1 x.2.2) (DK (.none,U.set x.1 (.inst 7001 x.2.1 (x.2.2++[v]))))
 |.pop=>og (FV B) (og (k8 x.2.1 x.2.2) ((x.2.2[x.2.2.length-1]?).bind λ v=>DK (v,U.set x.1 (.inst 7001 x.2.1 (x.2.2.take (x.2.2.length-1))))))|_=>DP
def U5(hk:Hk)(b:Bm)(o:V)(B:DM V)(U:aS):DQ (V×aS):=oe (NP o) (oe (Mw U o) (oe (Fz U o) (gK b o B U) λ s=>og (y_ b) ((bN B).bind λ k=>(Va s k).bind λ v=>here v U)) λ x=>gw x b B U)
 λ k=>og (y_ b) ((bN B).bind λ v=>(GJ v).bind λ t=>(hk.oG k (.str t)).bind λ x=>here x U)
def abM(hk:Hk)(U:aS)(v i:V):DQ V:=oe (NP v) (oe (Fz U v) (fX U v i) λ s=>Va s i) λ k=>hk.sba k i
def uV(U:aS)(o:SV)(a b:V):DQ DU:=oe (Mw U a) (mU U o a b) λ x=>og (EG o.ctorIdx 1) ((GU U b).bind λ l=>og (FV l) (og (WG x.2.2) (DK DN)))
def azM(s:Sk)(t:Tx)(v:V)(U:aS):DQ (HI×aS):=og (LG t) (og (!Dy (.str t) s.ab) (og (!Dy (.str t) s.ks) (og (HC s.c 1000) (DK ((),U.set s.i (.inst 7003 [GH s.c] (.aX s.ab:: .aX (s.ks++[.str t])::(s.B++[v]))))))))
def xA(o i v:V)(U:aS):DQ (HI×aS):=oe (Fz U o) (lC o i v U) λ s=>(GJ i).bind λ t=>azM s t v U
def gB(o:O):DU:=match o with
 |.inst c _ _=> !(Ga c)|_=>DN
noncomputable def Ws:DM DL->V->DU
 |[],v=> !(NP v).isSome|k::p,v=> !(NP v).isSome&&oe ((GZ v).bind λ B=>B[k]?) DN (Ws p)
def wJ(v:V)(k:Kp):DU:=match k with
 |.at p=>Ws p v|_=>DN
def HF(D:Tb)(hk:Hk):QK:=⟨D,jc D hk,abM hk,uV,uS,Ye D hk,Vf hk,U5 hk,xA,gB,λ f=>FW 40 f,wJ,hk.ru⟩
structure Cf where
 ρ:DL->DL
 bx:DL->V
 pre:DL->DM V
 kn:DL->Tx->DQ V
 N0:DL
 cI:aS
variable {C:Cf}
def aY(d N0:DL)(v:V):Prop:=∀D τ n keep f,N0<=n->d<=f->eA (EE D) τ n keep f v=DK v
abbrev NI(N0:DL)(v:V):Prop:=aY 90 N0 v
noncomputable def vsO(o:O):DM V:=match o with
 |.list B=>B|.dict _ B=>B|.inst _ _ B=>B
noncomputable def vt(o:O):DM V:=match o with
 |.dict ks _=>ks|_=>[]
structure gG(N0:DL)(o:O):Prop where
 h:JF (vt o)=DN
 g:∀v∈vsO o,NI N0 v
structure FP(C:Cf):Prop where
 inj:∀i j,C.ρ i=C.ρ j->i=j
 bx:∀k,aY 40 C.N0 (C.bx k)
 pre:∀i,∀v∈C.pre i,NI C.N0 v
 pl:∀i,(C.pre i).length<=900
 kn:∀i t v,C.kn i t=DK v->NI C.N0 v
 gd:∀j,(∀i,C.ρ i≠j)->∀o,C.cI[j]? =DK o->gG C.N0 o
section
variable (C:Cf)
mutual
noncomputable def sh:V->V
 |.aR B=>.aR (EH B)|.aX B=>.aX (EH B)|.bZ ks B=>.bZ ks (EH B)|.obj c ks B=>.obj c ks (EH B)|.ref i=>.ref (C.ρ i)|.dW f i=>.dW f (C.ρ i)|.bD k _=>C.bx k|.none=>.none|.bool b=>.bool b|.int i=>.int i|.str t=>.str t|.fn a=>.fn a|.cls a=>.cls a
noncomputable def EH:DM V->DM V
 |[]=>[]|v::B=>sh v::EH B
end
structure Ml(i c:DL)(ab ks B K W:DM V):Prop where
 str:GN K=DN
 bQ:K.length=W.length
 le:K.length<=(C.pre i).length+c
 gd:∀x∈W,NI 0 x∨∃v∈B,x=sh C v
 no:∀t,V.str t∈ab->HY K W (.str t)=DK (C.kn i t)
 gI:∀(i:DL) t v,ks[i]? =DK (.str t)->B[i]? =DK v->HY K W (.str t)=DK (DK (sh C v))
 kl:ks.length=B.length
 abs:GN ab=DN
 tY:GN ks=DN
def JJ(o:O):O:=match o with
 |.list B=>.list (EH C B)|.dict ks B=>.dict ks (EH C B)|.inst c ks B=>.inst c ks (EH C B)
def Za(i:DL)(ks:DM DL):Prop:=ks=[(C.pre i).length]∨ks=[]/\(C.pre i).length<=900
inductive fR(i:DL):O->O->Prop
 |dN {o:O}:gB o=DN->fR i o (JJ C o)
 |cJ {ks:DM DL} {ws:DM V}:Za C i ks->fR i (.inst 7001 ks ws) (.list (C.pre i++EH C ws))
 |jG {c:DL} {ab ks ws K W:DM V}:Ml C i c ab ks ws K W->fR i (.inst 7003 [c] (.aX ab:: .aX ks::ws)) (.dict K W)
def Q3(i:DL)(U:aS)(o:O):Prop:=∃o',U[C.ρ i]? =DK o'/\fR C i o o'
structure Em(τ U:aS):Prop where
 ob:∀i o,τ[i]? =DK o->Q3 C i U o
 al:∀j,C.ρ (τ.length+j)=U.length+j
 fr:∀j,(∀i,C.ρ i≠j)->U[j]? =C.cI[j]?
 le:C.N0<=U.length
end
theorem hG(B:DM V):EH C B=B.map (sh C):=by induction B with|nil=>rfl|cons v B ih=>exact DX (sh C v::·) ih
theorem eX(B:DM V):(EH C B).length=B.length:=(DX O6 (hG B)).trans (LM _)
theorem Kj(B:DM V)(n:DL):(EH C B)[n]? =(B[n]?).map (sh C):=by rw[hG,SZ]
theorem RH(a b:DM V):EH C (a++b)=EH C a++EH C b:=by rw[hG,hG,hG,YL]
theorem Zq(n:DL)(a:DM V):EH C (a.take n)=(EH C a).take n:=by rw[hG,hG,List.map_take]
theorem f6(a:DM V):EH C a.reverse=(EH C a).reverse:=by rw[hG,hG,ba]
theorem ab1(n:DL)(a:DM V)(v:V):EH C (a.set n v)=(EH C a).set n (sh C v):=by rw[hG,hG,List.map_set]
theorem fR.BK{o:O}(h:fR C i o o')(n:gB o=DN):o'=JJ C o:=by
 cases h with
 |dN=>rfl|cJ=>exact EP n FJ|jG=>exact EP n FJ
theorem fR.qV{ks:DM DL}{ws:DM V}(h:fR C i (.inst 7001 ks ws) o'):Za C i ks/\o'=.list (C.pre i++EH C ws):=by
 cases h with
 |dN n=>exact EP n FJ|cJ q=>exact⟨q,rfl⟩
theorem fR.CA{ks:DM DL}{ws:DM V}(h:fR C i (.inst 7003 ks ws) o'):∃c ab us B K W,ks=[c]/\ws=.aX ab:: .aX us::B/\o'=.dict K W/\Ml C i c ab us B K W:=by
 cases h with
 |dN n=>exact EP n FJ|jG q=>exact⟨_,_,_,_,_,_,rfl,rfl,rfl,q⟩
theorem Em.dN(E:Em C τ U){o:O}(h:τ[i]? =DK o)(n:gB o=DN):U[C.ρ i]? =DK (JJ C o):=by obtain⟨_,e,r⟩:=E.ob i o h;exact r.BK n▸e
theorem Em.lB(E:Em C τ U):C.ρ τ.length=U.length:=E.al 0
theorem GX{l:aS}{o:O}(h:l[i]? =DK o):i<l.length:=(JV.mp h).1
theorem Em.lt(E:Em C τ U){i:DL}:i<τ.length↔C.ρ i<U.length:=
 ⟨λ h=>by obtain⟨_,e,_⟩:=E.ob i _ (JU h);exact GX e,λ h=>(TE i τ.length).elim id λ q=>EP h (IG.mpr (by
  rw[<-Dq q,E.al];exact HD ..))⟩
theorem Hw{l:aS}{o:O}(h:j≠l.length):(l++[o])[j]? =l[j]? :=by
 rcases TE j l.length with q|q
 ·exact KQ q
 ·rw[MQ q,MQ (by rw[GC];exact ah5 q (JY h))]
theorem Em.alloc(O:FP C)(E:Em C τ U){o:aH}(n:gB o=DN):Em C (τ++[o]) (U++[JJ C o]):=by
 refine⟨λ i o' h=> ?_,λ j=> ?_,λ j q=> ?_,?_⟩
 ·by_cases hi:i=τ.length
  ·subst hi;rw[NK]at h;cases h;exact⟨_,E.lB▸NK,.dN n⟩
  ·rw[Hw hi]at h;obtain⟨x,e,r⟩:=E.ob i o' h;exact⟨x,(Hw λ z=>hi (O.inj _ _ (z.trans E.lB.symm))).trans e,r⟩
 ·rw[GC,GC,TB,TB];exact E.al (1+j)
 ·rw[<-E.fr j q];exact Hw λ z=>q τ.length (z▸E.lB)
 ·rw[GC];exact EZ E.le (HD ..)
theorem Em.set(O:FP C)(E:Em C τ U){o o' x:aH}(h:τ[i]? =DK o)(hx:fR C i o' x):Em C (τ.set i o') (U.set (C.ρ i) x):=by
 refine⟨λ j wR hj=> ?_,λ j=> ?_,λ j q=> ?_,?_⟩
 ·by_cases e:i=j
  ·subst e;rw[OV (GX h)]at hj;cases hj;exact⟨x,OV (E.lt.mp (GX h)),hx⟩
  ·rw[TA e]at hj;obtain⟨y,e1,r⟩:=E.ob j wR hj;exact⟨y,(TA λ z=>e (O.inj _ _ z)).trans e1,r⟩
 ·rw[NL,NL];exact E.al j
 ·rw[TA (q i)];exact E.fr j q
 ·rw[NL];exact E.le
def Fo{α β:Type}(g:α->β)(x:DQ α)(y:DQ β):Prop:=∀a,x=DK a->y=DK (g a)
theorem Fo.bind{α β γ δ:Type}{g:α->β}{g':γ->δ}{x:DQ α}{y:DQ β}{f:α->DQ γ}{f':β->DQ δ}(h:Fo g x y)(k:∀a,x=DK a->Fo g' (f a) (f' (g a))):Fo g' (x.bind f) (y.bind f'):=λ b e=>ob e λ a e1 e2=>h a e1▸k a e1 b e2
theorem Fo.map{α β γ δ:Type}{g:α->β}{g':γ->δ}{x:DQ α}{y:DQ β}{f:α->γ}{f':β->δ}(h:Fo g x y)(k:∀a,f' (g a)=g' (f a)):Fo g' (x.map f) (y.map f'):=λ b e=>om (P:=λ b=>y.map f'=DK (g' b)) e λ a e1=>h a e1▸DX DK (k a)
theorem Fo.og{α β:Type}{g:α->β}{c c':DU}{x:DQ α}{y:DQ β}(hc:c=DN->c'=DN)(h:Fo g x y):Fo g (og c x) (og c' y):=λ a e=>EO e λ q e=>hc q▸h a e
theorem Fo.oo{α β:Type}{g:α->β}{x y:DQ α}{x' y':DQ β}(h:Fo g x x')(k:Fo g y y')(n:∀b,y=DK b->x=DP->x'=DP):Fo g (oo x y) (oo x' y'):=λ b e=>by
 cases hx:x with
 |none=>rw[hx]at e;rw[n b e hx];exact k b e|some a=>rw[hx]at e;rw[h a hx];exact DX (·.map g) e
theorem Fo.some{α β:Type}{g:α->β}{a:α}{b:β}(h:b=g a):Fo g (DK a) (DK b):=λ J e=>EJ e▸DX _ h
theorem Fo.refl{α:Type}(x:DQ α):Fo id x x:=λ J e=>e
theorem OH:Fo id (HX v) (HX (sh C v)):=λ J e=>Ea e▸rfl
theorem ij:Fo id (VF v) (VF (sh C v)):=λ J e=>Ut e▸rfl
theorem WU:Fo id (GJ v) (GJ (sh C v)):=λ J e=>IP e▸rfl
theorem PA:Fo (EH C) (GZ v) (GZ (sh C v)):=λ J e=>MB e▸rfl
theorem akJ:Fo (EH C) (QO v) (QO (sh C v)):=λ J e=>OI e▸rfl
theorem Hu:Fo C.ρ (FI v) (FI (sh C v)):=λ J e=>IX e▸rfl
def Cy(C:Cf)(d:DM V×DM V):DM V×DM V:=(d.1,EH C d.2)
def d9(C:Cf)(d:DL×DM DL×DM V):DL×DM DL×DM V:=(d.1,d.2.1,EH C d.2.2)
theorem akH:Fo (Cy C) (Dz v) (Dz (sh C v)):=λ J e=>Uu e▸rfl
theorem OQ:Fo (sh C) (bN B) (bN (EH C B)):=λ J e=>LH e▸rfl
theorem Ky:Fo (λ p=>(sh C p.1,sh C p.2)) (eM B) (eM (EH C B)):=λ J e=>Gi e▸rfl
theorem Pe(h:FV B=DN):FV (EH C B)=DN:=HN h▸rfl
theorem Vb{β:Type}{p:O->DQ β}{g:β->β}(hn:∀o b,p o=DK b->gB o=DN/\p (JJ C o)=DK (g b))(E:Em C τ U):Fo g ((τ[i]?).bind p) ((U[C.ρ i]?).bind p):=λ b e=>ob e λ o e1 e2=>by
 rw[E.dN e1 (hn o b e2).1];exact(hn o b e2).2
theorem Pk{o:O}{b:DM V}(h:oL o=DK b):gB o=DN/\oL (JJ C o)=DK (EH C b):=XP h▸⟨rfl,rfl⟩
theorem axI{o:O}{b:DM V×DM V}(h:oD o=DK b):gB o=DN/\oD (JJ C o)=DK (Cy C b):=Ju h▸⟨rfl,rfl⟩
theorem Jk(E:Em C τ U):Fo (EH C) (RB τ v) (RB U (sh C v)):=Hu.bind λ J J=>Vb (λ J J=>Pk) E
theorem ot(E:Em C τ U):Fo (Cy C) (Nr τ v) (Nr U (sh C v)):=Hu.bind λ J J=>Vb (λ J J=>axI) E
theorem SM(E:Em C τ U):Fo (EH C) (GU τ v) (GU U (sh C v)):=akJ.oo (Jk E) λ J e J=>ob e λ J e J=>IX e▸rfl
theorem Zn(E:Em C τ U):Fo (EH C) (XU τ v) (XU U (sh C v)):=PA.oo (SM E) λ J e J=>FH e (λ e=>OI e▸rfl) λ e=>ob e λ J e J=>IX e▸rfl
theorem Ip(E:Em C τ U):Fo (Cy C) (JZ τ v) (JZ U (sh C v)):=akH.oo (ot E) λ J e J=>ob e λ J e J=>IX e▸rfl
theorem YW{a:V}{x y:DM V}(p:a=b)(q:x=y):a::x=b::y:=p▸q▸rfl
theorem Xe(B:DM V):JF B=DN->EH C B=B:=tz (P:=λ v=>sh C v=v) (Q:=λ B=>EH C B=B) rfl (λ J=>rfl) (λ J J=>rfl) rfl (λ J J p q=>YW p q) (λ J J q=>DX V.aR q) B
theorem aBR(B:DM V):IE B=DN->EH C B=B:=f8 (P:=λ v=>sh C v=v) (Q:=λ B=>EH C B=B) rfl (λ J=>rfl) (λ J J=>rfl) rfl (λ J J p q=>YW p q) (λ J=>rfl) (λ J J q=>DX V.aR q) (λ J J q=>DX V.aX q) B
theorem aBQ(v:V):ID v=DN->sh C v=v:=Qe (P:=λ v=>sh C v=v) (Q:=λ B=>EH C B=B) rfl (λ J=>rfl) (λ J J=>rfl) rfl (λ J J p q=>YW p q) (λ J=>rfl) (λ J J q=>DX V.aR q) (λ J J q=>DX V.aX q) v
theorem W4(h:Bx v=DN):sh C v=v:=aBQ v (DO h).1
theorem wj(a:DL)(ks:DM DL)(B:DM V):IZ a ks (EH C B)=(IZ a ks B).map (sh C):=by
 induction ks generalizing B with
 |nil=>rfl|cons k ks ih=>cases B with
  |nil=>rfl|cons v B=>
   show(match EG a k with|true=>DK (sh C v)|false=>IZ a ks (EH C B))=(match EG a k with|true=>DK v|false=>IZ a ks B).map (sh C);cases EG a k with
   |true=>rfl|false=>exact ih B
theorem azL(a:DL)(v:V)(ks:DM DL)(B:DM V):IL a (sh C v) ks (EH C B)=((IL a v ks B).1,EH C (IL a v ks B).2):=by
 induction ks generalizing B with
 |nil=>rfl|cons k ks ih=>cases B with
  |nil=>rfl|cons w B=>
   cases hb:EG a k with
   |true=>exact(Zd hb).trans (DX (λ x:DM DL×DM V=>(x.1,EH C x.2)) (Zd hb).symm)|false=>exact(Pq hb).trans ((DX (λ x:DM DL×DM V=>(k::x.1,sh C w::x.2)) (ih B)).trans (DX (λ x:DM DL×DM V=>(x.1,EH C x.2)) (Pq hb).symm))
theorem Iv:Fo (sh C) (B[n]?) ((EH C B)[n]?):=λ J e=>(Kj B n).trans (DX _ e)
theorem Fo.BN{α β:Type}{g:α->β}{x:DQ α}{y:DQ β}(h:y=x.map g):Fo g x y:=λ J e=>h.trans (DX _ e)
theorem W6{k:V}:Fo (NN (sh C)) (HY ks B k) (HY ks (EH C B) (sh C k)):=
 (WU.bind λ t J=>(Fo.og id (.og id λ r e=>KD e (λ z e=>by rw[z];exact DX (·.map (NN (sh C))) e) λ n z e=>by rw[z];exact Fo.map (g:=sh C) (g':=NN (sh C)) (f:=DK) (f':=DK) Iv (λ J=>rfl) r e):Fo (NN (sh C)) (VO ks B t) (VO ks (EH C B) t))).oo
 (PA.bind λ ts e0 r e=>EO e λ h e=>EO e λ h2 e=>by
  rw[show sh C k=k by rw[MB e0];exact DX V.aR (Xe ts h),show EH C ts=ts from Xe ts h];unfold Nx;rw[h,h2];cases ks with
  |nil=>exact DX (·.map (NN (sh C))) e|cons k' r'=>exact(Fo.og id (.og id (.og id (.og id (Fo.map (g:=sh C) (g':=NN (sh C)) (f:=DK) (f':=DK) OQ λ J=>rfl)))):Fo (NN (sh C)) (og (FV r') (og (NT k' k) (og (MF k') (og (FW (dp k') 50) ((bN B).map DK))))) _) r e) λ J e J=>ob e λ J e J=>MB e▸rfl
theorem oz{k:V}:Fo (Cy C) (XF ks B k v) (XF ks (EH C B) (sh C k) (sh C v)):=
 (WU.bind λ t e0=>(show Fo (Cy C) (XS ks B k v t) (XS ks (EH C B) (sh C k) (sh C v) t)from .og id (.og id (.og id λ r e=>KD e (λ z e=>by rw[z,<-EJ e,IP e0];exact DX DK (DX (Prod.mk _) (RH B [v]).symm)) λ n z e=>by rw[z,<-EJ e];exact DX DK (DX (Prod.mk _) (ab1 n B v).symm))))).oo
 (PA.bind λ ts e0 r e=>EO e λ h e=>EO e λ h2 e=>EO e λ h3 e=>by
  rw[show sh C k=k by rw[MB e0];exact DX V.aR (Xe ts h),show EH C ts=ts from Xe ts h];unfold W?;rw[h,h2,h3,<-EJ e]
  rfl) λ J e J=>ob e λ J e J=>MB e▸rfl
theorem th{k d:V}:Fo (sh C) (UA ks B k d) (UA ks (EH C B) (sh C k) (sh C d)):=WU.bind λ J J=>W6.map λ r=>by cases r<;>rfl
theorem abE(B:DM V):WG (EH C B)=WG B:=by cases B<;>rfl
theorem PZ(h:GE B.length=DN):GE (EH C B).length=DN:=(DX GE (eX B)).trans h
theorem o5(E:Em C τ U):Fo id (Dc τ v) (Dc U (sh C v)):=
 ij.oo ((show Fo id (og (UE v) (DK DT)) (og (UE (sh C v)) (DK DT))from .og (λ h=>Bz h▸rfl) (.refl _)).oo ((SM E).bind λ B J=>.og PZ (abE B▸ .refl _)) λ J e J=>ob e λ J e J=>FH e (λ e=>OI e▸rfl) λ e=>ob e λ J e J=>IX e▸rfl)
 λ J e J=>FH e (λ e=>EO e λ e J=>Bz e▸rfl) λ e=>ob e λ J e J=>FH e (λ e=>OI e▸rfl) λ e=>ob e λ J e J=>IX e▸rfl
def Fm(v:V):DU:= !((FI v).isSome||(NP v).isSome)
theorem ab4(v:V):ID v=DN->Fm v=DN:=Qe (P:=λ v=>Fm v=DN) (Q:=λ J=>True) rfl (λ J=>rfl) (λ J J=>rfl) trivial (λ J J J J=>trivial) (λ J=>rfl) (λ J J J=>rfl) (λ J J J=>rfl) v
theorem aoF{a:V}{r:DU}(h:Wh a b=DK r):(Fm a=DN/\Fm b=DN)/\Wh (sh C a) (sh C b)=DK r:=
 FH h (λ h'=>ob h' λ x e1 h'=>ob h' λ y e2 J=>by
  rw[IP e1,IP e2]at h⊢;exact⟨⟨rfl,rfl⟩,h⟩) λ h'=>EO h' λ h1 h'=>EO h' λ h2 J=>⟨⟨ab4 a (DO h1).1,ab4 b (DO h2).1⟩,by rw[W4 h1,W4 h2];exact h⟩
theorem az4(h:Fm v=DN):FI v=DP/\GU U (sh C v)=(QO v).map (EH C):=by
 revert h
 apply @V.casesOn (λ v=>Fm v=DN->FI v=DP/\GU U (sh C v)=(QO v).map (EH C)) v<;>intros<;>first|exact⟨rfl,rfl⟩|exact EP ‹_› FJ
theorem nw(E:Em C τ U)(h:Fm (TX τ v)=DN):TX U (sh C v)=sh C (TX τ v)/\GU U (sh C v)=(GU τ v).map (EH C):=by
 unfold TX at h⊢;cases q:GU τ v with
 |some xs=>rw[SM E xs q];exact⟨rfl,rfl⟩|none=>
  rw[q]at h;have p:=az4 (C:=C) (U:=U) (v:=v) h;have:QO v=DP:=by
   unfold GU at q;cases z:QO v with
   |none=>rfl|some l=>rw[z]at q;exact Ch q
  rw[p.2,this];exact⟨rfl,rfl⟩
theorem qe(E:Em C τ U){a:V}:Fo id (VM τ a b) (VM U (sh C a) (sh C b)):=λ r e=>by
 have first:Fo id ((GU τ a).bind λ x=>(GU τ b).bind λ y=>og (!EG x.length y.length) (DK DT)) ((GU U (sh C a)).bind λ x=>(GU U (sh C b)).bind λ y=>og (!EG x.length y.length) (DK DT)):=
  (SM E).bind λ x J=>(SM E).bind λ y J=>by rw[eX,eX];exact .refl _
 refine FH e (λ e=> ?_) λ e=> ?_
 ·unfold VM;rw[first r e];rfl
 ·have p:=aoF (C:=C) e;have d1:=nw E p.1.1;have d2:=nw E p.1.2;rename_i e0;unfold VM at e0⊢;rw[d1.2,d2.2,d1.1,d2.1];cases e1:GU τ a with
  |none=>exact p.2|some x=>cases e2:GU τ b with
   |none=>exact p.2|some y=>
    rw[e1,e2]at e0;show oo (og (!EG (EH C x).length (EH C y).length) (DK DT)) _=_;rw[eX,eX,p.2,<-e];exact e0
set_option tactic.hygienic true in
theorem atR{b:DU}(h:Fb v=DK b):Fb (sh C v)=DK b:=by
 revert h
 apply @V.casesOn (λ v=>Fb v=DK b->Fb (sh C v)=DK b) v<;>intros<;>rename_i h<;>first|exact h|exact EW h
theorem vd{a:V}:Fo id (Oo a b) (Oo (sh C a) (sh C b)):=.og (λ h=>Bz h▸rfl) λ J e=>atR e
theorem wg(E:Em C τ U){o:O}{l:DM V}(h:τ[i]? =DK o)(e:oL o=DK l):(U[C.ρ i]?).bind oD=DP:=by
 cases XP e;exact DX (λ x:DQ O=>x.bind oD) (E.dN h rfl)
theorem aaT(E:Em C τ U){l:DM V}(e:GU τ v=DK l):JZ U (sh C v)=DP:=FH e (λ e=>OI e▸rfl) λ e=>ob e λ i e1 e=>ob e λ o e2 e=>IX e1▸wg E e2 e
theorem ug(E:Em C τ U){x c:V}:Fo id (Oh τ x c) (Oh U (sh C x) (sh C c)):=
 ((Ip E).bind λ J J=>W6.map λ r=>by cases r<;>rfl).oo ((Zn E).bind λ B J J e=>EO e λ h1 e=>EO e λ h2 e=>by
  rw[W4 h1,aBR B h2,h1,h2]
  exact e) λ J e J=>ob e λ J e J=>by
 have:JZ U (sh C c)=DP:=FH e (λ e=>MB e▸rfl) λ e=>aaT E e;rw[this];rfl
theorem an3(E:Em C τ U){o:SV}{a:V}:Fo id (mU τ o a b) (mU U o (sh C a) (sh C b)):=match o with
 |.eq=>qe E|.ne=>(qe E).map λ J=>rfl
 |.is=>vd|.iV=>vd.map λ J=>rfl
 |.isIn=>ug E|.kY=>(ug E).map λ J=>rfl
 |.lt=>OH.bind λ J J=>OH.map λ J=>rfl
 |.gt=>OH.bind λ J J=>OH.map λ J=>rfl
 |.ge=>OH.bind λ J J=>OH.map λ J=>rfl
theorem at8{n:DY}:Fo (sh C) (Jb B n) (Jb (EH C B) n):=by
 cases n with
 |ofNat n=>exact Iv|negSucc n=>
  unfold Jb;rw[eX];exact .og id Iv
theorem aCH(E:Em C τ U){i:V}:Fo (sh C) (fX τ v i) (fX U (sh C v) (sh C i)):=
 ((Ip E).bind λ J J=>W6.bind λ r J=>by cases r<;>exact Fo.BN rfl).oo (OH.bind λ n J=>(PA.bind λ B J=>.og id (.og PZ at8)).oo ((SM E).bind λ B J=>(Fo.refl (VG n)).bind λ n J=>.og id Iv)
  λ J e J=>ob e λ J e J=>FH e (λ e=>OI e▸rfl) λ e=>ob e λ J e J=>IX e▸rfl)
 λ J e J=>ob e λ J J e=>by
  have:JZ U (sh C v)=DP:=FH e (λ e=>ob e λ J e J=>MB e▸rfl) λ e=>ob e λ J e J=>aaT E e;rw[this];rfl
structure QN(D:Tb):Prop where
 fH:∀c a,Ga c=DN->D.fH c a=DP
 glob:∀g v,D.glob g=DK v->∀C:Cf,sh C v=v
 init:∀c f,D.init c=DK f->Ga c=DT
theorem Pi{b:DU}(h:b=DT):(!b)=DN:=by rw[h];rfl
theorem jb{D:Tb}(T:QN D){c:DL}{x:DQ DL}(h:D.fH c a=DK x):Ga c=DT:=by
 cases q:Ga c with
 |false=>rfl|true=>rw[T.fH c a q]at h;exact EW h
theorem atF{D:Tb}(T:QN D)(E:Em C τ U){o:O}{x:DL×DM DL×DM V}{m:DQ DL}(h:τ[i]? =DK o)(e:oI o=DK x)(hm:D.fH x.1 a=DK m):(U[C.ρ i]?).bind oI=DK (d9 C x):=by
 cases pZ e;exact DX (λ x:DQ O=>x.bind oI) (E.dN h (Pi (jb T hm)))
theorem uk{D:Tb}(T:QN D)(E:Em C τ U){x:DL×DM DL×DM V}{m:DQ DL}(h:Oi τ v=DK x)(hm:D.fH x.1 a=DK m):Oi U (sh C v)=DK (d9 C x):=ob h λ i e1 h=>ob h λ o e2 h=>IX e1▸atF T E e2 h hm
theorem uj{D:Tb}(T:QN D)(E:Em C τ U){x:DL×DM DL×DM V}{m:DQ DL}(h:OL τ v=DK x)(hm:D.fH x.1 a=DK m):OL U (sh C v)=DK (d9 C x):=
 FH h (λ h=>T6 h▸rfl) λ h=>by
  have e:=uk T E h hm;refine ob h λ i e1 J=> ?_;rw[IX e1]at e⊢;exact e
theorem akT{D:Tb}(T:QN D)(E:Em C τ U):Fo (sh C) (GR D τ v a) (GR D U (sh C v) a):=λ r e=>ob e λ x e1 e=>ob e λ m e2 e=>by
 show(OL U (sh C v)).bind _=_;rw[uj T E e1 e2];show(D.fH x.1 a).bind _=_;rw[e2];show oe m (IZ a x.2.1 (EH C x.2.2)) (λ f=>oe (IZ a x.2.1 (EH C x.2.2)) ((FI (sh C v)).bind λ i=>DK (.dW f i)) λ J=>DP)=_;rw[wj];cases m with
 |none=>exact DX (·.map (sh C)) e|some f=>
  cases q:IZ a x.2.1 x.2.2 with
  |none=>
   have e:oe (IZ a x.2.1 x.2.2) ((FI v).bind λ i=>DK (.dW f i)) (λ J=>DP)=DK r:=e;rw[q]at e;exact(Fo.bind (g:=C.ρ) (g':=sh C) Hu λ i J=>.some rfl) r e
  |some y=>
   have e:oe (IZ a x.2.1 x.2.2) ((FI v).bind λ i=>DK (.dW f i)) (λ J=>DP)=DK r:=e;rw[q]at e;exact EW e
theorem aw7{D:Tb}(T:QN D)(E:Em C τ U):Fo id (KA D τ v a) (KA D U (sh C v) a):=λ r e=>ob e λ x e1 e=>ob e λ m e2 e=>by
 show(OL U (sh C v)).bind _=_;rw[uj T E e1 e2];show(D.fH x.1 a).bind _=_;rw[e2];show m.bind (λ f=>oe (IZ a x.2.1 (EH C x.2.2)) (DK f) λ J=>DP)=_;rw[wj];refine ob e λ f e3 e=> ?_;rw[e3];exact KD e (λ q e=>by rw[q];exact e) λ J J e=>EW e
section
variable (C:Cf)
def So{α β:Type}(r:α->β->Prop)(x:DQ (α×aS))(y:DQ (β×aS)):Prop:=∀p,x=DK p->∃q,y=DK q/\r p.1 q.1/\Em C p.2 q.2
abbrev LA{α β:Type}(g:α->β)(a:α)(b:β):Prop:=b=g a
abbrev vr:V->V->Prop:=LA (sh C)
structure KN(D:Tb)(hk:Hk):Prop where
 nY:∀τ U,Em C τ U->∀k a x,hk.nY k a=DK x->GR D U (C.bx k) a=DK (sh C x)
 sba:∀τ U,Em C τ U->∀k i x,hk.sba k i=DK x->fX U (C.bx k) (sh C i)=DK (sh C x)
 oS:∀τ U,Em C τ U->∀k m f,hk.oS k m=DK f->KA D U (C.bx k) m=DK f
 oG:∀τ U,Em C τ U->∀k t x,hk.oG k (.str t)=DK x->gK .get (C.bx k) [.str t] U=DK (sh C x,U)
 oA:∀τ U,Em C τ U->∀k,hk.oA k=DN->∃d,JZ U (C.bx k)=DK d
end
section
variable {α β γ δ:Type}
theorem So.bind{r:γ->δ->Prop}{g:α->β}{x:DQ α}{y:DQ β}{f:α->DQ (γ×aS)}{f':β->DQ (δ×aS)}(h:Fo g x y)(k:∀a,x=DK a->So C r (f a) (f' (g a))):So C r (x.bind f) (y.bind f'):=λ p e=>ob e λ a e1 e2=>h a e1▸k a e1 p e2
theorem So.og{r:α->β->Prop}{c c':DU}{x:DQ (α×aS)}{y:DQ (β×aS)}(hc:c=DN->c'=DN)(h:So C r x y):So C r (og c x) (og c' y):=λ a e=>EO e λ q e=>hc q▸h a e
theorem So.oo{r:α->β->Prop}{x y:DQ (α×aS)}{x' y':DQ (β×aS)}(h:So C r x x')(k:So C r y y')(n:∀p,y=DK p->x'=DP):So C r (oo x y) (oo x' y'):=λ p e=>FH e (λ e=>by obtain⟨q,e1,r⟩:=h p e;exact⟨q,by rw[e1];rfl,r⟩) λ e=>by obtain⟨q,e1,r⟩:=k p e;exact⟨q,by rw[n p e];exact e1,r⟩
theorem So.ok{r:α->β->Prop}{a:α}{b:β}(E:Em C dY G)(h:r a b):So C r (DK (a,dY)) (DK (b,G)):=λ J e=>EJ e▸⟨_,rfl,h,E⟩
theorem So.none{r:α->β->Prop}{y:DQ (β×aS)}:So C r DP y:=λ J e=>EW e
theorem So.new(O:FP C)(E:Em C τ U){o o':aH}(n:gB o=DN)(h:o'=JJ C o):So C (vr C) (RD o τ) (RD o' U):=.ok (h▸E.alloc O n) (DX V.ref E.lB.symm)
theorem d7(E:Em C τ U){l:DM V}(e:GU τ v=DK l):GZ (sh C v)=DP:=FH e (λ e=>OI e▸rfl) λ e=>ob e λ J e J=>IX e▸rfl
theorem aaU(E:Em C τ U){l:DM V}(e:GU τ v=DK l):HX (sh C v)=DP/\GJ (sh C v)=DP:=FH e (λ e=>OI e▸⟨rfl,rfl⟩) λ e=>ob e λ J e J=>IX e▸⟨rfl,rfl⟩
theorem Ax{f:α->DQ β}{x:DQ α}(h:x=DP):x.bind f=DP:=h▸rfl
theorem ajM(E:Em C τ U){a:V}:So C (vr C) (Hp a b τ) (Hp (sh C a) (sh C b) U):=.bind WU λ J J=>.bind WU λ J J=>.og id (.ok E rfl)
theorem ajN(E:Em C τ U){a:V}:So C (vr C) (Hq a b τ) (Hq (sh C a) (sh C b) U):=.bind PA λ x J=>.bind PA λ y J=>.og (λ h=>by rw[eX,eX];exact h) (.ok E (DX V.aR (RH x y).symm))
theorem ajK(O:FP C)(E:Em C τ U){a:V}:So C (vr C) (Ho a b τ) (Ho (sh C a) (sh C b) U):=.bind (SM E) λ x J=>.bind (SM E) λ y J=>.og (λ h=>by rw[eX,eX];exact h) (.new O E rfl (DX aH.list (RH x y).symm))
theorem awI(E:Em C τ U){a:V}:So C (vr C) (M? a b τ) (M? (sh C a) (sh C b) U):=.bind PA λ x J=>.bind OH λ y J=>.og (λ h=>(abE x).trans h) (.og id (.ok E rfl))
theorem ajP(O:FP C)(E:Em C τ U){a:V}:So C (vr C) (oo (Hp a b τ) (oo (Hq a b τ) (Ho a b τ))) (oo (Hp (sh C a) (sh C b) U) (oo (Hq (sh C a) (sh C b) U) (Ho (sh C a) (sh C b) U))):=
 (ajM E).oo ((ajN E).oo (ajK O E) λ J e=>ob e λ J e J=>Ax (d7 E e)) λ J e=>FH e (λ e=>ob e λ J e J=>MB e▸rfl) λ e=>ob e λ J e J=>Ax (aaU E e).2
theorem al9(O:FP C)(E:Em C τ U)(op:UW)(a b:V):So C (vr C) (Ve op a b τ) (Ve op (sh C a) (sh C b) U):=
 have h1:So C (vr C) ((HX a).bind λ x=>(HX b).bind λ y=>(YU op x y).bind λ v=>here (.int v) τ) ((HX (sh C a)).bind λ x=>(HX (sh C b)).bind λ y=>(YU op x y).bind λ v=>here (.int v) U):=.bind OH λ J J=>.bind OH λ J J=>.bind (.refl _) λ J J=>.ok E rfl
 match op,h1 with
 |.add,h1=>h1.oo (ajP O E) λ J e=>FH e (λ e=>ob e λ J e J=>IP e▸rfl) λ e=>FH e (λ e=>ob e λ J e J=>MB e▸rfl) λ e=>ob e λ J e J=>Ax (aaU E e).1
 |.jE,h1=>h1.oo (awI E) λ J e=>ob e λ J e J=>MB e▸rfl
 |.sub,h1=>h1.oo .none λ J e=>EW e
 |.fdiv,h1=>h1.oo .none λ J e=>EW e
 |.hM,h1=>h1.oo .none λ J e=>EW e
 |.oU,h1=>h1.oo .none λ J e=>EW e
theorem anF(B:DM V)(k:DY):cR (EH C B) k=EH C (cR B k):=by
 cases k with
 |ofNat n=>exact(Zq n B).symm|negSucc n=>exact(DX (λ l=>(EH C B).take (l-GH n)) (eX B)).trans (Zq _ B).symm
theorem aE3(E:Em C τ U)(v:V)(k:DY):So C (vr C) (C8 v k τ) (C8 (sh C v) k U):=
 So.oo (.bind PA λ B J=>.og PZ (.ok E (DX V.aR (anF B k)))) (.bind WU λ J J=>.bind (.refl _) λ J J=>.og id (.og id (.ok E rfl))) λ J e=>ob e λ J e J=>IP e▸rfl
theorem akV(O:FP C)(E:Em C τ U)(v:V):So C (vr C) (Vc v τ) (Vc (sh C v) U):=
 So.oo (.bind PA λ B J=>.og PZ (.ok E (DX V.aR (f6 B).symm))) (.bind (SM E) λ B J=>.og PZ (.new O E rfl (DX aH.list (f6 B).symm))) λ J e=>ob e λ J e J=>Ax (d7 E e)
theorem zg:∀{xs:DM V},Fo (λ p=>(EH C p.1,EH C p.2)) (Pn xs) (Pn (EH C xs))
 |[]=>.some rfl|_::_=>PA.bind λ J J=>Ky.bind λ J J=>zg.map λ J=>rfl
theorem abL:∀{ks:DM V},GN ks=DN->EH C ks=ks
 |[],_=>rfl|v::ks,h=>YW (EL (DO h).1 λ t e J=>IP e▸rfl) (abL (DO h).2)
theorem anN{k:DM V}:∀{v ks B:DM V},GN k=DN->Fo (Cy C) (Io k v ks B) (Io k (EH C v) ks (EH C B)):=by
 induction k with
 |nil=>exact λ {v ks B} _=>.og Pe (.some rfl)
 |cons k r ih=>
   intro v ks B h;cases v with
   |nil=>exact λ J e=>EW e
   |cons v q=>
    refine Fo.bind (g:=Cy C) ?_ λ p J=>ih (DO h).2;have hk:sh C k=k:=EL (DO h).1 λ t e J=>IP e▸rfl;have:=oz (C:=C) (ks:=ks) (B:=B) (k:=k) (v:=v);rw[hk]at this;exact this
theorem gm:∀{B:DM V},Fo id (Ms B) (Ms (EH C B))
 |[]=>.refl _|_::_=>ij.bind λ J J=>gm.map λ J=>rfl
theorem al1(O:FP C)(E:Em C τ U)(b:Bi)(B:DM V):So C (vr C) (gJ b B τ) (gJ b (EH C B) U):=match b with
 |.bQ=>.bind OQ λ J J=>.bind (Zn E) λ xs J=>.og PZ (.ok E (DX (λ n:DL=>V.int n) (eX xs)))
 |.tuple=>.bind OQ λ J J=>.oo (.bind PA λ J J=>.ok E rfl) (.bind (SM E) λ J J=>.og PZ (.ok E rfl)) λ J e=>ob e λ J e J=>Ax (d7 E e)
 |.list=>.bind OQ λ J J=>.bind (Zn E) λ J J=>.og PZ (.new O E rfl rfl)
 |.dict=>.bind OQ λ J J=>.bind (SM E) λ J J=>.bind zg λ p J q e=>EO e λ h e=>by
   have:=So.bind (f':=λ d:DM V×DM V=>RD (.dict d.1 d.2) U) (anN (C:=C) (v:=p.2) (ks:=[]) (B:=[]) h) (λ d J=>So.new O E (o:=.dict d.1 d.2) rfl rfl) q e;show∃q',og (GN (EH C p.1)) _=DK q'/\_;rw[abL h,h];exact this
 |.str=>.bind OQ λ J J=>.bind OH λ J J=>.bind (.refl _) λ J J=>.og id (.ok E rfl)
 |.max=>.bind Ky λ J J=>.bind OH λ J J=>.bind OH λ J J=>.ok E rfl
 |.all=>.bind OQ λ J J=>.bind (SM E) λ J J=>.bind gm λ J J=>.og PZ (.ok E rfl)
 |.sorted=>.bind OQ λ J J=>.bind (Ip E) λ J J=>.oo (.og id (.new O E rfl rfl)) (.bind (.refl _) λ J J=>.bind (.refl _) λ J J=>.og id (.new O E rfl rfl)) λ J e=>ob e λ k e J=>DX (λ b=>og b (RD (.list []) U)) (show FV _=DT from LH e▸rfl)
 |.lV=>.bind Ky λ J J=>.bind PA λ J J=>.bind PA λ J J=>.og Pe (.og Pe (.new O E rfl rfl))
theorem s6(O:FP C)(E:Em C τ U){o:V}{xs:DM V}(h:RB τ o=DK xs):So C (vr C) (ZR o τ u B) (ZR (sh C o) U (sh C u) (EH C B)):=λ p e=>om (P:=λ p=>∃q,ZR (sh C o) U (sh C u) (EH C B)=DK q/\vr C p.1 q.1/\Em C p.2 q.2) e λ i e1=>ob h λ i' e2 h=>ob h λ x e3 J=>by
 cases(EJ (e1.symm.trans e2):i=i');rw[IX e1];exact⟨_,rfl,rfl,E.set O e3 (.dN (o:=.list B) rfl)⟩
set_option tactic.hygienic true in
theorem akL(h:FI v=DP)(hx:NP v=DP):FI (sh C v)=DP:=by
 revert h hx
 apply @V.casesOn (λ v=>FI v=DP->NP v=DP->FI (sh C v)=DP) v<;>intros<;>rename_i h hx<;>first|rfl|exact EP h (bz _)|exact EP hx (bz _)
theorem jo(O:FP C)(h:EG i j=DT):EG (C.ρ i) (C.ρ j)=DT:=by
 cases z:EG (C.ρ i) (C.ρ j)with
 |false=>rfl|true=>
  rw[O.inj _ _ (GV z),RQ]at h;exact(by cases h)
theorem atU(O:FP C){o:V}(e:FI o=DK i)(hx:NP v=DP)(h:(!Xm o v)=DN):(!Xm (sh C o) (sh C v))=DN:=by
 unfold Xm at h⊢;rw[Hu i e];rw[e]at h;cases q:FI v with
 |none=>rw[akL q hx];rfl|some j=>
  rw[q]at h;rw[Hu j q];exact Pi (jo O (UI h))
theorem aBD{l:DM V}(e:XU τ v=DK l):NP v=DP:=FH e (λ e=>MB e▸rfl) λ e=>FH e (λ e=>OI e▸rfl) λ e=>ob e λ J e J=>IX e▸rfl
theorem ju(O:FP C)(E:Em C τ U)(b:Bm)(o:V)(B:DM V):So C (vr C) (gK b o B τ) (gK b (sh C o) (EH C B) U):=match b with
 |.append=>.bind OQ λ v J=>.bind (Jk E) λ xs e=>.og PZ (by
   have:=s6 (u:=.none) (B:=xs++[v]) O E e;rw[RH]at this;exact this)
 |.extend=>.bind OQ λ v J=>.bind (Jk E) λ xs e1=>.bind (Zn E) λ ys e2=>.og (λ h=>ob e1 λ J q J=>atU O q (aBD e2) h) (.og (λ h=>by rw[eX,eX];exact h) (by
   have:=s6 (u:=.none) (B:=xs++ys) O E e1;rw[RH]at this;exact this))
 |.pop=>.og Pe (.bind (Jk E) λ xs e=>.og PZ (by
   rw[eX];exact .bind Iv λ v J=>by
    have:=s6 (u:=v) (B:=xs.take (xs.length-1)) O E e;rw[Zq]at this;exact this))
 |.get=>.bind (Ip E) λ d J=>.bind ((show Fo (sh C) ((bN B).bind λ k=>UA d.1 d.2 k .none) ((bN (EH C B)).bind λ k=>UA d.1 (EH C d.2) k .none)from OQ.bind λ J J=>th (d:=.none)).oo (Ky.bind λ J J=>th) λ J e J=>ob e λ J e J=>Gi e▸rfl) λ J J=>.ok E rfl
 |.index=>.bind OQ λ J J=>.bind WU λ J J=>.bind (.refl _) λ J J=>.bind WU λ J J=>.og id (.oo (.og id (.ok E rfl)) (.og id (.ok E rfl)) λ J e=>EO e λ q J=>by rw[GV q];rfl)
theorem aBI{D:Tb}(T:QN D)(O:FP C)(E:Em C τ U)(x:V)(a:DL)(v:V):So C (LA id) (Kg D x a v τ) (Kg D (sh C x) a (sh C v) U):=λ p e=>ob e λ y e1 e=>ob e λ m e2 e=>EO e λ e3 e=>EO e λ e4 e=>om (P:=λ p=>∃q,Kg D (sh C x) a (sh C v) U=DK q/\LA id p.1 q.1/\Em C p.2 q.2) e λ i e5=>ob e1 λ i' e6 e7=>ob e7 λ o e8 e9=>by
 cases(EJ (e5.symm.trans e6):i=i');unfold Kg;rw[uk T E e1 e2];show∃q,(D.fH y.1 a).bind _=DK q/\_;rw[e2];show∃q,og (oe m DN λ J=>DT) (og (HC y.2.1.length 900) ((FI (sh C x)).map λ i=>((),U.set i (.inst y.1 (IL a (sh C v) y.2.1 (EH C y.2.2)).1 (IL a (sh C v) y.2.1 (EH C y.2.2)).2))))=DK q/\_;rw[e3,e4,IX e5,azL];exact⟨_,rfl,rfl,E.set O e8 (.dN (o:=.inst y.1 (IL a v y.2.1 y.2.2).1 (IL a v y.2.1 y.2.2).2) (Pi (jb T e2)))⟩
theorem aaV(O:FP C)(E:Em C τ U){i:V}{o o':aH}(n:gB o'=DN)(h:∀j,FI i=DK j->τ[j]? =DK o):So C (LA id) ((FI i).map λ j=>((),τ.set j o')) ((FI (sh C i)).map λ j=>((),U.set j (JJ C o'))):=λ p e=>om (P:=λ p=>∃q,(FI (sh C i)).map (λ j=>((),U.set j (JJ C o')))=DK q/\LA id p.1 q.1/\Em C p.2 q.2) e λ j e1=>by
 rw[Hu j e1];exact⟨_,rfl,rfl,E.set O (h j e1) (.dN n)⟩
theorem anM{d:DM V×DM V}(h:Nr τ v=DK d):∀j,FI v=DK j->τ[j]? =DK (.dict d.1 d.2):=λ j e=>ob h λ i e1 h=>ob h λ o e2 h3=>by
 cases(EJ (e.symm.trans e1):j=i);exact Ju h3▸e2
theorem av0{d:DM V}(h:RB τ v=DK d):∀j,FI v=DK j->τ[j]? =DK (.list d):=λ j e=>ob h λ i e1 h=>ob h λ o e2 h3=>by
 cases(EJ (e.symm.trans e1):j=i);exact XP h3▸e2
theorem aaW(O:FP C)(E:Em C τ U)(x i v:V):So C (LA id) (lC x i v τ) (lC (sh C x) (sh C i) (sh C v) U):=
 So.oo (.bind (ot E) λ d e=>.bind oz λ q J=>aaV O E (o':=.dict q.1 q.2) rfl (anM e))
 (.bind (Jk E) λ xs e=>.bind OH λ J J=>.bind (.refl _) λ n J=>.og (λ h=>by rw[eX];exact h) (.og PZ (by
   have:=aaV O E (o':=.list (xs.set n v)) rfl (av0 e);rw[JJ,ab1]at this;exact this))) λ J e=>ob e λ J e J=>ob e λ i e1 e=>ob e λ o e2 e=>Ax (IX e1▸wg E e2 e)
end
section
variable {D:Tb}{hk:Hk}
theorem Os{t:Tx}{K:DM V}:∀{n:DL},KV t K=DK n->K[n]? =DK (.str t):=by
 induction K with
 |nil=>exact λ h=>EW h
 |cons u K ih=>
  intro n h;have h:(match oe (GJ u) DT (FT t)with|true=>DK 0|false=>(KV t K).map GH)=DK n:=h;cases q:oe (GJ u) DT (FT t)with
  |true=>
   rw[q]at h;exact EL q λ t' e b=>EJ h▸DX DK ((IP e).trans (DX V.str (hJ b).symm))
  |false=>
   rw[q]at h;exact om (P:=λ n=>(u::K)[n]? =DK (.str t)) h λ m e=>ih e
theorem wH(t:Tx)(x:V)(K:DM V):KV t (K++[x])=oe (KV t K) (EN (oe (GJ x) DT (FT t)) (DK K.length) DP) DK:=by
 induction K with
 |nil=>
  show(match oe (GJ x) DT (FT t)with|true=>DK 0|false=>DP)=EN (oe (GJ x) DT (FT t)) (DK 0) DP;cases oe (GJ x) DT (FT t)<;>rfl
 |cons u K ih=>
  show(match oe (GJ u) DT (FT t)with|true=>DK 0|false=>(KV t (K++[x])).map GH)=oe (match oe (GJ u) DT (FT t)with|true=>DK 0|false=>(KV t K).map GH) (EN (oe (GJ x) DT (FT t)) (DK (K.length+1)) DP) DK;rw[ih];cases oe (GJ u) DT (FT t)<;>cases oe (GJ x) DT (FT t)<;>cases KV t K<;>rfl
theorem W7(K W:DM V)(t:Tx):HY K W (.str t)=VO K W t:=by
 show oo (VO K W t) DP=_;cases VO K W t<;>rfl
theorem anU(K W:DM V)(t:Tx)(v:V):XF K W (.str t) v=XS K W (.str t) v t:=by
 show oo (XS K W (.str t) v t) DP=_;cases XS K W (.str t) v t<;>rfl
theorem B! :∀{a b:DM V},GN a=DN->GN b=DN->GN (a++b)=DN
 |[],_,_,h=>h|_::_,_,h1,h2=>MA (DO h1).1 (B! (DO h1).2 h2)
theorem uy{t:Tx}(h:LG t=DN):GN [.str t]=DN:=MA h rfl
theorem Xn:∀{a:DM V},GN a=DN->JF a=DN
 |[],_=>rfl|_::_,h=>MA (EL (DO h).1 λ J e q=>IP e▸q) (Xn (DO h).2)
theorem gq{t u:Tx}{l:DM V}(h:(!Dy (.str t) l)=DN)(m:V.str u∈l):FT u t=DT:=by
 induction l with
 |nil=>exact EP m KG|cons v l ih=>
  have h:=Bool.or_eq_false_iff.mp (UI h);rcases IV.mp m with z|z
  ·rw[<-z]at h;exact h.1
  ·exact ih (Pi h.2) z
structure ahZ(K W K' W':DM V)(t:Tx)(v:V):Prop where
 str:GN K'=DN
 bQ:K'.length=W'.length
 le:K'.length<=K.length+1
 mem:∀x∈W',x∈W∨x=v
 fO:HY K' W' (.str t)=DK (DK v)
 iW:∀u,FT u t=DT->HY K' W' (.str u)=HY K W (.str u)
theorem azO{K:DM V}{t:Tx}(v:V)(hs:GN K=DN)(ht:LG t=DN)(hl:HC K.length 100000=DN)(bQ:K.length=W.length):∃K' W',XF K W (.str t) v=DK (K',W')/\ahZ K W K' W' t v:=by
 have hp:XF K W (.str t) v=oe (KV t K) (DK (K++[.str t],W++[v])) λ n=>DK (K,W.set n v):=by
  rw[anU];unfold XS;rw[hs,ht,hl];rfl
 have fS:∀{K':DM V} (W':DM V) (u:Tx),GN K'=DN->HY K' W' (.str u)=og (LG u) (oe (KV u K') (DK DP) λ n=>(W'[n]?).map DK):=λ W' u h=>by
  rw[W7];unfold VO;rw[h];rfl
 cases q:KV t K with
 |some n=>
  rw[q]at hp;have hn:=(JV.mp (Os q)).1;refine⟨_,_,hp,hs,(NL ..).symm▸bQ,TD _,λ x hx=>List.mem_or_eq_of_mem_set hx,?_,λ u hu=> ?_⟩
  ·rw[fS _ _ hs,ht,q];exact DX (NN DK) (OV (bQ▸hn))
  ·rw[fS _ _ hs,fS _ _ hs];cases e:KV u K with
   |none=>rfl|some m=>exact DX (λ x:DQ V=>og (LG u) (x.map DK)) (TA λ z=>by
     have a:=(Os q).symm.trans (z▸Os e);rw[V.str.inj (EJ a),Hy]at hu;exact(by cases hu))
 |none=>
  rw[q]at hp;have pT:=B! hs (uy ht);refine⟨_,_,hp,pT,by rw[GC,GC,bQ];rfl,MT (GC ..),λ x hx=>(OW.mp hx).imp id GY.mp,?_,λ u hu=> ?_⟩
  ·rw[fS _ _ pT,ht,wH,q];show(oe (EN (FT t t) (DK K.length) DP) (DK DP) λ n=>((W++[v])[n]?).map DK)=_;rw[Hy,bQ];exact DX (NN DK) NK
  ·rw[fS _ _ pT,fS _ _ hs,wH];show og (LG u) (oe (oe (KV u K) (EN (FT u t) (DK K.length) DP) DK) (DK DP) λ n=>((W++[v])[n]?).map DK)=_;rw[hu];cases e:KV u K with
   |none=>rfl|some m=>exact DX (λ x:DQ V=>og (LG u) (x.map DK)) (KQ (bQ▸(JV.mp (Os e)).1))
set_option tactic.hygienic true in
theorem Na(h:NP v=DK k):sh C v=C.bx k:=by
 revert h
 apply @V.casesOn (λ v=>NP v=DK k->sh C v=C.bx k) v<;>intros<;>rename_i h<;>first|exact DX C.bx (EJ h)|exact EW h
theorem ui{c:DL}{x:DL×DM DL×DM V}(h:t_ c τ v=DK x):v=.ref x.1/\τ[x.1]? =DK (.inst c x.2.1 x.2.2):=ob h λ i e1 h=>ob h λ o e2 h=>ob h λ y e3 h=>EO h λ q h=>by
 cases EJ h;refine⟨IX e1,e2.trans (DX DK ?_)⟩;rw[pZ e3,GV q]
structure y5(C:Cf)(τ U:aS)(v:V)(x:DL×DM DL×DM V):Prop where
 v:v=.ref x.1
 t:τ[x.1]? =DK (.inst 7001 x.2.1 x.2.2)
 k:Za C x.1 x.2.1
 s:U[C.ρ x.1]? =DK (.list (C.pre x.1++EH C x.2.2))
theorem Ur(E:Em C τ U){x:DL×DM DL×DM V}(h:Mw τ v=DK x):y5 C τ U v x:=
 have⟨h1,h2⟩:=ui h
 let⟨_,e,r⟩:=E.ob _ _ h2
 ⟨h1,h2,r.qV.1,e.trans (DX DK r.qV.2)⟩
structure Q9(C:Cf)(τ U:aS)(v:V)(s:Sk)(K W:DM V):Prop where
 v:v=.ref s.i
 t:τ[s.i]? =DK (.inst 7003 [s.c] (.aX s.ab:: .aX s.ks::s.B))
 z:U[C.ρ s.i]? =DK (.dict K W)
 k:Ml C s.i s.c s.ab s.ks s.B K W
theorem Gl{α:Type}{l:DM α}{p:α×DM α}(h:XY l=DK p):l=p.1::p.2:=HS XY (λ p=>p.1::p.2) (λ l=>by cases l<;>rfl) h
theorem avQ{l:DM V}{y:DM V×DM V×DM V}(h:wo l=DK y):l=.aX y.1:: .aX y.2.1::y.2.2:=ob h λ p e1 h=>ob h λ ab e2 h=>ob h λ q e3 h=>om (P:=λ y:DM V×DM V×DM V=>l=.aX y.1:: .aX y.2.1::y.2.2) h λ ks e4=>by
 rw[Gl e1,OI e2,Gl e3,OI e4]
theorem Qf(E:Em C τ U){s:Sk}(h:Fz τ v=DK s):∃K W,Q9 C τ U v s K W:=ob h λ x e1 h=>ob h λ c e2 h=>om (P:=λ s=>∃K W,Q9 C τ U v s K W) h λ y e3=>by
 obtain⟨h1,h2⟩:=ui e1;rw[LH e2,avQ e3]at h2;obtain⟨o',e,r⟩:=E.ob _ _ h2;obtain⟨c',ab,us,B,K,W,z1,z2,z3,k⟩:=r.CA;cases z1;cases z2;exact⟨K,W,h1,h2,e.trans (DX DK z3),k⟩
theorem abU{ks:DM DL}{ws:DM V}(h:k8 ks ws=DN)(q:Za C i ks):GE (C.pre i++EH C ws).length=DN:=by
 rw[GC,eX];rcases q with q|⟨q,l⟩
 ·rw[q]at h;exact h
 ·rw[q]at h;have h:(FV ([]:DM DL)&&HC ws.length 90)=DN:=h;have h:=OF l (WQ (GO (DO h).2));exact MS.mpr (EZ (TG h) (show 991<=1000000 by decide))
theorem akS(T:QN D)(G_:KN C D hk)(E:Em C τ U):Fo (sh C) (jc D hk τ v a) (GR D U (sh C v) a):=λ x h=>KD h (λ J h=>akT T E x h) λ k e h=>Na (C:=C) e▸G_.nY τ U E _ _ _ h
theorem aw6(T:QN D)(G_:KN C D hk)(E:Em C τ U):Fo id (Ye D hk τ v a) (KA D U (sh C v) a):=λ x h=>KD h (λ J h=>aw7 T E x h) λ k e h=>Na (C:=C) e▸G_.oS τ U E _ _ _ h
theorem T9{k x:V}{s:Sk}{K:DM V}(S:Q9 C τ U v s K W)(h:Va s k=DK x):JZ U (sh C v)=DK (K,W)/\sh C k=k/\∃t,k=.str t/\HY K W k=DK (DK (sh C x)):=ob h λ t e1 h=>ob h λ n e2 h=>by
 rw[IP e1,S.v];exact⟨DX (λ x:DQ O=>x.bind oD) S.z,rfl,t,rfl,S.k.gI n t x (Os e2) h⟩
theorem aCG(G_:KN C D hk)(E:Em C τ U){i:V}:Fo (sh C) (abM hk τ v i) (fX U (sh C v) (sh C i)):=λ x h=>KD h (λ J h=>KD h (λ J h=>aCH E x h) λ s e h=>by
  obtain⟨K,W,S⟩:=Qf E e;obtain⟨h1,h2,t,h4,h3⟩:=T9 S h;unfold fX;rw[h1,h2];show oo ((HY K W i).bind id) _=_;rw[h3]
  rfl) λ k e h=>Na (C:=C) e▸G_.sba τ U E _ _ _ h
theorem XK{b c:Bm}(h:QV b a=DK c):a=U6 b/\c=b:=EO h λ q h=>⟨GV q,(EJ h).symm⟩
theorem uq{b:Bm}(h:y_ b=DN):b=.get:=by cases b<;>first|rfl|exact EP h FJ
theorem ou{d:DM V×DM V}(h:JZ U v=DK d):RB U v=DP/\OL U v=DP/\NP v=DP:=FH h (λ e=>Uu e▸⟨rfl,rfl,rfl⟩) λ h1=>ob h1 λ i e h2=>ob h2 λ o e2 h3=>by
 cases IX e;cases Ju h3;exact⟨DX (λ x:DQ O=>x.bind oL) e2,DX (λ x:DQ O=>x.bind oI) e2,rfl⟩
theorem Iq{d:DM V×DM V}(h:JZ U v=DK d):iP U v r7=DK .get/\∀a,KA D U v a=DP:=by
 refine⟨?_,λ a=>Ax (ou h).2.1⟩;unfold iP;rw[(ou h).1,h];rfl
theorem wf{l:DM V}(h:RB U v=DK l)(a:DL):iP U v a=oo (oo (QV .append a) (oo (QV .extend a) (QV .pop a))) DP/\KA D U v a=DP:=ob h λ i e1 h'=>ob h' λ o e2 h3=>by
 cases IX e1;cases XP h3;have h1:RB U (.ref i)=DK l:=DX (λ x:DQ O=>x.bind oL) e2;have h2:JZ U (.ref i)=DP:=DX (λ x:DQ O=>x.bind oD) e2;have h3:OL U (.ref i)=DP:=DX (λ x:DQ O=>x.bind oI) e2;unfold iP;rw[h1,h2];exact⟨rfl,Ax h3⟩
theorem alD(E:Em C τ U){b:Bm}(h:iP τ v a=DK b):iP U (sh C v) a=DK b/\KA D U (sh C v) a=DP:=
 FH h (λ h=>ob h λ l e h=>by
  have k:=wf (D:=D) (Jk E l e) a;rw[k.1,h]
  exact⟨rfl,k.2⟩) λ h=>FH h (λ h=>ob h λ d e h=>by
  rw[(XK h).1,(XK h).2]
  exact⟨(Iq (D:=D) (Ip E d e)).1,(Iq (Ip E d e)).2 _⟩) λ h=>ob h λ t e h=>by
  rw[IP e,(XK h).1,(XK h).2];exact⟨rfl,rfl⟩
theorem jt(G_:KN C D hk)(E:Em C τ U){b:Bm}(h:Vf hk τ v a=DK b):iP U (sh C v) a=DK b/\KA D U (sh C v) a=DP:=
 KD h (λ J h=>KD h (λ J h=>KD h (λ J h=>alD E h) λ s e h=>by
  obtain⟨K,W,S⟩:=Qf E e;have hd:JZ U (sh C v)=DK (K,W):=S.v▸DX (λ x:DQ O=>x.bind oD) S.z;rw[(XK h).1,(XK h).2]
  exact⟨(Iq (D:=D) hd).1,(Iq hd).2 _⟩) λ x e h=>by
  have A:=Ur E e;have k:=wf (D:=D) (U:=U) (v:=sh C v) (l:=C.pre x.1++EH C x.2.2) (A.v▸DX (λ x:DQ O=>x.bind oL) A.s) a;refine⟨k.1.trans ?_,k.2⟩;refine FH h (λ h=>by rw[h];rfl) λ h=> ?_;rw[(XK h).1,(XK h).2]
  rfl) λ k e h=>EO h λ q h=>by
  obtain⟨d,hd⟩:=G_.oA τ U E k q;rw[Na (C:=C) e,(XK h).1,(XK h).2];exact⟨(Iq (D:=D) hd).1,(Iq hd).2 _⟩
theorem ak3(O:FP C)(E:Em C τ U){x:DL×DM DL×DM V}(A:y5 C τ U v x)(b:Bm)(B:DM V):So C (vr C) (gw x b B τ) (gK b (sh C v) (EH C B) U):=by
 have hl:RB U (sh C v)=DK (C.pre x.1++EH C x.2.2):=A.v▸DX (λ x:DQ aH=>x.bind oL) A.s;have hr:FI (sh C v)=DK (C.ρ x.1):=A.v▸rfl;cases b with
 |append=>
  exact .bind OQ λ u J p e=>EO e λ q e=>by
   rw[hl];show∃q,og (GE (C.pre x.1++EH C x.2.2).length) ((FI (sh C v)).map λ i=>(V.none,U.set i (.list (C.pre x.1++EH C x.2.2++[sh C u]))))=DK q/\_;rw[abU q A.k,hr,<-EJ e,WN];refine⟨_,rfl,rfl,E.set O A.t ?_⟩;rw[show EH C x.2.2++[sh C u]=EH C (x.2.2++[u])from(RH x.2.2 [u]).symm];exact .cJ A.k
 |pop=>
  exact .og Pe λ p e=>EO e λ q e=>ob e λ u e1 e=>by
   rw[hl];show∃q,og (GE (C.pre x.1++EH C x.2.2).length) (((C.pre x.1++EH C x.2.2)[(C.pre x.1++EH C x.2.2).length-1]?).bind λ v'=>ZR (sh C v) U v' ((C.pre x.1++EH C x.2.2).take ((C.pre x.1++EH C x.2.2).length-1)))=DK q/\_;have wl:1<=x.2.2.length:=JX (GI _) (JV.mp e1).1;have ln:(C.pre x.1++EH C x.2.2).length-1=(C.pre x.1).length+(x.2.2.length-1):=by rw[GC,eX,Nat.add_sub_assoc wl]
   rw[abU q A.k,ln,Ad (HD ..),Ah,Iv u e1,List.take_length_add_append,<-EJ e,<-Zq];show∃q,(FI (sh C v)).map (λ i=>(sh C u,U.set i (.list (C.pre x.1++EH C (x.2.2.take (x.2.2.length-1))))))=DK q/\_;rw[hr];exact⟨_,rfl,rfl,E.set O A.t (.cJ A.k)⟩
 |extend=>exact .none|get=>exact .none|index=>exact .none
theorem alC(G_:KN C D hk)(O:FP C)(E:Em C τ U)(b:Bm)(v:V)(B:DM V):So C (vr C) (U5 hk b v B τ) (gK b (sh C v) (EH C B) U):=λ p h=>
 KD h (λ J h=>KD h (λ J h=>KD h (λ J h=>ju O E b v B p h) λ s e h=>EO h λ g h=>ob h λ k e1 h=>ob h λ x e2 h=>by
  obtain⟨K,W,S⟩:=Qf E e;obtain⟨h1,h2,t,h4,h3⟩:=T9 S e2;rw[uq g,LH e1,<-EJ h];refine⟨(sh C x,U),?_,rfl,E⟩;show(JZ U (sh C v)).bind _=_;rw[h1];show(oo (UA K W (sh C k) .none) _).bind _=_;rw[h2];unfold UA;rw[h3,h4]
  rfl) λ x e h=>ak3 O E (Ur E e) b B p h) λ k e h=>EO h λ g h=>ob h λ u e1 h=>ob h λ t e2 h=>ob h λ x e3 h=>by
  rw[uq g,LH e1,IP e2,Na (C:=C) e,<-EJ h];exact⟨_,G_.oG τ U E k t x e3,rfl,E⟩
theorem al0(O:FP C)(E:Em C τ U)(b:Bi)(B:DM V):So C (vr C) (uS b B τ) (gJ b (EH C B) U):=λ p h=>KD h (λ J h=>al1 O E b B p h) λ x e h=>EO h λ hb h=>ob e λ v e1 e=>ob h λ n e2 h=>EO h λ q h=>by
 have A:=Ur E e;have hb:b=.bQ:=by revert hb;cases b<;>intro hb<;>first|rfl|exact EP hb FJ
 have hn:n+x.2.2.length=(C.pre x.1++EH C x.2.2).length:=by
  rw[GC,eX];exact DX (·+_) (A.k.elim (λ z=>(List.cons.inj ((LH e2).symm.trans z)).1) λ z=>(by cases(LH e2).symm.trans z.1))
 rw[hb,LH e1,<-EJ h,A.v];rw[hn]at q⊢;refine⟨(.int (RN (C.pre x.1++EH C x.2.2).length),U),?_,rfl,E⟩;show(oo DP ((U[C.ρ x.1]?).bind oL)).bind _=_;rw[A.s];show og (GE (C.pre x.1++EH C x.2.2).length) _=_;rw[q];rfl
theorem lw(E:Em C τ U){o:SV}{a:V}:Fo id (uV τ o a b) (mU U o (sh C a) (sh C b)):=λ r h=>KD h (λ J h=>an3 E r h) λ x e h=>EO h λ ho h=>ob h λ l e1 h=>EO h λ hl h=>EO h λ hs h=>by
 have A:=Ur E e;have ho:o=.ne:=by revert ho;cases o<;>intro ho<;>first|rfl|exact EP ho FJ
 have hb:GU U (sh C b)=DK []:=by rw[SM E l e1,HN hl];rfl
 have ha:GU U (sh C a)=DK (C.pre x.1++EH C x.2.2):=A.v▸DX (λ x:DQ O=>oo DP (x.bind oL)) A.s;have hn:(!EG (C.pre x.1++EH C x.2.2).length 0)=DN:=by
  rw[GC,eX];cases q:x.2.2 with
  |nil=>rw[q]at hs;exact FB hs|cons=>rfl
 rw[ho,<-EJ h];show(VM U (sh C a) (sh C b)).map not=_;unfold VM;rw[ha,hb];show(oo (og (!EG (C.pre x.1++EH C x.2.2).length 0) (DK DT)) _).map not=_;rw[hn];rfl
theorem aBJ(O:FP C)(E:Em C τ U)(x i v:V):So C (LA id) (xA x i v τ) (lC (sh C x) (sh C i) (sh C v) U):=λ p h=>KD h (λ J h=>aaW O E x i v p h) λ s e h=>ob h λ t e1 h=>EO h λ ht h=>EO h λ h1 h=>EO h λ h2 h=>EO h λ h3 h=>by
 obtain⟨K,W,S⟩:=Qf E e;have hc:s.c<=999:=P8 (GO h3);have fW:HC K.length 100000=DN:=MS.mpr (EZ (TG (EZ S.k.le (OF (O.pl s.i) hc))) (by decide));obtain⟨K',W',hp,P⟩:=azO (sh C v) S.k.str ht fW S.k.bQ;rw[IP e1,<-EJ h,S.v];refine⟨((),U.set (C.ρ s.i) (.dict K' W')),?_,rfl,E.set O S.t (.jG ⟨P.str,P.bQ,EZ P.le (TG S.k.le),λ x hx=> ?_,λ u m=>(P.iW u (gq h1 m)).trans (S.k.no u m),λ i u y hu hy=> ?_,?_,S.k.abs,B! S.k.tY (uy ht)⟩)⟩
 ·show oo (((U[C.ρ s.i]?).bind oD).bind _) _=_;rw[S.z];show oo ((XF K W (.str t) (sh C v)).bind _) _=_;rw[hp];rfl
 ·rcases P.mem x hx with z|z
  ·exact(S.k.gd x z).imp id λ z1=>by obtain⟨y,hy,e⟩:=z1;exact⟨y,RO _ hy,e⟩
  ·exact .inr ⟨v,WP _ (.head _),z⟩
 ·rcases ah7 i s.ks.length with z|z|z
  ·rw[KQ z]at hu;rw[KQ (S.k.kl▸z)]at hy;exact(P.iW u (gq h2 (JK hu))).trans (S.k.gI i u y hu hy)
  ·subst z;rw[NK]at hu;rw[S.k.kl,NK]at hy;rw[<-V.str.inj (EJ hu),<-EJ hy];exact P.fO
  ·rw[MQ (by rw[GC];exact z)]at hu;exact EW hu
 ·rw[GC,GC,S.k.kl];rfl
end
section
variable (C:Cf)
def LR(m m':Lv):Prop:=m.length=m'.length/\∀(i:DL) v,m[i]? =DK (DK v)->m'[i]? =DK (DK (sh C v))
inductive FR:Fl×Lv->Fl×Lv->Prop
 |nx {a b:Lv}:LR C a b->FR (.next,a) (.next,b)
 |rt {v:V} {a b:Lv}:LR C a b->FR (.ret v,a) (.ret (sh C v),b)
def s1(s:JO):JO:=match s with
 |.dX B=>.dX (EH C B)|.cX i=>.cX (C.ρ i)
def sS(s:HP):HP:=match s with
 |.bN s=>.bN (s1 C s)|.zip a b=>.zip (s1 C a) (s1 C b)|.dT a=>.dT (s1 C a)
def Sr{α β:Type}(r:α->β->Prop)(x:R α)(y:R β):Prop:=match x with
 |.ok a dY=>∃b G,y=.ok b G/\r a b/\Em C dY G|.cD e dY=>∃G,y=.cD (sh C e) G/\Em C dY G|.bL=>True
def Sm{α β:Type}(r:α->β->Prop)(x:M α)(y:M β):Prop:=∀τ U,Em C τ U->Sr C r (x τ) (y U)
end
section
variable {α β γ δ:Type}
theorem Sr.bind{r:α->β->Prop}{r':γ->δ->Prop}{x:R α}{y:R β}{f:α->M γ}{g:β->M δ}(h:Sr C r x y)(k:∀a b,r a b->Sm C r' (f a) (g b)):Sr C r' (R.bind x f) (R.bind y g):=by
 obtain⟨a,τ⟩|⟨a,τ⟩|a:=x
 ·obtain⟨_,_,e,q,E⟩:=h;exact e▸k _ _ q _ _ E
 ·obtain⟨_,e,E⟩:=h;exact e▸⟨_,rfl,E⟩
 ·trivial
theorem Sm.bind{r:α->β->Prop}{r':γ->δ->Prop}{x:M α}{y:M β}{f:α->M γ}{g:β->M δ}(h:Sm C r x y)(k:∀a b,r a b->Sm C r' (f a) (g b)):Sm C r' (M.bind x f) (M.bind y g):=λ τ U E=>(h τ U E).bind k
theorem Sm.fb{g:α->β}{r':γ->δ->Prop}{x:M α}{y:M β}{f:α->M γ}{f':β->M δ}(h:Sm C (LA g) x y)(k:∀a,Sm C r' (f a) (f' (g a))):Sm C r' (M.bind x f) (M.bind y f'):=h.bind λ a J q=>q▸k a
theorem Sm.pure{r:α->β->Prop}{a:α}{b:β}(h:r a b):Sm C r (M.pure a) (M.pure b):=λ J J E=>⟨_,_,rfl,h,E⟩
theorem Sm.none{r:α->β->Prop}{y:M β}:Sm C r M.none y:=λ J J J=>trivial
theorem Sr.oe{g:α->β}{r:γ->δ->Prop}{x:DQ α}{y:DQ β}{f:α->R γ}{f':β->R δ}(h:Fo g x y)(k:∀a,x=DK a->Sr C r (f a) (f' (g a))):Sr C r (oe x .bL f) (oe y .bL f'):=by
 cases q:x with
 |none=>trivial|some a=>rw[h a q];exact k a q
theorem Sr.o2{r:α->β->Prop}{x:DQ (α×aS)}{y:DQ (β×aS)}(h:So C r x y):Sr C r (M.o2 x) (M.o2 y):=by
 cases q:x with
 |none=>trivial|some a=>
  obtain⟨b,e,z⟩:=h a q;rw[e];exact⟨_,_,rfl,z⟩
theorem Sm.eH{g:α->β}{x:DQ α}{y:DQ β}(h:Fo g x y):Sm C (LA g) (M.eH x) (M.eH y):=λ J J E=>.oe h λ J J=>⟨_,_,rfl,rfl,E⟩
theorem Sm.rd{g:α->β}{f:aS->DQ α}{f':aS->DQ β}(h:∀τ U,Em C τ U->Fo g (f τ) (f' U)):Sm C (LA g) (M.rd f) (M.rd f'):=λ τ U E=>Sm.eH (h τ U E) τ U E
theorem Sm.st{r:α->β->Prop}{f:aS->DQ (α×aS)}{f':aS->DQ (β×aS)}(h:∀τ U,Em C τ U->So C r (f τ) (f' U)):Sm C r (M.st f) (M.st f'):=λ τ U E=>.o2 (h τ U E)
theorem Sm.cQ{r:α->β->Prop}{t:DU}{x y:M α}{x' y':M β}(h:Sm C r x x')(k:Sm C r y y'):Sm C r (cQ t x y) (cQ t x' y'):=by cases t;exact k;exact h
theorem Sm.alloc(O:FP C){r:V->V->Prop}{o:aH}{f f':V->M V}(n:gB o=DN)(k:∀v,Sm C r (f v) (f' (sh C v))):Sm C r (Uo o f) (Uo (JJ C o) f'):=λ τ U E=>by
 have:=k (.ref τ.length) _ _ (E.alloc O n);rw[show sh C (.ref τ.length)=.ref U.length from DX V.ref E.lB]at this;exact this
theorem KX{x y:M V}(h:Sm C (vr C) x y):Sm C (vr C) (LW x).1 (LW y).1/\Sm C (LA id) (LW x).2 (LW y).2:=⟨h,h.fb λ J=>.rd λ J J E=>o5 E⟩
theorem LR.set(h:LR C m m')(x:DL)(v:V):LR C (m.set x (DK v)) (m'.set x (DK (sh C v))):=by
 refine⟨by rw[NL,NL];exact h.1,λ i u e=> ?_⟩;by_cases q:x=i
 ·subst q;have hx:x<m.length:=by
   have:=(JV.mp e).1;rwa [NL]at this
  rw[OV hx]at e;rw[<-EJ (EJ e)];exact OV (h.1▸hx)
 ·rw[TA q]at e⊢;exact h.2 i u e
theorem LR.none(h:LR C m m'):LR C (m.map λ J=>DP) (m'.map λ J=>DP):=by
 refine⟨by rw[LM,LM];exact h.1,λ i u e=> ?_⟩;rw[SZ]at e;cases q:m[i]? <;>rw[q]at e<;>cases e
theorem aBZ(h:LR C m m'){x:DL}:Fo (sh C) (ZN m x) (ZN m' x):=λ v e=>ob e λ y e1 e2=>by
 unfold ZN;rw[h.2 x v (e1.trans (DX DK e2))];rfl
theorem Zw(E:Em C τ U){v:V}:Fo (s1 C) (SN τ v) (SN U (sh C v)):=λ s e=>FH e (λ e=>om (P:=λ s=>SN U (sh C v)=DK (s1 C s)) e λ J e=>MB e▸rfl) λ e=>FH e (λ e=>om (P:=λ s=>SN U (sh C v)=DK (s1 C s)) e λ J e=>OI e▸rfl) λ e=>ob e λ i e1 e=>om (P:=λ s=>SN U (sh C v)=DK (s1 C s)) e λ l e=>by
 rw[IX e1];show((U[C.ρ i]?).bind oL).map (λ J=>JO.cX (C.ρ i))=_;rw[Vb (λ J J=>Pk) E l e];rfl
theorem Uz(E:Em C τ U){s:JO}{k:DL}:Fo (NN (sh C)) (PB τ s k) (PB U (s1 C s) k):=match s with
 |.dX B=>.some (Kj B k)|.cX _=>(Vb (λ J J=>Pk) E).map λ B=>Kj B k
theorem akP(E:Em C τ U){s:HP}{k:DL}:Fo (NN (sh C)) (MN τ s k) (MN U (sS C s) k):=match s with
 |.bN _=>Uz E|.zip _ _=>(Uz E).bind λ x J=>(Uz E).map λ y=>by cases x<;>cases y<;>rfl
 |.dT _=>(Uz E).map λ x=>by cases x<;>rfl
theorem Wu{x y:M (Fl×Lv)}{K K':Lv->M (Fl×Lv)}(h:Sm C (FR C) x y)(k:∀a b,LR C a b->Sm C (FR C) (K a) (K' b)):Sm C (FR C) (M.bind x (LJ K)) (M.bind y (LJ K')):=h.bind λ a b q=>by
 cases q with
 |nx q=>exact k _ _ q|rt q=>exact .pure (.rt q)
section
variable {f g:V->Lv->M (Fl×Lv)}(G_:∀v a b,LR C a b->Sm C (FR C) (f v a) (g (sh C v) b))
include G_
theorem acA:∀(B:DM V) (a b:Lv),LR C a b->Sm C (FR C) (Df f B a) (Df g (EH C B) b)
 |[],_,_,q=>.pure (.nx q)|v::B,a,b,q=>Wu (G_ v a b q) (acA B)
theorem o9(s:HP)(n k:DL)(a b:Lv)(q:LR C a b):Sm C (FR C) (KZ f s n k a) (KZ g (sS C s) n k b):=by
 induction n generalizing k a b with
 |zero=>exact .none|succ n ih=>
  exact λ τ U E=>Sr.oe (f:=λ x=>oe x (.ok (.next,a) τ) λ v=>M.bind (f v a) (LJ (KZ f s n (GH k))) τ) (f':=λ x=>oe x (.ok (.next,b) U) λ v=>M.bind (g v b) (LJ (KZ g (sS C s) n (GH k))) U) (akP E) λ x J=>by
   obtain- |v:=x
   ·exact⟨_,_,rfl,.nx q,E⟩
   ·exact Wu (G_ v a b q) (ih (GH k)) τ U E
theorem aaH(s:HP)(a b:Lv)(q:LR C a b):Sm C (FR C) (WC f s a) (WC g (sS C s) b):=match s with
 |.bN (.dX B)=>acA G_ B a b q|.bN (.cX i)=>o9 G_ (.bN (.cX i)) 1000 0 a b q|.zip x y=>o9 G_ (.zip x y) 1000 0 a b q|.dT x=>o9 G_ (.dT x) 1000 0 a b q
end
theorem xu{r:α->β->Prop}{x:M α}{y:M β}(h:Sm C r x y):Sm C r (ZK x) (ZK y):=λ τ U E=>by
 have:=h τ U E;unfold ZK;cases q:x τ with
 |ok a dY=>
  rw[q]at this;obtain⟨b,G,e,z⟩:=this;rw[e];exact⟨b,G,rfl,z⟩
 |cD=>trivial|bL=>trivial
theorem acT{c d:Lv->M DU}{f g:Lv->M (Fl×Lv)}(Hc:∀a b,LR C a b->Sm C (LA id) (c a) (d b))(G_:∀a b,LR C a b->Sm C (FR C) (f a) (g b)):∀(n:DL) (a b:Lv),LR C a b->Sm C (FR C) (Gm c f n a) (Gm d g n b)
 |0,_,_,_=>.none|n+1,a,b,q=>(Hc a b q).fb λ J=>.cQ (Wu (G_ a b q) (acT Hc G_ n)) (.pure (.nx q))
mutual
noncomputable def IC:V->DU
 |.aR B=>MH B|.aX B=>MH B|.bZ _ B=>MH B|.obj _ _ B=>MH B|.ref _=>DT|.dW _ _=>DT|.bD _ _=>DT|.none=>DN|.bool _=>DN|.int _=>DN|.str _=>DN|.fn _=>DN|.cls _=>DN
noncomputable def MH:DM V->DU
 |[]=>DN|v::B=>IC v&&MH B
end
section
variable {P:V->Prop}{Q:DM V->Prop}(g0:P .none)(h1:∀b,P (.bool b))(h2:∀i,P (.int i))(h3:∀t,P (.str t))(h4:∀B,Q B->P (.aR B))(h5:∀B,Q B->P (.aX B))(h6:∀ks B,Q B->P (.bZ ks B))(h7:∀c ks B,Q B->P (.obj c ks B))(h8:∀a,P (.fn a))(h9:∀a,P (.cls a))(ha:Q [])(hb:∀v B,P v->Q B->Q (v::B))
include g0 h1 h2 h3 h4 h5 h6 h7 h8 h9 ha hb
theorem xz(v:V):IC v=DN->P v:=
 V.rec (motive_1:=λ v=>IC v=DN->P v) (motive_2:=λ B=>MH B=DN->Q B) (λ J=>g0) (λ b J=>h1 b) (λ i J=>h2 i) (λ t J=>h3 t) (λ B q e=>h4 B (q e)) (λ B q e=>h5 B (q e)) (λ ks B J q e=>h6 ks B (q e)) (λ c ks B q e=>h7 c ks B (q e)) (λ J e=>FB e) (λ a J=>h8 a) (λ a J=>h9 a) (λ J J e=>FB e) (λ J J J e=>FB e)
  (λ J=>ha) (λ v B p q e=>hb v B (p (DO e).1) (q (DO e).2)) v
theorem yb:∀B,MH B=DN->Q B
 |[],_=>ha|v::B,e=>hb v B (xz g0 h1 h2 h3 h4 h5 h6 h7 h8 h9 ha hb v (DO e).1) (yb B (DO e).2)
end
theorem Pj(B:DM V):MH B=DN->EH C B=B:=yb (P:=λ v=>sh C v=v) (Q:=λ B=>EH C B=B) rfl (λ J=>rfl) (λ J=>rfl) (λ J=>rfl) (λ J q=>DX V.aR q) (λ J q=>DX V.aX q) (λ ks J q=>DX (V.bZ ks) q) (λ c ks J q=>DX (V.obj c ks) q) (λ J=>rfl) (λ J=>rfl) rfl (λ J J p q=>YW p q) B
theorem LV(v:V):IC v=DN->sh C v=v:=xz (P:=λ v=>sh C v=v) (Q:=λ B=>EH C B=B) rfl (λ J=>rfl) (λ J=>rfl) (λ J=>rfl) (λ J q=>DX V.aR q) (λ J q=>DX V.aX q) (λ ks J q=>DX (V.bZ ks) q) (λ c ks J q=>DX (V.obj c ks) q) (λ J=>rfl) (λ J=>rfl) rfl (λ J J p q=>YW p q) v
mutual
noncomputable def nE:E->DU
 |.loc _=>DN|.bJ _=>DN|.k v=>IC v|.aR H=>SI H|.aX H=>SI H|.fE=>DN|.kA a b=>nE a&&nE b|.aU e _=>nE e|.sub e i=>nE e&&nE i|.jI e _=>nE e|.jB e=>nE e|.bV _ a b=>nE a&&nE b|.aW _ a b=>nE a&&nE b|.or a b=>nE a&&nE b|.and a b=>nE a&&nE b|.not a=>nE a|.cH c a b=>nE c&&(nE a&&nE b)|.call f H=>nE f&&SI H|.bi _ H=>SI H|.bK e _ H=>nE e&&SI H|.comp e x it ifs=>nE e&&(nT x&&(Yl it&&SI ifs))|.iG a b x it=>nE a&&(nE b&&(nT x&&Yl it))|.bL=>DN
noncomputable def SI:Es->DU
 |.nil=>DN|.cons e H=>nE e&&SI H
noncomputable def Yl:It->DU
 |.seq e=>nE e|.zip H=>SI H|.dT H=>SI H|.range H=>SI H|.gO H=>SI H
noncomputable def nT:T->DU
 |.loc _=>DN|.aR ts=>N! ts|.aU e _=>nE e|.sub e i=>nE e&&nE i
noncomputable def N! :Ts->DU
 |.nil=>DN|.cons t ts=>nT t&&N! ts
end
mutual
noncomputable def xk:S->DU
 |.aV t e=>nT t&&nE e|.ex e=>nE e|.ret e=>nE e|.bH c a b=>nE c&&(OP a&&OP b)|.for t it b=>nT t&&(Yl it&&OP b)|.jJ c b=>nE c&&OP b|.raise H=>SI H|.try b _ h=>OP b&&OP h|.bL=>DN
noncomputable def OP:Ss->DU
 |.nil=>DN|.cons s ss=>xk s&&OP ss
end
theorem aa0:∀(a n:DL),EH C (ZM a n)=ZM a n
 |_,0=>rfl|a,n+1=>YW rfl (aa0 (GH a) n)
theorem aA8(v:V){r r':R V}(h:Sr C (vr C) r r'):Sr C (vr C) (Co v r) (Co (sh C v) r'):=match r,h with
 |.ok u _,⟨_,_,e,q,E⟩=>e▸Sr.o2 (.og (λ h=>by rw[q,Bz h];rfl) (.ok E rfl))|.cD _ _,_=>trivial|.bL,_=>trivial
section
variable (C)(D:Tb)(hk:Hk)(oa o:JM)
def FX(e:E):Prop:=∀m m',nE e=DN->LR C m m'->Sm C (vr C) (EX (HF D hk) oa e m).1 (EX (EE D) o e m').1/\Sm C (LA id) (EX (HF D hk) oa e m).2 (EX (EE D) o e m').2
def OG(H:Es):Prop:=∀m m',SI H=DN->LR C m m'->Sm C (LA (EH C)) (HL (HF D hk) oa H m).1 (HL (EE D) o H m').1/\Sm C (LA id) (HL (HF D hk) oa H m).2 (HL (EE D) o H m').2
def TM(it:It):Prop:=∀m m',Yl it=DN->LR C m m'->Sm C (LA (sS C)) (NU (HF D hk) oa it m) (NU (EE D) o it m')
def TN(t:T):Prop:=∀v m m',nT t=DN->LR C m m'->Sm C (LR C) (IY (HF D hk) oa t v m) (IY (EE D) o t (sh C v) m')
def Ao(ts:Ts):Prop:=∀B m m',N! ts=DN->LR C m m'->Sm C (LR C) (MY (HF D hk) oa ts B m) (MY (EE D) o ts (EH C B) m')
def Td(s:S):Prop:=∀m m',xk s=DN->LR C m m'->Sm C (FR C) (JE (HF D hk) oa s m) (JE (EE D) o s m')
def Mm(s:Ss):Prop:=∀m m',OP s=DN->LR C m m'->Sm C (FR C) (FC (HF D hk) oa s m) (FC (EE D) o s m')
end
section
variable {D:Tb}{hk:Hk}(O:FP C)(Tk:QN D)(G_:KN C D hk)(OO:∀f args,Sm C (vr C) (oa f args) (o f (EH C args)))
include O Tk OO
theorem avX(c:DL)(B:DM V):Sm C (vr C) (Xz D oa c B) (Xz D o c (EH C B)):=λ τ U E=>Sr.oe (f:=λ f=>Co (.ref τ.length) (oa f (.ref τ.length::B) (τ++[.inst c [] []]))) (f':=λ f=>Co (.ref U.length) (o f (.ref U.length::EH C B) (U++[.inst c [] []]))) (.refl (D.init c)) λ f hi=>by
 have:=aA8 (.ref τ.length) (OO f (.ref τ.length::B) _ _ (E.alloc O (o:=.inst c [] []) (Pi (Tk.init c f hi))));rw[show sh C (.ref τ.length)=.ref U.length from DX V.ref E.lB,show EH C (.ref τ.length::B)=.ref U.length::EH C B from YW (DX V.ref E.lB) rfl]at this;exact this
theorem Vo(g:V)(B:DM V):Sm C (vr C) (WY D oa g B) (WY D o (sh C g) (EH C B)):=by
 apply @V.casesOn (λ g=>Sm C (vr C) (WY D oa g B) (WY D o (sh C g) (EH C B))) g<;>intros<;>first|exact Sm.none|skip
 ·exact OO _ B
 ·exact avX O Tk OO _ B
 ·exact OO _ (.ref _::B)
include G_
theorem Yc(x:V)(a:DL){H:M (DM V)}{dZ:M (DM V)}(h:Sm C (LA (EH C)) H dZ):Sm C (vr C) (K? (HF D hk) oa x a H) (K? (EE D) o (sh C x) a dZ):=λ τ U E=>by
 show Sr C (vr C) (oe (Ye D hk τ x a) (oe (Vf hk τ x a) .bL λ b=>M.bind H (λ B=>M.st (U5 hk b x B)) τ) λ f=>M.bind H (λ B=>oa f (x::B)) τ) (oe (KA D U (sh C x) a) (oe (iP U (sh C x) a) .bL λ b=>M.bind dZ (λ B=>M.st (gK b (sh C x) B)) U) λ f=>M.bind dZ (λ B=>o f (sh C x::B)) U);cases e:Ye D hk τ x a with
 |some f=>
  rw[aw6 Tk G_ E f e];exact h.fb (λ B=>OO f (x::B)) τ U E
 |none=>cases e2:Vf hk τ x a with
  |none=>trivial|some b=>
   rw[(jt (D:=D) G_ E e2).1,(jt (D:=D) G_ E e2).2];exact h.fb (λ B=>.st λ J J E=>alC G_ O E b x B) τ U E
omit Tk OO G_ in
theorem zu(d k v:V):Sm C (LA id) (Kb d k v) (Kb (sh C d) (sh C k) (sh C v)):=.st λ J J E=>.bind WU λ J J=>aaW O E d k v
omit Tk OO G_ in
theorem ml{ob:aH}(n:gB ob=DN){s s':M HP}{m m':Lv}{f f':V->V->Lv->M (Fl×Lv)}(h:Sm C (LA (sS C)) s s')(q:LR C m m')(k:∀d v a b,LR C a b->Sm C (FR C) (f d v a) (f' (sh C d) (sh C v) b)):Sm C (vr C) (Vv ob s m f) (Vv (JJ C ob) s' m' f'):=
 h.fb λ s=>.alloc O n λ d=>(xu (aaH (k d) s m m' q)).bind λ a b q=>by
  cases q with
  |nx=>exact .pure rfl|rt=>exact .none
omit OO
omit O in
theorem F6(e:E)(a:DL)(i:(FX C D hk oa o) e):(FX C D hk oa o) (.aU e a):=λ m m' n q=>KX ((i m m' n q).1.fb λ J=>.rd λ J J E=>akS Tk G_ E)
omit Tk G_ O in
theorem H0(x:DL):(FX C D hk oa o) (.loc x):=λ J J J q=>KX (.eH (aBZ q))
omit O G_ in
theorem G7(g:DL):(FX C D hk oa o) (.bJ g):=λ J J J J=>KX (.eH λ v e=>e.trans (DX DK (Tk.glob _ _ e C).symm))
omit Tk G_ O in
theorem G9(v:V):(FX C D hk oa o) (.k v):=λ J J n J=>KX (.pure (LV v n).symm)
omit Tk G_ O in
theorem J3(H:Es)(i:(OG C D hk oa o) H):(FX C D hk oa o) (.aR H):=λ m m' n q=>KX ((i m m' n q).1.fb λ J=>.st λ J J E=>.og PZ (.ok E rfl))
omit Tk G_ in
theorem H1(H:Es)(i:(OG C D hk oa o) H):(FX C D hk oa o) (.aX H):=λ m m' n q=>KX ((i m m' n q).1.fb λ J=>.st λ J J E=>.og PZ (.new O E rfl rfl))
omit Tk G_ in
theorem G4:(FX C D hk oa o) .fE:=λ J J J J=>KX (.st λ J J E=>.new O E rfl rfl)
omit Tk G_ in
theorem G5(a b:E)(i:(FX C D hk oa o) a)(j:(FX C D hk oa o) b):(FX C D hk oa o) (.kA a b):=λ m m' n q=>KX (.alloc O rfl λ J=>(i m m' (DO n).1 q).1.fb λ J=>(j m m' (DO n).2 q).1.fb λ J=>(zu O _ _ _).fb λ J=>.pure rfl)
omit Tk O in
theorem H8(e i:E)(ie:(FX C D hk oa o) e)(ii:(FX C D hk oa o) i):(FX C D hk oa o) (.sub e i):=λ m m' n q=>KX ((ie m m' (DO n).1 q).1.fb λ J=>(ii m m' (DO n).2 q).1.fb λ J=>.rd λ J J E=>aCG G_ E)
omit Tk G_ O in
theorem J4(e:E)(k:DY)(i:(FX C D hk oa o) e):(FX C D hk oa o) (.jI e k):=λ m m' n q=>KX ((i m m' n q).1.fb λ J=>.st λ J J E=>aE3 E _ k)
omit Tk G_ in
theorem F7(e:E)(i:(FX C D hk oa o) e):(FX C D hk oa o) (.jB e):=λ m m' n q=>KX ((i m m' n q).1.fb λ J=>.st λ J J E=>akV O E _)
omit Tk G_ in
theorem F9(p:UW)(a b:E)(i:(FX C D hk oa o) a)(j:(FX C D hk oa o) b):(FX C D hk oa o) (.bV p a b):=λ m m' n q=>KX ((i m m' (DO n).1 q).1.fb λ J=>(j m m' (DO n).2 q).1.fb λ J=>.st λ J J E=>al9 O E p _ _)
omit Tk G_ O in
theorem G0(c:SV)(a b:E)(i:(FX C D hk oa o) a)(j:(FX C D hk oa o) b):(FX C D hk oa o) (.aW c a b):=λ m m' n q=>⟨(i m m' (DO n).1 q).1.fb λ J=>(j m m' (DO n).2 q).1.fb λ J=>.rd λ J J E=>(lw E).map λ J=>rfl,(i m m' (DO n).1 q).1.fb λ J=>(j m m' (DO n).2 q).1.fb λ J=>.rd λ J J E=>lw E⟩
omit Tk G_ O in
theorem H4(a b:E)(i:(FX C D hk oa o) a)(j:(FX C D hk oa o) b):(FX C D hk oa o) (.or a b):=λ m m' n q=>⟨(i m m' (DO n).1 q).1.fb λ J=>(Sm.rd λ J J E=>o5 E).fb λ J=>.cQ (.pure rfl) (j m m' (DO n).2 q).1,(i m m' (DO n).1 q).2.fb λ J=>.cQ (.pure rfl) (j m m' (DO n).2 q).2⟩
omit Tk G_ O in
theorem F5(a b:E)(i:(FX C D hk oa o) a)(j:(FX C D hk oa o) b):(FX C D hk oa o) (.and a b):=λ m m' n q=>⟨(i m m' (DO n).1 q).1.fb λ J=>(Sm.rd λ J J E=>o5 E).fb λ J=>.cQ (j m m' (DO n).2 q).1 (.pure rfl),(i m m' (DO n).1 q).2.fb λ J=>.cQ (j m m' (DO n).2 q).2 (.pure rfl)⟩
omit Tk G_ O in
theorem H3(a:E)(i:(FX C D hk oa o) a):(FX C D hk oa o) (.not a):=λ m m' n q=>⟨.none,(i m m' n q).2.fb λ J=>.pure rfl⟩
omit Tk G_ O in
theorem G8(c a b:E)(i:(FX C D hk oa o) c)(j:(FX C D hk oa o) a)(k:(FX C D hk oa o) b):(FX C D hk oa o) (.cH c a b):=λ m m' n q=>⟨(i m m' (DO n).1 q).2.fb λ J=>.cQ (j m m' (DO (DO n).2).1 q).1 (k m m' (DO (DO n).2).2 q).1,(i m m' (DO n).1 q).2.fb λ J=>.cQ (j m m' (DO (DO n).2).1 q).2 (k m m' (DO (DO n).2).2 q).2⟩
omit Tk G_ in
theorem F8(b:Bi)(H:Es)(i:(OG C D hk oa o) H):(FX C D hk oa o) (.bi b H):=λ m m' n q=>KX ((i m m' n q).1.fb λ J=>.st λ J J E=>al0 O E b _)
omit Tk G_ in
theorem G1(e:E)(x:T)(it:It)(ifs:Es)(i:(FX C D hk oa o) e)(j:(TN C D hk oa o) x)(k:(TM C D hk oa o) it)(l:(OG C D hk oa o) ifs):(FX C D hk oa o) (.comp e x it ifs):=λ m m' n q=>KX (ml (ob:=.list []) O rfl (k m m' (DO (DO (DO n).2).2).1 q) q λ J v a b q=>(j v a b (DO (DO n).2).1 q).bind λ a b q=>(l a b (DO (DO (DO n).2).2).2 q).2.fb λ J=>.cQ ((i a b (DO n).1 q).1.fb λ y=>Sm.bind (r:=vr C) (.st λ J J E=>ju O E .append _ [y]) λ J J J=>.pure (.nx q)) (.pure (.nx q)))
omit Tk G_ in
theorem G3(e f:E)(x:T)(it:It)(i:(FX C D hk oa o) e)(l:(FX C D hk oa o) f)(j:(TN C D hk oa o) x)(k:(TM C D hk oa o) it):(FX C D hk oa o) (.iG e f x it):=λ m m' n q=>KX (ml (ob:=.dict [] []) O rfl (k m m' (DO (DO (DO n).2).2).2 q) q λ J v a b q=>(j v a b (DO (DO (DO n).2).2).1 q).bind λ a b q=>(i a b (DO n).1 q).1.fb λ J=>(l a b (DO (DO n).2).1 q).1.fb λ J=>(zu O _ _ _).fb λ J=>.pure (.nx q))
omit Tk G_ O in
theorem H2:(OG C D hk oa o) .nil:=λ J J J J=>⟨.pure rfl,.pure rfl⟩
omit Tk G_ O in
theorem G2(e:E)(H:Es)(i:(FX C D hk oa o) e)(j:(OG C D hk oa o) H):(OG C D hk oa o) (.cons e H):=λ m m' n q=>⟨(i m m' (DO n).1 q).1.fb λ J=>(j m m' (DO n).2 q).1.fb λ J=>.pure rfl,(i m m' (DO n).1 q).2.fb λ J=>.cQ (j m m' (DO n).2 q).2 (.pure rfl)⟩
omit Tk G_ O in
theorem H7(e:E)(i:(FX C D hk oa o) e):(TM C D hk oa o) (.seq e):=λ m m' n q=>(i m m' n q).1.fb λ J=>.rd λ J J E=>(Zw E).map λ J=>rfl
omit Tk G_ O in
theorem J5(H:Es)(i:(OG C D hk oa o) H):(TM C D hk oa o) (.zip H):=λ m m' n q=>(i m m' n q).1.fb λ J=>.rd λ J J E=>Ky.bind λ J J=>(Zw E).bind λ J J=>(Zw E).map λ J=>rfl
omit Tk G_ O in
theorem au1{v:V}(E:Em C τ U){s:JO}(e:SN τ v=DK s)(h:(!QX v)=DN):(!QX (sh C v))=DN:=
 FH e (λ e=>om (P:=λ J=>(!QX (sh C v))=DN) e λ J e=>by rw[MB e]at h;exact EP h FJ) λ e=>FH e (λ e=>om (P:=λ J=>(!QX (sh C v))=DN) e λ J e=>OI e▸rfl) λ e=>ob e λ J e J=>IX e▸rfl
omit Tk G_ O in
theorem G6(H:Es)(i:(OG C D hk oa o) H):(TM C D hk oa o) (.dT H):=λ m m' n q=>(i m m' n q).1.fb λ J=>.rd λ J J E=>OQ.bind λ x J r e=>EO e λ h e=>om (P:=λ r=>og (!QX (sh C x)) ((SN _ (sh C x)).map .dT)=DK (sS C r)) e λ s e=>by
 rw[au1 E e h,Zw E s e];rfl
omit Tk G_ O in
theorem H5(H:Es)(i:(OG C D hk oa o) H):(TM C D hk oa o) (.range H):=λ m m' n q=>(i m m' n q).1.fb λ J=>.eH (OQ.bind λ J J=>OH.bind λ J J=>(Fo.refl (VG _)).bind λ k J=>.og id (.some (DX (λ l=>HP.bN (.dX l)) (aa0 0 k).symm)))
omit Tk G_ O in
theorem H6(H:Es)(i:(OG C D hk oa o) H):(TM C D hk oa o) (.gO H):=λ m m' n q=>(i m m' n q).1.fb λ J=>.eH (OQ.bind λ J J=>PA.bind λ u J=>.og PZ (.some (DX (λ l=>HP.bN (.dX l)) (f6 u).symm)))
end
end
section
variable {D:Tb}{hk:Hk}(O:FP C)(Tk:QN D)(G_:KN C D hk)(OO:∀f args,Sm C (vr C) (oa f args) (o f (EH C args)))
theorem I9(x:DL):(TN C D hk oa o) (.loc x):=λ v J J J q=>.pure (q.set x v)
theorem J2(ts:Ts)(i:(Ao C D hk oa o) ts):(TN C D hk oa o) (.aR ts):=λ v m m' n q=>(Sm.eH PA).fb λ B=>by
 have:Sm C (LR C) (cQ (EG (LL ts) B.length) (MY (HF D hk) oa ts B m) M.none) (cQ (EG (LL ts) B.length) (MY (EE D) o ts (EH C B) m') M.none):=.cQ (i B m m' n q) .none;rw[<-eX (C:=C) B]at this;rw[eX]at this⊢;exact this
theorem J0:(Ao C D hk oa o) .nil:=λ B m m' J q=>by
 cases B with
 |nil=>exact .pure q|cons=>exact .none
theorem I8(t:T)(ts:Ts)(i:(TN C D hk oa o) t)(j:(Ao C D hk oa o) ts):(Ao C D hk oa o) (.cons t ts):=λ B m m' n q=>by
 cases B with
 |nil=>exact .none|cons v B=>exact(i v m m' (DO n).1 q).bind λ a b q=>j B a b (DO n).2 q
include O
theorem H9(Tk:QN D)(e:E)(a:DL)(i:(FX C D hk oa o) e):(TN C D hk oa o) (.aU e a):=λ v m m' n q=>(i m m' n q).1.fb λ J=>Sm.bind (r:=LA id) (.st λ J J E=>aBI Tk O E _ a v) λ J J J=>.pure q
theorem J1(e d:E)(i:(FX C D hk oa o) e)(j:(FX C D hk oa o) d):(TN C D hk oa o) (.sub e d):=λ v m m' n q=>(i m m' (DO n).1 q).1.fb λ J=>(j m m' (DO n).2 q).1.fb λ J=>Sm.bind (r:=LA id) (.st λ J J E=>aBJ O E _ _ v) λ J J J=>.pure q
include Tk G_ OO
theorem yE(e:aA):(FX C D hk oa o) e:=aA.rec (motive_1:=(FX C D hk oa o)) (motive_2:=(OG C D hk oa o)) (motive_3:=(TM C D hk oa o)) (motive_4:=(TN C D hk oa o)) (motive_5:=(Ao C D hk oa o)) H0 (G7 Tk) G9 J3 (H1 O) (G4 O) (G5 O) (F6 Tk G_) (H8 G_) J4 (F7 O) (F9 O) G0 H4 F5 H3 G8 (λ f H i j m m' n q=>KX ((i m m' (DO n).1 q).1.fb λ J=>(j m m' (DO n).2 q).1.fb λ J=>Vo O Tk OO _ _)) (F8 O) (λ e a H i j m m' n q=>KX ((i m m' (DO n).1 q).1.fb λ x=>Yc O Tk G_ OO x a (j m m' (DO n).2 q).1)) (λ e x it ifs i j k l=>G1 O e x it ifs i j k l) (λ e f x it i l j k=>G3 O e f x it i l j k) (λ J J J J=>⟨.none,.none⟩) H2 G2 H7 J5 G6 H5 H6 I9 J2 (H9 O Tk) (J1 O) J0 I8 e
theorem yEs(e:aE):(OG C D hk oa o) e:=aE.rec (motive_1:=(FX C D hk oa o)) (motive_2:=(OG C D hk oa o)) (motive_3:=(TM C D hk oa o)) (motive_4:=(TN C D hk oa o)) (motive_5:=(Ao C D hk oa o)) H0 (G7 Tk) G9 J3 (H1 O) (G4 O) (G5 O) (F6 Tk G_) (H8 G_) J4 (F7 O) (F9 O) G0 H4 F5 H3 G8 (λ f H i j m m' n q=>KX ((i m m' (DO n).1 q).1.fb λ J=>(j m m' (DO n).2 q).1.fb λ J=>Vo O Tk OO _ _)) (F8 O) (λ e a H i j m m' n q=>KX ((i m m' (DO n).1 q).1.fb λ x=>Yc O Tk G_ OO x a (j m m' (DO n).2 q).1)) (λ e x it ifs i j k l=>G1 O e x it ifs i j k l) (λ e f x it i l j k=>G3 O e f x it i l j k) (λ J J J J=>⟨.none,.none⟩) H2 G2 H7 J5 G6 H5 H6 I9 J2 (H9 O Tk) (J1 O) J0 I8 e
theorem yI(e:aF):(TM C D hk oa o) e:=aF.rec (motive_1:=(FX C D hk oa o)) (motive_2:=(OG C D hk oa o)) (motive_3:=(TM C D hk oa o)) (motive_4:=(TN C D hk oa o)) (motive_5:=(Ao C D hk oa o)) H0 (G7 Tk) G9 J3 (H1 O) (G4 O) (G5 O) (F6 Tk G_) (H8 G_) J4 (F7 O) (F9 O) G0 H4 F5 H3 G8 (λ f H i j m m' n q=>KX ((i m m' (DO n).1 q).1.fb λ J=>(j m m' (DO n).2 q).1.fb λ J=>Vo O Tk OO _ _)) (F8 O) (λ e a H i j m m' n q=>KX ((i m m' (DO n).1 q).1.fb λ x=>Yc O Tk G_ OO x a (j m m' (DO n).2 q).1)) (λ e x it ifs i j k l=>G1 O e x it ifs i j k l) (λ e f x it i l j k=>G3 O e f x it i l j k) (λ J J J J=>⟨.none,.none⟩) H2 G2 H7 J5 G6 H5 H6 I9 J2 (H9 O Tk) (J1 O) J0 I8 e
theorem yT(e:aG):(TN C D hk oa o) e:=aG.rec (motive_1:=(FX C D hk oa o)) (motive_2:=(OG C D hk oa o)) (motive_3:=(TM C D hk oa o)) (motive_4:=(TN C D hk oa o)) (motive_5:=(Ao C D hk oa o)) H0 (G7 Tk) G9 J3 (H1 O) (G4 O) (G5 O) (F6 Tk G_) (H8 G_) J4 (F7 O) (F9 O) G0 H4 F5 H3 G8 (λ f H i j m m' n q=>KX ((i m m' (DO n).1 q).1.fb λ J=>(j m m' (DO n).2 q).1.fb λ J=>Vo O Tk OO _ _)) (F8 O) (λ e a H i j m m' n q=>KX ((i m m' (DO n).1 q).1.fb λ x=>Yc O Tk G_ OO x a (j m m' (DO n).2 q).1)) (λ e x it ifs i j k l=>G1 O e x it ifs i j k l) (λ e f x it i l j k=>G3 O e f x it i l j k) (λ J J J J=>⟨.none,.none⟩) H2 G2 H7 J5 G6 H5 H6 I9 J2 (H9 O Tk) (J1 O) J0 I8 e
omit O Tk G_ OO in
theorem azS(B:DM V):Sm C (FR C) (Zf B) (Zf (EH C B)):=λ τ U E=>.oe Ky λ J J=>.oe WU λ J J=>.oe OH λ J J=>⟨_,rfl,E⟩
omit O Tk G_ OO in
theorem aD8{h h':Lv->M (Fl×Lv)}(G_:∀a b,LR C a b->Sm C (FR C) (h a) (h' b))(x:DL){m m':Lv}(q:LR C m m'){r r':R (Fl×Lv)}(k:Sr C (FR C) r r'):Sr C (FR C) (Kt x h m r) (Kt x h' m' r'):=match r,k with
 |.ok _ _,⟨_,_,e,z⟩=>e▸⟨_,_,rfl,z⟩|.cD v _,⟨_,e,E⟩=>e▸(G_ _ _ (q.set x v)).bind (λ J J q=>by
   cases q with
   |nx q=>exact .pure (.nx q.none)|rt q=>exact .pure (.rt q.none)) _ _ E
 |.bL,_=>trivial
theorem adC(t:T)(e:aA):(Td C D hk oa o) (.aV t e):=λ m m' n q=>(yE O Tk G_ OO e m m' (DO n).2 q).1.fb λ v=>(yT O Tk G_ OO t v m m' (DO n).1 q).bind λ J J q=>.pure (.nx q)
theorem aF8(t:T)(it:It)(b:Ss)(i:(Mm C D hk oa o) b):(Td C D hk oa o) (.for t it b):=λ m m' n q=>(yI O Tk G_ OO it m m' (DO (DO n).2).1 q).fb λ s=>aaH (λ v a b q=>(yT O Tk G_ OO t v a b (DO n).1 q).bind λ a b q=>i a b (DO (DO n).2).2 q) s m m' q
theorem aF9(b:Ss)(x:DL)(h:Ss)(i:(Mm C D hk oa o) b)(j:(Mm C D hk oa o) h):(Td C D hk oa o) (.try b x h):=λ m m' n q τ U E=>aD8 (λ J J q=>j _ _ (DO n).2 q) x q (i m m' (DO n).1 q τ U E)
theorem ySs(s:Ss):(Mm C D hk oa o) s:=Internal.Ss.rec (motive_1:=(Td C D hk oa o)) (motive_2:=(Mm C D hk oa o)) (adC O Tk G_ OO) (λ e m m' n q=>(yE O Tk G_ OO e m m' n q).1.fb λ J=>.pure (.nx q)) (λ e m m' n q=>(yE O Tk G_ OO e m m' n q).1.fb λ J=>.pure (.rt q)) (λ c a b i j m m' n q=>(yE O Tk G_ OO c m m' (DO n).1 q).2.fb λ J=>.cQ (i m m' (DO (DO n).2).1 q) (j m m' (DO (DO n).2).2 q)) (λ t it b=>aF8 O Tk G_ OO t it b) (λ c b i m m' n q=>xu (acT (λ a b q=>(yE O Tk G_ OO c a b (DO n).1 q).2) (λ a b q=>i a b (DO n).2 q) 1000 m m' q)) (λ H m m' n q=>(yEs O Tk G_ OO H m m' n q).1.fb λ J=>azS _) (aF9 O Tk G_ OO) (λ J J J J=>.none) (λ J J J q=>.pure (.nx q)) (λ s ss i j m m' n q=>Wu (i m m' (DO n).1 q) λ a b q=>j a b (DO n).2 q) s
end
section
variable {D:Tb}{hk:Hk}{α β:Type}
theorem Jm{f:α->DQ β}{l:DM α}{r:DM β}(h:GA f l=DK r):r.length=l.length/\∀(j:DL) x,l[j]? =DK x->∃y,f x=DK y/\r[j]? =DK y:=
 ⟨(Yb h).1,λ j x e=>let⟨y,a,b⟩:=(Yb h).2 j x e;⟨y,b,a⟩⟩
theorem ww{f:α->DQ β}{l:DM α}(h:∀x∈l,∃y,f x=DK y):∃r,GA f l=DK r:=by
 induction l with
 |nil=>exact⟨[],rfl⟩|cons a l ih=>
  obtain⟨y,hy⟩:=h _ (.head _);obtain⟨r,hr⟩:=ih λ x m=>h x (.tail _ m);refine⟨y::r,?_⟩;show(f a).bind (λ b=>(GA f l).map (b::·))=_;rw[hy,hr];rfl
theorem aw0{f:α->DQ β}{l:DM α}{r:DM β}(h:GA f l=DK r):∀y∈r,∃x,f x=DK y:=by
 induction l generalizing r with
 |nil=>exact EJ h▸λ J m=>EP m KG
 |cons a l ih=>
  exact ob h λ b e1 h=>om (P:=λ r=>∀y∈r,∃x,f x=DK y) h λ r e2=>NJ.mpr ⟨⟨a,e1⟩,ih e2⟩
theorem ZG{f:V->DQ V}{B:DM V}(h:∀v∈B,f v=DK v):GA f B=DK B:=by
 induction B with
 |nil=>rfl|cons v B ih=>
  show(f v).bind (λ b=>(GA f B).map (b::·))=_;rw[h v (.head _),ih λ v m=>h v (.tail _ m)];rfl
theorem avZ{f:V->DQ V}{a b x y:DM V}(h1:GA f a=DK x)(h2:GA f b=DK y):GA f (a++b)=DK (x++y):=by
 induction a generalizing x with
 |nil=>exact EJ h1▸h2|cons v a ih=>
  refine ob h1 λ z e1 h1=>om (P:=λ x=>GA f (v::a++b)=DK (x++y)) h1 λ x e2=> ?_;show(f v).bind (λ b'=>(GA f (a++b)).map (b'::·))=_;rw[e1,ih e2];rfl
section
variable {f g:V->DQ V}(G_:∀v,Fo (sh C) (f v) (g (sh C v)))
include G_
theorem ZH:∀B:DM V,Fo (EH C) (GA f B) (GA g (EH C B))
 |[]=>.some rfl|v::B=>(G_ v).bind λ J J=>(ZH B).map λ J=>rfl
theorem j_(o:aH):Fo (JJ C) (LU f o) (LU g (JJ C o)):=match o with
 |.list B=>(ZH G_ B).map λ J=>rfl
 |.dict _ B=>.og id ((ZH G_ B).map λ J=>rfl)|.inst _ _ B=>(ZH G_ B).map λ J=>rfl
end
theorem se{f:V->DQ V}{o o':aH}(h:LU f o=DK o'):gB o'=gB o:=match o,h with
 |.list _,h=>om (P:=λ o'=>gB o'=DN) h λ J J=>rfl
 |.dict _ _,h=>EO h λ J h=>om (P:=λ o'=>gB o'=DN) h λ J J=>rfl
 |.inst c ks B,h=>om (P:=λ o'=>gB o'= !(Ga c)) h λ J J=>rfl
theorem sd{N0:DL}{g:V->DQ V}(Hg:∀v,NI N0 v->g v=DK v){o:aH}(h:gG N0 o):LU g o=DK o:=by
 have m:=ZG λ v m=>Hg v (h.g v m);cases o with
 |list B=>exact DX (·.map aH.list) m|dict ks B=>
  show og (JF ks) ((GA g B).map (aH.dict ks))=_;rw[show JF ks=DN from h.h];exact DX (·.map (aH.dict ks)) m
 |inst c ks B=>exact DX (·.map (aH.inst c ks)) m
theorem az9(O:FP C)(i:DL)(keep:DM DL):UL (C.ρ i) (keep.map C.ρ)=UL i keep:=by
 induction keep with
 |nil=>rfl|cons j r ih=>
  show(match EG (C.ρ i) (C.ρ j)with|true=>DK 0|false=>(UL (C.ρ i) (r.map C.ρ)).map GH)=(match EG i j with|true=>DK 0|false=>(UL i r).map GH);cases q:EG i j with
  |true=>rw[GV q,RQ]|false=>rw[jo O q,ih]
structure Nn(C:Cf)(n N:DL):Prop where
 lt:∀i,i<n↔C.ρ i<N
 al:∀j,C.ρ (n+j)=N+j
 le:C.N0<=N
theorem Em.nn(E:Em C τ U):Nn C τ.length U.length:=⟨λ J=>E.lt,E.al,E.le⟩
theorem jy{a b:DU}(h:a=DN↔b=DN):b=a:=by cases a<;>cases b<;>first|rfl|exact EP (h.mp rfl) FJ|exact EP (h.mpr rfl) FJ
theorem Nn.blt(X:Nn C n N)(i:DL):HC (C.ρ i) N=HC i n:=jy ⟨λ h=>MS.mpr ((X.lt i).mp (GO h)),λ h=>MS.mpr ((X.lt i).mpr (GO h))⟩
theorem apO(O:FP C)(E:Em C τ U){n N:DL}(X:Nn C n N){keep:DM DL}{f g:V->DQ V}(G_:∀v,Fo (sh C) (f v) (g (sh C v)))(i:DL):Fo (sh C) (QT (HF D hk) τ n keep f i) (QT (EE D) U N (keep.map C.ρ) g (C.ρ i)):=λ v h=>by
 unfold QT at h⊢;rw[X.blt,az9 O];cases q:HC i n with
 |true=>rw[q]at h;exact EJ h▸rfl|false=>
  rw[q]at h;refine KD h (λ z h=> ?_) λ j z h=> ?_
  ·rw[z];refine ob h λ o e h=>EO h λ nm h=>om (P:=λ v=>(match DT with|true=>DK (V.ref (C.ρ i))|false=>oe DP ((U[C.ρ i]?).bind λ o=>og DN ((LU g o).map Ec)) λ j=>DK (.ref (N+j)))=DK (sh C v)) h λ o' e2=> ?_;show(U[C.ρ i]?).bind (λ o=>og DN ((LU g o).map Ec))=_;rw[E.dN e nm];show(LU g (JJ C o)).map Ec=_;rw[j_ G_ o o' e2];exact DX DK (by cases o'<;>rfl)
  ·rw[z,<-EJ h];exact DX (λ k=>DK (V.ref k)) (X.al j).symm
theorem apP(O:FP C)(E:Em C τ U){n N:DL}(X:Nn C n N){keep:DM DL}(f:DL):∀v:V,Fo (sh C) (eA (HF D hk) τ n keep f v) (eA (EE D) U N (keep.map C.ρ) f (sh C v)):=by
 induction f with
 |zero=>exact λ J J h=>EW h
 |succ f ih=>
  intro v;apply @V.casesOn (λ v=>Fo (sh C) (eA (HF D hk) τ n keep (f+1) v) (eA (EE D) U N (keep.map C.ρ) (f+1) (sh C v))) v
  ·exact .some rfl
  ·exact λ J=>.some rfl
  ·exact λ J=>.some rfl
  ·exact λ J=>.some rfl
  ·exact λ B=>(ZH ih B).map λ J=>rfl
  ·exact λ B=>(ZH ih B).map λ J=>rfl
  ·exact λ J B=>.og id ((ZH ih B).map λ J=>rfl)
  ·exact λ J J B=>(ZH ih B).map λ J=>rfl
  ·exact λ i=>apO O E X ih i
  ·exact λ J=>.some rfl
  ·exact λ J=>.some rfl
  ·exact λ a i=>.og (λ h=>(X.blt i).trans h) (.some rfl)
  ·exact λ k v w h=>EO h λ q h=>EJ h▸O.bx k D U N (keep.map C.ρ) (f+1) X.le (P9 (GO q))
theorem nz{f:V->DQ V}{K:DM V}{t:Tx}{r:V}(h:GA f W=DK W')(e:HY K W (.str t)=DK (DK r))(g:f r=DK r'):HY K W' (.str t)=DK (DK r'):=by
 rw[W7]at e⊢;refine EO e λ q1 e=>EO e λ q2 e=>KD e (λ J e=>(by cases e)) λ n q3 e=>om (P:=λ x=>x=DK r->VO K W' t=DK (DK r')) e (λ v e4 z=> ?_) rfl;obtain⟨y,e5,e6⟩:=(Jm h).2 _ _ e4;rw[EJ z,g]at e5;unfold VO;rw[q1,q2,q3];show(W'[n]?).map DK=_;rw[e6,<-e5];rfl
theorem anK{f:V->DQ V}{K:DM V}{t:Tx}(e:HY K W (.str t)=DK DP):HY K W' (.str t)=DK DP:=by
 rw[W7]at e⊢;refine EO e λ q1 e=>EO e λ q2 e=> ?_;unfold VO;rw[q1,q2];exact KD e (λ q e=>by rw[q];rfl) λ n q3 e=>om (P:=λ x=>x=DP->_) e (λ v e4 z=>Ch z) rfl
theorem aC1{c:DL}{ws K rZ:DM V}{f g:V->DQ V}(O:FP C)(G_:∀v,Fo (sh C) (f v) (g (sh C v)))(Hg:∀v,NI C.N0 v->g v=DK v)(s:Ml C i c ab ks ws K W)(h:GA f ws=DK rZ)(h':GA g W=DK W'):Ml C i c ab ks rZ K W':=by
 have bW:=Jm h;have inv':=Jm h';have g0:∀x,NI 0 x->g x=DK x:=λ x z=>Hg x λ D τ n k f J hf=>z D τ n k f (GI _) hf;refine⟨s.str,s.bQ.trans inv'.1.symm,s.le,λ y m=> ?_,λ t m=> ?_,λ r t y hi hy=> ?_,s.kl.trans bW.1.symm,s.abs,s.tY⟩
 ·obtain⟨r,hr⟩:=YK m;have rl:r<W.length:=inv'.1▸(JV.mp hr).1;obtain⟨y',e3,e4⟩:=inv'.2 r _ (JU rl);cases(EJ (hr.symm.trans e4):y=y');refine(s.gd _ (av rl)).elim (λ z=>.inl (EJ (e3.symm.trans (g0 _ z))▸z)) λ ⟨v,mv,z⟩=>.inr ?_;obtain⟨r',tT⟩:=YK mv;obtain⟨y2,e5,e6⟩:=bW.2 r' v tT;exact⟨y2,JK e6,EJ (e3.symm.trans (z▸G_ v y2 e5))⟩
 ·have n:=s.no t m;cases kv:C.kn i t with
  |some v=>rw[kv]at n;exact nz h' n (Hg _ (O.kn i t v kv))|none=>rw[kv]at n;exact anK (f:=g) n
 ·have vl:r<ws.length:=bW.1▸(JV.mp hy).1;obtain⟨y',e3,e4⟩:=bW.2 r _ (JU vl);cases(EJ (hy.symm.trans e4):y=y');exact nz h' (s.gI r t _ hi (JU vl)) (G_ _ _ e3)
theorem fR.eA(O:FP C){i:DL}{f g:V->DQ V}(G_:∀v,Fo (sh C) (f v) (g (sh C v)))(Hg:∀v,NI C.N0 v->g v=DK v)(Hl:∀l,GN l=DN->f (.aX l)=DK (.aX l)){o x o':aH}(h:fR C i o x)(e:LU f o=DK o'):∃y,LU g x=DK y/\fR C i o' y:=by
 cases h with
 |dN n=>exact⟨_,j_ G_ o o' e,.dN ((se e).trans n)⟩|cJ q=>exact om (P:=λ o'=>∃y,(GA g (C.pre i++EH C _)).map aH.list=DK y/\fR C i o' y) e λ rZ e1=>⟨_,DX (·.map aH.list) (avZ (ZG λ v m=>Hg v (O.pre i v m)) (ZH G_ _ _ e1)),.cJ q⟩
 | @jG c ab ks ws K W k=>
  refine om (P:=λ o'=>∃y,og (JF K) ((GA g W).map (.dict K))=DK y/\fR C i o' y) e λ l e1=>ob e1 λ b q1 e2=>om (P:=λ l=>∃y,og (JF K) ((GA g W).map (.dict K))=DK y/\fR C i (.inst 7003 [c] l) y) e2 λ r q2=>ob q2 λ b' q3 e3=>om (P:=λ r=>∃y,og (JF K) ((GA g W).map (.dict K))=DK y/\fR C i (.inst 7003 [c] (b::r)) y) e3 λ rZ q4=> ?_;cases(EJ (q1.symm.trans (Hl _ k.abs)));cases(EJ (q3.symm.trans (Hl _ k.tY)));obtain⟨W',w1⟩:=ww (f:=g) (l:=W) λ x m=>(k.gd x m).elim (λ z=>⟨x,Hg x λ D τ n k f J hf=>z D τ n k f (GI _) hf⟩) λ ⟨v,mv,z⟩=>by
   obtain⟨r,hr⟩:=YK mv;obtain⟨y,e5,_⟩:=(Jm q4).2 r v hr;exact⟨sh C y,z▸G_ v y e5⟩
  exact⟨.dict K W',by rw[Xn k.str,w1];rfl,.jG (aC1 O G_ Hg k q4 w1)⟩
theorem aw1{f:V->DQ V}(h:∀t,f (.str t)=DK (.str t)){l:DM V}(hl:GN l=DN):GA f l=DK l:=ZG λ v m=>by
 induction l with
 |nil=>exact IK m|cons u l ih=>
  rcases IV.mp m with z|z
  ·exact z▸EL (DO hl).1 λ t e J=>IP e▸h t
  ·exact ih (DO hl).2 z
theorem ap6(O:FP C)(E:Em C τ U){n N:DL}(X:Nn C n N)(hn:n<=τ.length){f g:V->DQ V}(G_:∀v,Fo (sh C) (f v) (g (sh C v)))(Hg:∀v,NI C.N0 v->g v=DK v)(Hl:∀l,GN l=DN->f (.aX l)=DK (.aX l)){a b:aS}(ha:GA (LU f) (τ.take n)=DK a)(hb:∀o∈b,gB o=DN):
  ∃a',GA (LU g) (U.take N)=DK a'/\Em C (a++b) (a'++b.map (JJ C)):=by
 have hN:N<=U.length:=IG.mp λ l=>VB τ.length (IW ((X.lt _).mpr (E.lB▸l)) hn);obtain⟨a1,a2⟩:=Jm ha;have al:a.length=n:=a1.trans (Dp hn);have gI:∀j,j<N->∀x,U[j]? =DK x->∃y,LU g x=DK y/\(∀i o',C.ρ i=j->a[i]? =DK o'->fR C i o' y)/\((∀i,C.ρ i≠j)->y=x):=λ j hj x hx=>by
  by_cases z:∃i,C.ρ i=j
  ·obtain⟨i,rfl⟩:=z;have hi:i<n:=(X.lt i).mpr hj;have kE:=JU (IW hi hn);obtain⟨o',e1,e2⟩:=a2 i _ ((Ae hi).trans kE);obtain⟨x',e3,r⟩:=E.ob i _ kE;cases(EJ (hx.symm.trans e3):x=x');obtain⟨y,y1,y2⟩:=r.eA O G_ Hg Hl e1;refine⟨y,y1,λ i' wR e e4=> ?_,λ z=>EP rfl (z i)⟩;cases O.inj _ _ e;exact EJ (e2.symm.trans e4)▸y2
  ·have z:∀i,C.ρ i≠j:=λ i e=>z ⟨i,e⟩;exact⟨x,sd Hg (O.gd j z x ((E.fr j z).symm.trans hx)),λ i J e=>EP e (z i),λ J=>rfl⟩
 obtain⟨a',c1⟩:=ww (f:=LU g) (l:=U.take N) λ x m=>by
  obtain⟨j,hj⟩:=YK m;have jl:j<N:=IW (JV.mp hj).1 (O8 ..);obtain⟨y,y1,_⟩:=gI j jl x ((Ae jl).symm.trans hj);exact⟨y,y1⟩
 obtain⟨c2,c3⟩:=Jm c1;have nW:a'.length=N:=c2.trans (Dp hN);have mH:∀j,j<N->∃x y,U[j]? =DK x/\a'[j]? =DK y/\(∀i o',C.ρ i=j->a[i]? =DK o'->fR C i o' y)/\((∀i,C.ρ i≠j)->y=x):=λ j hj=>by
  have hx:=JU (IW hj hN);obtain⟨y,y1,y2⟩:=gI j hj _ hx;obtain⟨y',z1,z2⟩:=c3 j _ ((Ae hj).trans hx);exact⟨_,y',hx,z2,EJ (y1.symm.trans z1)▸y2⟩
 refine⟨a',c1,λ i o hi=> ?_,λ j=> ?_,λ j nj=> ?_,?_⟩
 ·rcases TE i n with z|z
  ·rw[KQ (al▸z)]at hi;have jl:C.ρ i<N:=(X.lt i).mp z;obtain⟨x,y,_,e,r,_⟩:=mH _ jl;exact⟨y,(KQ (nW▸jl)).trans e,r i o rfl hi⟩
  ·rw[Ad (al▸z),al]at hi;refine⟨JJ C o,?_,.dN (hb o (JK hi))⟩;rw[show C.ρ i=N+(i-n) by rw[<-X.al,Dq z],Ad (nW▸HD ..),nW,Ah,SZ,hi];rfl
 ·rw[GC,al,GC,nW,LM,TB,X.al,TB]
 ·rcases TE j N with z|z
  ·obtain⟨x,y,e1,e2,_,r⟩:=mH j z;rw[KQ (nW▸z),e2,r nj,<-e1,E.fr j nj]
  ·exact EP ((X.al (j-N)).trans (Dq z)) (nj _)
 ·rw[GC,nW];exact EZ X.le (HD ..)
theorem auD(E:Em C τ U){f g:V->DQ V}(G_:∀v,Fo (sh C) (f v) (g (sh C v)))(keep:DM DL):Fo (Sj (JJ C)) (GA (Xr (HF D hk) τ f) keep) (GA (Xr (EE D) U g) (keep.map C.ρ)):=by
 induction keep with
 |nil=>exact .some rfl|cons i r ih=>exact Fo.bind (g:=JJ C) (λ o' h=>ob h λ o e h=>EO h λ n h=>by
   show(U[C.ρ i]?).bind (λ o=>og DN (LU g o))=_;rw[E.dN e n];exact j_ G_ o o' h) λ J J=>ih.map λ J=>rfl
theorem c_(O:FP C)(E:Em C τ U){n N:DL}(X:Nn C n N)(keep:DM DL)(v:V):So C (vr C) (cY (HF D hk) n keep v τ) (cY (EE D) N (keep.map C.ρ) (sh C v) U):=λ p h=>by
 unfold cY at h⊢;obtain⟨F,hF,eF⟩:∃F,90<=F/\F=98:=⟨98,by decide,rfl⟩;rw[show(100:DL)=F+2 from eF▸rfl]at h⊢;clear eF;have G_:=apP (D:=D) (hk:=hk) (keep:=keep) O E X (F+2);refine EO h λ hn h=>ob h λ x e1 h=>ob h λ a e2 h=>(?_:_);obtain⟨b,e3,rfl⟩:=Sy.mp h;have hn:=GO hn;have hN:FW N U.length=DN:=MS.mpr (IG.mp λ l=>VB τ.length (IW ((X.lt _).mpr (E.lB▸l)) hn));obtain⟨a',c1,c2⟩:=ap6 O E X hn G_ (λ v z=>z D U N _ (F+2) X.le (EZ hF (HD ..))) (λ l hl=>DX (·.map V.aX) (aw1 (f:=eA (HF D hk) τ n keep (F+1)) (λ J=>rfl) hl)) e2 λ o m=>by
  obtain⟨i,e⟩:=aw0 e3 o m;exact ob e λ o e h=>EO h λ q h=>(se h).trans q
 rw[hN,G_ v x e1,c1,auD (D:=D) (hk:=hk) E G_ keep b e3];exact⟨_,rfl,rfl,c2⟩
end
theorem Nn.ble(X:Nn C n N)(i:DL):FW N (C.ρ i)=FW n i:=jy ⟨λ h=>MS.mpr (IG.mp λ l=>EP ((X.lt i).mpr l) (IG.mpr (GO h))),λ h=>MS.mpr (IG.mp λ l=>EP ((X.lt i).mp l) (IG.mpr (GO h)))⟩
set_option tactic.hygienic true in
theorem xt(h:(!(NP v).isSome)=DN):FI (sh C v)=(FI v).map C.ρ/\GZ (sh C v)=(GZ v).map (EH C):=by
 revert h
 apply @V.casesOn (λ v=>(!(NP v).isSome)=DN->FI (sh C v)=(FI v).map C.ρ/\GZ (sh C v)=(GZ v).map (EH C)) v<;>intros<;>rename_i h<;>first|exact⟨rfl,rfl⟩|exact EP h FJ
theorem apH{n N:DL}(X:Nn C n N)(p:DM DL)(v:V)(h:Ws p v=DN):QS N p (sh C v)=(QS n p v).map C.ρ:=by
 induction p generalizing v with
 |nil=>
  show oe (FI (sh C v)) [] (λ i=>match FW N i with|true=>[i]|false=>[])=(oe (FI v) [] (λ i=>match FW n i with|true=>[i]|false=>[])).map C.ρ;rw[(xt h).1];cases FI v with
  |none=>rfl|some i=>
   show(match FW N (C.ρ i)with|true=>[C.ρ i]|false=>[])=(match FW n i with|true=>[i]|false=>[]).map C.ρ;rw[X.ble];cases FW n i<;>rfl
 |cons k p ih=>
  show oe ((GZ (sh C v)).bind λ B=>B[k]?) [] (QS N p)=(oe ((GZ v).bind λ B=>B[k]?) [] (QS n p)).map C.ρ;rw[(xt (DO h).1).2];have h:=(DO h).2;cases q:GZ v with
  |none=>rfl|some B=>
   show oe ((EH C B)[k]?) [] (QS N p)=(oe (B[k]?) [] (QS n p)).map C.ρ;rw[q]at h;have h:oe (B[k]?) DN (Ws p)=DN:=h;rw[Kj];cases z:B[k]? with
   |none=>rfl|some u=>rw[z]at h;exact ih u h
theorem acJ{n N:DL}(X:Nn C n N):∀d k,(ZQ d (n+k)).map C.ρ=ZQ d (N+k)
 |0,_=>rfl|d+1,k=>(congr (DX O2 (X.al k)) (acJ X d (k+1)):C.ρ (n+k)::(ZQ d (n+(k+1))).map C.ρ=(N+k)::ZQ d (N+(k+1)))
theorem auC(X:Nn C n N)(E:Em C τ U)(q:n<=τ.length)(kp:Kp)(v:V)(h:wJ v kp=DN):Fd U N (sh C v) kp=(Fd τ n v kp).map C.ρ:=match kp,h with
 |.no,_=>rfl|.at p,h=>apH X p v h|.all,_=>by
  have:=X.al (τ.length-n);rw[Dq q,E.lB]at this;exact(DX (λ k=>ZQ k N) (Nat.sub_eq_of_eq_add' this)).trans (acJ X (τ.length-n) 0).symm
theorem ya:∀(k:DL) (B:DM V),MH B=DN->MH (B.drop k)=DN
 |0,_,h=>h|_+1,[],h=>h|k+1,_::B,h=>ya k B (DO h).2
theorem avO:LR C (B.map DK++JW k DP) ((EH C B).map DK++JW k DP):=by
 refine⟨by rw[GC,GC,LM,LM,eX],λ i v e=> ?_⟩;have l1:(B.map (DK:V->DQ V)).length=B.length:=LM ..;have l2:((EH C B).map (DK:V->DQ V)).length=B.length:=(LM ..).trans (eX B);rcases TE i B.length with q|q
 ·rw[KQ (l1.symm▸q),SZ]at e;rw[KQ (l2.symm▸q),SZ,Kj];cases z:B[i]? with
  |none=>rw[z]at e;exact EW e|some u=>rw[z]at e;exact DX (λ x=>DK (DK (sh C x))) (EJ (EJ e))
 ·rw[Ad (l1.symm▸q),List.getElem?_replicate]at e;split at e<;>exact(by cases e)
section
variable {D:Tb}{hk:Hk}{fU:DL->DQ Fn}(O:FP C)(Tk:QN D)(G_:KN C D hk)
include O
theorem ao3(X:Nn C n N)(k:Kp){r r':R (Fl×Lv)}(h:Sr C (FR C) r r'):Sr C (vr C) (LS (HF D hk) k n r) (LS (EE D) k N r'):=match r,h with
 |.ok (f,m) dY,⟨_,G,e,q,E⟩=>by
  have hv:∃m' f',r'=.ok (f',m') G/\Cp f'=sh C (Cp f):=by
   cases q with
   |nx=>exact⟨_,_,e,rfl⟩|rt=>exact⟨_,_,e,rfl⟩
  obtain⟨m',f',e,q⟩:=hv;rw[e];refine Sr.o2 λ p h=>EO h λ hk h=> ?_;show∃q,cY (EE D) N (Fd G N (Cp f') k) (Cp f') G=DK q/\_;have hn:n<=dY.length:=EO h λ h J=>GO h;rw[q,auC X E hn k _ hk];exact c_ O E X _ _ p h
 |.cD e dY,⟨G,e',E⟩=>by
  rw[e'];show Sr C (vr C) (oe (cY (HF D hk) n [] .none dY) .bL λ p=>.cD e p.2) (oe (cY (EE D) N [] .none G) .bL λ p=>.cD (sh C e) p.2);cases q:cY (HF D hk) n [] .none dY with
  |none=>trivial|some p=>
   obtain⟨p',e1,_,E'⟩:=c_ (D:=D) (hk:=hk) O E X [] .none p q;rw[show cY (EE D) N [] .none G=DK p' from e1];exact⟨_,rfl,E'⟩
 |.bL,_=>trivial
include Tk G_
theorem alL(OO:∀f args,Sm C (vr C) (oa f args) (o f (EH C args))){fn:Fn}(hb:OP fn.body=DN)(hd:MH fn.fZ=DN)(args:DM V):Sm C (vr C) (WX (HF D hk) oa fn args) (WX (EE D) o fn (EH C args)):=by
 have hf:IQ fn (EH C args)=EH C (IQ fn args):=by
  unfold IQ;rw[RH,eX,Pj _ (ya _ _ hd)]
 unfold WX frame;rw[hf,eX];exact .cQ (λ τ U E=>ao3 O E.nn fn.keep (ySs O Tk G_ OO fn.body _ _ hb avO τ U E)) .none
omit O Tk G_ in
theorem yf{α β:Type}{x:DQ α}{a b':M β}{f:α->M β}{r:β->β->Prop}(h:x=DP->Sm C r a b')(k:∀y,x=DK y->Sm C r (f y) b'):Sm C r (oe x a f) b':=by
 cases q:x with
 |none=>exact h q|some y=>exact k y q
theorem aB6{K:DL}(hf:∀a fn,fU a=DK fn->OP fn.body=DN/\MH fn.fZ=DN)(hr:∀f args m,hk.ru f args=DK m->∀N,K<=N->Sm C (vr C) m (Cr D fU N f (EH C args)))(n:DL):
  ∀N,n+K<=N->∀f args,Sm C (vr C) (UO (HF D hk) fU n f args) (Cr D fU N f (EH C args)):=by
 induction n with
 |zero=>exact λ N hN f args=>yf (λ J=>.none) λ m e=>hr f args m e N (Aj K▸hN)
 |succ n ih=>
  intro N hN f args;refine yf (λ J=> ?_) λ m e=>hr f args m e N (EZ (P7 ..) hN);cases N with
  |zero=>exact EP hN (by rw[ahG];exact TF _)|succ N=>
   show Sm C (vr C) (oe (fU f) M.none λ fn=>WX (HF D hk) (UO (HF D hk) fU n) fn args) (oe (fU f) M.none λ fn=>WX (EE D) (UO (EE D) fU N) fn (EH C args));cases q:fU f with
   |none=>exact .none|some fn=>exact alL O Tk G_ (ih N (Ai (ahG n K▸hN))) (hf f fn q).1 (hf f fn q).2 args
end
def cP(U:aS):Prop:=∀(j:DL) o,U[j]? =DK o->gG U.length o
structure mA(cI:aS)(ad:DM DL):Prop where
 lt:∀(i:DL) a,ad[i]? =DK a->a<cI.length
 inj:∀(i j:DL) a,ad[i]? =DK a->ad[j]? =DK a->i=j
def FN(cI:aS)(ad:DM DL)(bx:DL->V)(pre:DL->DM V)(kn:DL->Tx->DQ V):Cf:=
 ⟨λ i=>oe (ad[i]?) (cI.length+(i-ad.length)) id,bx,pre,kn,cI.length,cI⟩
noncomputable abbrev GS(cI:aS)(ad:DM DL)(bx:DL->V)(pre:DL->DM V):Cf:=FN cI ad bx pre λ J J=>DP
theorem mA.nil(cI:aS):mA cI []:=⟨λ J J h=>(EW h),λ J J J h=>(EW h)⟩
section
variable {ad:DM DL}{bx:DL->V}{kn:DL->Tx->DQ V}
theorem Jo(h:ad[i]? =DK a):(FN cI ad bx pre kn).ρ i=a:=DX (λ x:DQ DL=>oe x (cI.length+(i-ad.length)) id) h
theorem Pa(h:ad[i]? =DP):(FN cI ad bx pre kn).ρ i=cI.length+(i-ad.length):=DX (λ x:DQ DL=>oe x (cI.length+(i-ad.length)) id) h
theorem Yh(h:ad.length<=i):(FN cI ad bx pre kn).ρ i=cI.length+(i-ad.length):=Pa (MQ h)
theorem aY.bB{d' n':DL}(h:aY d n v)(hd:d<=d')(hn:n<=n'):aY d' n' v:=λ D τ m k f q r=>h D τ m k f (EZ hn q) (EZ hd r)
theorem aY.up(h:aY d 0 v):aY d n v:=h.bB (FG _) (GI _)
theorem gG.bB{n n':DL}{o:O}(h:gG n o)(hn:n<=n'):gG n' o:=⟨h.h,λ v m=>(h.g v m).bB (FG _) hn⟩
theorem L?(g:cP cI)(A:mA cI ad)(hb:∀k,aY 40 cI.length (bx k))(hp:∀i,∀v∈pre i,NI cI.length v)(hl:∀i,(pre i).length<=900)(hk:∀i t v,kn i t=DK v->NI cI.length v):FP (FN cI ad bx pre kn):=by
 refine⟨λ i j e=> ?_,hb,hp,hl,hk,λ j J o e=>g j o e⟩;have ge:∀{i j a:DL},ad[i]? =DK a->ad[j]? =DP->(FN cI ad bx pre kn).ρ i=(FN cI ad bx pre kn).ρ j->False:=λ h1 h2 e=>VB cI.length (JX (HD ..) ((Pa h2).symm.trans (e.symm.trans (Jo h1))▸A.lt _ _ h1));cases h1:ad[i]? with
 |some a=>cases h2:ad[j]? with
  |some b=>exact A.inj i j a h1 (((Jo h1).symm.trans (e.trans (Jo h2)):a=b)▸h2)|none=>exact(ge h1 h2 e).elim
 |none=>cases h2:ad[j]? with
  |some b=>exact(ge h2 h1 e.symm).elim|none=>
   have e:=bk ((Pa h1).symm.trans (e.trans (Pa h2)));exact(bq (O5.mp h1)).symm.trans ((DX (·+ad.length) e).trans (bq (O5.mp h2)))
theorem Ff(hl:τ.length=ad.length)(h:∀(i:DL) o,τ[i]? =DK o->Q3 (FN cI ad bx pre kn) i cI o):Em (FN cI ad bx pre kn) τ cI:=
 ⟨h,λ j=>hl▸(Yh (HD ..)).trans (DX (cI.length+·) (Ah ..)),λ J J=>rfl,FG _⟩
theorem Yi(E:Em (FN cI ad bx pre kn) dY G)(hl:dY.length=ad.length):G.length=cI.length:=(E.al 0).symm.trans (hl▸(Yh (HD ..)).trans (DX (cI.length+·) (Ah ..)))
theorem SH(E:Em (FN cI ad bx pre kn) dY G){j:DL}(hj:j<cI.length)(n:j∉ad):G[j]? =cI[j]? :=
 E.fr j λ i e=>by
  cases h:ad[i]? with
  |some a=>exact n ((Jo h).symm.trans e▸JK h)|none=>exact IG.mpr (HD ..) ((Pa h).symm.trans e▸hj)
theorem awF(E:Em (FN cI [] bx pre kn) [] G):G=cI:=by
 have l:=Yi E rfl;refine Sh λ j=> ?_;rcases TE j cI.length with h|h
 ·exact SH E h (λ m=>IK m)
 ·rw[MQ (l▸h),MQ h]
end
theorem VV{ad:DM DL}{bx:DL->V}(g:cP U)(A:mA U ad)(hb:∀k,aY 40 U.length (bx k)):FP (GS U ad bx λ J=>[]):=L? g A hb (λ J J m=>EP m KG) (λ J=>GI _) λ J J J h=>EP h (bz _).symm
theorem P_{bx:DL->V}{kn:DL->Tx->DQ V}:Em (FN cI [] bx pre kn) [] cI:=Ff rfl λ J J h=>(EW h)
noncomputable def KH(n:DL):DL->V->DU
 |0,_=>DT|d+1,v=>match v with
  |.aR B=>B.all (KH n d)|.aX B=>B.all (KH n d)|.bZ ks B=>JF ks&&B.all (KH n d)|.obj _ _ B=>B.all (KH n d)|.ref i=>HC i n|.dW _ i=>HC i n|.bD _ _=>DN|.none=>DN|.bool _=>DN|.int _=>DN|.str _=>DN|.fn _=>DN|.cls _=>DN
noncomputable def XQ(k:DL):DU:=EG k 7||Nat.beq k 50||(FW 20 k&&HC k 28)
noncomputable def PD:DL->V->DU
 |0,_=>DT|d+1,v=>match v with
  |.aR B=>B.all (PD d)|.aX B=>B.all (PD d)|.bZ ks B=>JF ks&&B.all (PD d)|.obj _ _ B=>B.all (PD d)|.ref _=>DT|.dW _ _=>DT|.bD k _=>XQ k|.none=>DN|.bool _=>DN|.int _=>DN|.str _=>DN|.fn _=>DN|.cls _=>DN
def lp(n:DL)(o:O):DU:=JF (vt o)&&(vsO o).all (KH n 40)
def MV(τ:aS):DU:=τ.all (lp τ.length)
theorem aY.gC(h:∀D τ m keep f,N<=m->d+40<=f->eA (EE D) τ m keep (f+1) v=DK v):aY (d+1+40) N v:=λ D τ m keep f hm hf=>by
 cases f with
 |zero=>exact EP hf (TF _)|succ f=>exact h D τ m keep f hm (Ai (EZ (MT (agY d 40 1)) hf))
theorem Br{p:V->DU}(ih:∀v,p v=DN->aY (d+40) N (sh C v)){B:DM V}(h:B.all p=DN){D:Tb}{τ:aS}{m:DL}{keep:DM DL}{f:DL}(hm:N<=m)(hf:d+40<=f):GA (eA (EE D) τ m keep f) (EH C B)=DK (EH C B):=ZG λ v mv=>by
 obtain⟨u,mu,e⟩:=LN.mp (hG B▸mv);exact e▸ih u (FQ.mp h u mu) D τ m keep f hm hf
theorem amS{C:Cf}(O:FP C){n N:DL}(X:Nn C n N)(d:DL):∀v:V,KH n d v=DN->aY (d+40) N (sh C v):=by
 induction d with
 |zero=>exact λ J h=>FB h
 |succ d ih=>
  intro v;apply @V.casesOn (λ v=>KH n (d+1) v=DN->aY (d+1+40) N (sh C v)) v
  ·exact λ J=>.gC λ J J J J J J J=>rfl
  ·exact λ J J=>.gC λ J J J J J J J=>rfl
  ·exact λ J J=>.gC λ J J J J J J J=>rfl
  ·exact λ J J=>.gC λ J J J J J J J=>rfl
  ·exact λ B h=>.gC λ J J J J J hm hf=>DX (·.map V.aR) (Br ih h hm hf)
  ·exact λ B h=>.gC λ J J J J J hm hf=>DX (·.map V.aX) (Br ih h hm hf)
  ·exact λ ks B h=>.gC λ J J J J J hm hf=>(DX (og · _) (DO h).1).trans (DX (·.map (V.bZ ks)) (Br ih (DO h).2 hm hf))
  ·exact λ c ks B h=>.gC λ J J J J J hm hf=>DX (·.map (V.obj c ks)) (Br ih h hm hf)
  ·exact λ i h=>.gC λ D τ m keep f hm J=>by
    show QT (EE D) τ m keep _ (C.ρ i)=_;unfold QT;rw[show HC (C.ρ i) m=DN from MS.mpr (IW ((X.lt i).mp (GO h)) hm)];rfl
  ·exact λ J J=>.gC λ J J J J J J J=>rfl
  ·exact λ J J=>.gC λ J J J J J J J=>rfl
  ·exact λ a i h=>.gC λ J J m J J hm J=>DX (og · _) (show HC (C.ρ i) m=DN from MS.mpr (IW ((X.lt i).mp (GO h)) hm))
  ·exact λ k w J=>(O.bx k).bB (P7 ..) X.le
theorem amR{C:Cf}(O:∀k,XQ k=DN->aY 40 0 (C.bx k))(d:DL):∀v:V,PD d v=DN->aY (d+40) 0 (sh C v):=by
 induction d with
 |zero=>exact λ J h=>FB h
 |succ d ih=>
  intro v;apply @V.casesOn (λ v=>PD (d+1) v=DN->aY (d+1+40) 0 (sh C v)) v
  ·exact λ J=>.gC λ J J J J J J J=>rfl
  ·exact λ J J=>.gC λ J J J J J J J=>rfl
  ·exact λ J J=>.gC λ J J J J J J J=>rfl
  ·exact λ J J=>.gC λ J J J J J J J=>rfl
  ·exact λ B h=>.gC λ J J J J J hm hf=>DX (·.map V.aR) (Br ih h hm hf)
  ·exact λ B h=>.gC λ J J J J J hm hf=>DX (·.map V.aX) (Br ih h hm hf)
  ·exact λ ks B h=>.gC λ J J J J J hm hf=>(DX (og · _) (DO h).1).trans (DX (·.map (V.bZ ks)) (Br ih (DO h).2 hm hf))
  ·exact λ c ks B h=>.gC λ J J J J J hm hf=>DX (·.map (V.obj c ks)) (Br ih h hm hf)
  ·exact λ i h=>EP h FJ
  ·exact λ J J=>.gC λ J J J J J J J=>rfl
  ·exact λ J J=>.gC λ J J J J J J J=>rfl
  ·exact λ a i h=>EP h FJ
  ·exact λ k w h=>(O k h).bB (P7 ..) (FG _)
theorem gp{p:V->DU}(ih:∀v,p v=DN->aY (40+40) N (sh C v)){B:DM V}(h:B.all p=DN):∀v∈EH C B,NI N v:=λ v mv=>by
 obtain⟨u,mu,e⟩:=LN.mp (hG B▸mv);exact e▸(ih u (FQ.mp h u mu)).bB (by decide) (FG _)
theorem lq(O:∀k,XQ k=DN->aY 40 0 (C.bx k)){B:DM V}(h:B.all (PD 40)=DN):∀v∈EH C B,aY 90 0 v:=gp (amR O 40) h
theorem amT(O:FP C){n N:DL}(X:Nn C n N){B:DM V}(h:B.all (KH n 40)=DN):∀v∈EH C B,NI N v:=gp (amS O X 40) h
theorem fR.jW(O:FP C){n N i:DL}(X:Nn C n N){o x:aH}(r:fR C i o x)(h:lp n o=DN):gG N x:=by
 have g:=amT O X (DO h).2;cases r with
 |dN=>exact⟨by cases o<;>exact(DO h).1,by cases o<;>exact g⟩|cJ=>exact⟨rfl,λ v mv=>(OW.mp mv).elim (λ q=>(O.pre i v q).bB (FG _) X.le) (g v)⟩|jG s=>exact⟨Xn s.str,λ v mv=>(s.gd v mv).elim (λ q=>q.up) λ z1=>by obtain⟨u,mu,q⟩:=z1;exact q▸g _ (.tail _ (.tail _ (hG _▸bc mu)))⟩
theorem VJ(O:FP C){τ U:aS}(E:Em C τ U)(h:MV τ=DN):cP U:=λ j x hx=>by
 by_cases z:∃i,C.ρ i=j
 ·obtain⟨i,rfl⟩:=z;obtain⟨x',e,r⟩:=E.ob i _ (JU (E.lt.mpr (GX hx)));exact EJ (hx.symm.trans e)▸r.jW O E.nn (FQ.mp h _ (av _))
 ·exact(O.gd j (λ i e=>z ⟨i,e⟩) x ((E.fr j λ i e=>z ⟨i,e⟩).symm.trans hx)).bB E.le
theorem Qq:QN EF where
 fH c a h:=by
  have:VK.get c=DP:=MJ h (λ z=>GV z▸(show VK.get 7001=DP by decide+kernel)) λ z=>GV z▸(show VK.get 7003=DP by decide+kernel);exact DX (λ x:DQ (Tr DL)=>x.bind λ t=>(t.get a).map λ f=>EN (EG f 0) DP (DK f)) this
 glob g v h C:=om (P:=λ v=>sh C v=v) h λ p e=>LV _ (Tr.lO (p:=λ J p=>IC p.1) (by decide+kernel) e)
 init c f h:=UI (Tr.lO (p:=λ c J=> !(Ga c)) (by decide+kernel) (show Bv.get c=DK f from h))
theorem apF(a:DL)(fn:Fn)(h:Ny a=DK fn):OP fn.body=DN/\MH fn.fZ=DN:=om (P:=λ fn=>OP fn.body=DN/\MH fn.fZ=DN) h λ x e=>DO (Tr.lO (p:=λ _ (x:Fx)=>OP x.fn.body&&MH x.fn.fZ) (by decide+kernel) e)
noncomputable abbrev RF(N f:DL)(args:DM V):M V:=Cr EF Ny N f args
def Pu(P:aS->Prop)(K f:DL)(args:DM V)(v:V):Prop:=∀U,cP U->P U->∀N,K<=N->RF N f args U=.ok v U
def J'(v:V):M V:=M.st λ τ=>og (MV τ) (here v τ)
theorem aAX(O:FP C){P:aS->Prop}(hP:∀τ U,Em C τ U->P U){K f N:DL}{args:DM V}{v:V}(h:Pu P K f args (sh C v))(hN:K<=N):Sm C (vr C) (J' v) (RF N f args):=λ τ U E=>by
 show Sr C (vr C) (M.o2 (og (MV τ) (here v τ))) _;cases q:MV τ with
 |false=>trivial|true=>
  rw[h U (VJ O E q) (hP τ U E) N hN];exact⟨_,_,rfl,rfl,E⟩
def OY(C:Cf)(hk:Hk)(K:DL):Prop:=∀f args m,hk.ru f args=DK m->∀N,K<=N->Sm C (vr C) m (RF N f (EH C args))
noncomputable abbrev RA(hk:Hk)(n f:DL)(args:DM V):M V:=UO (HF EF hk) Ny n f args
theorem Pw{hk:Hk}{K:DL}(O:FP C)(G_:KN C EF hk)(R:OY C hk K)(hN:n+K<=N):Sm C (vr C) (RA hk n f args) (RF N f (EH C args)):=
 aB6 O Qq G_ apF R n N hN f args
theorem Zj{hk:Hk}{K:DL}(O:FP C)(G_:KN C EF hk)(R:OY C hk K)(hN:n+K<=N)(E:Em C τ U)(h:RA hk n f args τ=.ok v dY):∃G,RF N f (EH C args) U=.ok (sh C v) G/\Em C dY G:=by
 have:=Pw (f:=f) (args:=args) O G_ R hN τ U E;rw[h]at this;obtain⟨b,G,e,q,E'⟩:=this;exact⟨G,q▸e,E'⟩
noncomputable def VQ:Hk:=⟨λ J J=>DP,λ J J=>DP,λ J J=>DP,λ J=>DT,λ J J=>DP,λ J J=>DP⟩
theorem Xg(C:Cf):KN C EF VQ:=⟨λ J J J J J J h=>(EW h),λ J J J J J J h=>(EW h),λ J J J J J J h=>(EW h),λ J J J J J J h=>(EW h),λ J J J J h=>EP h FJ⟩
theorem U'{P:aS->Prop}{hk:Hk}{bx:DL->V}{K:DL}(hb:∀U,P U->∀k,aY 40 U.length (bx k))
  (G_:∀U,cP U->P U->KN (GS U [] bx λ J=>[]) EF hk/\OY (GS U [] bx λ J=>[]) hk K)(h:RA hk n f args []=.ok v []){iO:DM V}{v':V}(ha:∀U,EH (GS U [] bx λ J=>[]) args=iO)(hv:∀U,sh (GS U [] bx λ J=>[]) v=v'):Pu P (n+K) f iO v':=λ U g p N hN=>by
 obtain⟨G,e,E⟩:=Zj (VV g (.nil U) (hb U p)) (G_ U g p).1 (G_ U g p).2 hN P_ h;rw[ha,hv,awF E]at e;exact e
theorem GD(N:DL):aY 40 N .none:=λ D τ n keep f J hf=>by
 cases f with
 |zero=>exact EP hf (TF _)|succ=>rfl
def jj(a b:DY):DU:=match a with
 |.ofNat x=>oe (VG b) DT (EG x)|.negSucc x=>match b with|.negSucc y=>EG x y|.ofNat _=>DT
noncomputable def S9(v:V):DQ DL:=match v with|.fn i=>DK i|_=>DP
noncomputable def S8(v:V):DQ DL:=match v with|.cls i=>DK i|_=>DP
noncomputable def T4(v:V):DQ (DL×DL):=match v with|.dW i j=>DK (i,j)|_=>DP
noncomputable def S7(v:V):DQ (DL×V):=match v with|.bD i j=>DK (i,j)|_=>DP
theorem akI(h:S9 v=DK i):v=.fn i:=HS S9 .fn (λ v=>by cases v<;>rfl) h
theorem akG(h:S8 v=DK i):v=.cls i:=HS S8 .cls (λ v=>by cases v<;>rfl) h
theorem akK{i:DL×DL}(h:T4 v=DK i):v=.dW i.1 i.2:=HS T4 (λ i=>.dW i.1 i.2) (λ v=>by cases v<;>rfl) h
theorem akF{i:DL×V}(h:S7 v=DK i):v=.bD i.1 i.2:=HS S7 (λ i=>.bD i.1 i.2) (λ v=>by cases v<;>rfl) h
mutual
noncomputable def MK:V->V->DU
 |.none,b=>UE b|.bool x,b=>oe (VF b) DT λ y=>EN x y (!y)
 |.int x,b=>oe (HX b) DT (jj x)|.str x,b=>oe (GJ b) DT (FT x)|.aR x,b=>oe (GZ b) DT (KL x)|.aX x,b=>oe (QO b) DT (KL x)|.bZ k x,b=>oe (Dz b) DT λ d=>KL k d.1&&KL x d.2
 |.obj c k x,b=>oe (Uv b) DT λ d=>EG c d.1&&(FT k d.2.1&&KL x d.2.2)
 |.ref a,b=>oe (FI b) DT (EG a)|.fn a,b=>oe (S9 b) DT (EG a)|.cls a,b=>oe (S8 b) DT (EG a)|.dW a i,b=>oe (T4 b) DT λ d=>EG a d.1&&EG i d.2
 |.bD a x,b=>oe (S7 b) DT λ d=>EG a d.1&&MK x d.2
noncomputable def KL:DM V->DM V->DU
 |[],l=>FV l|a::x,l=>match l with|b::y=>MK a b&&KL x y|[]=>DT
end
theorem akY{a b:DY}(h:jj a b=DN):a=b:=by
 cases a with
 |ofNat a=>exact EL h λ n e q=>(Ht e).trans (DX RN (GV q).symm)|>.symm
 |negSucc a=>cases b with
  |ofNat b=>exact FB h|negSucc b=>exact DX ag5 (GV h)
def Q7(a:V):Prop:=∀b,MK a b=DN->a=b
def Q8(x:DM V):Prop:=∀y,KL x y=DN->x=y
theorem aaJ(v:V)(B:DM V)(i:Q7 v)(j:Q8 B):Q8 (v::B):=λ y h=>by
 cases y with
 |nil=>exact FB h|cons b y=>exact YW (i b (DO h).1) (j y (DO h).2)
theorem JD{b:DL}(h:EG a b=DN):a=b:=GV h
theorem aB8(x:DU):Q7 (.bool x):=λ b h=>EL h λ y e q=>by
 rw[Ut e]
 revert q
 cases x<;>cases y<;>intro q<;>first|rfl|exact FB q
theorem PW{a:V}:MK a b=DN->a=b:=V.rec (motive_1:=Q7) (motive_2:=Q8) (λ J h=>(Bz h).symm) aB8 (λ J J h=>EL h λ J e q=>Ea e▸DX V.int (akY q)) (λ J J h=>EL h λ J e q=>IP e▸DX V.str (hJ q))
 (λ J i J h=>EL h λ J e q=>MB e▸DX V.aR (i _ q)) (λ J i J h=>EL h λ J e q=>OI e▸DX V.aX (i _ q)) (λ J J i j J h=>EL h λ J e q=>Uu e▸congr (DX V.bZ (i _ (DO q).1)) (j _ (DO q).2))
 (λ J J J i J h=>EL h λ J e q=>T6 e▸congr (congr (DX V.obj (JD (DO q).1)) (hJ (DO (DO q).2).1)) (i _ (DO (DO q).2).2)) (λ J J h=>EL h λ J e q=>IX e▸DX V.ref (JD q)) (λ J J h=>EL h λ J e q=>akI e▸DX V.fn (JD q)) (λ J J h=>EL h λ J e q=>akG e▸DX V.cls (JD q))
 (λ J J J h=>EL h λ J e q=>akK e▸congr (DX V.dW (JD (DO q).1)) (JD (DO q).2)) (λ J J i J h=>EL h λ J e q=>akF e▸congr (DX V.bD (JD (DO q).1)) (i _ (DO q).2)) (λ J h=>(HN h).symm) aaJ a b
theorem PY:∀{a b:DM V},KL a b=DN->a=b
 |[],_,h=>(HN h).symm|v::B,b,h=>aaJ v B (λ J=>PW) (λ J=>PY) b h
def Kd(a b:O):DU:=match a with
 |.list x=>oe (oL b) DT (KL x)|.dict k x=>oe (oD b) DT λ d=>KL k d.1&&KL x d.2
 |.inst c k x=>oe (oI b) DT λ d=>EG c d.1&&(FT k d.2.1&&KL x d.2.2)
noncomputable def Ke:aS->aS->DU
 |[],l=>FV l|a::x,l=>match l with|b::y=>Kd a b&&Ke x y|[]=>DT
theorem a6{a b:O}(h:Kd a b=DN):a=b:=match a,h with
 |.list _,h=>EL h λ J e q=>XP e▸DX O.list (PY q)
 |.dict _ _,h=>EL h λ J e q=>Ju e▸congr (DX O.dict (PY (DO q).1)) (PY (DO q).2)
 |.inst _ _ _,h=>EL h λ J e q=>pZ e▸congr (congr (DX O.inst (JD (DO q).1)) (hJ (DO (DO q).2).1)) (PY (DO (DO q).2).2)
theorem Py:∀{a b:aS},Ke a b=DN->a=b
 |[],_,h=>(HN h).symm|_::_,[],h=>FB h|_::_,_::_,h=>congr (DX O2 (a6 (DO h).1)) (Py (DO h).2)
def IJ(r:R V)(v:V)(τ:aS):DU:=match r with
 |.ok a dY=>MK a v&&Ke dY τ|.cD _ _=>DT|.bL=>DT
theorem SD{r:R V}(h:IJ r v τ=DN):r=.ok v τ:=match r,h with
 |.ok _ _,h=>congr (DX R.ok (PW (DO h).1)) (Py (DO h).2)
noncomputable def VW:DL->Tx
 |0=>[88]|1=>[89]|2=>[78]|_=>[117,56]
noncomputable def XW:DL->V
 |0=>.aR [(.str [112,97,114,97,109]),(.str [88])]|1=>.aR [(.str [112,97,114,97,109]),(.str [89])]|2=>.aR [(.str [97,100,116]),(.str [78]),.aR [],.aR []]|_=>.aR [(.str [105,110,116]),(.str [117,56])]
def tlG(i:DL):V:=.aR [(.str [97,100,116]),(.str [71]),.aR [],.aR [XW i]]
noncomputable def iK:V:=.aR [(.str [105,110,116]),(.str [117,56])]
def tlW(w:DL)(t:V):V:=match w with
 |0=>.aR [(.str [98,111,120]),t]|1=>.aR [(.str [97,114,114,97,121]),t,.int 3]|2=>.aR [(.str [114,101,102]),(.str [39,115,116,97,116,105,99]),.bool DN,t]|_=>.aR [(.str [116,117,112,108,101]),.aR [iK,t]]
def tl(w:DM DL)(i:DL):V:=w.foldr tlW (tlG i)
def QE(n:Tx)(sp:V)(ts:DM V):V:=.aR [(.str [112,97,116,104]),sp,.aR [.aR [.str n,.aR [],.aR ts]]]
def wrG(sp:V)(i:DL):V:=QE [71] sp [QE (VW i) sp []]
def E7(sp:V)(w:DL)(t:V):V:=match w with
 |0=>QE [66,111,120] sp [t]|1=>.aR [(.str [97,114,114,97,121]),sp,t,.int 3]|2=>.aR [(.str [114,101,102]),sp,(.str [39,115,116,97,116,105,99]),.bool DN,t]|_=>.aR [(.str [116,117,112,108,101]),sp,.aR [QE [117,56] sp [],t]]
def wr(sp:V)(w:DM DL)(i:DL):V:=w.foldr (E7 sp) (wrG sp i)
noncomputable def Ar:DM (DM DL):=[]::([0,1,2,3].map λ a=>[a])++([0,1,2,3].flatMap λ a=>[0,1,2,3].map λ b=>[a,b])
def NE(p:DM DL->DL->DU):DU:=Ar.all λ w=>[0,1,2,3].all λ i=>p w i
theorem NF{p:DM DL->DL->DU}(h:NE p=DN){w:DM DL}{i:DL}(hw:w∈Ar)(hi:i∈[0,1,2,3]):p w i=DN:=
 FQ.mp (FQ.mp h w hw) i hi
def KY(w:DM DL)(i:DL):V:=.aR [(.str [116,117,112,108,101]),.aR [XW 0,XW 1,tl w i]]
noncomputable abbrev Rv:=DL×DM V×V
noncomputable abbrev Mi:=DL×DM V×DM V×V
noncomputable def G':DM Rv->DL->DM V->DQ (M V)
 |[],_,_=>DP|x::r,f,args=>EN (EG f x.1&&KL args x.2.1) (DK (J' x.2.2)) (G' r f args)
theorem aAU{l:DM Rv}{f:DL}{args:DM V}{m:M V}(h:G' l f args=DK m):∃v,(f,args,v)∈l/\m=J' v:=by
 induction l with
 |nil=>exact EW h|cons x r ih=>exact Ii h (λ q e=>⟨x.2.2,by rw[JD (DO q).1,PY (DO q).2];exact .head _,(EJ e).symm⟩) λ J h=>by obtain⟨v,m,e⟩:=ih h;exact⟨v,.tail _ m,e⟩
def M'(j:DL)(B:DM V)(v:V):M V:=M.st λ τ=>((τ[j]?).bind oL).bind λ ws=>og (KL ws B) (og (MV τ) (here v τ))
def mL(x:Mi)(f:DL)(args:DM V):DQ (M V):=(XY args).bind λ p=>(FI p.1).bind λ j=>og (EG f x.1&&KL p.2 x.2.2.1) (DK (M' j x.2.1 x.2.2.2))
noncomputable def H':DM Mi->DL->DM V->DQ (M V)
 |[],_,_=>DP|x::r,f,args=>oo (mL x f args) (H' r f args)
theorem aAT{l:DM Mi}{f:DL}{args:DM V}{m:M V}(h:H' l f args=DK m):∃j x,x∈l/\f=x.1/\args=.ref j::x.2.2.1/\m=M' j x.2.1 x.2.2.2:=by
 induction l with
 |nil=>exact EW h|cons x r ih=>exact FH h (λ h=>ob h λ p e1 h=>ob h λ j e2 h=>EO h λ q h=>⟨j,x,.head _,JD (DO q).1,by rw[Gl e1,IX e2,PY (DO q).2],(EJ h).symm⟩) λ h=>by obtain⟨j,x,m,e⟩:=ih h;exact⟨j,x,.tail _ m,e⟩
theorem Sr.rV{α β:Type}{r:α->β->Prop}{x:DQ (α×aS)}{y:R β}(h:∀p,x=DK p->∃b G,y=.ok b G/\r p.1 b/\Em C p.2 G):Sr C r (M.o2 x) y:=by
 cases q:x with
 |none=>trivial|some p=>exact h p q
theorem aAV(O:FP C){P:aS->Prop}(hP:∀τ U,Em C τ U->P U){K f N j:DL}{ws args:DM V}{v:V}(h:∀ar,Pu (λ U=>P U/\U[ar]? =DK (.list (EH C ws))) K f (.ref ar::EH C args) (sh C v))(hN:K<=N):Sm C (vr C) (M' j ws v) (RF N f (EH C (.ref j::args))):=λ τ U E=>by
 refine Sr.rV (x:=((τ[j]?).bind oL).bind λ us=>og (KL us ws) (og (MV τ) (here v τ))) λ p q=>ob q λ us e1 q=>EO q λ q1 q=>EO q λ q2 q=>ob e1 λ o e2 e3=> ?_;have r:=h (C.ρ j) U (VJ O E q2) ⟨hP τ U E,PY q1▸(E.dN e2 (Pk (C:=C) e3).1).trans (DX (λ o=>DK (JJ C o)) (XP e3))⟩ N hN;exact⟨_,_,r,EJ q▸⟨rfl,E⟩⟩
theorem Pu.bB{P Q:aS->Prop}{K K':DL}(h:Pu P K f args v)(hq:∀U,Q U->P U)(hk:K<=K'):Pu Q K' f args v:=λ U g q N hN=>h U g (hq U q) N (EZ hk hN)
theorem awE{ad:DM DL}{bx:DL->V}{kn:DL->Tx->DQ V}(E:Em (FN cI ad bx pre kn) τ U)(E':Em (FN cI ad bx pre kn) τ G)(hl:τ.length=ad.length)(n:∀o∈τ,gB o=DN):G=U:=by
 have l:=Yi E hl;have l':=Yi E' hl;refine Sh λ j=> ?_;rcases TE j cI.length with h|h
 ·by_cases q:j∈ad
  ·obtain⟨i,hi⟩:=YK q;have e:=JU (l:=τ) (hl▸(JV.mp hi).1);have nm:=n _ (JK e);rw[<-Jo (bx:=bx) (pre:=pre) (kn:=kn) (cI:=cI) hi,E.dN e nm,E'.dN e nm]
  ·rw[SH E h q,SH E' h q]
 ·rw[MQ (EZ (MT l) h),MQ (EZ (MT l') h)]
theorem Cs{P:aS->Prop}{hk:Hk}{bx:DL->V}{ad:DM DL}{K:DL}(hb:∀U,P U->∀k,aY 40 U.length (bx k))(hA:∀U,P U->mA U ad)(hl:τ.length=ad.length)(hn:∀o∈τ,gB o=DN)
  (hE:∀U,P U->∀(i:DL) o,τ[i]? =DK o->U[(GS U ad bx λ J=>[]).ρ i]? =DK (JJ (GS U ad bx λ J=>[]) o))
  (G_:∀U,cP U->P U->KN (GS U ad bx λ J=>[]) EF hk/\OY (GS U ad bx λ J=>[]) hk K)(h:RA hk n f args τ=.ok v τ){iO:DM V}{v':V}(ha:∀U,EH (GS U ad bx λ J=>[]) args=iO)(hv:∀U,sh (GS U ad bx λ J=>[]) v=v'):Pu P (n+K) f iO v':=λ U g p N hN=>by
 have E:Em (GS U ad bx λ J=>[]) τ U:=Ff hl λ i o h=>⟨_,hE U p i o h,.dN (hn o (JK h))⟩;obtain⟨G,e,E'⟩:=Zj (VV g (hA U p) (hb U p)) (G_ U g p).1 (G_ U g p).2 hN E h;rw[ha,hv,awE E E' hl hn]at e;exact e
theorem yc{B:DM V}(h:MH B=DN):∀v∈B,IC v=DN:=by
 induction B with
 |nil=>exact λ J m=>EP m KG
 |cons v B ih=>exact NJ.mpr ⟨(DO h).1,ih (DO h).2⟩
theorem aY.hO(h:∀D τ m keep f,d<=f->eA (EE D) τ m keep (f+1) v=DK v):aY (d+1) N v:=λ D τ m keep f J hf=>by
 cases f with
 |zero=>exact EP hf (TF _)|succ f=>exact h D τ m keep f (Ai hf)
theorem OK(d:DL):∀v:V,KH 0 d v=DN->IC v=DN->aY d 0 v:=by
 induction d with
 |zero=>exact λ J h=>FB h
 |succ d ih=>
  have il:∀{B:DM V},B.all (KH 0 d)=DN->MH B=DN->∀{D τ m keep f},d<=f->GA (eA (EE D) τ m keep f) B=DK B:=λ {B} h n {D τ m keep f} hf=>ZG λ v mv=>ih v (FQ.mp h v mv) (yc n v mv) D τ m keep f (GI _) hf;intro v;apply @V.casesOn (λ v=>KH 0 (d+1) v=DN->IC v=DN->aY (d+1) 0 v) v
  ·exact λ J J=>.hO λ J J J J J J=>rfl
  ·exact λ J J J=>.hO λ J J J J J J=>rfl
  ·exact λ J J J=>.hO λ J J J J J J=>rfl
  ·exact λ J J J=>.hO λ J J J J J J=>rfl
  ·exact λ B h n=>.hO λ J J J J J hf=>DX (·.map V.aR) (il h n hf)
  ·exact λ B h n=>.hO λ J J J J J hf=>DX (·.map V.aX) (il h n hf)
  ·exact λ ks B h n=>.hO λ J J J J J hf=>(DX (og · _) (DO h).1).trans (DX (·.map (V.bZ ks)) (il (DO h).2 n hf))
  ·exact λ c ks B h n=>.hO λ J J J J J hf=>DX (·.map (V.obj c ks)) (il h n hf)
  ·exact λ J J n=>EP n FJ
  ·exact λ J J J=>.hO λ J J J J J J=>rfl
  ·exact λ J J J=>.hO λ J J J J J J=>rfl
  ·exact λ J J J n=>EP n FJ
  ·exact λ J J J n=>EP n FJ
theorem HZ(h:KH 0 40 v=DN)(n:IC v=DN)(N:DL):aY 40 N v:=(OK 40 v h n).up
theorem sv(i:DY)(N:DL):aY 40 N (.int i):=.hO λ J J J J J J=>rfl
theorem Bp(h:a<N):aY 40 N (.ref a):=λ D τ n keep f hn hf=>by
 cases f with
 |zero=>exact EP hf (TF _)|succ f=>
  show QT (EE D) τ n keep _ a=_;unfold QT;rw[show HC a n=DN from MS.mpr (IW h hn)]
structure Ex where
 gI:DM (DL×DL×V)
 sb:DM (DL×V×V)
 mt:DM (DL×DL×DL)
 ru:DM Rv
 mL:DM Mi
 gt:DM (DL×V×V):=[]
noncomputable def fA{α:Type}:DM (DL×DL×α)->DL->DL->DQ α
 |[],_,_=>DP|x::r,k,a=>EN (EG x.1 k&&EG x.2.1 a) (DK x.2.2) (fA r k a)
noncomputable def fB:DM (DL×V×V)->DL->V->DQ V
 |[],_,_=>DP|x::r,k,a=>EN (EG x.1 k&&MK x.2.1 a) (DK x.2.2) (fB r k a)
theorem qo{α:Type}{l:DM (DL×DL×α)}{k a:DL}{y:α}(h:fA l k a=DK y):(k,a,y)∈l:=by
 induction l with
 |nil=>exact EW h|cons x r ih=>exact Ii h (λ q e=>by rw[<-JD (DO q).1,<-JD (DO q).2,<-EJ e];exact .head _) λ J h=>.tail _ (ih h)
theorem a_{l:DM (DL×V×V)}{k:DL}{a y:V}(h:fB l k a=DK y):(k,a,y)∈l:=by
 induction l with
 |nil=>exact EW h|cons x r ih=>exact Ii h (λ q e=>by rw[<-JD (DO q).1,<-PW (DO q).2,<-EJ e];exact .head _) λ J h=>.tail _ (ih h)
def PK(x:Ex):Hk:=⟨fA x.gI,fB x.sb,fA x.mt,λ k=>x.gt.any λ p=>EG p.1 k,fB x.gt,λ f args=>oo (G' x.ru f args) (H' x.mL f args)⟩
def ag(C:Cf)(U:aS)(p:DL×V×V):Prop:=∃t d,p.2.1=.str t/\JZ U (C.bx p.1)=DK d/\UA d.1 d.2 (.str t) .none=DK (sh C p.2.2)
structure Gx(C:Cf)(x:Ex):Prop where
 gI:∀τ U,Em C τ U->∀p∈x.gI,GR EF U (C.bx p.1) p.2.1=DK (sh C p.2.2)
 sb:∀τ U,Em C τ U->∀p∈x.sb,fX U (C.bx p.1) (sh C p.2.1)=DK (sh C p.2.2)
 mt:∀τ U,Em C τ U->∀p∈x.mt,KA EF U (C.bx p.1) p.2.1=DK p.2.2
 gt:∀τ U,Em C τ U->∀p∈x.gt,ag C U p
theorem asH{x:V}{t:Tx}{d:DM V×DM V}(h:JZ U v=DK d)(e:UA d.1 d.2 (.str t) .none=DK x):gK .get v [.str t] U=DK (x,U):=by
 show(JZ U v).bind _=_;rw[h];show(oo (UA d.1 d.2 (.str t) .none) _).bind _=_;rw[e];rfl
theorem Xh{x:Ex}(X:Gx C x):KN C EF (PK x) where
 nY τ U E k a y h:=X.gI τ U E _ (qo h)
 sba τ U E k i y h:=X.sb τ U E _ (a_ h)
 oS τ U E k m f h:=X.mt τ U E _ (qo h)
 oG τ U E k t y h:=by obtain⟨_,_,e,h1,h2⟩:=X.gt τ U E _ (a_ h);exact asH h1 (V.str.inj e▸h2)
 oA τ U E k h:=by obtain⟨p,m,e⟩:=Ab.mp h;exact by obtain⟨_,d,_,h1,_⟩:=X.gt τ U E p m;exact⟨d,JD e▸h1⟩
theorem aAZ(O:FP C){P:aS->Prop}(hP:∀τ U,Em C τ U->P U){K:DL}{x:Ex}(h:∀y∈x.ru,Pu P K y.1 (EH C y.2.1) (sh C y.2.2))
  (h2:∀y∈x.mL,∀ar,Pu (λ U=>P U/\U[ar]? =DK (.list (EH C y.2.1))) K y.1 (.ref ar::EH C y.2.2.1) (sh C y.2.2.2)):OY C (PK x) K:=λ f args m hm N hN=>FH hm (λ hm=>by
  obtain⟨v,mv,q⟩:=aAU hm;exact q▸aAX O hP (h _ mv) hN) λ hm=>by
  obtain⟨j,y,my,e1,e2,e3⟩:=aAT hm;rw[e1,e2,e3];exact aAV O hP (h2 y my) hN
theorem EC{α:Type}{P:α->Prop}{a:α}{l:DM α}(h:P a)(k:∀x∈l,P x):∀x∈a::l,P x:=NJ.mpr ⟨h,k⟩
theorem bO{α:Type}{P:α->Prop}:∀x∈([]:DM α),P x:=λ J m=>IK m
theorem VE{α:Type}{P:α->Prop}{l l':DM α}(h:∀x∈l,P x)(k:∀x∈l',P x):∀x∈l++l',P x:=List.forall_mem_append.mpr ⟨h,k⟩
theorem Hr{α β:Type}{P:β->Prop}{f:α->β}{l:DM α}(h:∀x∈l,P (f x)):∀x∈l.map f,P x:=List.forall_mem_map.mpr h
theorem ex0(ru:DM Rv)(mL:DM Mi):Gx C ⟨[],[],[],ru,mL,[]⟩:=⟨λ J J J=>bO,λ J J J=>bO,λ J J J=>bO,λ J J J=>bO⟩
structure Mv where
 k:V
 p:V
 t:V
 g:V
 i:V
 D:V
 ty:V
 us:V
variable {mv:Mv}
noncomputable def Ot:DM (Tx×V):=[([],(.str [109,111,100])),([84,114],(.str [116,114,97,105,116])),([79,116,104,101,114],(.str [116,114,97,105,116])),([65,115,107],(.str [116,114,97,105,116])),([78],(.str [115,116,114,117,99,116])),([71],(.str [115,116,114,117,99,116]))]
noncomputable def n_:DM (Tx×V):=[([84,114],.aR [.aR [],.aR []]),([79,116,104,101,114],.aR [.aR [],.aR []]),([65,115,107],.aR [.aR [],.aR [(.str [65])]]),([78],.aR [.aR [],.aR []]),([71],.aR [.aR [],.aR [(.str [84])]])]
noncomputable def Fh:DM Tx:=[[84,114],[79,116,104,101,114],[65,115,107],[78],[71]]
noncomputable def Jn(v:Mv):O:=.inst 456 [495606196587,32478926762833264,126879447277940,8314605277104989543,495756604521,1953523051] [v.k,v.p,v.t,v.g,v.i,.bZ [] []]
def iL(v:V)(l:DM (Tx×V)):Prop:=∃ks B,v=.bZ ks B/\∀p∈l,HY ks B (.str p.1)=DK (DK p.2)
structure JL(v:Mv):Prop where
 k:iL v.k Ot
 p:iL v.p (Fh.map λ n=>(n,.bool DN))
 t:iL v.t [([],v.D)]
 D:∃va,v.D=.obj 325 [495623108980,126879598928246,1936028533] [v.ty,va,v.us]
 ty:iL v.ty (Fh.map λ n=>(n,.str n))
 g:iL v.g n_
 gd:aY 40 0 v.k/\aY 40 0 v.p/\aY 40 0 v.t/\aY 40 0 v.g/\aY 40 0 v.i/\aY 40 0 v.D/\aY 40 0 v.ty
def gH(a:DL)(v:Mv)(U:aS):Prop:=U[a]? =DK (Jn v)
noncomputable def Cv(k:DL)(l:DM (Tx×V)):DM (DL×V×V):=l.map λ p=>(k,.str p.1,p.2)
def shT(p:Tx×V):DU:=IC p.2
theorem iL.sub{l:DM (Tx×V)}(h:iL (C.bx k) l)(n:l.all shT=DN):∀p∈Cv k l,fX U (C.bx p.1) (sh C p.2.1)=DK (sh C p.2.2):=Hr λ p m=>by
 obtain⟨ks,B,e,h⟩:=h;show fX U (C.bx k) (.str p.1)=DK (sh C p.2);rw[e,LV _ (FQ.mp n p m)];show oo ((HY ks B (.str p.1)).bind id) _=_;rw[h p m];rfl
theorem iL.get{l:DM (Tx×V)}(h:iL (C.bx k) l)(n:l.all shT=DN):∀p∈Cv k l,ag C U p:=Hr λ p m=>by
 obtain⟨ks,B,e,h⟩:=h;refine⟨p.1,(ks,B),rfl,DX (λ v=>oo (Dz v) ((FI v).bind λ i=>(U[i]?).bind oD)) e,?_⟩;show(HY ks B (.str p.1)).map _=_;rw[h p m];exact DX DK (LV _ (FQ.mp n p m)).symm
def B8:DM (Tx×V):=Fh.map λ n=>(n,.str n)
def W! :DM (Tx×V):=Fh.map λ n=>(n,.bool DN)
def Z4:Ex:=⟨[(5,495623108980,.bD 6 .none)],Cv 0 Ot++(Cv 1 W! ++((2,.str [],.bD 5 .none)::Cv 6 B8)),[(5,435459027059,317)],[],[],Cv 6 B8⟩
def Az(v:Mv)(sp:V)(k:DL):V:=oe ([v.k,v.p,v.t,v.g,v.i,v.D,v.ty,sp][k]?) .none id
noncomputable def L_:aS:=[.inst 456 [495606196587,32478926762833264,126879447277940,8314605277104989543,495756604521,1953523051] [.bD 0 .none,.bD 1 .none,.bD 2 .none,.bD 3 .none,.bD 4 .none,.bZ [] []]]
theorem ap9:(Fh.all λ n=>IJ (RA (PK Z4) 10 391 [.ref 0,.str [],.aR [.str n],(.str [116,121,112,101]),.bD 7 .none] L_) (.str n) L_)=DN:=by decide+kernel
theorem VY{P:DL->aH->Prop}{o:aH}(h:P 0 o):∀(i:DL) x,[o][i]? =DK x->P i x
 |0,_,e=>EJ e▸h
theorem Bb{l:DM V}(h:∀v∈l,aY 40 N v)(k:DL):aY 40 N (oe (l[k]?) .none id):=by
 cases q:l[k]? with
 |none=>exact GD N|some v=>exact h v (JK q)
theorem U1{α:Type}{a b:α}:∀{i:DL},[a][i]? =DK b->i=0/\a=b
 |0,e=>⟨rfl,EJ e⟩
theorem RT(h:a<U.length):mA U [a]:=⟨λ J J e=>(U1 e).2▸h,λ J J J e1 e2=>(U1 e1).1.trans (U1 e2).1.symm⟩
theorem aoV{v:Mv}(M:JL v)(b:C.bx=Az v sp):Gx C Z4:=by
 obtain⟨va,b1⟩:=M.D;obtain⟨tk,tv,t1,t2⟩:=M.t;have d0:iL (C.bx 0) Ot:=b▸M.k;have d1:iL (C.bx 1) W! :=b▸M.p;have d6:iL (C.bx 6) B8:=b▸M.ty;have h2:C.bx 2=.bZ tk tv:=b▸t1;have h5:C.bx 5=v.D:=b▸rfl;have h6:C.bx 6=v.ty:=b▸rfl;refine⟨λ J U J=>EC ?_ bO,λ J U J=>VE (d0.sub rfl) (VE (d1.sub rfl) (EC ?_ (d6.sub rfl))),λ J U J=>EC ?_ bO,λ J U J=>d6.get rfl⟩
 ·show GR EF U (C.bx 5) _=DK (C.bx 6);rw[h5,h6,b1];rfl
 ·show fX U (C.bx 2) (.str [])=DK (C.bx 5);rw[h2,h5];show oo ((HY tk tv (.str [])).bind id) _=_;rw[t2 _ (.head _)];rfl
 ·show KA EF U (C.bx 5) _=DK 317;rw[h5,b1];rfl
theorem V2{v:Mv}(M:JL v){sp:V}(hs:aY 40 0 sp)(N k:DL):aY 40 N (Az v sp k):=(Bb (N:=0) (EC M.gd.1 (EC M.gd.2.1 (EC M.gd.2.2.1 (EC M.gd.2.2.2.1 (EC M.gd.2.2.2.2.1 (EC M.gd.2.2.2.2.2.1 (EC M.gd.2.2.2.2.2.2 (EC hs bO)))))))) k).up
theorem ap8{v:Mv}(M:JL v){sp:V}(hs:aY 40 0 sp){n:Tx}(hn:n∈Fh):Pu (gH a v) 10 391 [.ref a,.str [],.aR [.str n],(.str [116,121,112,101]),sp] (.str n):=
 Cs (P:=gH a v) (hk:=PK Z4) (bx:=Az v sp) (ad:=[a]) (τ:=L_) (K:=0) (n:=10) (λ U J=>V2 M hs _) (λ U p=>RT (GX p)) rfl (EC rfl bO) (λ U p=>VY p) (λ U g p=>⟨Xh (aoV M rfl),λ J J J h=>EW h⟩) (SD (FQ.mp ap9 n hn)) (λ U=>rfl) (λ U=>rfl)
theorem gH.lt{v:Mv}(p:gH a v U):a<U.length:=GX p
theorem gH.keep{v:Mv}(p:gH a v U){ad:DM DL}{bx:DL->V}{pre:DL->DM V}{kn:DL->Tx->DQ V}(n:a∉ad){τ G:aS}(E:Em (FN U ad bx pre kn) τ G):gH a v G:=(SH E p.lt n).trans p
def qm(x:Ex):Ex:=⟨(9,495606196587,.bD 0 .none)::(9,8314605277104989543,.bD 3 .none)::x.gI,Cv 0 Ot++(Cv 3 n_++x.sb),(9,1684957542,391)::x.mt,x.ru,x.mL,x.gt⟩
noncomputable abbrev JG(x:Ex):Hk:=PK (qm x)
theorem Ob{x:Ex}{v:Mv}(M:JL v)(b0:C.bx 0=v.k)(b3:C.bx 3=v.g)(b9:C.bx 9=.ref a)(hP:∀τ U,Em C τ U->gH a v U)(X:Gx C x):KN C EF (JG x):=by
 have hi:∀{U},gH a v U->OL U (C.bx 9)=DK (456,[495606196587,32478926762833264,126879447277940,8314605277104989543,495756604521,1953523051],[v.k,v.p,v.t,v.g,v.i,.bZ [] []]):=λ {U} p=>by
  rw[b9];exact DX (λ x:DQ O=>x.bind oI) p
 refine Xh ⟨λ τ U E=>EC ?_ (EC ?_ (X.gI τ U E)),λ τ U E=>VE (iL.sub (b0▸M.k) rfl) (VE (iL.sub (b3▸M.g) rfl) (X.sb τ U E)),λ τ U E=>EC ?_ (X.mt τ U E),X.gt⟩
 ·show GR EF U (C.bx 9) _=DK (C.bx 0);unfold GR;rw[hi (hP τ U E),b0];rfl
 ·show GR EF U (C.bx 9) _=DK (C.bx 3);unfold GR;rw[hi (hP τ U E),b3];rfl
 ·show KA EF U (C.bx 9) _=DK 391;unfold KA;rw[hi (hP τ U E)];rfl
theorem Zh(O:FP C){P:aS->Prop}(hP:∀τ U,Em C τ U->P U){K:DL}{x:Ex}(h:∀y∈x.ru,Pu P K y.1 (EH C y.2.1) (sh C y.2.2))
  (h2:∀y∈x.mL,∀ar,Pu (λ U=>P U/\U[ar]? =DK (.list (EH C y.2.1))) K y.1 (.ref ar::EH C y.2.2.1) (sh C y.2.2.2)):OY C (JG x) K:=aAZ (x:=qm x) O hP h h2
def Ps(sps:DM V):DM Rv:=sps.flatMap λ s=>Fh.map λ n=>(391,[.bD 9 .none,.str [],.aR [.str n],(.str [116,121,112,101]),s],.str n)
theorem B'{v:Mv}(M:JL v)(b9:C.bx 9=.ref a){sps:DM V}(hs:∀s∈sps,aY 40 0 (sh C s)):∀x∈Ps sps,Pu (gH a v) 10 x.1 (EH C x.2.1) (sh C x.2.2):=λ x m=>by
 obtain⟨s,ms,m⟩:=List.mem_flatMap.mp m;obtain⟨n,mn,e⟩:=LN.mp m;rw[<-e];show Pu (gH a v) 10 391 (C.bx 9::_) _;rw[b9];exact ap8 M (hs s ms) mn
def PF:Ex:=⟨[],[],[],Ps [.bD 7 .none,.int 0],[],[]⟩
def VI(a:DL)(v:Mv)(sp st e1 e2 e5:V)(k:DL):V:=oe ([v.k,.none,.none,v.g,.none,e5,.none,sp,st,.ref a,.none,.none,.none,.none,.none,.none,.none,.none,.none,.none,.none,.none,.none,.none,e1,e2][k]?) .none id
theorem kq{v:Mv}(M:JL v){sp st e1 e2 e5:V}{N:DL}(ha:a<N)(h1:aY 40 0 sp)(h2:aY 40 0 st)(h3:aY 40 0 e1)(h4:aY 40 0 e2)(h5:aY 40 N e5)(k:DL):aY 40 N (VI a v sp st e1 e2 e5 k):=
 have z:=GD N
 Bb (EC M.gd.1.up (EC z (EC z (EC M.gd.2.2.2.1.up (EC z (EC h5 (EC z (EC h1.up (EC h2.up (EC (Bp ha) (EC z (EC z (EC z (EC z (EC z (EC z (EC z (EC z (EC z (EC z (EC z (EC z (EC z (EC z (EC h3.up (EC h4.up bO)))))))))))))))))))))))))) k
theorem azI{v:Mv}(M:JL v){sp st e1 e2 e5:V}(h1:aY 40 0 sp)(h2:aY 40 0 st)(h3:aY 40 0 e1)(h4:aY 40 0 e2){Q:aS->Prop}(h5:∀U,Q U->aY 40 U.length e5){n f:DL}{args:DM V}{r:V}(h:RA (JG PF) n f args []=.ok r []){iO:DM V}{r':V}
  (ha:∀U,EH (GS U [] (VI a v sp st e1 e2 e5) λ J=>[]) args=iO)(hv:∀U,sh (GS U [] (VI a v sp st e1 e2 e5) λ J=>[]) r=r'):Pu (λ U=>gH a v U/\Q U) (n+10) f iO r':=
 U' (bx:=VI a v sp st e1 e2 e5) (λ U p=>kq M p.1.lt h1 h2 h3 h4 (h5 U p.2)) (λ U g p=>
  have hP:∀τ G,Em (GS U [] (VI a v sp st e1 e2 e5) λ J=>[]) τ G->gH a v G:=λ τ G E=>p.1.keep KG E
  ⟨Ob M rfl rfl rfl hP (ex0 _ _),Zh (VV g (.nil U) (kq M p.1.lt h1 h2 h3 h4 (h5 U p.2))) hP (B' (sps:=[.bD 7 .none,.int 0]) M rfl (EC (P:=λ s=>aY 40 0 (sh (GS U [] (VI a v sp st e1 e2 e5) λ J=>[]) s)) (show aY 40 0 (VI a v sp st e1 e2 e5 7)from h1) (EC (sv 0 0) bO))) bO⟩) h ha hv
def ZT(sp:V)(w:DM DL)(i:DL):V:=.aR [(.str [116,117,112,108,101]),sp,.aR [QE [88] (.int 0) [],QE [89] (.int 0) [],wr sp w i]]
noncomputable def kX:V:=.aX [(.str [88]),(.str [89])]
noncomputable def rT:V:=.aX [(.str [83,101,108,102]),(.str [88]),(.str [89])]
noncomputable def wZ:V:=.aX [.aR [(.str [88]),.bD 24 .none],.aR [(.str [89]),.bD 25 .none]]
def fJ:V:=XW 2
def OZ(i:DL):V:=.aX (tlG i::match i with|2=>[fJ]|_=>[])
noncomputable def VH(b:DU):V:=match b with
 |true=>.aR [.aR [.aR [(.str [84,114]),.aR [],.aR []]]]|false=>.aR []
def TZ(b0 b1:DU):V:=.aR [.aR [],.aR [.aR [(.str [88]),VH b0],.aR [(.str [89]),VH b1]]]
noncomputable def pA:V:=.aR [.aR [],.aR []]
noncomputable def i0:V:=.int 0
def g_(n:Tx)(g oV body:V):V:=.aR [(.str [102,110]),i0,.str n,g,.none,.aR [.aR [.aR [(.str [110,97,109,101]),i0,(.str [97]),.bool DT,.bool DT,.none],oV]],QE [117,56] i0 [],body,.bool DT]
def js:V:=.aR [(.str [98,108,111,99,107]),i0,.aR [],.none]
noncomputable def NC(c:DL)(k:DL):Tx:=[c,48+k]
def QY(dC k:DL)(g:V)(oV fG:V):V:=match dC with
 |0=>g_ (NC 102 k) g oV js|1=>.aR [(.str [115,116,114,117,99,116]),i0,.str (NC 75 k),g,(.str [110,97,109,101,100]),.aR [.aR [(.str [120]),oV,.bool DN]],.bool DN]|2=>.aR [(.str [116,114,97,105,116]),i0,.str (NC 82 k),pA,.aR [g_ [109] g oV .none],.bool DN]|3=>.aR [(.str [105,109,112,108]),i0,pA,.none,QE [78] i0 [],.aR [g_ (NC 109 k) g oV js]]|4=>.aR [(.str [105,109,112,108]),i0,g,.aR [.aR [(.str [65,115,107]),.aR [],.aR [fG]]],QE [78] i0 [],.aR []]|_=>.aR [(.str [105,109,112,108]),i0,g,.aR [.aR [(.str [79,116,104,101,114]),.aR [],.aR []]],fG,.aR []]
def Ks(n:Tx):V:=.aR [(.str [116,114,97,105,116]),i0,.str n,pA,.aR [],.bool DN]
def sL:V:=.aR [(.str [116,114,97,105,116]),i0,(.str [65,115,107]),.aR [.aR [],.aR [.aR [(.str [65]),.aR []]]],.aR [],.bool DN]
def uK:V:=.aR [(.str [115,116,114,117,99,116]),i0,(.str [78]),pA,(.str [117,110,105,116]),.aR [],.bool DN]
def j6:V:=.aR [(.str [115,116,114,117,99,116]),i0,(.str [71]),.aR [.aR [],.aR [.aR [(.str [84]),VH DN]]],(.str [116,117,112,108,101]),.aR [.aR [(.str [48]),QE [84] i0 [],.bool DN]],.bool DN]
def JH(n:Tx):V:=.aR [(.str [105,109,112,108]),i0,pA,.aR [.aR [(.str [84,114]),.aR [],.aR []]],QE n i0 [],.aR []]
noncomputable def jG(c:DL)(ab ks B:DM V):O:=.inst 7003 [c] (.aX ab:: .aX ks::B)
def TS(q:DL)(sab tab tk tv pl:DM V):aS:=
 [.inst 825 [495756604521,32481138822115181,431316168567,1702125932,1684371311] [.bD 30 .none,.bD 9 .none,.ref 2,.ref 9,.ref 1],
  .inst 7001 [] [],
  .inst 687 [32481138822115181,1937007713,8319395776320135542,1936157043,126943821394548,495740546409,126943990017891,126879397080930] [.bD 9 .none,.ref 4,.ref 5,.ref 6,.ref 7,.ref 3,.bD 32 .none,.ref 8],
  .inst 7001 [q] [],
  jG 0 [] [] [],jG 0 [] [] [],jG 0 sab [] [],jG 0 tab tk tv,jG 0 [] [] [],
  .inst 7001 [] [],.inst 7001 [] pl]
def Zy(k:DL):V:=.aR [(.str [97,100,116]),.str (NC 75 k),.aR [],.aR [XW 0,XW 1]]
noncomputable def qF:V:=.aR [(.str [112,97,114,97,109]),(.str [83,101,108,102])]
noncomputable def b7:V:=.bD 7 .none
noncomputable def b9:V:=.bD 9 .none
noncomputable def cU:DM V:=[(.str [84,114]),(.str [79,116,104,101,114]),(.str [65,115,107])]
noncomputable def LX(n:Tx)(ps:DM V):V:=.obj 636 [1752457584,126913623515504,32480051978331501,8319393663061222756] [.str n,.aR ps,.bZ [] [],.bZ [] []]
def Kw:DM V:=[LX [84,114] [],LX [79,116,104,101,114] [],LX [65,115,107] [(.str [65])]]
noncomputable def FY(b:DU):V:=match b with|true=>.aR [(.str [84,114])]|false=>.aR []
noncomputable def IR(e1 e2:V):DM V:=[.aR [(.str [88]),e1],.aR [(.str [89]),e2]]
noncomputable def jM:V:=.aR [.aR [],.aR [.aR [(.str [88]),.bD 26 .none],.aR [(.str [89]),.bD 27 .none]]]
noncomputable def LO:V:=.bD 24 .none
noncomputable def LP:V:=.bD 25 .none
def ruI(k:DL):DM Rv:=
 [(235,[b9,.str [],kX,.none,.bD 20 .none],.bD 21 .none),
  (235,[b9,.str [],kX,Zy k,.bD 20 .none],.bD 21 .none),
  (235,[b9,.str [],kX,fJ,.bD 20 .none],.bD 21 .none),
  (235,[b9,.str [],rT,qF,.bD 20 .none],.bD 21 .none),
  (235,[b9,.str [],kX,.none,.bD 22 .none],.bD 23 .none),
  (235,[b9,.str [],kX,fJ,.bD 22 .none],.bD 23 .none),
  (240,[.bD 21 .none],.bool DN),(240,[.bD 23 .none],.bool DN),
  (163,[.bD 21 .none,.aR [],i0],.none),(163,[.bD 21 .none,.aR [],b7],.none),(163,[.bD 23 .none,.aR [],i0],.none),
  (810,[.ref 0,.aX (IR LO LP),.aR [fJ,.bD 23 .none],i0],.none),(810,[.ref 0,.aX (IR LO LP),.aR [.bD 23 .none],i0],.none),
  (250,[b9,.str [],jM,i0],.aX (IR LO LP))]
def Z5(k:DL):Ex:=⟨[],[(20,.int 1,b7),(22,.int 1,b7)],[],ruI k++Ps [i0],[(149,[.bD 21 .none],[iK,.none,i0],.aR [.aR [.bD 21 .none],iK,.aR []])],[]⟩
noncomputable def MI:DL->Ss->S
 |_,.nil=>.bL|n,.cons s ss=>match n with|0=>s|n+1=>MI n ss
noncomputable def Qy(s:S):E:=match s with|.jJ c _=>c|_=>.bL
noncomputable def PC(s:S):Ss:=match s with|.jJ _ b=>b|.for _ _ b=>b|_=>.nil
noncomputable def ZC(s:S):T:=match s with|.for t _ _=>t|_=>.aR .nil
def sW:S:=MI 1 iR
def sF:S:=MI 2 iR
noncomputable def m0:Lv:=[DK (.ref 0),DK (.ref 10),DP,DP,DP,DP]
noncomputable abbrev T?(ex:Ex):JM:=RA (JG ex) 30
def Qu(ex:Ex)(τ:aS):R (Fl×Lv):=FC (HF EF (JG ex)) (T? ex) (PC sW) m0 τ
def B1(ex:Ex)(v:V)(τ:aS):R (Fl×Lv):=M.bind (IY (HF EF (JG ex)) (T? ex) (ZC sF) v m0) (λ m=>FC (HF EF (JG ex)) (T? ex) (PC sF) m) τ
def QR(τ:aS)(i:DL)(o:O):DU:=oe (τ[i]?) DT λ x=>Kd x o
def S!(τ:aS)(i:DL)(p:Sk->DU):DU:=oe (Fz τ (.ref i)) DT p
def S_(τ:aS)(i:DL)(ab:DM V):DU:=S! τ i λ s=>FW s.c 9&&KL s.ab ab
def j4(τ:aS)(i:DL)(t:Tx)(v:V):DU:=S! τ i λ s=>oe (Va s (.str t)) DT λ u=>MK u v
def j0(τ:aS)(i:DL):DU:=S! τ i λ s=>s.B.all (PD 40)
noncomputable def uu(f:Fl):DU:=EG f.ctorIdx 0
def Ys(r:R (Fl×Lv)):DQ (Lv×aS):=match r with
 |.ok p τ=>og (uu p.1) (DK (p.2,τ))|.cD _ _=>DP|.bL=>DP
def Zt(m:Lv)(i:DL)(v:V):DU:=oe (ZN m i) DT (MK v)
noncomputable abbrev WT:=DL×Tx×V
def Be(r:R (Fl×Lv))(b:aS)(q:DL)(sab tab ow im la:DM V)(up:DM WT):DU:=oe (Ys r) DT λ p=>
 (EG p.1.length 6&&Zt p.1 0 (.ref 0)&&Zt p.1 1 (.ref 10))&&(MV p.2&&FW 11 p.2.length)&&
 ((oe (b[0]?) DT (QR p.2 0)&&oe (b[2]?) DT (QR p.2 2))&&(QR p.2 1 (.inst 7001 [] ow)&&QR p.2 3 (.inst 7001 [q] im)&&QR p.2 9 (.inst 7001 [] la)&&QR p.2 10 (.inst 7001 [] [])))&&
 ([4,5,6,7,8].all (λ i=>S_ p.2 i (EN (EG i 6) sab (EN (EG i 7) tab []))&&j0 p.2 i)&&(up.all (λ x=>j4 p.2 x.1 x.2.1 x.2.2))&&(ow++(im++la)).all (PD 40))
noncomputable def Fv(ps:DM V)(st:V):V:=.obj 720 [111516500389741,32491047110534514,126913623515504,1871225788402183726451] [.str [],.aR [],.aX ps,st]
def MO(t:V)(ps:DM V)(st sp:V):V:=.aR [t,Fv ps st,sp]
noncomputable def je:V:=.bD 21 .none
noncomputable def jf:V:=.bD 23 .none
def Zb(k:DL)(e1 e2:V):DM V:=.aR [(.str [83,101,108,102]),.aR [.str (NC 82 k)]]::IR e1 e2
def yy(dC k:DL)(t u p e1 e2:V):DM V:=match dC with
 |0=>[MO t (IR e1 e2) .none p,MO iK (IR e1 e2) .none i0]|1=>[MO t (IR e1 e2) (Zy k) p]|2=>[MO t (Zb k e1 e2) qF p,MO iK (Zb k e1 e2) qF i0]|3=>[MO fJ [] fJ i0,MO t (IR e1 e2) fJ p,MO iK (IR e1 e2) fJ i0]|4=>[MO fJ (IR e1 e2) fJ i0,MO u (IR e1 e2) fJ p]|_=>[MO u (IR e1 e2) u p]
def Fk(dC k:DL)(e1 e2:V):DM V:=yy dC k je jf b7 e1 e2
def Oj(q:DL)(ps:DM V)(tr:V)(as:DM V)(st ms:V):V:=.obj 658 [125779768604014,32491047110534514,126913623515504,499984200308,544980402143347936948852,1871225788402183726451,32480051978331501,1953460339] [.int q,.aR [],.aX ps,tr,.aR as,st,ms,i0]
def uc(dC k q:DL)(u e1 e2:V):DM V:=match dC with
 |3=>[Oj q [] .none [] fJ (.bZ [.str (NC 109 k)] [.str ([105,109,112,108,35]++[48+q]++[58,58]++NC 109 k)])]|4=>[Oj q (IR e1 e2) (.str [65,115,107]) [u] fJ (.bZ [] [])]|5=>[Oj q (IR e1 e2) (.str [79,116,104,101,114]) [] u (.bZ [] [])]|_=>[]
def Xi(dC k q:DL)(e1 e2:V):DM V:=uc dC k q jf e1 e2
noncomputable def IS:DM V:=[(.str [115,116,114,117,99,116,32,78]),(.str [115,116,114,117,99,116,32,71])]
def Jh(dC k:DL)(g:V):V:=QY dC k g (.bD 20 .none) (.bD 22 .none)
noncomputable def GB(it:V):V:=.aR [.str [],it]
theorem azW:NE (λ w i=>IJ (RA (JG PF) 20 235 [.bD 9 .none,.str [],.aX [(.str [88]),(.str [89])],.bD 8 .none,wr (.bD 7 .none) w i] []) (tl w i) [])=DN:=by decide+kernel
theorem azV:NE (λ w i=>IJ (RA (JG PF) 20 235 [.bD 9 .none,.str [],rT,.bD 8 .none,wr (.bD 7 .none) w i] []) (tl w i) [])=DN:=by decide+kernel
theorem azU:NE (λ w i=>IJ (RA (JG PF) 20 235 [.bD 9 .none,.str [],kX,.bD 8 .none,ZT (.bD 7 .none) w i] []) (KY w i) [])=DN:=by decide+kernel
theorem aD2:NE (λ w i=>IJ (RA (JG PF) 20 240 [KY w i] []) (.bool DN) [])=DN:=by decide+kernel
theorem aD3:NE (λ w i=>IJ (RA (JG PF) 20 240 [tl w i] []) (.bool DN) [])=DN:=by decide+kernel
theorem ao2:NE (λ w i=>IJ (RA VQ 20 149 [.ref 0,iK,.none,.int 0] [.list [tl w i]]) (.aR [.aR [tl w i],iK,.aR []]) [.list [tl w i]])=DN:=by decide+kernel
theorem aA1:NE (λ w i=>IJ (RA (JG PF) 20 163 [tl w i,.aR [],.bD 7 .none] []) .none [])=DN:=by decide+kernel
theorem aA0:NE (λ w i=>IJ (RA (JG PF) 20 163 [KY w i,.aR [],.bD 7 .none] []) .none [])=DN:=by decide+kernel
theorem ayS:NE (λ w i=>IJ (RA (JG PF) 20 810 [.bD 5 .none,wZ,.aR [fJ,KY w i],.bD 7 .none] []) .none [])=DN:=by decide+kernel
theorem ayT:NE (λ w i=>IJ (RA (JG PF) 20 810 [.bD 5 .none,wZ,.aR [KY w i],.bD 7 .none] []) .none [])=DN:=by decide+kernel
theorem ajU:NE (λ w i=>IJ (RA (JG PF) 20 843 [tl w i] []) (OZ i) [])=DN:=by decide+kernel
theorem ajT:NE (λ w i=>IJ (RA (JG PF) 20 843 [KY w i] []) (OZ i) [])=DN:=by decide+kernel
noncomputable def TU(p:DU->DU->DU):DU:=p DN DN&&p DN DT&&p DT DN&&p DT DT
def Lc:DM WT:=[(7,[84,114],LX [84,114] []),(7,[79,116,104,101,114],LX [79,116,104,101,114] []),(7,[65,115,107],LX [65,115,107] [(.str [65])])]
def cW(dC k:DL)(g e1 e2:V):DU:=let b:=TS 0 IS cU [] [] [GB (Jh dC k g)];Be (Qu (Z5 k) b) b 0 IS cU (Fk dC k e1 e2) [] [] []
def Eh(dC k q:DL)(g e1 e2:V):DU:=let b:=TS q IS [] cU Kw [];Be (B1 (Z5 k) (GB (Jh dC k g)) b) b q IS [] (Fk dC k e1 e2) (Xi dC k q e1 e2) [] Lc
theorem auO:([0,1].all λ k=>TU λ b0 b1=>cW 1 k (TZ b0 b1) (FY b0) (FY b1))=DN:=by decide+kernel
theorem auP:([0,1].all λ k=>cW 2 k jM LO LP)=DN:=by decide+kernel
theorem auN:([0,1].all λ k=>[0,1,2,3].all λ q=>Eh 0 k q jM LO LP)=DN:=by decide+kernel
theorem auQ:([0,1,2,3].all λ q=>Eh 3 0 q jM LO LP)=DN:=by decide+kernel
theorem auR:([0,1,2,3].all λ q=>Eh 3 1 q jM LO LP)=DN:=by decide+kernel
theorem auS:([0,1,2,3].all λ q=>Eh 4 0 q jM LO LP)=DN:=by decide+kernel
theorem auT:([0,1,2,3].all λ q=>Eh 5 0 q jM LO LP)=DN:=by decide+kernel
theorem akX:(TU λ b0 b1=>IJ (RA (JG PF) 20 250 [.bD 9 .none,.str [],TZ b0 b1,i0] []) (.aX (IR (FY b0) (FY b1))) [])=DN:=by decide+kernel
def Z6:Ex:=⟨[],[],[],Ps [i0],[],[]⟩
def cK(it:V)(sab tab ow:DM V)(up:DM WT):DU:=let b:=TS 0 sab tab [] [] [GB it];Be (Qu Z6 b) b 0 sab tab ow [] [] up
def Cw:V:=.obj 615 [1752457584,32491047110534514,126913623515504,7239535,126944023703145,128047746676079,1852630415645166298483,8747238844559221096] [(.str [71]),.aR [],.aX [.aR [(.str [84]),FY DN]],.aX [.aR [(.str [84]),FY DN]],.aR [],.aR [(.str [97,100,116]),(.str [71]),.aR [],.aR [.aR [(.str [112,97,114,97,109]),(.str [84])]]],.none,.bool DT]
theorem vn:(cK (Ks [84,114]) IS [(.str [79,116,104,101,114]),(.str [65,115,107])] [] [(7,[84,114],LX [84,114] [])]&&cK (Ks [79,116,104,101,114]) IS [(.str [84,114]),(.str [65,115,107])] [] [(7,[79,116,104,101,114],LX [79,116,104,101,114] [])]&&cK sL IS [(.str [84,114]),(.str [79,116,104,101,114])] [] [(7,[65,115,107],LX [65,115,107] [(.str [65])])]&&cK uK IS cU [] []&&
 cK j6 [(.str [115,116,114,117,99,116,32,78])] cU [MO (.aR [(.str [112,97,114,97,109]),(.str [84])]) [.aR [(.str [84]),FY DN]] (.aR [(.str [97,100,116]),(.str [71]),.aR [],.aR [.aR [(.str [112,97,114,97,109]),(.str [84])]]]) i0] [(6,[115,116,114,117,99,116,32,71],Cw)])=DN:=by decide+kernel
noncomputable def KB:DL->Tx
 |0=>[78]|_=>[117,56]
def WH:DL->V
 |0=>fJ|_=>iK
def cO(o q:DL):DU:=let b:=TS q IS [] cU Kw [];Be (B1 Z6 (GB (JH (KB o))) b) b q IS [] [MO (WH o) [] (WH o) i0] [Oj q [] (.str [84,114]) [] (WH o) (.bZ [] [])] [] Lc
theorem atA:([0,1].all λ o=>[0,1,2,3].all λ q=>cO o q)=DN:=by decide+kernel
noncomputable def ql(kd:Tx):Ex:=⟨[],[(50,.int 0,.str kd)],[],[],[],[]⟩
def cL(kd:Tx):DU:=let b:=TS 0 IS cU [] [] [GB (.bD 50 .none)];Be (Qu (ql kd) b) b 0 IS cU [] [] [GB (.bD 50 .none)] []
theorem vw:(cL [102,110]&&cL [105,109,112,108])=DN:=by decide+kernel
def Nf(o:DL):V:=.obj 658 [125779768604014,32491047110534514,126913623515504,499984200308,544980402143347936948852,1871225788402183726451,32480051978331501,1953460339] [EN (EG o 0) (.bD 64 .none) (.bD 67 .none),.aR [],.aX [],(.str [84,114]),.aR [],WH o,.bZ [] [],i0]
def Ng(os:DM DL)(n0 n1 bh:DU):DM V:=
 EN bh (os.map Nf++(EN n0 [V.bD 61 .none] []++EN n1 [V.bD 62 .none] [])) ((EN n0 [V.bD 61 .none] []++EN n1 [V.bD 62 .none] [])++os.map Nf)
noncomputable def Z3(t0 t1:V):Ex:=⟨[(60,495740546409,.ref 1),(61,499984200308,t0),(62,499984200308,t1)],[],[],[],[],[]⟩
noncomputable def aaM:O:=.inst 562 [431316168567,126875187113826,474450194027] [.bD 60 .none,.bD 65 .none,.bD 66 .none]
noncomputable def ZV(b:DU)(v:V):V:=EN b (.aX [.aR [(.str [121,101,115]),v,.bZ [] []]]) (.aX [])
noncomputable def Db(t:DL)(a b c:V):V:=EN (EG t 0) a (EN (EG t 1) b c)
def tC(t:DL):V:=Db t (.aR [(.str [112,97,114,97,109]),.bD 68 .none]) fJ iK
def aA6(os:DM DL)(t:DL):V:=Db t (.aX []) (ZV (os.any (EG 0)) (.bD 64 .none)) (ZV (os.any (EG 1)) (.bD 67 .none))
noncomputable def QD:DM V:=[.none,(.str [65,115,107]),(.str [79,116,104,101,114])]
def Nk(os:DM DL)(n0 n1 bh:DU)(t0 t1:V)(t:DL):DU:=
 let τ:=[aaM,.list (Ng os n0 n1 bh)]
 IJ (RA (JG (Z3 t0 t1)) 12 547 [.ref 0,(.str [84,114]),.aR [],tC t,.int 0] τ) (aA6 os t) τ
def WZ(os:DM DL)(bh:DU):DU:=[0,1,2].all λ t=>
 Nk os DT DT bh .none .none t&&(QD.all λ t0=>Nk os DN DT bh t0 .none t&&Nk os DT DN bh .none t0 t&&QD.all λ t1=>Nk os DN DN bh t0 t1 t)
theorem am9:(WZ [] DN)=DN:=by decide+kernel
theorem amA:(WZ [0] DN&&WZ [0] DT)=DN:=by decide+kernel
theorem amB:(WZ [1] DN&&WZ [1] DT)=DN:=by decide+kernel
theorem amC:(WZ [0,1] DN&&WZ [0,1] DT)=DN:=by decide+kernel
def sC:S:=MI 0 qW
noncomputable def mC:Lv:=[DK (.bD 70 .none),DP,DP,DP,DP,DP,DP,DP,DP,DP]
noncomputable def uH:DM DL:=[431316168567,126875187113826,474450194027]
def aBB(l:DM V):DU:=oe (XY l) DT λ p=>MK p.1 (.bD 60 .none)&&oe (eM p.2) DT λ q=>(FI q.1).isSome&&(FI q.2).isSome
def A?(x:DL×DM DL×DM V):DU:=EG x.1 562&&FT x.2.1 uH&&aBB x.2.2
def aaF(j:DL)(v:V):M V:=M.st λ τ=>((τ[j]?).bind oI).bind λ x=>og (A? x) (og (MV τ) (here v τ))
def Wk(i:DL):Ex:=⟨[(70,431316168567,.bD 60 .none),(60,1936157043,.bD 71 .none)],[],[],[(843,[.bD 21 .none],OZ i)],[],[(71,(.str [115,116,114,117,99,116,32,71]),Cw),(71,(.str [115,116,114,117,99,116,32,78]),.none)]⟩
def Pr(i:DL)(GF:DU):V:=ZV GF (EN (EG i 2) (.bD 64 .none) (.bD 67 .none))
def ru3(i:DL)(GF:DU)(f:DL)(args:DM V):DQ (M V):=(XY args).bind λ p=>(FI p.1).bind λ r=>og (EG f 547&&KL p.2 [(.str [84,114]),.aR [],XW i,.int 0]) (DK (aaF r (Pr i GF)))
def Iy(i:DL)(GF:DU):Hk:={JG (Wk i)with ru:=λ f args=>oo (ru3 i GF f args) ((JG (Wk i)).ru f args)}
def aDG(i:DL)(GF:DU)(v:V):M (Fl×Lv):=M.bind (IY (HF EF (Iy i GF)) (RA (Iy i GF) 30) (ZC sC) v mC) (λ m=>FC (HF EF (Iy i GF)) (RA (Iy i GF) 30) (PC sC) m)
def UQ(i:DL)(GF:DU)(v:V):R (Fl×Lv):=aDG i GF v []
def psB(self:DU)(e1 e2:V):DM V:=EN self (.aR [(.str [83,101,108,102]),.bD 28 .none]::IR e1 e2) (IR e1 e2)
def Fj(self:DU)(e1 e2 sp:V):V:=.aR [je,Fv (psB self e1 e2) (.bD 8 .none),sp]
noncomputable def awH:Tx:=[116,104,101,32,116,121,112,101,115,32,111,102,32,71,32,108,97,99,107,32,97,32,116,114,97,105,116,32,116,104,97,116,32,105,115,32,97,115,107,101,100,32,111,102,32,116,104,101,109]
def Fc(r:R (Fl×Lv)):DU:=oe (Ys r) DT λ p=>(EG p.1.length 10&&Zt p.1 0 (.bD 70 .none))&&MV p.2
def NV(s:DY):V:=.obj 88 [28542640894207341,1953460339] [.str awH,.int s]
def w_(r:R (Fl×Lv))(sp:DY):DU:=match r with
 |.cD e τ=>MK e (NV sp)&&MV τ|.ok _ _=>DT|.bL=>DT
noncomputable def Bt(i:DL)(b0 b1 GF:DU):DU:=EN (EG i 0) b0 (EN (EG i 1) b1 GF)
def Bj(i:DL)(b0:DU):V:=EN (EG i 0) (FY b0) LO
def Bk(i:DL)(b1:DU):V:=EN (EG i 1) (FY b1) LP
noncomputable def hD(i:DL)(GF:DU):DU:=EN (EG i 0||Nat.beq i 1) DT GF
def Nl(i:DL)(GF b self:DU):DU:=EN (Bt i b b GF) (Fc (UQ i (hD i GF) (Fj self (Bj i b) (Bk i b) b7)))
 (w_ (UQ i (hD i GF) (Fj self (Bj i b) (Bk i b) (.int 10))) 10&&w_ (UQ i (hD i GF) (Fj self (Bj i b) (Bk i b) (.int 11))) 11)
theorem lj:([0,1].all λ i=>TU λ b self=>Nl i DT b self)=DN:=by decide+kernel
theorem lm:([2,3].all λ i=>TU λ GF self=>Nl i GF DT self)=DN:=by decide+kernel
theorem Vs:(Fc (UQ 0 DT (.aR [fJ,Fv [] (.bD 8 .none),i0]))&&Fc (UQ 0 DT (.aR [fJ,Fv (IR LO LP) (.bD 8 .none),i0]))&&Fc (UQ 0 DT (.aR [iK,.bD 72 .none,i0]))&&Fc (UQ 0 DT (.aR [.aR [(.str [112,97,114,97,109]),(.str [84])],.bD 72 .none,i0])))=DN:=by decide+kernel
structure CS where
 dI:DM V
 cA:DM V
 late:DM V
 left:DM V
 kn:DL->Tx->DQ V
variable {s':CS}
noncomputable def YT(sab tab:DM V)(i:DL):DM V:=EN (EG i 6) sab (EN (EG i 7) tab [])
def OB(i:DL):DM V:=YT IS cU i
def Dk(U:aS)(a n:DL)(P:DM V)(kn:Tx->DQ V):Prop:=∃K W,U[a]? =DK (.dict K W)/\GN K=DN/\K.length=W.length/\K.length<=n/\(∀t,V.str t∈P->HY K W (.str t)=DK (kn t))/\∀x∈W,aY 90 0 x
def Eu(A:DL->DL)(its bG:V)(s:CS)(i:DL):DQ O:=([DK (.inst 825 [495756604521,32481138822115181,431316168567,1702125932,1684371311] [its,.ref (A 11),.ref (A 2),.ref (A 9),.ref (A 1)]),DK (.list s.dI),
 DK (.inst 687 [32481138822115181,1937007713,8319395776320135542,1936157043,126943821394548,495740546409,126943990017891,126879397080930] [.ref (A 11),.ref (A 4),.ref (A 5),.ref (A 6),.ref (A 7),.ref (A 3),bG,.ref (A 8)]),DK (.list s.cA),DP,DP,DP,DP,DP,DK (.list s.late),DK (.list s.left)][i]?).bind id
structure RS(A:DL->DL)(mv:Mv)(its bG:V)(s:CS)(n:DL)(U:aS):Prop where
 jW:cP U
 inj:∀i j,i<12->j<12->A i=A j->i=j
 lt:∀i,i<12->A i<U.length
 fx:∀i o,Eu A its bG s i=DK o->U[A i]? =DK o
 dk:∀i,i∈[4,5,6,7,8]->Dk U (A i) n (OB i) (s.kn i)
 md:gH (A 11) mv U
 kg:∀i t v,s.kn i t=DK v->aY 90 0 v
 cl:∀v∈s.dI++(s.cA++s.late),aY 90 0 v
 bQ:(s.dI.length<=n/\s.cA.length<=n)/\s.late.length<=n/\s.left.length<=n
theorem q_{P:DL->Prop}(h:i<12)(a:P 0)(b:P 1)(c:P 2)(d:P 3)(e:P 4)(f:P 5)(g:P 6)(j:P 7)(k:P 8)(l:P 9)(m:P 10)(n:P 11):P i:=EC (P:=P) a (EC b (EC c (EC d (EC e (EC f (EC g (EC j (EC k (EC l (EC m (EC n bO))))))))))) i (YM.mpr h:i∈MR 12)
noncomputable def GP(A:DL->DL):DM DL:=(MR 11).map A
def KF(s:CS)(n:DL)(rest:DM V)(i:DL):DM V:=oe (([DP,DK s.dI,DP,DK s.cA,DP,DP,DP,DP,DP,DK s.late,DK rest][i]?).bind id) (JW n .none) id
theorem Mp{A:DL->DL}(h:(GP A)[i]? =DK a):i<11/\a=A i:=by
 have h:((MR 11).map A)[i]? =DK a:=h;rw[SZ]at h;refine om (P:=λ a=>i<11/\a=A i) h λ k e=> ?_;have hk:=JV.mp e;have hi:i<11:=agL (n:=11)▸hk.1;rw[au hi]at e;exact⟨hi,DX A (EJ e).symm⟩
theorem ajJ{A:DL->DL}(h:i<11):(GP A)[i]? =DK (A i):=by
 show((MR 11).map A)[i]? =_;rw[SZ,au h];rfl
section
variable {A:DL->DL}{s:CS}
theorem RS.ad(h:RS A mv its bG s n U):mA U (GP A)/\A 11∉GP A:=by
 refine⟨⟨λ i a e=> ?_,λ i j a e1 e2=> ?_⟩,λ m=> ?_⟩
 ·obtain⟨hi,rfl⟩:=Mp e;exact h.lt i (Dr hi)
 ·obtain⟨hi,e⟩:=Mp e1;obtain⟨hj,e'⟩:=Mp e2;exact h.inj i j (Dr hi) (Dr hj) (e.symm.trans e')
 ·obtain⟨i,hi⟩:=YK m;obtain⟨hi,e⟩:=Mp hi;exact VB 11 (h.inj 11 i (by decide) (Dr hi) e▸hi)
theorem RS.ok(h:RS A mv its bG s n U)(hn:n<=800){x:DL->V}(hx:∀k,aY 40 U.length (x k)){rest l:DM V}(hl:s.left=rest++l):FP (FN U (GP A) x (KF s n rest) s.kn):=by
 have key:∀i,(∀v∈KF s n rest i,NI U.length v)/\(KF s n rest i).length<=900:=λ i=>by
  have hr:=h.bQ;rw[hl,GC]at hr;have n9:∀{k},k<=n->k<=900:=λ q=>EZ q (EZ hn (by decide));have z:(∀v∈JW n V.none,NI U.length v)/\(JW n V.none).length<=900:=⟨λ v m=>(be.mp m).2▸(GD _).bB (by decide) (FG _),n9 (MT VA)⟩;have ls:∀{j l},Eu A its bG s j=DK (.list l)->∀v∈l,NI U.length v:=λ e=>(h.jW _ _ (h.fx _ _ e)).g
  match i with
  |1=>exact⟨ls (j:=1) rfl,n9 hr.1.1⟩|3=>exact⟨ls (j:=3) rfl,n9 hr.1.2⟩|9=>exact⟨ls (j:=9) rfl,n9 hr.2.1⟩|10=>exact⟨λ v m=>ls (j:=10) rfl v (hl▸RO _ m),n9 (EZ (HD ..) hr.2.2)⟩|0=>exact z|2=>exact z|4=>exact z|5=>exact z|6=>exact z|7=>exact z|8=>exact z|i+11=>exact z
 exact L? h.jW h.ad.1 hx (λ i=>(key i).1) (λ i=>(key i).2) λ i t v e=>(h.kg i t v e).up
theorem Dk.em{x:DL->V}{ad:DM DL}(d:Dk U a n (OB i) (s.kn i))(hp:(pre i).length=n)(ha:(FN U ad x pre s.kn).ρ i=a)(h1:GN ab=DN)(h2:GN ks=DN)(h3:ks.length=B.length)(h4:∀v∈ab,v∈OB i)
  (h5:∀(j:DL) t v,ks[j]? =DK (.str t)->B[j]? =DK v->.str t∈OB i/\s.kn i t=DK (sh (FN U ad x pre s.kn) v)):Q3 (FN U ad x pre s.kn) i U (jG 0 ab ks B):=by
 obtain⟨K,W,e,d1,d2,d3,d4,d5⟩:=d;refine⟨_,ha▸e,.jG ⟨d1,d2,hp▸d3,λ y m=>.inl (d5 y m),λ t m=>d4 t (h4 _ m),λ j t v e1 e2=> ?_,h3,h1,h2⟩⟩;obtain⟨m,q⟩:=h5 j t v e1 e2;exact q▸d4 t m
theorem RS.em(h:RS A mv its bG s n U)(hn:n<=800){x:DL->V}(x9:x 9=.ref (A 11))(lY:x 30=its)(lZ:x 32=bG){rest pl sab tab tk tv:DM V}(hl:s.left=rest++EH (FN U (GP A) x (KF s n rest) s.kn) pl)
  (h1:GN sab=DN/\∀v∈sab,v∈IS)(h2:GN tab=DN/\∀v∈tab,v∈cU)(h3:GN tk=DN/\tk.length=tv.length)(h5:∀(j:DL) t v,tk[j]? =DK (.str t)->tv[j]? =DK v->.str t∈cU/\s.kn 7 t=DK (sh (FN U (GP A) x (KF s n rest) s.kn) v)):
  Em (FN U (GP A) x (KF s n rest) s.kn) (TS s.cA.length sab tab tk tv pl) U:=by
 have hr:=h.bQ;rw[hl,GC]at hr;have n9:∀{k},k<=n->k<=900:=λ q=>EZ q (EZ hn (by decide));have nil5:∀(i j:DL) (t:Tx) (v:V),([]:DM V)[j]? =DK (.str t)->([]:DM V)[j]? =DK v->.str t∈OB i/\s.kn i t=DK (sh (FN U (GP A) x (KF s n rest) s.kn) v):=λ J J J J e=>(EW e);have nila:∀(i:DL) (v:V),v∈([]:DM V)->v∈OB i:=λ J J m=>(IK m);refine Ff rfl λ i o e=> ?_
 match i with
 |0=>exact EJ e▸⟨_,(h.fx 0 _ rfl).trans (by rw[<-x9,<-lY];rfl),.dN rfl⟩|1=>exact EJ e▸⟨_,(h.fx 1 _ rfl).trans (DX (λ l=>DK (O.list l)) (KP _).symm),.cJ (.inr ⟨rfl,n9 hr.1.1⟩)⟩|2=>exact EJ e▸⟨_,(h.fx 2 _ rfl).trans (by rw[<-x9,<-lZ];rfl),.dN rfl⟩|3=>exact EJ e▸⟨_,(h.fx 3 _ rfl).trans (DX (λ l=>DK (O.list l)) (KP _).symm),.cJ (.inl rfl)⟩|4=>exact EJ e▸(h.dk 4 (by decide)).em VA rfl rfl rfl rfl (nila 4) (nil5 4)|5=>exact EJ e▸(h.dk 5 (by decide)).em VA rfl rfl rfl rfl (nila 5) (nil5 5)|6=>exact EJ e▸(h.dk 6 (by decide)).em VA rfl h1.1 rfl rfl h1.2 (nil5 6)|7=>exact EJ e▸(h.dk 7 (by decide)).em VA rfl h2.1 h3.1 h3.2 h2.2 h5|8=>exact EJ e▸(h.dk 8 (by decide)).em VA rfl rfl rfl rfl (nila 8) (nil5 8)|9=>exact EJ e▸⟨_,(h.fx 9 _ rfl).trans (DX (λ l=>DK (O.list l)) (KP _).symm),.cJ (.inr ⟨rfl,n9 hr.2.1⟩)⟩|10=>exact EJ e▸⟨_,(h.fx 10 _ rfl).trans (DX (λ l=>DK (O.list l)) hl),.cJ (.inr ⟨rfl,n9 (EZ (HD ..) hr.2.2)⟩)⟩|i+11=>exact EW e
end
theorem Y5{o:O}(h:QR τ i o=DN):τ[i]? =DK o:=EL h λ x e q=>e.trans (DX DK (a6 q))
theorem Dk.jB(E:Em C τ U){i n:DL}{ab:DM V}(h1:S_ τ i ab=DN)(h2:j0 τ i=DN)(hp:(C.pre i).length=n)(hv:∀k,XQ k=DN->aY 40 0 (C.bx k)){kn':Tx->DQ V}(hk:∀t,V.str t∈OB i->(V.str t∈ab/\kn' t=C.kn i t)∨∃v,j4 τ i t v=DN/\kn' t=DK (sh C v)):Dk U (C.ρ i) (n+20) (OB i) kn':=by
 refine EL h1 λ s e q=> ?_;obtain⟨K,W,S⟩:=Qf E e;have hi:i=s.i:=V.ref.inj S.v;have hc:s.c<=9:=GO (DO q).1;have h2:oe (Fz τ (.ref i)) DT (λ s=>s.B.all (PD 40))=DN:=h2;rw[e]at h2;refine⟨K,W,hi▸S.z,S.k.str,S.k.bQ,EZ (hi▸S.k.le) (OF (MT hp) (EZ hc (by decide))),λ t m=> ?_,λ y m=>(S.k.gd y m).elim id λ z1=>by obtain⟨v,mv,z⟩:=z1;exact z▸lq hv h2 _ (hG _▸bc mv)⟩;rcases hk t m with⟨m',q'⟩|⟨v,m',q'⟩
 ·rw[q'];exact hi▸S.k.no t (PY (DO q).2▸m')
 ·rw[q'];refine EL m' λ s' e' m'=> ?_;cases(EJ (e.symm.trans e'):s=s');refine EL m' λ u e2 q2=> ?_;obtain⟨_,_,t',h4,h3⟩:=T9 S e2;rw[<-PW q2];exact h3
structure y4(s:CS)(C:Cf)(rest ow im la sab tab:DM V)(up:DM WT)(s':CS):Prop where
 eo:s'.dI=s.dI++EH C ow
 ei:s'.cA=s.cA++EH C im
 el:s'.late=s.late++EH C la
 le:s'.left=rest
 kn:∀i t,V.str t∈OB i->(V.str t∈YT sab tab i/\s'.kn i t=s.kn i t)∨∃v,(i,t,v)∈up/\s'.kn i t=DK (sh C v)
 kg:∀i t v,s'.kn i t=DK v->aY 90 0 v
 tZ:ow.length<=20/\im.length<=20/\la.length<=20
theorem atS{f:Fl}(h:uu f=DN):f=.next:=by cases f<;>first|rfl|exact EP h FJ
theorem R?{r:R (Fl×Lv)}{p:Lv×aS}(h:Ys r=DK p):r=.ok (.next,p.1) p.2:=match r,h with
 |.ok (f,m) τ,h=>EO h λ q h=>by
  rw[<-EJ h,show f=.next from atS q]
def Lm(A:DL->DL)(m:Lv):Prop:=m.length=6/\m[0]? =DK (DK (.ref (A 0)))/\m[1]? =DK (DK (.ref (A 10)))
theorem wh{A:DL->DL}{x:DL->V}{kn:DL->Tx->DQ V}(h:Lm A m):LR (FN U (GP A) x pre kn) m0 m:=by
 refine⟨h.1.symm,λ i v e=> ?_⟩
 match i with
 |0=>exact EJ (EJ e)▸h.2.1|1=>exact EJ (EJ e)▸h.2.2|2=>exact(by cases e)|3=>exact(by cases e)|4=>exact(by cases e)|5=>exact(by cases e)|i+6=>exact EW e
theorem i8(h:Zt m i v=DN):m[i]? =DK (DK v):=EL h λ u e q=>ob e λ x e1 e2=>e1.trans (DX DK (e2.trans (DX DK (PW q).symm)))
section
variable {A:DL->DL}{s:CS}
theorem Wo(P:DL->Prop)(a:P 4)(b:P 5)(c:P 6)(d:P 7)(e:P 8):∀i∈[4,5,6,7,8],P i:=EC a (EC b (EC c (EC d (EC e bO))))
theorem RS.mB(h:RS A mv its bG s n U){x:DL->V}(x9:x 9=.ref (A 11))(lY:x 30=its)(lZ:x 32=bG)(rL:∀k,XQ k=DN->aY 40 0 (x k)){rest pl sab tab ow im la:DM V}{up:DM WT}(hl:s.left=rest++EH (FN U (GP A) x (KF s n rest) s.kn) pl)
  (O:FP (FN U (GP A) x (KF s n rest) s.kn)){τ G:aS}(E:Em (FN U (GP A) x (KF s n rest) s.kn) τ G)(c1:MV τ=DN)(rR:U.length<=G.length)
  (q0:QR τ 0 (.inst 825 [495756604521,32481138822115181,431316168567,1702125932,1684371311] [.bD 30 .none,.bD 9 .none,.ref 2,.ref 9,.ref 1])=DN)(q2:QR τ 2 (.inst 687 [32481138822115181,1937007713,8319395776320135542,1936157043,126943821394548,495740546409,126943990017891,126879397080930] [.bD 9 .none,.ref 4,.ref 5,.ref 6,.ref 7,.ref 3,.bD 32 .none,.ref 8])=DN)
  (q1:QR τ 1 (.inst 7001 [] ow)=DN)(q3:QR τ 3 (.inst 7001 [s.cA.length] im)=DN)(q9:QR τ 9 (.inst 7001 [] la)=DN)(BV:QR τ 10 (.inst 7001 [] [])=DN)
  (q4:([4,5,6,7,8].all λ i=>S_ τ i (EN (EG i 6) sab (EN (EG i 7) tab []))&&j0 τ i)=DN)(q5:(up.all λ x=>j4 τ x.1 x.2.1 x.2.2)=DN)(q6:(ow++(im++la)).all (PD 40)=DN)(hA:y4 s (FN U (GP A) x (KF s n rest) s.kn) rest ow im la sab tab up s'):
  RS A mv its bG s' (n+20) G:=by
 have cJ:∀{i ks ws},QR τ i (.inst 7001 ks ws)=DN->G[(FN U (GP A) x (KF s n rest) s.kn).ρ i]? =DK (.list (KF s n rest i++EH (FN U (GP A) x (KF s n rest) s.kn) ws)):=λ e=>by obtain⟨_,e1,r⟩:=E.ob _ _ (Y5 e);exact e1.trans (DX DK r.qV.2)
 have hr:=h.bQ;rw[hl,GC]at hr;refine⟨VJ O E c1,h.inj,λ i hi=>IW (h.lt i hi) rR,λ i o e=> ?_,λ i hi=> ?_,h.md.keep h.ad.2 E,hA.kg,?_,?_⟩
 ·match i with
  |0=>exact(E.dN (Y5 q0) rfl).trans (by rw[<-EJ e,<-x9,<-lY];rfl)|1=>exact(cJ q1).trans (by rw[<-EJ e,hA.eo];rfl)|2=>exact(E.dN (Y5 q2) rfl).trans (by rw[<-EJ e,<-x9,<-lZ];rfl)|3=>exact(cJ q3).trans (by rw[<-EJ e,hA.ei];rfl)|4=>exact EW e|5=>exact EW e|6=>exact EW e|7=>exact EW e|8=>exact EW e|9=>exact(cJ q9).trans (by rw[<-EJ e,hA.el];rfl)|10=>exact(cJ BV).trans (by rw[<-EJ e,hA.le];exact DX (λ l=>DK (aH.list l)) (KP rest))|i+11=>exact EW e
 ·have e:=DO (FQ.mp q4 i hi);have ei:(FN U (GP A) x (KF s n rest) s.kn).ρ i=A i:=Jo (ajJ (Wo (λ i=>i<11) (by decide) (by decide) (by decide) (by decide) (by decide) i hi));have hp:(KF s n rest i).length=n:=Wo (λ i=>(KF s n rest i).length=n) VA VA VA VA VA i hi;rw[<-ei];exact Dk.jB E e.1 e.2 hp rL λ t m=>(hA.kn i t m).imp (λ z=>z) λ z2=>by obtain⟨v,mv,z⟩:=z2;exact⟨v,FQ.mp q5 _ mv,z⟩
 ·have pl:=lq (C:=FN U (GP A) x (KF s n rest) s.kn) rL q6;rw[RH,RH]at pl;rw[hA.eo,hA.ei,hA.el];intro v m;have cl:=h.cl v;have pl:=pl v;simp only[OW]at m cl pl;rcases m with(m|m)|(m|m)|(m|m)
  ·exact cl (.inl m)
  ·exact pl (.inl m)
  ·exact cl (.inr (.inl m))
  ·exact pl (.inr (.inl m))
  ·exact cl (.inr (.inr m))
  ·exact pl (.inr (.inr m))
 ·rw[hA.eo,hA.ei,hA.el,hA.le,GC,GC,GC,eX,eX,eX];exact⟨⟨OF hr.1.1 hA.tZ.1,OF hr.1.2 hA.tZ.2.1⟩,OF hr.2.1 hA.tZ.2.2,EZ (EZ (HD ..) hr.2.2) (HD ..)⟩
def R0(A:DL->DL)(mv:Mv)(its bG:V)(s':CS)(n:DL)(U:aS)(r:R (Fl×Lv)):Prop:=
 ∃m' G,r=.ok (.next,m') G/\Lm A m'/\RS A mv its bG s' n G/\U.length<=G.length/\∀j,j<U.length->j∉GP A->G[j]? =U[j]?
theorem ac9(h:RS A mv its bG s n U)(hn:n<=800){x:DL->V}(x9:x 9=.ref (A 11))(lY:x 30=its)(lZ:x 32=bG)(hx:∀k,aY 40 U.length (x k))(rL:∀k,XQ k=DN->aY 40 0 (x k)){rest pl sab tab tk tv ow im la:DM V}{up:DM WT}(hl:s.left=rest++EH (FN U (GP A) x (KF s n rest) s.kn) pl)
  (h1:GN sab=DN/\∀v∈sab,v∈IS)(h2:GN tab=DN/\∀v∈tab,v∈cU)(h3:GN tk=DN/\tk.length=tv.length)(h5:∀(j:DL) t v,tk[j]? =DK (.str t)->tv[j]? =DK v->.str t∈cU/\s.kn 7 t=DK (sh (FN U (GP A) x (KF s n rest) s.kn) v))
  {X C_:M (Fl×Lv)}(hS:FP (FN U (GP A) x (KF s n rest) s.kn)->Sm (FN U (GP A) x (KF s n rest) s.kn) (FR (FN U (GP A) x (KF s n rest) s.kn)) X C_)
  (hr:Be (X (TS s.cA.length sab tab tk tv pl)) (TS s.cA.length sab tab tk tv pl) s.cA.length sab tab ow im la up=DN)(hA:y4 s (FN U (GP A) x (KF s n rest) s.kn) rest ow im la sab tab up s'):
  R0 A mv its bG s' (n+20) U (C_ U):=by
 have O:=h.ok hn hx hl;have r:=hS O _ _ (h.em hn x9 lY lZ hl h1 h2 h3 h5);refine EL hr λ p e hr=> ?_;rw[R? e]at r;obtain⟨b,G,e2,q,E⟩:=r;have c4:=(DO hr).2;have hr:=(DO hr).1;have c3:=(DO hr).2;have hr:=(DO hr).1;have c2:=(DO hr).2;have c1:=(DO hr).1;have c5:=(DO c3).2;have c3:=(DO c3).1;have c8:=(DO c5).2;have c5:=(DO c5).1;have c7:=(DO c5).2;have c5:=(DO c5).1;have rR:U.length<=G.length:=by
  have a:=E.al 0;rw[agZ,Yh (show(GP A).length<=p.2.length from GO (DO c2).2)]at a;exact EZ (HD ..) (MT a)
 cases q with
 | @nx a m' q=>
  exact⟨m',G,e2,⟨q.1.symm.trans (JD (DO (DO c1).1).1),q.2 0 _ (i8 (DO (DO c1).1).2),q.2 1 _ (i8 (DO c1).2)⟩,h.mB x9 lY lZ rL hl O E (DO c2).1 rR (DO c3).1 (DO c3).2 (DO c5).1 (DO c5).2 c7 c8 (DO (DO c4).1).1 (DO (DO c4).1).2 (DO c4).2 hA,rR,λ j hj nj=>SH E hj nj⟩
end
theorem Iu{P:DL->Prop}(h:i∈[0,1,2,3])(a:P 0)(b:P 1)(c:P 2)(d:P 3):P i:=EC (P:=P) a (EC b (EC c (EC d bO))) i h
theorem ZP{P:DL->Prop}(h:i∈[0,1])(a:P 0)(b:P 1):P i:=EC (P:=P) a (EC b bO) i h
theorem RV{P:DU->DU->DU}(h:TU P=DN)(b0 b1:DU):P b0 b1=DN:=by
 have h4:=(DO h).2;have h:=(DO h).1;have h3:=(DO h).2;have h:=(DO h).1;cases b0<;>cases b1
 ·exact h4
 ·exact h3
 ·exact(DO h).2
 ·exact(DO h).1
theorem IH{l:DM DL}{P:DL->DU}(h:l.all P=DN){k:DL}(m:k∈l):P k=DN:=FQ.mp h k m
def PM(a c:DL)(mv:Mv)(U:aS):Prop:=gH a mv U/\c<U.length
theorem aES(sp:V)(a:DL)(t:V):sh C (E7 sp a t)=E7 (sh C sp) a (sh C t):=match a with
 |0=>rfl|1=>rfl|2=>rfl|_+3=>rfl
theorem E8(sp:V)(w:DM DL)(i:DL):sh C (wr sp w i)=wr (sh C sp) w i:=by
 induction w with
 |nil=>rfl|cons a w ih=>exact(aES sp a _).trans (DX (E7 (sh C sp) a) ih)
theorem aER(sp:V)(w:DM DL)(i:DL):sh C (ZT sp w i)=ZT (sh C sp) w i:=DX (λ t=>V.aR [(.str [116,117,112,108,101]),sh C sp,.aR [QE [88] (.int 0) [],QE [89] (.int 0) [],t]]) (E8 sp w i)
theorem ad5(U:aS)(sp:DY)(w:DM DL)(i:DL):fX U (wr (.int sp) w i) (.int 1)=DK (.int sp):=match w with
 |[]=>rfl|0::_=>rfl|1::_=>rfl|2::_=>rfl|(_+3)::_=>rfl
theorem amW(sp:DY):NE (λ w i=>(IC (tl w i)&&KH 0 38 (tl w i))&&(IC (KY w i)&&KH 0 38 (KY w i))&&((IC (wr (.int sp) w i)&&KH 0 38 (wr (.int sp) w i))&&(IC (ZT (.int sp) w i)&&KH 0 38 (ZT (.int sp) w i))))=DN:=by rfl
structure ag9(w:DM DL)(i:DL)(sp:DY):Prop where
 t:IC (tl w i)=DN
 h:IC (KY w i)=DN
 gt:aY 40 0 (tl w i)
 gh:aY 40 0 (KY w i)
 gr:aY 40 0 (wr (.int sp) w i)
 gR:aY 40 0 (ZT (.int sp) w i)
theorem Wx(h:(IC v&&KH 0 38 v)=DN):aY 40 0 v:=(OK 38 v (DO h).2 (DO h).1).bB (by decide) (FG _)
section
variable {c:DL}(M:JL mv){w:DM DL}(hw:w∈Ar)(hi:i∈[0,1,2,3])
theorem ME(s:DY):aY 40 0 (.int s):=sv s 0
include hw hi in
theorem LF(sp:DY):ag9 w i sp:=
 have h:=DO (NF (amW sp) hw hi)
 ⟨(DO (DO h.1).1).1,(DO (DO h.1).2).1,Wx (DO h.1).1,Wx (DO h.1).2,Wx (DO h.2).1,Wx (DO h.2).2⟩
include M
theorem H?{sp:DY}{st:V}(h2:aY 40 0 st)(h3:aY 40 0 e1)(h4:aY 40 0 e2)(h5:e5=.none∨e5=.ref c){f:DL}{args:DM V}{r:V}(h:IJ (RA (JG PF) 20 f args []) r []=DN){iO:DM V}{r':V}
  (ha:∀U,EH (GS U [] (VI a mv (.int sp) st e1 e2 e5) λ J=>[]) args=iO)(hv:∀U,sh (GS U [] (VI a mv (.int sp) st e1 e2 e5) λ J=>[]) r=r'):Pu (PM a c mv) 30 f iO r':=
 azI (Q:=λ U=>c<U.length) M (ME sp) h2 h3 h4 (λ U q=>h5.elim (λ h=>h▸GD _) λ h=>h▸Bp q) (SD h) ha hv
theorem XO{sp:DY}{st:V}(h2:aY 40 0 st){f:DL}{args:DM V}{r:V}(h:IJ (RA (JG PF) 20 f args []) r []=DN){iO:DM V}{r':V}
  (ha:∀U,EH (GS U [] (VI a mv (.int sp) st .none .none .none) λ J=>[]) args=iO)(hv:∀U,sh (GS U [] (VI a mv (.int sp) st .none .none .none) λ J=>[]) r=r'):Pu (PM a c mv) 30 f iO r':=H? M h2 (GD 0) (GD 0) (.inl rfl) h ha hv
include hw hi
theorem V_(sp:DY){st:V}(h:aY 40 0 st):Pu (PM a c mv) 30 235 [.ref a,.str [],kX,st,wr (.int sp) w i] (tl w i):=
 XO M h (NF azW hw hi) (λ U=>DX (λ t:V=>([.ref a,.str [],kX,st,t]:DM V)) (E8 (.bD 7 .none) w i)) λ U=>LV _ (LF hw hi 0).t
theorem ayN(sp:DY){st:V}(h:aY 40 0 st):Pu (PM a c mv) 30 235 [.ref a,.str [],rT,st,wr (.int sp) w i] (tl w i):=
 XO M h (NF azV hw hi) (λ U=>DX (λ t:V=>([.ref a,.str [],rT,st,t]:DM V)) (E8 (.bD 7 .none) w i)) λ U=>LV _ (LF hw hi 0).t
theorem zd(sp:DY){st:V}(h:aY 40 0 st):Pu (PM a c mv) 30 235 [.ref a,.str [],kX,st,ZT (.int sp) w i] (KY w i):=
 XO M h (NF azU hw hi) (λ U=>DX (λ t:V=>([.ref a,.str [],kX,st,t]:DM V)) (aER (.bD 7 .none) w i)) λ U=>LV _ (LF hw hi 0).h
theorem ayP:Pu (PM a c mv) 30 240 [tl w i] (.bool DN):=XO (sp:=0) M (GD 0) (NF aD3 hw hi) (λ U=>DX (λ t:V=>([t]:DM V)) (LV _ (LF hw hi 0).t)) λ U=>rfl
theorem ayQ:Pu (PM a c mv) 30 240 [KY w i] (.bool DN):=XO (sp:=0) M (GD 0) (NF aD2 hw hi) (λ U=>DX (λ t:V=>([t]:DM V)) (LV _ (LF hw hi 0).h)) λ U=>rfl
theorem ze(sp:DY):Pu (PM a c mv) 30 163 [tl w i,.aR [],.int sp] .none:=XO (sp:=sp) M (GD 0) (NF aA1 hw hi) (λ U=>DX (λ t:V=>([t,.aR [],.int sp]:DM V)) (LV _ (LF hw hi 0).t)) λ U=>rfl
theorem ayO(sp:DY):Pu (PM a c mv) 30 163 [KY w i,.aR [],.int sp] .none:=XO (sp:=sp) M (GD 0) (NF aA0 hw hi) (λ U=>DX (λ t:V=>([t,.aR [],.int sp]:DM V)) (LV _ (LF hw hi 0).h)) λ U=>rfl
theorem ayL(h1:aY 40 0 e1)(h2:aY 40 0 e2):Pu (PM a c mv) 30 810 [.ref c,.aX (IR e1 e2),.aR [fJ,KY w i],i0] .none:=
 H? (sp:=0) M (GD 0) h1 h2 (.inr rfl) (NF ayS hw hi) (λ U=>DX (λ t:V=>([.ref c,.aX (IR e1 e2),.aR [fJ,t],i0]:DM V)) (LV _ (LF hw hi 0).h)) λ U=>rfl
theorem ayM(h1:aY 40 0 e1)(h2:aY 40 0 e2):Pu (PM a c mv) 30 810 [.ref c,.aX (IR e1 e2),.aR [KY w i],i0] .none:=
 H? (sp:=0) M (GD 0) h1 h2 (.inr rfl) (NF ayT hw hi) (λ U=>DX (λ t:V=>([.ref c,.aX (IR e1 e2),.aR [t],i0]:DM V)) (LV _ (LF hw hi 0).h)) λ U=>rfl
theorem zb:Pu (PM a c mv) 30 843 [tl w i] (OZ i):=XO (sp:=0) M (GD 0) (NF ajU hw hi) (λ U=>DX (λ t:V=>([t]:DM V)) (LV _ (LF hw hi 0).t)) λ U=>Iu (P:=λ i=>sh _ (OZ i)=OZ i) hi rfl rfl rfl rfl
theorem ayI:Pu (PM a c mv) 30 843 [KY w i] (OZ i):=XO (sp:=0) M (GD 0) (NF ajT hw hi) (λ U=>DX (λ t:V=>([t]:DM V)) (LV _ (LF hw hi 0).h)) λ U=>Iu (P:=λ i=>sh _ (OZ i)=OZ i) hi rfl rfl rfl rfl
omit hw hi in
theorem ayJ(b0 b1:DU):Pu (PM a c mv) 30 250 [.ref a,.str [],TZ b0 b1,i0] (.aX (IR (FY b0) (FY b1))):=by
 have h:=RV akX b0 b1;cases b0<;>cases b1<;>exact XO (sp:=0) M (GD 0) h (λ U=>rfl) (λ U=>rfl)
omit M in
theorem ayK(ar:DL):Pu (λ U=>PM a c mv U/\U[ar]? =DK (.list [tl w i])) 30 149 [.ref ar,iK,.none,i0] (.aR [.aR [tl w i],iK,.aR []]):=by
 have nn:∀C:Cf,sh C (tl w i)=tl w i:=λ J=>LV _ (LF hw hi 0).t;exact(Cs (P:=λ U=>PM a c mv U/\U[ar]? =DK (.list [tl w i])) (hk:=VQ) (bx:=λ J=>.none) (ad:=[ar]) (τ:=[.list [tl w i]]) (K:=0) (n:=20) (λ U J k=>GD _) (λ U p=>RT (GX p.2)) rfl (EC rfl bO) (λ U p=>VY (p.2.trans (DX (λ t=>DK (O.list [t])) (nn _).symm))) (λ U g p=>⟨Xg _,λ f args m h=>(EW h)⟩) (SD (NF ao2 hw hi)) (λ U=>rfl) λ U=>DX (λ t=>V.aR [.aR [t],iK,.aR []]) (nn _)).bB (λ U p=>p) (by decide)
end
structure LI where
 w:DM DL
 i:DL
 sp:DY
 b0:DU
 b1:DU
variable {p1 p0:LI}
structure IU(p:LI):Prop where
 w:p.w∈Ar
 i:p.i∈[0,1,2,3]
noncomputable def HR:DM (DL×V)->DL->V
 |[],_=>.none|p::r,k=>EN (EG p.1 k) p.2 (HR r k)
theorem kj{P:V->Prop}{k:DL}(h0:P .none){l:DM (DL×V)}(h:∀p∈l,p.1=k->P p.2):P (HR l k):=by
 induction l with
 |nil=>exact h0|cons p r ih=>
  show P (EN (EG p.1 k) p.2 (HR r k));cases q:EG p.1 k with
  |true=>exact h p (.head _) (JD q)|false=>exact ih λ p m=>h p (.tail _ m)
def An(N:DL)(p:DL×V):Prop:=aY 40 N p.2/\(XQ p.1=DN->aY 40 0 p.2)
theorem HO(h:aY 40 0 v):An N (k,v):=⟨h.up,λ J=>h⟩
theorem XV(h:a<N)(z:XQ k=DT):An N (k,.ref a):=⟨Bp h,λ q=>EP (z.symm.trans q) FJ⟩
theorem syV(h:aY 40 N v)(z:XQ k=DT):An N (k,v):=⟨h,λ q=>EP (z.symm.trans q) FJ⟩
theorem Vk{l:DM (DL×V)}(h:∀p∈l,An N p)(k:DL):aY 40 N (HR l k):=kj (GD N) λ p m J=>(h p m).1
theorem ki{l:DM (DL×V)}(h:∀p∈l,An N p)(k:DL)(z:XQ k=DN):aY 40 0 (HR l k):=kj (GD 0) λ p m e=>(h p m).2 (e▸z)
def Ba(A:DL->DL)(mv:Mv)(its bG:V)(p:LI):DM (DL×V):=[(0,mv.k),(3,mv.g),(7,.int p.sp),(9,.ref (A 11)),(20,wr (.int p.sp) p.w p.i),(21,tl p.w p.i),(22,ZT (.int p.sp) p.w p.i),(23,KY p.w p.i),(24,FY p.b0),(25,FY p.b1),(26,VH p.b0),(27,VH p.b1),(30,its),(32,bG)]
def U9(N:DL)(m:Lv):M (Fl×Lv):=FC (EE EF) (RF N) (PC sW) m
def U8(N:DL)(v:V)(m:Lv):M (Fl×Lv):=M.bind (IY (EE EF) (RF N) (ZC sF) v m) λ m'=>FC (EE EF) (RF N) (PC sF) m'
def Du(A:DL->DL)(mv:Mv)(its bG:V)(N:DL)(it:V)(s s':CS):Prop:=
 ∀n U m rest,n<=800->RS A mv its bG {s with left:=rest++[GB it]} n U->Lm A m->R0 A mv its bG {s' with left:=rest} (n+20) U (U9 N m U)
def Ap(A:DL->DL)(mv:Mv)(its bG:V)(N:DL)(it:V)(s s':CS):Prop:=
 ∀n U m,n<=800->RS A mv its bG s n U->Lm A m->R0 A mv its bG s' (n+20) U (U8 N (GB it) m U)
theorem as7(h:aY d N (.ref a)):a<N:=by
 have h:QT (EE EF) [] N [] (eA (EE EF) [] N [] d) a=DK (.ref a):=h EF [] N [] (d+1) (FG _) (TD _);unfold QT at h;cases q:HC a N with
 |true=>exact GO q|false=>rw[q]at h;exact EW h
section
variable {hk:Hk}{K:DL}(O:FP C)(G_:KN C EF hk)(R:OY C hk K)(hN:n+K<=N)
include O G_ R hN
theorem Qd{s:Ss}(ns:OP s=DN){m m':Lv}(hm:LR C m m'):Sm C (FR C) (FC (HF EF hk) (RA hk n) s m) (FC (EE EF) (RF N) s m'):=ySs O Qq G_ (λ f args=>Pw (f:=f) (args:=args) O G_ R hN) s m m' ns hm
theorem f7{s:Ss}(nt:nT t=DN)(ns:OP s=DN){m m':Lv}(hm:LR C m m')(v:V):Sm C (FR C) (M.bind (IY (HF EF hk) (RA hk n) t v m) λ m=>FC (HF EF hk) (RA hk n) s m) (M.bind (IY (EE EF) (RF N) t (sh C v) m') λ m=>FC (EE EF) (RF N) s m):=
 (yT O Qq G_ (λ f args=>Pw (f:=f) (args:=args) O G_ R hN) t v m m' nt hm).bind λ J J q=>Qd O G_ R hN ns q
end
structure Wy(A:DL->DL)(mv:Mv)(its bG:V)(ex:Ex)(x:DM (DL×V)):Prop where
 x9:HR x 9=.ref (A 11)
 lY:HR x 30=its
 lZ:HR x 32=bG
 sy:∀s n U,RS A mv its bG s n U->∀p∈x,An U.length p
 hr:∀s n U pre kn,RS A mv its bG s n U->FP (FN U (GP A) (HR x) pre kn)->KN (FN U (GP A) (HR x) pre kn) EF (JG ex)/\OY (FN U (GP A) (HR x) pre kn) (JG ex) 30
structure WK(A:DL->DL)(mv:Mv)(its bG:V)(N:DL):Prop where
 M:JL mv
 hi:aY 40 0 its
 hc:∃ca,bG=.ref ca
 hN:60<=N
section
variable {A:DL->DL}{s:CS}
theorem RS.gc(h:RS A mv its bG s n U)(E_:WK A mv its bG N):aY 40 U.length bG:=by
 obtain⟨ca,e⟩:=E_.hc;have g:=(h.jW _ _ (h.fx 2 _ rfl)).g bG (.tail _ (.tail _ (.tail _ (.tail _ (.tail _ (.tail _ (.head _)))))));exact e▸Bp (as7 (e▸g))
theorem XH(b:DU):aY 40 0 (FY b):=by cases b<;>exact HZ rfl rfl 0
theorem su(b:DU):aY 40 0 (VH b):=by cases b<;>exact HZ rfl rfl 0
theorem alU(h:RS A mv its bG s n U)(E_:WK A mv its bG N){p:LI}(P:IU p):∀q∈Ba A mv its bG p,An U.length q:=
 have cl:=LF P.w P.i p.sp
 EC (HO E_.M.gd.1) (EC (HO E_.M.gd.2.2.2.1) (EC (HO (ME _)) (EC (XV h.md.lt rfl) (EC (HO cl.gr) (EC (HO cl.gt) (EC (HO cl.gR) (EC (HO cl.gh) (EC (HO (XH _)) (EC (HO (XH _)) (EC (HO (su _)) (EC (HO (su _)) (EC (HO E_.hi) (EC (syV (h.gc E_) rfl) bO)))))))))))))
theorem sw(hk:k∈[0,1]):aY 40 0 (Zy k):=ZP (P:=λ k=>aY 40 0 (Zy k)) hk (HZ rfl rfl 0) (HZ rfl rfl 0)
theorem aAS{p:LI}(P:IU p)(M:JL mv)(e:C.bx=HR (Ba A mv its bG p))(e0:C.ρ 0=A 0){k:DL}(hk:k∈[0,1]):∀y∈ruI k,Pu (PM (A 11) (A 0) mv) 30 y.1 (EH C y.2.1) (sh C y.2.2):=by
 obtain⟨ρ,bx,pre,kn,N0,cI⟩:=C;cases(e:bx=_);have r0:V.ref (A 0)=.ref (ρ 0):=DX V.ref e0.symm;refine EC (V_ M P.w P.i p.sp (GD 0)) (EC (V_ M P.w P.i p.sp (sw hk)) (EC (V_ M P.w P.i p.sp (st:=fJ) (HZ rfl rfl 0)) (EC (ayN M P.w P.i p.sp (st:=qF) (HZ rfl rfl 0)) (EC (zd M P.w P.i p.sp (GD 0)) (EC (zd M P.w P.i p.sp (st:=fJ) (HZ rfl rfl 0)) (EC (ayP M P.w P.i) (EC (ayQ M P.w P.i) (EC (ze M P.w P.i 0) (EC (ze M P.w P.i p.sp) (EC (ayO M P.w P.i 0) (EC ?_ (EC ?_ (EC (ayJ M p.b0 p.b1) bO)))))))))))))
 ·show Pu (PM (A 11) (A 0) mv) 30 810 [.ref (ρ 0),.aX (IR (FY p.b0) (FY p.b1)),.aR [fJ,KY p.w p.i],i0] .none;rw[<-r0];exact ayL M P.w P.i (XH _) (XH _)
 ·show Pu (PM (A 11) (A 0) mv) 30 810 [.ref (ρ 0),.aX (IR (FY p.b0) (FY p.b1)),.aR [KY p.w p.i],i0] .none;rw[<-r0];exact ayM M P.w P.i (XH _) (XH _)
theorem u7(E_:WK A mv its bG N){p:LI}(P:IU p){k:DL}(hk:k∈[0,1]):Wy A mv its bG (Z5 k) (Ba A mv its bG p):=
 ⟨rfl,rfl,rfl,λ J J J h=>alU h E_ P,λ s n U pre kn h O=>
  have hP:∀τ G,Em (FN U (GP A) (HR (Ba A mv its bG p)) pre kn) τ G->PM (A 11) (A 0) mv G:=λ τ G E=>⟨h.md.keep h.ad.2 E,IW (h.lt 0 (by decide)) E.le⟩
  ⟨Ob E_.M rfl rfl rfl (λ τ G E=>(hP τ G E).1) ⟨λ J J J=>bO,λ τ G E=>EC (ad5 G p.sp p.w p.i) (EC rfl bO),λ J J J=>bO,λ J J J=>bO⟩,
   Zh O hP (VE (aAS (A:=A) (C:=FN U (GP A) (HR (Ba A mv its bG p)) pre kn) P E_.M rfl rfl hk) λ y m=>(B' (sps:=[i0]) E_.M rfl (EC (ME 0) bO) y m).bB (λ U q=>q.1) (by decide)) (EC (λ ar=>ayK P.w P.i ar) bO)⟩⟩
noncomputable def Vl(A:DL->DL)(mv:Mv)(its bG it:V):DM (DL×V):=[(0,mv.k),(3,mv.g),(9,.ref (A 11)),(30,its),(32,bG),(50,it)]
theorem alT(h:RS A mv its bG s n U)(E_:WK A mv its bG N){it:V}(gi:aY 40 0 it):∀q∈Vl A mv its bG it,An U.length q:=
 EC (HO E_.M.gd.1) (EC (HO E_.M.gd.2.2.2.1) (EC (XV h.md.lt rfl) (EC (HO E_.hi) (EC (syV (h.gc E_) rfl) (EC (HO gi) bO)))))
theorem u8(E_:WK A mv its bG N){it:V}(gi:aY 40 0 it){sb:DM (DL×V×V)}(hs:∀U,∀C:Cf,C.bx=HR (Vl A mv its bG it)->∀p∈sb,fX U (C.bx p.1) (sh C p.2.1)=DK (sh C p.2.2)){ru:DM Rv}(AU:ru=[]∨ru=Ps [i0]):Wy A mv its bG ⟨[],sb,[],ru,[],[]⟩ (Vl A mv its bG it):=
 ⟨rfl,rfl,rfl,λ J J J h=>alT h E_ gi,λ s n U pre kn h O=>
  have hP:∀τ G,Em (FN U (GP A) (HR (Vl A mv its bG it)) pre kn) τ G->gH (A 11) mv G:=λ τ G E=>h.md.keep h.ad.2 E
  ⟨Ob E_.M rfl rfl rfl hP ⟨λ J J J=>bO,λ τ G E=>hs G _ rfl,λ J J J=>bO,λ J J J=>bO⟩,Zh O hP (AU.elim (λ e=>e▸bO) λ e=>e▸λ y m=>(B' (sps:=[i0]) E_.M rfl (EC (ME 0) bO) y m).bB (λ J q=>q) (by decide)) bO⟩⟩
end
section
variable {A:DL->DL}{s:CS}
def lH(s:CS)(sab tab:DM V)(up:DM WT)(kn':DL->Tx->DQ V):Prop:=∀i t,V.str t∈OB i->(V.str t∈YT sab tab i/\kn' i t=s.kn i t)∨∃v,(i,t,v)∈up/\IC v=DN/\kn' i t=DK v
theorem lH.sh{up:DM WT}(h:lH s sab tab up kn')(i:DL)(t:Tx)(m:V.str t∈OB i):(V.str t∈YT sab tab i/\kn' i t=s.kn i t)∨∃v,(i,t,v)∈up/\kn' i t=DK (sh C v):=(h i t m).imp (λ z=>z) λ z1=>by obtain⟨v,h1,h2,h3⟩:=z1;exact⟨v,h1,(LV (C:=C) v h2).symm▸h3⟩
theorem B5{ex:Ex}{x:DM (DL×V)}(W:Wy A mv its bG ex x)(hN:60<=N)(cE:s.cA=[]){it itS:V}{sab tab ow la qC wK:DM V}{up:DM WT}{kn':DL->Tx->DQ V}
  (tU:∀U pre kn,sh (FN U (GP A) (HR x) pre kn) itS=it)(tS:∀U pre kn,EH (FN U (GP A) (HR x) pre kn) ow=qC)(kM:∀U pre kn,EH (FN U (GP A) (HR x) pre kn) la=wK)
  (h1:GN sab=DN/\∀v∈sab,v∈IS)(h2:GN tab=DN/\∀v∈tab,v∈cU)
  (hr:Be (Qu ex (TS 0 sab tab [] [] [GB itS])) (TS 0 sab tab [] [] [GB itS]) 0 sab tab ow [] la up=DN)
  (hk:lH s sab tab up kn')(kg:(∀i t v,s.kn i t=DK v->aY 90 0 v)->∀i t v,kn' i t=DK v->aY 90 0 v)(hl:ow.length<=20/\la.length<=20):
  Du A mv its bG N it s ⟨s.dI++qC,s.cA,s.late++wK,s.left,kn'⟩:=λ n U m rest hn h hm=>by
 obtain⟨dI,cA,late,left,kn⟩:=s;cases(cE:cA=[]);refine ac9 (rest:=rest) (pl:=[GB itS]) (sab:=sab) (tab:=tab) (tk:=[]) (tv:=[]) (ow:=ow) (im:=[]) (la:=la) (up:=up) (C_:=U9 N m) h hn W.x9 W.lY W.lZ (Vk (W.sy _ _ _ h)) (ki (W.sy _ _ _ h)) ?_ h1 h2 ⟨rfl,rfl⟩ (λ J J J e=>(EW e)) (X:=Qu ex) (λ O=>Qd O (W.hr _ _ _ _ _ h O).1 (W.hr _ _ _ _ _ h O).2 hN (by decide+kernel) (wh hm)) hr ⟨DX (dI++·) (tS _ _ _).symm,rfl,DX (late++·) (kM _ _ _).symm,rfl,hk.sh,kg h.kg,⟨hl.1,GI _,hl.2⟩⟩;exact DX (λ v=>rest++[GB v]) (tU _ _ _).symm
def hV(s:CS):Prop:=s.kn 7 [84,114]=DK (LX [84,114] [])/\s.kn 7 [79,116,104,101,114]=DK (LX [79,116,104,101,114] [])/\s.kn 7 [65,115,107]=DK (LX [65,115,107] [(.str [65])])
theorem W_{t:Tx}(m:V.str t∈OB i){P:DL->Prop}(h6:V.str t∈IS->P 6)(h7:V.str t∈cU->P 7):P i:=by
 unfold OB YT at m;cases q:EG i 6 with
 |true=>rw[q]at m;exact JD q▸h6 m|false=>
  rw[q]at m;have m:V.str t∈EN (EG i 7) cU []:=m;cases z:EG i 7 with
  |true=>rw[z]at m;exact JD z▸h7 m|false=>rw[z]at m;exact IK m
theorem Oz{t u:Tx}{l:DM V}{P:Prop}(m:V.str t∈ .str u::l)(h:t=u->P)(k:V.str t∈l->P):P:=(IV.mp m).elim (λ e=>h (V.str.inj e)) k
theorem xa{t:Tx}{P:Prop}(m:V.str t∈([]:DM V)):P:=IK m
theorem auJ(kt:hV s):lH s IS [] Lc s.kn:=λ i t m=>W_ (P:=λ i=>(V.str t∈YT IS [] i/\s.kn i t=s.kn i t)∨∃v,(i,t,v)∈Lc/\IC v=DN/\s.kn i t=DK v) m (λ m=>.inl ⟨m,rfl⟩) λ m=>
 .inr (Oz m (λ e=>e▸⟨_,.head _,rfl,kt.1⟩) λ m=>Oz m (λ e=>e▸⟨_,.tail _ (.head _),rfl,kt.2.1⟩) λ m=>Oz m (λ e=>e▸⟨_,.tail _ (.tail _ (.head _)),rfl,kt.2.2⟩) xa)
theorem ac8{ex:Ex}{x:DM (DL×V)}(W:Wy A mv its bG ex x){q:DL}(hN:60<=N)(cE:s.cA.length=q)(kt:hV s){it itS:V}{ow im qC wG:DM V}
  (tU:∀U pre kn,sh (FN U (GP A) (HR x) pre kn) itS=it)(tS:∀U pre kn,EH (FN U (GP A) (HR x) pre kn) ow=qC)(AB:∀U pre kn,EH (FN U (GP A) (HR x) pre kn) im=wG)
  (hr:Be (B1 ex (GB itS) (TS q IS [] cU Kw [])) (TS q IS [] cU Kw []) q IS [] ow im [] Lc=DN)(hl:ow.length<=20/\im.length<=20):
  Ap A mv its bG N it s ⟨s.dI++qC,s.cA++wG,s.late,s.left,s.kn⟩:=λ n U m hn h hm=>by
 subst cE;refine ac9 (rest:=s.left) (pl:=[]) (sab:=IS) (tab:=[]) (tk:=cU) (tv:=Kw) (ow:=ow) (im:=im) (la:=[]) (up:=Lc) (C_:=U8 N (GB it) m) h hn W.x9 W.lY W.lZ (Vk (W.sy _ _ _ h)) (ki (W.sy _ _ _ h)) (KP _).symm ⟨rfl,λ J m=>m⟩ ⟨rfl,λ J m=>(IK m)⟩ ⟨rfl,rfl⟩ (λ j t v e1 e2=> ?_) (X:=B1 ex (GB itS)) (λ O=> ?_) hr
  ⟨DX (s.dI++·) (tS _ _ _).symm,DX (s.cA++·) (AB _ _ _).symm,(KP _).symm,rfl,(auJ kt).sh,h.kg,⟨hl.1,hl.2,GI _⟩⟩
 ·rw[LV v (yc (B:=Kw) rfl v (JK e2))]
  match j with
  |0=>exact V.str.inj (EJ e1)▸EJ e2▸⟨.head _,kt.1⟩|1=>exact V.str.inj (EJ e1)▸EJ e2▸⟨.tail _ (.head _),kt.2.1⟩|2=>exact V.str.inj (EJ e1)▸EJ e2▸⟨.tail _ (.tail _ (.head _)),kt.2.2⟩|j+3=>exact EW e1
 ·have:=f7 O (W.hr _ _ _ _ _ h O).1 (W.hr _ _ _ _ _ h O).2 hN (t:=ZC sF) (s:=PC sF) (by decide+kernel) (by decide+kernel) (wh hm) (GB itS);rw[show sh (FN U (GP A) (HR x) (KF s n s.left) s.kn) (GB itS)=GB it from DX GB (tU _ _ _)]at this;exact this
end
def HJ(dC k:DL)(p:LI):V:=QY dC k (TZ p.b0 p.b1) (wr (.int p.sp) p.w p.i) (ZT (.int p.sp) p.w p.i)
def UJ(dC k:DL)(p:LI):DM V:=yy dC k (tl p.w p.i) (KY p.w p.i) (.int p.sp) (FY p.b0) (FY p.b1)
def Ez(dC k q:DL)(p:LI):DM V:=uc dC k q (KY p.w p.i) (FY p.b0) (FY p.b1)
def NH(kn:DL->Tx->DQ V)(i0:DL)(t0:Tx)(v0:V)(i:DL)(t:Tx):DQ V:=EN (EG i i0&&FT t t0) (DK v0) (kn i t)
theorem xI{kn:DL->Tx->DQ V}{t:Tx}:NH kn i t v i t=DK v:=by
 unfold NH;rw[RQ,Hy];rfl
theorem acK{kn:DL->Tx->DQ V}{t u:Tx}(h:(EG j i&&FT u t)=DT):NH kn i t v j u=kn j u:=by
 unfold NH;rw[h];rfl
theorem Xs{s:CS}{i0:DL}(g:aY 90 0 v0)(h:∀i t v,s.kn i t=DK v->aY 90 0 v)(i:DL)(t:Tx)(v:V)(e:NH s.kn i0 t0 v0 i t=DK v):aY 90 0 v:=Ii e (λ J e=>EJ e▸g) λ J e=>h i t v e
def Fa(o q:DL):V:=Oj q [] (.str [84,114]) [] (WH o) (.bZ [] [])
def XR(o:DL):DM V:=[MO (WH o) [] (WH o) i0]
section
variable {A:DL->DL}{s:CS}(E_:WK A mv its bG N)
include E_
theorem Zl(h1:∀v∈IS,v∈sab)(h2:∀v∈cU,v∈tab):lH s sab tab [] s.kn:=λ i t m=>W_ (P:=λ i=>(V.str t∈YT sab tab i/\s.kn i t=s.kn i t)∨_) m (λ m=>.inl ⟨h1 _ m,rfl⟩) λ m=>.inl ⟨h2 _ m,rfl⟩
theorem aDN{p:LI}(P:IU p){k:DL}(hk:k∈[0,1])(cE:s.cA=[]):Du A mv its bG N (HJ 1 k p) s ⟨s.dI++UJ 1 k p,s.cA,s.late++[],s.left,s.kn⟩:=by
 obtain⟨w,i,sp,b0,b1⟩:=p;exact B5 (u7 E_ P hk) E_.hN cE (itS:=Jh 1 k (TZ b0 b1)) (sab:=IS) (tab:=cU) (ow:=Fk 1 k (FY b0) (FY b1)) (la:=[]) (up:=[]) (λ U pre kn=>by cases b0<;>cases b1<;>rfl) (λ U pre kn=>by cases b0<;>cases b1<;>rfl) (λ U pre kn=>rfl) ⟨rfl,λ v m=>m⟩ ⟨rfl,λ v m=>m⟩ (RV (IH auO hk) b0 b1) (Zl E_ (λ J m=>m) λ J m=>m) (λ h=>h) ⟨GO rfl,GI _⟩
theorem aDO{p:LI}(P:IU p){k:DL}(hk:k∈[0,1])(cE:s.cA=[]):Du A mv its bG N (HJ 2 k p) s ⟨s.dI++UJ 2 k p,s.cA,s.late++[],s.left,s.kn⟩:=by
 have hr:cW 2 k jM LO LP=DN:=IH auP hk;exact B5 (u7 E_ P hk) E_.hN cE (itS:=Jh 2 k jM) (sab:=IS) (tab:=cU) (ow:=Fk 2 k LO LP) (la:=[]) (up:=[]) (λ U pre kn=>rfl) (λ U pre kn=>rfl) (λ U pre kn=>rfl) ⟨rfl,λ v m=>m⟩ ⟨rfl,λ v m=>m⟩ hr (Zl E_ (λ J m=>m) λ J m=>m) (λ h=>h) ⟨GO rfl,GI _⟩
theorem B2{p:LI}(P:IU p){dC k q:DL}(hk:k∈[0,1])(kt:hV s)(cE:s.cA.length=q)(hr:Eh dC k q jM LO LP=DN)(h1:∀U pre kn,sh (FN U (GP A) (HR (Ba A mv its bG p)) pre kn) (Jh dC k jM)=HJ dC k p)(h2:∀U pre kn,EH (FN U (GP A) (HR (Ba A mv its bG p)) pre kn) (Fk dC k LO LP)=UJ dC k p)
  (h3:∀U pre kn,EH (FN U (GP A) (HR (Ba A mv its bG p)) pre kn) (Xi dC k q LO LP)=Ez dC k q p)(hl:(Fk dC k LO LP).length<=20/\(Xi dC k q LO LP).length<=20):
  Ap A mv its bG N (HJ dC k p) s ⟨s.dI++UJ dC k p,s.cA++Ez dC k q p,s.late,s.left,s.kn⟩:=
 ac8 (u7 E_ P hk) E_.hN cE kt (itS:=Jh dC k jM) (ow:=Fk dC k LO LP) (im:=Xi dC k q LO LP) h1 h2 h3 hr hl
theorem aDH{p:LI}(P:IU p){k:DL}(hk:k∈[0,1])(kt:hV s){q:DL}(cE:s.cA.length=q)(hq:q∈[0,1,2,3]):Ap A mv its bG N (HJ 0 k p) s ⟨s.dI++UJ 0 k p,s.cA++Ez 0 k q p,s.late,s.left,s.kn⟩:=
 B2 E_ P hk kt cE (IH (IH auN hk) hq) (λ U pre kn=>rfl) (λ U pre kn=>rfl) (λ U pre kn=>rfl) ⟨GO rfl,GO rfl⟩
theorem aDI{p:LI}(P:IU p){k:DL}(hk:k∈[0,1])(kt:hV s){q:DL}(cE:s.cA.length=q)(hq:q∈[0,1,2,3]):Ap A mv its bG N (HJ 3 k p) s ⟨s.dI++UJ 3 k p,s.cA++Ez 3 k q p,s.late,s.left,s.kn⟩:=
 B2 E_ P hk kt cE (ZP (P:=λ k=>Eh 3 k q jM LO LP=DN) hk (IH auQ hq) (IH auR hq)) (λ U pre kn=>rfl) (λ U pre kn=>rfl) (λ U pre kn=>rfl) ⟨GO rfl,GO rfl⟩
theorem aDJ{p:LI}(P:IU p)(kt:hV s){q:DL}(cE:s.cA.length=q)(hq:q∈[0,1,2,3]):Ap A mv its bG N (HJ 4 0 p) s ⟨s.dI++UJ 4 0 p,s.cA++Ez 4 0 q p,s.late,s.left,s.kn⟩:=
 B2 E_ P (k:=0) (by decide) kt cE (IH auS hq) (λ U pre kn=>rfl) (λ U pre kn=>rfl) (λ U pre kn=>rfl) ⟨GO rfl,GO rfl⟩
theorem aDK{p:LI}(P:IU p)(kt:hV s){q:DL}(cE:s.cA.length=q)(hq:q∈[0,1,2,3]):Ap A mv its bG N (HJ 5 0 p) s ⟨s.dI++UJ 5 0 p,s.cA++Ez 5 0 q p,s.late,s.left,s.kn⟩:=
 B2 E_ P (k:=0) (by decide) kt cE (IH auT hq) (λ U pre kn=>rfl) (λ U pre kn=>rfl) (λ U pre kn=>rfl) ⟨GO rfl,GO rfl⟩
theorem aDL{o:DL}(ho:o∈[0,1])(kt:hV s){q:DL}(cE:s.cA.length=q)(hq:q∈[0,1,2,3]):Ap A mv its bG N (JH (KB o)) s ⟨s.dI++XR o,s.cA++[Fa o q],s.late,s.left,s.kn⟩:=
 have e:∀C:Cf,sh C (JH (KB o))=JH (KB o)/\EH C (XR o)=XR o/\EH C [Fa o q]=[Fa o q]:=λ C=>ZP (P:=λ o=>sh C (JH (KB o))=JH (KB o)/\EH C (XR o)=XR o/\EH C [Fa o q]=[Fa o q]) ho ⟨rfl,rfl,rfl⟩ ⟨rfl,rfl,rfl⟩
 ac8 (u8 E_ (GD 0) (sb:=[]) (λ J J J=>bO) (.inr rfl)) E_.hN cE kt (itS:=JH (KB o)) (ow:=XR o) (im:=[Fa o q]) (λ U pre kn=>(e _).1) (λ U pre kn=>(e _).2.1) (λ U pre kn=>(e _).2.2) (IH (IH atA ho) hq) ⟨GO rfl,GO rfl⟩
theorem Kv{it:V}{kd:Tx}(tL:kd=[102,110]∨kd=[105,109,112,108])(gi:aY 40 0 it)(hs:∀U,fX U it (.int 0)=DK (.str kd))(cE:s.cA=[]):Du A mv its bG N it s ⟨s.dI++[],s.cA,s.late++[GB it],s.left,s.kn⟩:=
 have hr:cL kd=DN:=tL.elim (λ e=>e▸(DO vw).1) λ e=>e▸(DO vw).2
 B5 (ex:=ql kd) (u8 E_ gi (λ U C e=>EC (show fX U (C.bx 50) (.int 0)=DK (.str kd)from e▸hs U) bO) (.inl rfl)) E_.hN cE (itS:=.bD 50 .none) (sab:=IS) (tab:=cU) (ow:=[]) (la:=[GB (.bD 50 .none)]) (up:=[]) (λ U pre kn=>rfl) (λ U pre kn=>rfl) (λ U pre kn=>rfl) ⟨rfl,λ v m=>m⟩ ⟨rfl,λ v m=>m⟩ hr (Zl E_ (λ J m=>m) λ J m=>m) (λ h=>h) ⟨GI _,GO rfl⟩
theorem Qv{it:V}{up:DM WT}(hr:cK it sab tab ow up=DN)(ni:IC it=DN)(no:MH ow=DN)(h1:GN sab=DN/\∀v∈sab,v∈IS)(h2:GN tab=DN/\∀v∈tab,v∈cU)
  (hk:lH s sab tab up kn')(kg:(∀i t v,s.kn i t=DK v->aY 90 0 v)->∀i t v,kn' i t=DK v->aY 90 0 v)(hl:ow.length<=20)(cE:s.cA=[]):
  Du A mv its bG N it s ⟨s.dI++ow,s.cA,s.late++[],s.left,kn'⟩:=
 B5 (ex:=Z6) (u8 E_ (GD 0) (sb:=[]) (λ J J J=>bO) (.inr rfl)) E_.hN cE (itS:=it) (sab:=sab) (tab:=tab) (ow:=ow) (la:=[]) (up:=up) (λ U pre kn=>LV _ ni) (λ U pre kn=>Pj _ no) (λ U pre kn=>rfl) h1 h2 hr hk kg ⟨hl,GI _⟩
end
def iF(A:DL->DL)(U G:aS):Prop:=U.length<=G.length/\∀j,j<U.length->j∉GP A->G[j]? =U[j]?
theorem iF.refl(A:DL->DL)(U:aS):iF A U U:=⟨FG _,λ J J J=>rfl⟩
theorem iF.trans{A:DL->DL}{U G cZ:aS}(h:iF A U G)(k:iF A G cZ):iF A U cZ:=⟨EZ h.1 k.1,λ j hj nj=>(k.2 j (IW hj h.1) nj).trans (h.2 j hj nj)⟩
theorem iF.cJ{A:DL->DL}(U l:aS):iF A U (U++l):=⟨GC▸HD ..,λ j hj J=>KQ hj⟩
theorem QZ(U:aS)(o:O):(U++[o]).length=U.length+1:=GC
theorem cP.cJ(h:cP U){o:O}(g:gG (U.length+1) o):cP (U++[o]):=λ j x e=>by
 rw[QZ];by_cases q:j=U.length
 ·rw[q,NK]at e;exact EJ e▸g
 ·rw[Hw q]at e;exact(h j x e).bB (TD _)
section
variable {A:DL->DL}{s:CS}
theorem Dk.oR{P:DM V}{kn:Tx->DQ V}(d:Dk U a n P kn)(e:G[a]? =U[a]?):Dk G a n P kn:=by obtain⟨K,W,h,r⟩:=d;exact⟨K,W,e.trans h,r⟩
theorem RS.oR(h:RS A mv its bG s n U)(g:cP G)(l:U.length<=G.length)(k:∀j,j<U.length->G[j]? =U[j]?):RS A mv its bG s n G:=
 ⟨g,h.inj,λ i hi=>IW (h.lt i hi) l,λ i o e=>(k _ (GX (h.fx i o e))).trans (h.fx i o e),λ i m=>(h.dk i m).oR (k _ (by obtain⟨_,_,e,_⟩:=h.dk i m;exact GX e)),(k _ h.md.lt).trans h.md,h.kg,h.cl,h.bQ⟩
theorem RS.cJ(h:RS A mv its bG s n U){o:O}(g:gG (U.length+1) o):RS A mv its bG s n (U++[o]):=h.oR (h.jW.cJ g) (QZ U o▸TD _) λ j hj=>KQ hj
end
inductive iN(A:DL->DL)(mv:Mv)(its bG:V)(N:DL):DM V->CS->CS->Prop
 |nil (s:CS):iN A mv its bG N [] s s
 |cons {it:V} {l:DM V} {s s1 s2:CS}:Du A mv its bG N it s s1->iN A mv its bG N l s1 s2->iN A mv its bG N (it::l) s s2
inductive iZ(A:DL->DL)(mv:Mv)(its bG:V)(N:DL):DM V->CS->CS->Prop
 |nil (s:CS):iZ A mv its bG N [] s s
 |cons {it:V} {l:DM V} {s s1 s2:CS}:Ap A mv its bG N it s s1->s1.late=s.late->iZ A mv its bG N l s1 s2->iZ A mv its bG N (it::l) s s2
theorem sz(N:DL):gG N (.list []):=⟨rfl,λ J m=>IK m⟩
section
variable {α β:Type}{P:QK}
theorem mb{x:M α}{a:α}{f:α->M β}(h:x U=.ok a G):M.bind x f U=f a G:=DX (λ r=>R.bind r f) h
theorem L{x:M α}{e:V}{f:α->M β}(h:x U=.cD e G):M.bind x f U=.cD e G:=DX (λ r=>R.bind r f) h
theorem aBX{x:DL}(h:m[x]? =DK (DK v)):ZN m x=DK v:=DX (λ y:DQ (DQ V)=>y.bind id) h
theorem RZ{x:DL}(h:m[x]? =DK (DK v)):(EX P o (.loc x) m).1 U=.ok v U:=DX (λ y=>M.eH y U) (aBX h)
theorem X?{f:aS->DQ α}{a:α}(h:f U=DK a):M.rd f U=.ok a U:=DX (λ y=>M.eH y U) h
theorem Zz{f:aS->DQ (α×aS)}{p:α×aS}(h:f U=DK p):M.st f U=.ok p.1 p.2:=DX M.o2 h
theorem Y7{D:Tb}{w:V}(h:(EX (EE D) o e m).1 U=.ok v G)(k:GR D G v a=DK w):(EX (EE D) o (.aU e a) m).1 U=.ok w G:=(mb h).trans (X? k)
theorem P?{x:M α}{a:α}(h:x U=.ok a G):ZK x U=.ok a G:=DX Yp h
end
theorem abX{H_:DM V}(hm:m[1]? =DK (DK (.ref a)))(hl:U[a]? =DK (.list H_)):Bn EF o (.aW .ne (.loc 1) (.aX .nil)) m U=.ok (WG H_) (U++[.list []]):=by
 have e1:(U++[O.list []])[a]? =DK (.list H_):=(KQ (GX hl)).trans hl;have e2:(U++[O.list []])[U.length]? =DK (.list []):=NK;have s1:GU (U++[O.list []]) (.ref a)=DK H_:=DX (λ x:DQ O=>oo DP (x.bind oL)) e1;have s2:GU (U++[O.list []]) (.ref U.length)=DK []:=DX (λ x:DQ O=>oo DP (x.bind oL)) e2;refine(mb (RZ hm)).trans ((mb (show(EX (EE EF) o (.aX .nil) m).1 U=.ok (.ref U.length) (U++[.list []])from rfl)).trans (X? ?_));show(VM (U++[.list []]) (.ref a) (.ref U.length)).map not=_;unfold VM TX;rw[s1,s2];cases H_<;>rfl
theorem xi(h:n+20 *(k+1)<=800):n<=800/\n+20+20 * k=n+20 *(k+1):=⟨EZ (HD ..) h,by rw[Nat.mul_succ,TB,Ly 20]⟩
theorem aC2(l:DM V)(v:V):WG (l++[v])=DN:=by cases l<;>rfl
section
variable {A:DL->DL}{l:DM V}{s:CS}
theorem aEB(q:iN A mv its bG N l s s'):∀(n:DL) (U:aS) (m:Lv) (F:DL),n+20 * l.length<=800->RS A mv its bG {s with left:=(l.reverse).map GB} n U->Lm A m->l.length+1<=F->
  ∃m' G,Gm (λ m=>Bn EF (RF N) (.aW .ne (.loc 1) (.aX .nil)) m) (λ m=>U9 N m) F m U=.ok (.next,m') G/\Lm A m'/\RS A mv its bG {s' with left:=[]} (n+20 * l.length) G/\iF A U G:=by
 induction q with
 |nil s=>
   intro n U m F _ h hm hF;cases F with
   |zero=>exact EP hF (TF _)|succ F=>exact⟨m,_,mb (abX hm.2.2 (h.fx 10 _ rfl)),hm,h.cJ (sz _),iF.cJ _ _⟩
 | @cons it l s s1 s2 t r ih=>
   intro n U m F hn h hm hF;cases F with
   |zero=>exact EP hF (TF _)|succ F=>
    have jO:=xi hn;have hl:((it::l).reverse).map GB=l.reverse.map GB++[GB it]:=by rw[P4,YL];rfl
    rw[hl]at h;obtain⟨m1,bS,e1,l1,r1,k1⟩:=t n _ m _ jO.1 (h.cJ (sz _)) hm;obtain⟨m2,dB,e2,l2,r2,k2⟩:=ih (n+20) bS m1 F (jO.2▸hn) r1 l1 (Ai hF);refine⟨m2,dB,(mb (abX hm.2.2 (h.fx 10 _ rfl))).trans ?_,l2,(jO.2▸r2:RS A mv its bG {s2 with left:=[]} (n+20 *(l.length+1)) dB),(iF.cJ U _).trans (iF.trans k1 k2)⟩;rw[aC2];exact(mb e1).trans e2
theorem o8{f:V->Lv->M (Fl×Lv)}{F:DL}{H_:DM V}(h:U[a]? =DK (.list H_))(e:H_[k]? =DP):KZ f (.bN (.cX a)) (F+1) k m U=.ok (.next,m) U:=by
 show oe (((U[a]?).bind oL).map λ B=>B[k]?) .bL (λ x=>oe x (.ok (.next,m) U) λ v=>M.bind (f v m) (LJ (KZ f (.bN (.cX a)) F (GH k))) U)=_;rw[h];exact DX (λ x=>oe x (.ok (.next,m) U) λ v=>M.bind (f v m) (LJ (KZ f (.bN (.cX a)) F (GH k))) U) e
theorem B6{f:V->Lv->M (Fl×Lv)}{F:DL}{H_:DM V}(h:U[a]? =DK (.list H_))(e:H_[k]? =DK v):KZ f (.bN (.cX a)) (F+1) k m U=M.bind (f v m) (LJ (KZ f (.bN (.cX a)) F (GH k))) U:=by
 show oe (((U[a]?).bind oL).map λ B=>B[k]?) .bL (λ x=>oe x (.ok (.next,m) U) λ v=>M.bind (f v m) (LJ (KZ f (.bN (.cX a)) F (GH k))) U)=_;rw[h];exact DX (λ x=>oe x (.ok (.next,m) U) λ v=>M.bind (f v m) (LJ (KZ f (.bN (.cX a)) F (GH k))) U) e
theorem Y2{α:Type}{H_ l:DM α}{v:α}(h:H_.drop k=v::l):H_[k]? =DK v/\H_.drop (k+1)=l:=by
 constructor
 ·rw[<-agZ k,<-aq,h];rfl
 ·rw[<-agB,h];rfl
theorem apJ(q:iZ A mv its bG N l s s'):∀(n k:DL) (U:aS) (m:Lv) (F:DL),n+20 * l.length<=800->RS A mv its bG s n U->s.late.drop k=l.map GB->Lm A m->l.length+1<=F->
  ∃m' G,KZ (λ v m=>U8 N v m) (.bN (.cX (A 9))) F k m U=.ok (.next,m') G/\Lm A m'/\RS A mv its bG s' (n+20 * l.length) G/\iF A U G:=by
 induction q with
 |nil s=>
   intro n k U m F _ h hd hm hF;cases F with
   |zero=>exact EP hF (TF _)|succ F=>exact⟨m,U,o8 (h.fx 9 _ rfl) (MQ (O3.mp hd)),hm,h,iF.refl _ _⟩
 | @cons it l s s1 s2 t lt r ih=>
   intro n k U m F hn h hd hm hF;cases F with
   |zero=>exact EP hF (TF _)|succ F=>
    have jO:=xi hn;have hd:=Y2 hd;obtain⟨m1,bS,e1,l1,r1,k1⟩:=t n U m jO.1 h hm;obtain⟨m2,dB,e2,l2,r2,k2⟩:=ih (n+20) (k+1) bS m1 F (jO.2▸hn) r1 (lt▸hd.2) l1 (Ai hF);exact⟨m2,dB,(B6 (h.fx 9 _ rfl) hd.1).trans ((mb e1).trans e2),l2,(jO.2▸r2:RS A mv its bG s2 (n+20 *(l.length+1)) dB),iF.trans k1 k2⟩
end
structure WS(A:DL->DL)(mv:Mv)(cA:DM V)(U:aS):Prop where
 c0:∃its,U[A 0]? =DK (.inst 825 [495756604521,32481138822115181,431316168567,1702125932,1684371311] [its,.ref (A 11),.ref (A 2),.ref (A 9),.ref (A 1)])
 w:∃bG,U[A 2]? =DK (.inst 687 [32481138822115181,1937007713,8319395776320135542,1936157043,126943821394548,495740546409,126943990017891,126879397080930] [.ref (A 11),.ref (A 4),.ref (A 5),.ref (A 6),.ref (A 7),.ref (A 3),bG,.ref (A 8)])
 im:U[A 3]? =DK (.list cA)
 sg:∃K W,U[A 6]? =DK (.dict K W)/\HY K W (.str [115,116,114,117,99,116,32,71])=DK (DK Cw)/\HY K W (.str [115,116,114,117,99,116,32,78])=DK DP
 md:gH (A 11) mv U
theorem WS.oR{A:DL->DL}{cA:DM V}(h:WS A mv cA U)(k:∀j,j<U.length->G[j]? =U[j]?):WS A mv cA G:=
 have m:∀{a o},U[a]? =DK o->G[a]? =DK o:=λ e=>(k _ (GX e)).trans e
 ⟨by obtain⟨i,e⟩:=h.c0;exact⟨i,m e⟩,by obtain⟨i,e⟩:=h.w;exact⟨i,m e⟩,m h.im,by obtain⟨K,W,e,r⟩:=h.sg;exact⟨K,W,m e,r⟩,m h.md⟩
structure IM where
 os:DM DL
 n0:DU
 n1:DU
 bh:DU
 r0:V
 r1:V
 qN:DY
 qU:DY
 t0:V
 t1:V
def V4(x:IM)(o:DL):V:=.obj 658 [125779768604014,32491047110534514,126913623515504,499984200308,544980402143347936948852,1871225788402183726451,32480051978331501,1953460339] [EN (EG o 0) (.int x.qN) (.int x.qU),.aR [],.aX [],(.str [84,114]),.aR [],WH o,.bZ [] [],i0]
noncomputable def Fs(os:DM V)(bh:DU)(b:DM V):DM V:=EN bh (os++b) (b++os)
def IM.gP(x:IM):DM V:=Fs (x.os.map (V4 x)) x.bh (EN x.n0 [x.r0] []++EN x.n1 [x.r1] [])
structure Aa(x:IM):Prop where
 os:x.os∈[[],[0],[1],[0,1]]
 b0:x.os=[]->x.bh=DN
 t0:x.t0∈QD
 t1:x.t1∈QD
 a0:∀U,GR EF U x.r0 499984200308=DK x.t0
 a1:∀U,GR EF U x.r1 499984200308=DK x.t1
 g0:aY 40 0 x.r0
 g1:aY 40 0 x.r1
noncomputable def Ie(A:DL->DL)(mv:Mv)(x:IM)(b k:DL)(nm r0 r1:V):DM (DL×V):=[(0,mv.k),(3,mv.g),(9,.ref (A 11)),(60,.ref (A 2)),(61,r0),(62,r1),(64,.int x.qN),(65,.ref b),(66,.ref k),(67,.int x.qU),(68,nm)]
def Y?(x:IM)(t:DL):V:=Db t (.aX []) (ZV (x.os.any (EG 0)) (.int x.qN)) (ZV (x.os.any (EG 1)) (.int x.qU))
def k9(t:DL)(nm:V):V:=Db t (.aR [(.str [112,97,114,97,109]),nm]) fJ iK
theorem am8{os:DM DL}{bh:DU}(h:WZ os bh=DN){t:DL}(ht:t∈[0,1,2]){t0 t1:V}(h0:t0∈QD)(h1:t1∈QD)(n0 n1:DU):∃u0 u1,Nk os n0 n1 bh u0 u1 t=DN/\(n0=DN->u0=t0)/\(n1=DN->u1=t1)/\u0∈QD/\u1∈QD:=by
 have hn:V.none∈QD:=.head _;have h:=DO (FQ.mp h t ht);have b0:=DO (FQ.mp h.2 t0 h0);have b1:=DO (FQ.mp h.2 t1 h1);cases n0<;>cases n1
 ·exact⟨_,_,h.1,λ h=>(FB h),λ h=>(FB h),hn,hn⟩
 ·exact⟨_,_,(DO b1.1).2,λ h=>(FB h),λ J=>rfl,hn,h1⟩
 ·exact⟨_,_,(DO b0.1).1,λ J=>rfl,λ h=>(FB h),h0,hn⟩
 ·exact⟨_,_,FQ.mp b0.2 t1 h1,λ J=>rfl,λ J=>rfl,h0,h1⟩
theorem V0{f:DU->DU}(h:(f DN&&f DT)=DN)(b:DU):f b=DN:=by
 cases b
 ·exact(DO h).2
 ·exact(DO h).1
theorem amD{x:IM}(X:Aa x):WZ x.os x.bh=DN:=
 EC (P:=λ l=>x.os=l->WZ l x.bh=DN) (λ e=>X.b0 e▸am9) (EC (λ J=>V0 amA _) (EC (λ J=>V0 amB _) (EC (λ J=>V0 amC _) bO))) _ X.os rfl
noncomputable def Kf(A:DL->DL)(b k:DL):O:=.inst 562 [431316168567,126875187113826,474450194027] [.ref (A 2),.ref b,.ref k]
def Dm(u:V):Prop:=(∀C:Cf,sh C u=u)/\(∀U,GR EF U (.obj 658 [499984200308] [u]) 499984200308=DK u)/\aY 40 0 (.obj 658 [499984200308] [u])
theorem dm:∀u∈QD,Dm u:=EC ⟨λ J=>rfl,λ J=>rfl,HZ rfl rfl 0⟩ (EC ⟨λ J=>rfl,λ J=>rfl,HZ rfl rfl 0⟩ (EC ⟨λ J=>rfl,λ J=>rfl,HZ rfl rfl 0⟩ bO))
theorem zh{n:DU}{r t:V}(hu:n=DN->u=t)(m:u∈QD)(a:∀U,GR EF U r 499984200308=DK t)(g:aY 40 0 r):∃r',EN n [r'] []=EN n [r] []/\(∀U,GR EF U r' 499984200308=DK u)/\aY 40 0 r':=by
 cases n
 ·exact⟨.obj 658 [499984200308] [u],rfl,(dm u m).2.1,(dm u m).2.2⟩
 ·exact⟨r,rfl,hu rfl▸a,g⟩
theorem Ki(b:DU)(x y:V):sh C (EN b x y)=EN b (sh C x) (sh C y):=by cases b<;>rfl
theorem uJ(b:DU)(x y:DM V):EH C (EN b x y)=EN b (EH C x) (EH C y):=by cases b<;>rfl
theorem aaZ(t:DL)(a b c:V):sh C (Db t a b c)=Db t (sh C a) (sh C b) (sh C c):=(Ki ..).trans (DX (EN _ _) (Ki ..))
theorem CJ:∀o,sh C (WH o)=WH o
 |0=>rfl|_+1=>rfl
theorem aAN{os:DM DL}{x:IM}{n0 n1 bh:DU}{r0 r1:V}(zC:C.bx 61=r0)(zD:C.bx 62=r1)(qY:C.bx 64=.int x.qN)(tD:C.bx 67=.int x.qU):EH C (Ng os n0 n1 bh)=Fs (os.map (V4 x)) bh (EN n0 [r0] []++EN n1 [r1] []):=by
 have h1:EH C (os.map Nf)=os.map (V4 x):=by
  rw[hG,az];refine ax λ o J=> ?_;show V.obj 658 _ [sh C (EN (EG o 0) (.bD 64 .none) (.bD 67 .none)),.aR [],.aX [],(.str [84,114]),.aR [],sh C (WH o),.bZ [] [],i0]=_;rw[Ki,CJ,show sh C (.bD 64 .none)=.int x.qN from qY,show sh C (.bD 67 .none)=.int x.qU from tD];rfl
 have h2:EH C (EN n0 [V.bD 61 .none] []++EN n1 [V.bD 62 .none] [])=EN n0 [r0] []++EN n1 [r1] []:=by
  rw[RH,uJ,uJ,<-zC,<-zD];rfl
 unfold Ng Fs;rw[uJ,RH (os.map Nf),RH _ (os.map Nf),h1,h2]
theorem qT{b:DL}(h:a<U.length)(k:b<U.length)(ne:a≠b):mA U [a,b]:=by
 have key:∀{i c:DL},[a,b][i]? =DK c->(i=0/\a=c)∨(i=1/\b=c):=λ {i c} e=>match i,e with
  |0,e=>.inl ⟨rfl,EJ e⟩|1,e=>.inr ⟨rfl,EJ e⟩
 exact⟨λ i c e=>(key e).elim (λ q=>q.2▸h) λ q=>q.2▸k,λ i j c e e'=>(key e).elim (λ q=>(key e').elim (λ q'=>q.1.trans q'.1.symm) λ q'=>EP (q.2.trans q'.2.symm) ne) λ q=>(key e').elim (λ q'=>EP (q'.2.trans q.2.symm) ne) λ q'=>q.1.trans q'.1.symm⟩
theorem aDU{P:DL->aH->Prop}{o o':aH}(h:P 0 o)(h':P 1 o'):∀(i:DL) x,[o,o'][i]? =DK x->P i x
 |0,_,e=>EJ e▸h|1,_,e=>EJ e▸h'
theorem Yn{α:Type}{a b:α}{l:DM α}(h:a≠b)(k:a∉l):a∉b::l:=λ m=>(IV.mp m).elim h k
theorem Pc{b:DL}{o:O}(h:U[a]? =DK o)(k:U[b]? =DK o')(n:o≠o'):a≠b:=λ z=>n (EJ (h.symm.trans (z▸k)))
theorem xp{c:DL}{k l:DM DL}{v w:DM V}(h:EG c d=DT):O.inst c k v≠ .inst d l w:=λ e=>by
 rw[(O.inst.inj e).1,RQ]at h;exact(by cases h)
theorem Au{c:DL}{ks:DM DL}(h:U[a]? =DK (.inst c ks B)):OL U (.ref a)=DK (c,ks,B):=DX (λ x:DQ O=>x.bind oI) h
theorem aoU{A:DL->DL}{x:IM}{b:DL}{nm r0 r1 u0:V}(e:C.bx=HR (Ie A mv x b k nm r0 r1))(e1:C.ρ 1=A 3)(hP:∀τ U,Em C τ U->∃bG,U[A 2]? =DK (.inst 687 [32481138822115181,1937007713,8319395776320135542,1936157043,126943821394548,495740546409,126943990017891,126879397080930] [.ref (A 11),.ref (A 4),.ref (A 5),.ref (A 6),.ref (A 7),.ref (A 3),bG,.ref (A 8)]))
  (m0:u0∈QD)(m1:u1∈QD)(f0:∀U,GR EF U r0 499984200308=DK u0)(f1:∀U,GR EF U r1 499984200308=DK u1):Gx C (Z3 u0 u1):=by
 refine⟨λ τ U E=>EC ?_ (EC ?_ (EC ?_ bO)),λ J J J=>bO,λ J J J=>bO,λ J J J=>bO⟩
 ·obtain⟨bG,hw⟩:=hP τ U E;show GR EF U (C.bx 60) _=DK (.ref (C.ρ 1));rw[e,e1];unfold GR;rw[show OL U (HR (Ie A mv x b k nm r0 r1) 60)=_ from Au hw];rfl
 ·show GR EF U (C.bx 61) _=DK (sh C u0);rw[e,(dm u0 m0).1];exact f0 U
 ·show GR EF U (C.bx 62) _=DK (sh C u1);rw[e,(dm u1 m1).1];exact f1 U
theorem amE{A:DL->DL}(M:JL mv){x:IM}(X:Aa x){t:DL}(ht:t∈[0,1,2]){nm:V}(hn:aY 40 0 nm)(ar b k:DL):Pu (λ U=>WS A mv x.gP U/\U[ar]? =DK (Kf A b k)/\b<U.length/\k<U.length) 42 547 [.ref ar,(.str [84,114]),.aR [],k9 t nm,.int 0] (Y? x t):=by
 obtain⟨u0,u1,hr,AW,AX,m0,m1⟩:=am8 (amD X) ht X.t0 X.t1 x.n0 x.n1;obtain⟨r0,e0,f0,g0⟩:=zh AW m0 X.a0 X.g0;obtain⟨r1,e1,f1,g1⟩:=zh AX m1 X.a1 X.g1;have rr:∀C:Cf,C.bx=HR (Ie A mv x b k nm r0 r1)->EH C (Ng x.os x.n0 x.n1 x.bh)=x.gP:=λ C e=>by
  unfold IM.gP;rw[aAN (r0:=r0) (r1:=r1) (Vw e 61) (Vw e 62) (Vw e 64) (Vw e 67),e0,e1]
 have nn:∀U,WS A mv x.gP U->U[ar]? =DK (Kf A b k)->(ar≠A 3/\A 2∉[ar,A 3])/\A 11∉[ar,A 3]:=λ U w e=>by
  obtain⟨c,hw⟩:=w.w;exact⟨⟨Pc e w.im λ z=>((by cases z)),Yn (Pc hw e (xp rfl)) (Yn (Pc hw w.im λ z=>((by cases z))) KG)⟩,Yn (Pc w.md e (xp rfl)) (Yn (Pc w.md w.im λ z=>((by cases z))) KG)⟩
 have sy:∀U,(WS A mv x.gP U/\U[ar]? =DK (Kf A b k)/\b<U.length/\k<U.length)->∀j,aY 40 U.length (HR (Ie A mv x b k nm r0 r1) j):=λ U p=>by
  obtain⟨c,hw⟩:=p.1.w;exact Vk (EC (HO M.gd.1) (EC (HO M.gd.2.2.2.1) (EC (XV p.1.md.lt rfl) (EC (XV (GX hw) rfl) (EC (HO g0) (EC (HO g1) (EC (HO (ME _)) (EC (XV p.2.2.1 rfl) (EC (XV p.2.2.2 rfl) (EC (HO (ME _)) (EC (HO hn) bO)))))))))))
 refine Cs (P:=λ U=>WS A mv x.gP U/\U[ar]? =DK (Kf A b k)/\b<U.length/\k<U.length) (hk:=JG (Z3 u0 u1)) (bx:=HR (Ie A mv x b k nm r0 r1)) (ad:=[ar,A 3]) (τ:=[aaM,.list (Ng x.os x.n0 x.n1 x.bh)]) (K:=30) (n:=12) sy (λ U p=>qT (GX p.2.1) (GX p.1.im) (nn U p.1 p.2.1).1.1) rfl (EC rfl (EC rfl bO)) (λ U p=>aDU p.2.1 (p.1.im.trans (DX (λ l=>DK (O.list l)) (rr _ rfl).symm))) (λ U g p=> ?_) (SD hr) (λ U=> ?_) (λ U=> ?_)
 ·obtain⟨c,hw⟩:=p.1.w;have n:=nn U p.1 p.2.1;have hP:∀τ G,Em (FN U [ar,A 3] (HR (Ie A mv x b k nm r0 r1)) (λ J=>[]) λ J J=>DP) τ G->gH (A 11) mv G:=λ τ G E=>p.1.md.keep n.2 E;exact⟨Ob M rfl rfl rfl hP (aoU rfl rfl (λ τ G E=>⟨c,(SH E (GX hw) n.1.2).trans hw⟩) m0 m1 f0 f1),λ J J J h=>(EW h)⟩
 ·exact DX (λ v=>[.ref ar,(.str [84,114]),.aR [],v,.int 0]) (aaZ ..)
 ·show sh _ (Db ..)=_;rw[aaZ];show Db t (.aX []) (sh _ (EN ..)) (sh _ (EN ..))=_;rw[Ki,Ki];rfl
structure De where
 iE:V
 e1:V
 e2:V
 sb:V
 st:V
 lX:V
 sp:DY
structure Rr(A:DL->DL)(mv:Mv)(i:DL)(d:De):Prop where
 hi:i∈[0,1,2,3]
 ht:Pu (PM (A 11) (A 0) mv) 30 843 [d.iE] (OZ i)
 gt:aY 40 0 d.iE
 g1:aY 40 0 d.e1
 g2:aY 40 0 d.e2
 gs:aY 40 0 d.sb
 lP:aY 40 0 d.st
 gc:aY 40 0 d.lX
noncomputable def bxD(A:DL->DL)(mv:Mv)(x:IM)(d:De):DM (DL×V):=[(0,mv.k),(3,mv.g),(7,.int d.sp),(8,d.st),(9,.ref (A 11)),(21,d.iE),(24,d.e1),(25,d.e2),(28,d.sb),(60,.ref (A 2)),(64,.int x.qN),(67,.int x.qU),(70,.ref (A 0)),(71,.ref (A 6)),(72,d.lX)]
noncomputable abbrev XA(A:DL->DL)(mv:Mv)(x:IM)(d:De)(U:aS):Cf:=GS U [] (HR (bxD A mv x d)) λ J=>[]
def Hd(A:DL->DL)(m:Lv):Prop:=m.length=10/\m[0]? =DK (DK (.ref (A 0)))
def hZ(U G:aS):Prop:=U.length<=G.length/\∀j,j<U.length->G[j]? =U[j]?
def Ib(N:DL)(v:V)(m:Lv):M (Fl×Lv):=M.bind (IY (EE EF) (RF N) (ZC sC) v m) λ m'=>FC (EE EF) (RF N) (PC sC) m'
noncomputable def PH(x:IM)(i:DL):DU:=EN (EG i 2) (x.os.any (EG 0)) (EN (EG i 3) (x.os.any (EG 1)) DT)
section
variable {A:DL->DL}{x:IM}
theorem WS.ru(hW:∀τ U,Em C τ U->WS A mv x.gP U)(qX:C.bx 60=.ref (A 2))(tE:C.bx 70=.ref (A 0))(tF:C.bx 71=.ref (A 6))(i:DL):Gx C (Wk i):=by
 refine⟨λ τ U E=>EC ?_ (EC ?_ bO),λ J J J=>bO,λ J J J=>bO,λ τ U E=>EC ?_ (EC ?_ bO)⟩
 ·obtain⟨its,e⟩:=(hW τ U E).c0;show GR EF U (C.bx 70) _=DK (C.bx 60);rw[tE,qX];unfold GR;rw[Au e];rfl
 ·obtain⟨bG,e⟩:=(hW τ U E).w;show GR EF U (C.bx 60) _=DK (C.bx 71);rw[qX,tF];unfold GR;rw[Au e];rfl
 ·obtain⟨K,W,e,k,_⟩:=(hW τ U E).sg;exact⟨_,(K,W),rfl,(DX (JZ U) tF).trans (DX (λ x:DQ O=>oo DP (x.bind oD)) e),by show(HY K W _).map (λ r=>r.getD .none)=_;rw[k];rfl⟩
 ·obtain⟨K,W,e,_,k⟩:=(hW τ U E).sg;exact⟨_,(K,W),rfl,(DX (JZ U) tF).trans (DX (λ x:DQ O=>oo DP (x.bind oD)) e),by show(HY K W _).map (λ r=>r.getD .none)=_;rw[k];rfl⟩
theorem atV{y:DL×DM DL×DM V}(h:A? y=DN):∃b k,y=(562,uH,[.bD 60 .none,.ref b,.ref k]):=by
 have h1:=DO h;have h2:=DO h1.1;refine EL h1.2 λ p e h4=>EL (DO h4).2 λ q e2 h3=> ?_;obtain⟨b,eb⟩:=Md.mp (DO h3).1;obtain⟨k,ek⟩:=Md.mp (DO h3).2;refine⟨b,k,?_⟩;obtain⟨c,ks,l⟩:=y;rw[show c=562 from JD h2.1,show ks=uH from hJ h2.2,show l=_ from Gl e,PW (DO h4).1,Gi e2,IX eb,IX ek]
theorem adD(b:DU)(v:V):sh C (ZV b v)=ZV b (sh C v):=Ki ..
theorem aAW(M:JL mv)(X:Aa x){i:DL}(hi:i∈[0,1,2,3]){C:Cf}(O:FP C)(hW:∀τ U,Em C τ U->WS A mv x.gP U)(qX:C.bx 60=.ref (A 2))(qY:C.bx 64=.int x.qN)(tD:C.bx 67=.int x.qU){r N:DL}(hN:42<=N):Sm C (vr C) (aaF r (Pr i (PH x i))) (RF N 547 (EH C [.ref r,(.str [84,114]),.aR [],XW i,.int 0])):=λ τ U E=>
 Sr.rV (x:=((τ[r]?).bind oI).bind λ x'=>og (A? x') (og (MV τ) (here (Pr i (PH x i)) τ))) λ p q=>ob q λ y e1 q=>EO q λ q1 q=>EO q λ q2 q=>ob e1 λ o e2 e3=>by
  obtain⟨b,k,ey⟩:=atV q1;cases(pZ e3:o=_);rw[ey]at e2;have cl:=(DO (FQ.mp q2 _ (JK e2))).2;have cb:HC b τ.length=DN:=FQ.mp cl _ (.tail _ (.head _));have ck:HC k τ.length=DN:=FQ.mp cl _ (.tail _ (.tail _ (.head _)));have H:U[C.ρ r]? =DK (Kf A (C.ρ b) (C.ρ k)):=(E.dN e2 rfl).trans (by unfold Kf;rw[<-qX];rfl);have tt:∃t nm,t∈[0,1,2]/\aY 40 0 nm/\k9 t nm=sh C (XW i)/\Y? x t=sh C (Pr i (PH x i)):=Iu (P:=λ i=>∃t nm,t∈[0,1,2]/\aY 40 0 nm/\k9 t nm=sh C (XW i)/\Y? x t=sh C (Pr i (PH x i))) hi
   ⟨0,(.str [88]),by decide,HZ rfl rfl 0,rfl,rfl⟩ ⟨0,(.str [89]),by decide,HZ rfl rfl 0,rfl,rfl⟩ ⟨1,.none,by decide,GD 0,rfl,((adD _ (.bD 64 .none)).trans (DX (ZV _) qY)).symm⟩ ⟨2,.none,by decide,GD 0,rfl,((adD _ (.bD 67 .none)).trans (DX (ZV _) tD)).symm⟩
  obtain⟨t,nm,h1,h2,h3,h4⟩:=tt;have c:=amE M X h1 h2 (C.ρ r) (C.ρ b) (C.ρ k) U (VJ O E q2) ⟨hW τ U E,H,E.lt.mp (GO cb),E.lt.mp (GO ck)⟩ N hN;rw[h3]at c;exact⟨_,_,c,EJ q▸⟨h4,E⟩⟩
theorem ajV(hi:i∈[0,1,2,3]):sh C (OZ i)=OZ i:=Iu (P:=λ i=>sh C (OZ i)=OZ i) hi rfl rfl rfl rfl
theorem Vr{d:De}(M:JL mv)(I_:Rr A mv i d)(g:cP U)(w:WS A mv x.gP U):FP (XA A mv x d U):=by
 obtain⟨its,c0⟩:=w.c0;obtain⟨bG,cw⟩:=w.w;obtain⟨K,W,k1,_⟩:=w.sg;exact VV g (.nil U) (Vk (EC (HO M.gd.1) (EC (HO M.gd.2.2.2.1) (EC (HO (ME _)) (EC (HO I_.lP) (EC (XV w.md.lt rfl) (EC (HO I_.gt) (EC (HO I_.g1) (EC (HO I_.g2) (EC (HO I_.gs) (EC (XV (GX cw) rfl) (EC (HO (ME _)) (EC (HO (ME _)) (EC (XV (GX c0) rfl) (EC (XV (GX k1) rfl) (EC (HO I_.gc) bO))))))))))))))))
theorem ua{d:De}(M:JL mv)(X:Aa x)(I_:Rr A mv i d)(g:cP U)(w:WS A mv x.gP U):KN (XA A mv x d U) EF (Iy i (PH x i))/\OY (XA A mv x d U) (Iy i (PH x i)) 42:=by
 have O:=Vr M I_ g w;have hW:∀τ G,Em (XA A mv x d U) τ G->WS A mv x.gP G:=λ τ G E=>w.oR λ j hj=>SH E hj KG;have G_:KN (XA A mv x d U) EF (JG (Wk i)):=Ob M rfl rfl rfl (λ τ G E=>(hW τ G E).md) (WS.ru hW rfl rfl rfl i);refine⟨⟨G_.nY,G_.sba,G_.oS,G_.oG,G_.oA⟩,λ f args m hm N hN=>FH hm (λ hm=>ob hm λ p e1 hm=>ob hm λ r e2 hm=>EO hm λ q hm=> ?_) λ hm=>Zh O (P:=PM (A 11) (A 0) mv) (λ τ G E=>⟨(hW τ G E).md,by obtain⟨_,e⟩:=(hW τ G E).c0;exact GX e⟩) (EC ?_ bO) bO f args m hm N hN⟩
 ·rw[Gl e1,IX e2,JD (DO q).1,PY (DO q).2,<-EJ hm];exact aAW M X I_.hi O hW rfl rfl rfl hN
 ·show Pu _ 42 843 [d.iE] (sh _ (OZ i));rw[ajV I_.hi];exact I_.ht.bB (λ U q=>q) (by decide)
theorem av3(tE:C.bx 70=.ref (A 0))(h:Hd A m):LR C mC m:=by
 refine⟨h.1.symm,λ i v e=> ?_⟩;cases i with
 |zero=>exact EJ (EJ e)▸h.2.trans (DX (λ v=>DK (DK v)) tE.symm)|succ i=>
  have e:(JW 9 (DP:DQ V))[i]? =DK (DK v):=e;exact Ch (be.mp (JK e)).2
variable {d:De}(M:JL mv)(X:Aa x)(I_:Rr A mv i d)(hN:72<=N)(g:cP U)(w:WS A mv x.gP U)(hm:Hd A m)(hv:sh (XA A mv x d U) v=v')
include M X I_ hN g w hm hv
theorem ab3:Sr (XA A mv x d U) (FR (XA A mv x d U)) (UQ i (PH x i) v) (Ib N v' m U):=
 hv▸f7 (n:=30) (K:=42) (Vr M I_ g w) (ua M X I_ g w).1 (ua M X I_ g w).2 hN (t:=ZC sC) (s:=PC sC) (by decide+kernel) (by decide+kernel) (av3 rfl hm) v [] U P_
theorem ac7(hr:Fc (UQ i (PH x i) v)=DN):∃m' G,Ib N v' m U=.ok (.next,m') G/\Hd A m'/\cP G/\hZ U G:=by
 have s:=ab3 M X I_ hN g w hm hv;refine EL hr λ p e hr=> ?_;rw[R? e]at s;obtain⟨b,G,e2,q,E⟩:=s;cases q with
 |nx q=>exact⟨_,G,e2,⟨q.1.symm.trans (JD (DO (DO hr).1).1),q.2 0 _ (i8 (DO (DO hr).1).2)⟩,VJ (Vr M I_ g w) E (DO hr).2,E.le,λ j hj=>SH E hj KG⟩
theorem ac6{s:DY}(hr:w_ (UQ i (PH x i) v) s=DN):∃G,Ib N v' m U=.cD (NV s) G/\cP G/\hZ U G:=by
 have r:=ab3 M X I_ hN g w hm hv
 revert hr r
 cases UQ i (PH x i) v with
 |ok=>exact λ h=>FB h
 |bL=>exact λ h=>FB h
 |cD e τ=>
  intro hr r;obtain⟨G,e2,E⟩:=r;exact⟨G,e2.trans (DX (λ e=>R.cD (sh _ e) G) (PW (DO hr).1)),VJ (Vr M I_ g w) E (DO hr).2,E.le,λ j hj=>SH E hj KG⟩
end
theorem hZ.refl(U:aS):hZ U U:=⟨FG _,λ J J=>rfl⟩
theorem hZ.trans{U G cZ:aS}(h:hZ U G)(k:hZ G cZ):hZ U cZ:=⟨EZ h.1 k.1,λ j hj=>(k.2 j (IW hj h.1)).trans (h.2 j hj)⟩
theorem hZ.take(h:hZ U G):G.take U.length=U:=by
 refine Sh λ j=> ?_;rcases TE j U.length with q|q
 ·exact(Ae q).trans (h.2 j q)
 ·rw[MQ (EZ (O8 ..) q),MQ q]
theorem tq{n:DL}{U τ:aS}(g:∀o∈U,gG n o)(keep:DM DL):GA (LU (eA (EE EF) τ n keep 100)) U=DK U:=by
 induction U with
 |nil=>rfl|cons o l ih=>
  show(LU (eA (EE EF) τ n keep 100) o).bind (λ b=>(GA (LU (eA (EE EF) τ n keep 100)) l).map (b::·))=_;rw[sd (λ v z=>z EF τ n keep 100 (FG _) (by decide)) (g o (.head _)),ih λ o m=>g o (.tail _ m)];rfl
theorem cP.mem(g:cP U):∀o∈U,gG U.length o:=λ o m=>by obtain⟨j,hj⟩:=YK m;exact g j o hj
theorem b_(hn:n<=G.length)(g:∀o∈G.take n,gG n o){v v':V}(hv:eA (EE EF) G n [] 100 v=DK v'):cY (EE EF) n [] v G=DK (v',G.take n):=by
 unfold cY;rw[MS.mpr hn,hv,tq g];exact DX (λ l=>DK (v',l)) (KP _)
theorem Ir(g:cP U)(h:hZ U G){v v':V}(hv:eA (EE EF) G U.length [] 100 v=DK v'):cY (EE EF) U.length [] v G=DK (v',U):=by
 have:=b_ (G:=G) h.1 (h.take.symm▸g.mem) hv;rw[h.take]at this;exact this
theorem Ej(h:Ny f=DK fn)(hl:EG (IQ fn args).length fn.np=DN):RF (N+1) f args U=LS (EE EF) fn.keep U.length (FC (EE EF) (RF N) fn.body (frame fn args) U):=by
 show oe (Ny f) M.none (λ fn=>WX (EE EF) (RF N) fn args) U=_;rw[h];show cQ (EG (IQ fn args).length fn.np) _ _ U=_;rw[hl];rfl
def oZ(U:aS)(r:R (Fl×Lv))(Q:Lv->Prop)(o:DQ DY):Prop:=match o with
 |none=>∃m' G,r=.ok (.next,m') G/\Q m'/\cP G/\hZ U G|some s=>∃G,r=.cD (NV s) G/\cP G/\hZ U G
def Ow(A:DL->DL)(mv:Mv)(x:IM)(N:DL)(e:V)(o:DQ DY):Prop:=∀U m,cP U->WS A mv x.gP U->Hd A m->oZ U (Ib N e m U) (Hd A) o
def G!(x:IM)(p:LI):DU:= !(Bt p.i p.b0 p.b1 (PH x p.i))
def SL(x:IM)(p:LI):DQ DY:=EN (G! x p) (DK p.sp) DP
def zq(self:DU)(sb e1 e2:V):DM V:=EN self (.aR [(.str [83,101,108,102]),sb]::IR e1 e2) (IR e1 e2)
section
variable {A:DL->DL}(M:JL mv){x:IM}(X:Aa x)(hN:72<=N)
theorem U?{self:DU}{sb u2 st iE xC:V}(zA:C.bx 21=iE)(h8:C.bx 8=st)(zB:C.bx 28=sb)(h1:sh C u1=e1)(h2:sh C u2=e2)(hs:sh C sp=xC):sh C (Fj self u1 u2 sp)=.aR [iE,Fv (zq self sb e1 e2) st,xC]:=by
 rw[<-zA,<-h8,<-zB,<-h1,<-h2,<-hs];cases self<;>rfl
theorem jh(b:DU):sh C (FY b)=FY b:=by cases b<;>rfl
theorem amO(hi:i∈[0,1,2,3])(p:DU×DU)(GF self:DU)(hh:EG i 0=DN∨EG i 1=DN->GF=DT):∃b,Nl i GF b self=DN/\Bt i b b GF=Bt i p.1 p.2 GF/\hD i GF=GF/\∀C:Cf,C.bx 24=FY p.1->C.bx 25=FY p.2->sh C (Bj i b)=FY p.1/\sh C (Bk i b)=FY p.2:=
 Iu (P:=λ i=>(EG i 0=DN∨EG i 1=DN->GF=DT)->∃b,Nl i GF b self=DN/\Bt i b b GF=Bt i p.1 p.2 GF/\hD i GF=GF/\∀C:Cf,C.bx 24=FY p.1->C.bx 25=FY p.2->sh C (Bj i b)=FY p.1/\sh C (Bk i b)=FY p.2) hi
  (λ h=>⟨p.1,h (.inl rfl)▸RV (IH lj (.head _)) p.1 self,rfl,(h (.inl rfl)).symm,λ J J h=>⟨jh _,h⟩⟩) (λ h=>⟨p.2,h (.inr rfl)▸RV (IH lj (.tail _ (.head _))) p.2 self,rfl,(h (.inr rfl)).symm,λ J h J=>⟨h,jh _⟩⟩)
  (λ J=>⟨DT,RV (IH lm (.head _)) GF self,rfl,rfl,λ J h k=>⟨h,k⟩⟩) (λ J=>⟨DT,RV (IH lm (.tail _ (.head _))) GF self,rfl,rfl,λ J h k=>⟨h,k⟩⟩) hh
theorem asY{x:IM}(h:EG i 0=DN∨EG i 1=DN):PH x i=DT:=h.elim (λ h=>JD h▸rfl) λ h=>JD h▸rfl
include M X hN
theorem pt{p:LI}(P:IU p)(hs:p.sp=10∨p.sp=11){iE:V}(ht:iE=tl p.w p.i∨iE=KY p.w p.i)(self:DU){sb st:V}(gs:aY 40 0 sb)(lP:aY 40 0 st):Ow A mv x N (.aR [iE,Fv (zq self sb (FY p.b0) (FY p.b1)) st,.int p.sp]) (SL x p):=λ U m g w hm=>by
 obtain⟨wy,i,sp,b0,b1⟩:=p;have cl:=LF P.w P.i sp;have I_:Rr A mv i ⟨iE,FY b0,FY b1,sb,st,.none,sp⟩:=⟨P.i,ht.elim (λ e=>e▸zb M P.w P.i) λ e=>e▸ayI M P.w P.i,ht.elim (λ e=>e▸cl.gt) λ e=>e▸cl.gh,XH _,XH _,gs,lP,GD 0⟩;obtain⟨b,k1,k2,k3,k4⟩:=amO P.i (b0,b1) (PH x i) self asY;have k4:=k4 (XA A mv x ⟨iE,FY b0,FY b1,sb,st,.none,sp⟩ U) rfl rfl;unfold Nl at k1;rw[k2,k3]at k1;unfold SL G!;cases q:Bt i b0 b1 (PH x i)with
 |true=>
  rw[q]at k1;exact ac7 (v:=Fj self (Bj i b) (Bk i b) b7) M X I_ hN g w hm (U? rfl rfl rfl k4.1 k4.2 rfl) k1
 |false=>
  rw[q]at k1;rcases hs with h|h
  ·cases(h:sp=10);have r:=ac6 (s:=10) (v:=Fj self (Bj i b) (Bk i b) (.int 10)) M X I_ hN g w hm (U? rfl rfl rfl k4.1 k4.2 rfl) (DO k1).1;exact r
  ·cases(h:sp=11);have r:=ac6 (s:=11) (v:=Fj self (Bj i b) (Bk i b) (.int 11)) M X I_ hN g w hm (U? rfl rfl rfl k4.1 k4.2 rfl) (DO k1).2;exact r
theorem We{st:V}(g1:aY 40 0 e1)(g2:aY 40 0 e2)(lP:aY 40 0 st)(gc:aY 40 0 lX)(hv:∀U,sh (XA A mv x ⟨tl [] 0,e1,e2,.none,st,lX,0⟩ U) v=v')(hr:Fc (UQ 0 DT v)=DN):Ow A mv x N v' DP:=λ U m g w hm=>
 ac7 (i:=0) M X ⟨.head _,zb M (.head _) (.head _),(LF (.head _) (.head _) 0).gt,g1,g2,GD 0,lP,gc⟩ hN g w hm (hv U) hr
theorem ph{st:V}(lP:aY 40 0 st):Ow A mv x N (MO fJ [] st i0) DP:=We M X hN (GD 0) (GD 0) lP (GD 0) (λ U=>rfl) (DO (DO (DO Vs).1).1).1
theorem ao4{st:V}(g1:aY 40 0 e1)(g2:aY 40 0 e2)(lP:aY 40 0 st):Ow A mv x N (MO fJ (IR e1 e2) st i0) DP:=We M X hN g1 g2 lP (GD 0) (λ U=>rfl) (DO (DO (DO Vs).1).1).2
theorem pq(gc:aY 40 0 lX):Ow A mv x N (.aR [iK,lX,i0]) DP:=We M X hN (GD 0) (GD 0) (GD 0) gc (λ U=>rfl) (DO (DO Vs).1).2
theorem ao5(gc:aY 40 0 lX):Ow A mv x N (.aR [.aR [(.str [112,97,114,97,109]),(.str [84])],lX,i0]) DP:=We M X hN (GD 0) (GD 0) (GD 0) gc (λ U=>rfl) (DO Vs).2
end
noncomputable def NA:DM (DQ DY)->DQ DY
 |[]=>DP|o::l=>oe o (NA l) DK
inductive hX(A:DL->DL)(mv:Mv)(x:IM)(N:DL):DM V->DM (DQ DY)->Prop
 |nil:hX A mv x N [] []
 |cons {e:V} {o:DQ DY} {l:DM V} {os:DM (DQ DY)}:Ow A mv x N e o->hX A mv x N l os->hX A mv x N (e::l) (o::os)
section
variable {A:DL->DL}{x:IM}{dI l l':DM V}{os rW:DM (DQ DY)}
theorem hX.cJ(h:hX A mv x N l os)(k:hX A mv x N l' rW):hX A mv x N (l++l') (os++rW):=by
 induction h with
 |nil=>exact k|cons e _ ih=>exact .cons e ih
theorem oZ.of{r r':R (Fl×Lv)}{Q:Lv->Prop}{o:DQ DY}(s:hZ U G)(e:r'=r)(h:oZ G r Q o):oZ U r' Q o:=match o,h with
 |none,⟨m,τ,h,q,g,k⟩=>⟨m,τ,e.trans h,q,g,s.trans k⟩|some _,⟨τ,h,g,k⟩=>⟨τ,e.trans h,g,s.trans k⟩
theorem ayF(h:hX A mv x N l os):∀(k:DL) (U:aS) (m:Lv) (F:DL),cP U->WS A mv x.gP U->U[A 1]? =DK (.list dI)->dI.drop k=l->Hd A m->l.length+1<=F->
  oZ U (KZ (λ v m=>Ib N v m) (.bN (.cX (A 1))) F k m U) (λ J=>True) (NA os):=by
 induction h with
 |nil=>
  intro k U m F g w ho hd hm hF;cases F with
  |zero=>exact EP hF (TF _)|succ F=>exact⟨m,U,o8 ho (MQ (O3.mp hd)),trivial,g,hZ.refl _⟩
 | @cons e o l os en r ih=>
  intro k U m F g w ho hd hm hF;cases F with
  |zero=>exact EP hF (TF _)|succ F=>
   have hd:=Y2 hd;have en:=en U m g w hm;cases o with
   |some s=>
    obtain⟨G,e1,r⟩:=en;exact⟨G,(B6 ho hd.1).trans (L e1),r⟩
   |none=>
    obtain⟨m1,bS,e1,l1,g1,s1⟩:=en;exact(ih (k+1) bS m1 F g1 (w.oR s1.2) ((s1.2 _ (GX ho)).trans ho) hd.2 l1 (Ai hF)).of s1 ((B6 ho hd.1).trans (mb e1))
theorem qk{P:QK}:(EX P o (.loc 0) (DK v::m)).1 U=.ok v U:=rfl
theorem i_{b ss:Ss}{s:JO}(h:(EX (EE EF) o e m).1 U=.ok v U)(k:SN U v=DK s):FC (EE EF) o (.cons (.for t (.seq e) b) ss) m U=M.bind (WC (λ v m=>M.bind (IY (EE EF) o t v m) λ m'=>FC (EE EF) o b m') (.bN s) m) (LJ (FC (EE EF) o ss)) U:=by
 show M.bind (M.bind (NU (EE EF) o (.seq e) m) _) _ U=_;have it:NU (EE EF) o (.seq e) m U=.ok (.bN s) U:=(mb h).trans (X? (DX (NN HP.bN) k));show R.bind (M.bind (NU (EE EF) o (.seq e) m) _ U) _=_;rw[mb it];rfl
theorem amN(h:hX A mv x N dI os)(g:cP U)(w:WS A mv x.gP U)(ho:U[A 1]? =DK (.list dI))(hl:dI.length<=900):RF (N+1) 748 [.ref (A 0)] U=oe (NA os) (.ok .none U) λ s=>.cD (NV s) U:=by
 obtain⟨its,c0⟩:=w.c0;have:=ayF h 0 U (DK (.ref (A 0))::JW 9 DP) 1000 g w ho rfl ⟨rfl,rfl⟩ (EZ (TG hl) (by decide));have e1:GR EF U (.ref (A 0)) 1684371311=DK (.ref (A 1)):=by
  unfold GR;rw[Au c0];rfl
 have body:FC (EE EF) (RF N) qW (DK (.ref (A 0))::JW 9 DP) U=M.bind (KZ (λ v m=>Ib N v m) (.bN (.cX (A 1))) 1000 0 (DK (.ref (A 0))::JW 9 DP)) (LJ (FC (EE EF) (RF N) .nil)) U:=
  i_ (Y7 qk e1) (DX (λ x:DQ O=>oo DP (oo DP ((x.bind oL).map λ J=>JO.cX (A 1)))) ho)
 have call:RF (N+1) 748 [.ref (A 0)] U=LS (EE EF) .no U.length (FC (EE EF) (RF N) qW (DK (.ref (A 0))::JW 9 DP) U):=Ej (fn:=vG) rfl rfl;rw[call,body];cases z:NA os with
 |none=>
  rw[z]at this;obtain⟨m',G,e,_,g',s⟩:=this;rw[mb e];exact DX M.o2 (Ir g s rfl)
 |some s=>
  rw[z]at this;obtain⟨G,e,g',s⟩:=this;rw[L e];exact DX (λ x:DQ (V×aS)=>oe x .bL λ p=>R.cD (NV _) p.2) (Ir g s (v:=.none) rfl)
end
structure He(v:Mv):Prop where
 t:v.t=.bZ [.str []] [v.D]
 us:v.us=.bZ [] []
noncomputable def Fe:aS:=[.inst 456 [495606196587,32478926762833264,126879447277940,8314605277104989543,495756604521,1953523051] [.bD 0 .none,.bD 1 .none,.bZ [.str []] [.bD 5 .none],.bD 3 .none,.bD 4 .none,.bZ [] []]]
noncomputable def Wl:Ex:=⟨[(5,1936028533,.bZ [] [])],[],[],[],[],[]⟩
theorem acN:(IJ (RA (PK Wl) 10 441 [.ref 0] Fe) .none Fe&&IJ (RA (PK Wl) 10 448 [.ref 0] Fe) .none Fe)=DN:=by decide+kernel
theorem aE4{v:Mv}(M:JL v)(B_:He v){f:DL}(h:f=441∨f=448):Pu (gH a v) 10 f [.ref a] .none:=by
 obtain⟨va,b1⟩:=M.D;have hr:IJ (RA (PK Wl) 10 f [.ref 0] Fe) .none Fe=DN:=h.elim (λ e=>e▸(DO acN).1) λ e=>e▸(DO acN).2;refine Cs (P:=gH a v) (hk:=PK Wl) (bx:=Az v .none) (ad:=[a]) (τ:=Fe) (K:=0) (n:=10) (λ U J=>V2 M (GD 0) _) (λ U p=>RT (GX p)) rfl (EC rfl bO) (λ U p=>VY ?_) (λ U g p=>⟨Xh ⟨λ J G J=>EC ?_ bO,λ J J J=>bO,λ J J J=>bO,λ J J J=>bO⟩,λ J J J h=>EW h⟩) (SD hr) (λ U=>rfl) (λ U=>rfl)
 ·show U[a]? =DK (.inst 456 _ [v.k,v.p,.bZ [.str []] [v.D],v.g,v.i,.bZ [] []]);rw[<-B_.t];exact p
 ·show GR EF G v.D _=DK (.bZ [] []);rw[b1,B_.us];rfl
noncomputable def WD:CS:=⟨[],[],[],[],λ J J=>DP⟩
theorem Us{o x:O}(h:(U++[o])[a]? =DK x)(ne:a≠U.length):(U++[o'])[a]? =DK x:=(Hw ne).trans ((Hw ne).symm.trans h)
section
variable {A:DL->DL}{s:CS}
theorem RS.ne(h:RS A mv its bG s n U){i:DL}(hi:i<12)(ne:i≠10){k:DL}(fI:A 10=k):A i≠k:=λ e=>ne (h.inj i 10 hi (by decide) (e.trans fI.symm))
theorem f_{o:O}(e:Eu A its bG s i=DK o):i<12:=ob e λ J e J=>Dr (JV.mp e).1
theorem RS.left(h:RS A mv its bG s n (U++[.list []]))(fI:A 10=U.length){H_:DM V}(hL:∀v∈H_,aY 90 0 v)(hl:H_.length<=n):RS A mv its bG {s with left:=H_} n (U++[.list H_]):=by
 refine⟨λ j o e=> ?_,h.inj,λ i hi=>bl (h.lt i hi) ((QZ U _).trans (QZ U _).symm),λ i o e=> ?_,λ i m=> ?_,Us h.md (h.ne (i:=11) (by decide) (by decide) fI),h.kg,h.cl,⟨h.bQ.1,h.bQ.2.1,hl⟩⟩
 ·rw[QZ];by_cases q:j=U.length
  ·rw[q,NK]at e;exact EJ e▸⟨rfl,λ v m=>(hL v m).up⟩
  ·exact QZ U (.list [])▸h.jW j o (Us e q)
 ·by_cases q:i=10
  ·rw[q]at e⊢;rw[fI,NK];exact e
  ·refine Us (h.fx i o ?_) (h.ne (f_ e) q fI);exact q_ (P:=λ i=>i≠10->Eu A its bG {s with left:=H_} i=DK o->Eu A its bG s i=DK o) (f_ e) (λ J e=>e) (λ J e=>e) (λ J e=>e) (λ J e=>e) (λ J e=>e) (λ J e=>e) (λ J e=>e) (λ J e=>e) (λ J e=>e) (λ J e=>e) (λ h=>EP rfl h) (λ J e=>e) q e
 ·obtain⟨K,W,e,r⟩:=h.dk i m;have q:=Wo (λ i=>i<12/\i≠10) (by decide) (by decide) (by decide) (by decide) (by decide) i m;exact⟨K,W,Us e (h.ne q.1 q.2 fI),r⟩
end
theorem aBN(U:aS)(x y:O):(U++[x]).set U.length y=U++[y]:=by
 induction U with
 |nil=>rfl|cons a U ih=>exact DX (a::·) ih
def zr(o:JM)(d v:V)(m:Lv):M (Fl×Lv):=M.bind (IY (EE EF) o (.loc 4) v m) λ m'=>M.bind (HL (EE EF) o .nil m').2 λ b=>cQ b (M.bind (EX (EE EF) o (.aR (.cons (.k (.str [])) (.cons (.loc 4) .nil))) m').1 λ y=>M.bind (M.st (gK .append d [y])) λ J=>M.pure (.next,m')) (M.pure (.next,m'))
theorem ab6(h:k<=900):GE k=DN:=MS.mpr (EZ (TG h) (by decide))
theorem azJ{acc:DM V}(hm:4<m.length)(ha:acc.length<=900):zr o (.ref U.length) v m (U++[.list acc])=.ok (.next,m.set 4 (DK v)) (U++[.list (acc++[GB v])]):=by
 have e4:(m.set 4 (DK v))[4]? =DK (DK v):=OV hm;have e1:(HL (EE EF) o (.cons (.loc 4) .nil) (m.set 4 (DK v))).1 (U++[.list acc])=.ok [v] (U++[.list acc]):=mb (RZ e4);have e2:(HL (EE EF) o (.cons (.k (.str [])) (.cons (.loc 4) .nil)) (m.set 4 (DK v))).1 (U++[.list acc])=.ok [.str [],v] (U++[.list acc]):=mb (a:=[v]) e1;have e3:(EX (EE EF) o (.aR (.cons (.k (.str [])) (.cons (.loc 4) .nil))) (m.set 4 (DK v))).1 (U++[.list acc])=.ok (GB v) (U++[.list acc]):=mb e2;have bm:gK .append (.ref U.length) [GB v] (U++[.list acc])=DK (.none,U++[.list (acc++[GB v])]):=by
  show(((U++[.list acc])[U.length]?).bind oL).bind (λ xs=>og (GE xs.length) (DK (V.none,(U++[O.list acc]).set U.length (O.list (xs++[GB v])))))=_;rw[NK];show og (GE acc.length) _=_;rw[ab6 ha,aBN];rfl
 exact(mb e3).trans (mb (Zz bm))
theorem azK{o:JM}{U:aS}(B acc:DM V)(m:Lv)(hm:4<m.length)(h:acc.length+B.length<=900):∃m',Df (zr o (.ref U.length)) B m (U++[.list acc])=.ok (.next,m') (U++[.list (acc++B.map GB)]):=by
 induction B generalizing acc m with
 |nil=>exact⟨m,by rw[List.map_nil,KP];rfl⟩|cons v B ih=>
  obtain⟨m',h2⟩:=ih (acc++[GB v]) (m.set 4 (DK v)) (by rw[NL];exact hm) (by rw[GC,TB,Ly _ B.length];exact h);rw[WN]at h2;exact⟨m',(mb (azJ hm (EZ (HD ..) h))).trans h2⟩
def Y':S:=MI 0 iR
section
variable {A:DL->DL}{s:CS}
theorem aB4(h0:U[A 0]? =DK (.inst 825 [495756604521,32481138822115181,431316168567,1702125932,1684371311] [.aR li,.ref (A 11),.ref (A 2),.ref (A 9),.ref (A 1)]))(hl:li.length<=20):
  JE (EE EF) (RF N) Y' (DK (.ref (A 0))::JW 5 DP) U=.ok (.next,(DK (.ref (A 0))::JW 5 DP).set 1 (DK (.ref U.length))) (U++[.list (li.reverse.map GB)]):=by
 have e1:GR EF U (.ref (A 0)) 495756604521=DK (.aR li):=by
  unfold GR;rw[Au h0];rfl
 have H:(HL (EE EF) (RF N) (.cons (.aU (.loc 0) 495756604521) .nil) (DK (.ref (A 0))::JW 5 DP)).1 U=.ok [.aR li] U:=mb (Y7 qk e1);have it:NU (EE EF) (RF N) (.gO (.cons (.aU (.loc 0) 495756604521) .nil)) (DK (.ref (A 0))::JW 5 DP) U=.ok (.bN (.dX li.reverse)) U:=(mb H).trans (by
  show M.eH (og (GE li.length) _) U=_;rw[ab6 (EZ hl (by decide))]
  rfl)
 obtain⟨m',h2⟩:=azK (o:=RF N) (U:=U) li.reverse [] (DK (.ref (A 0))::JW 5 DP) (show 4<6 by decide) (by rw[O7];exact EZ (MT (Aj _)) (EZ hl (by decide)));have ec:(EX (EE EF) (RF N) (.comp (.aR (.cons (.k (.str [])) (.cons (.loc 4) .nil))) (.loc 4) (.gO (.cons (.aU (.loc 0) 495756604521) .nil)) .nil) (DK (.ref (A 0))::JW 5 DP)).1 U=.ok (.ref U.length) (U++[.list (li.reverse.map GB)]):=
  (mb it).trans (mb (P? h2))
 exact mb ec
theorem RS.ws(h:RS A mv its bG s n U){x:IM}(hx:s.cA=x.gP)(k1:s.kn 6 [115,116,114,117,99,116,32,71]=DK Cw)(k2:s.kn 6 [115,116,114,117,99,116,32,78]=DP):WS A mv x.gP U:=
 ⟨⟨_,h.fx 0 _ rfl⟩,⟨_,h.fx 2 _ rfl⟩,hx▸h.fx 3 _ rfl,by obtain⟨K,W,e,_,_,_,f,_⟩:=h.dk 6 (by decide);exact⟨K,W,e,k1▸f _ (.tail _ (.head _)),k2▸f _ (.head _)⟩,h.md⟩
theorem RS.yW(h:RS A mv its bG s n U)(M:JL mv)(hi:aY 40 0 its){ca n0:DL}(hc:bG=.ref ca)(jC:ca<n0)(hA:∀i,i<12->i≠10->A i<n0){i:DL}(AA:i<12)(fI:i≠10){o:O}(e:U[A i]? =DK o):gG n0 o:=
 have r:∀j,j<12->j≠10->aY 90 n0 (.ref (A j)):=λ j h1 h2=>(Bp (hA j h1 h2)).bB (by decide) (FG _);have up:∀{v},aY 40 0 v->aY 90 n0 v:=λ g=>g.bB (by decide) (GI _);have fx:∀{i x o},U[A i]? =DK o->Eu A its bG s i=DK x->gG n0 x->gG n0 o:=λ e e1 g=>EJ ((h.fx _ _ e1).symm.trans e)▸g
 have dk:∀{i o},i∈[4,5,6,7,8]->U[A i]? =DK o->gG n0 o:=λ {i o} m e=>by
  obtain⟨K,W,e1,e2,_,_,_,g⟩:=h.dk i m;exact EJ (e1.symm.trans e)▸⟨Xn e2,λ v m=>(g v m).up⟩
 q_ (P:=λ i=>i≠10->∀o,U[A i]? =DK o->gG n0 o) AA
  (λ J J e=>fx e rfl ⟨rfl,EC (up hi) (EC (r 11 (by decide) (by decide)) (EC (r 2 (by decide) (by decide)) (EC (r 9 (by decide) (by decide)) (EC (r 1 (by decide) (by decide)) bO))))⟩)
  (λ J J e=>fx e rfl ⟨rfl,λ v m=>(h.cl v (RO _ m)).up⟩)
  (λ J J e=>fx e rfl ⟨rfl,EC (r 11 (by decide) (by decide)) (EC (r 4 (by decide) (by decide)) (EC (r 5 (by decide) (by decide)) (EC (r 6 (by decide) (by decide)) (EC (r 7 (by decide) (by decide)) (EC (r 3 (by decide) (by decide)) (EC (hc▸(Bp jC).bB (by decide) (FG _)) (EC (r 8 (by decide) (by decide)) bO)))))))⟩)
  (λ J J e=>fx e rfl ⟨rfl,λ v m=>(h.cl v (WP _ (RO _ m))).up⟩)
  (λ J J=>dk (by decide)) (λ J J=>dk (by decide)) (λ J J=>dk (by decide)) (λ J J=>dk (by decide)) (λ J J=>dk (by decide))
  (λ J J e=>fx e rfl ⟨rfl,λ v m=>(h.cl v (WP _ (WP _ m))).up⟩) (λ h=>EP rfl h)
  (λ J J e=>EJ (h.md.symm.trans e)▸⟨rfl,EC (up M.gd.1) (EC (up M.gd.2.1) (EC (up M.gd.2.2.1) (EC (up M.gd.2.2.2.1) (EC (up M.gd.2.2.2.2.1) (EC (up (HZ (v:=.bZ [] []) rfl rfl 0)) bO)))))⟩) fI o e
end
def Fq:Ss:=.cons (MI 3 iR) (.cons (MI 4 iR) (.cons (MI 5 iR) (.cons (MI 6 iR) .nil)))
section
variable {A:DL->DL}{s:CS}
theorem RS.self(h:RS A mv (.aR li) bG s n U):OL U (.ref (A 0))=DK (825,[495756604521,32481138822115181,431316168567,1702125932,1684371311],[.aR li,.ref (A 11),.ref (A 2),.ref (A 9),.ref (A 1)]):=Au (h.fx 0 _ rfl)
theorem RS.aU(h:RS A mv (.aR li) bG s n U)(hm:m[0]? =DK (DK (.ref (A 0)))){a:DL}{v:V}(q:EF.fH 825 a=DK DP)(e:IZ a [495756604521,32481138822115181,431316168567,1702125932,1684371311] [.aR li,.ref (A 11),.ref (A 2),.ref (A 9),.ref (A 1)]=DK v):(EX (EE EF) (RF N) (.aU (.loc 0) a) m).1 U=.ok v U:=by
 refine Y7 (RZ hm) ?_;unfold GR;rw[h.self];show(EF.fH 825 a).bind _=_;rw[q];exact e
theorem wz{H:Es}(h:(EX (EE EF) (RF N) e m).1 U=.ok v U)(k:KA EF U v a=DK f)(hs:(HL (EE EF) (RF N) H m).1 U=.ok B U){x:R V}(c:RF N f (v::B) U=x):(EX (EE EF) (RF N) (.bK e a H) m).1 U=x:=by
 refine(mb h).trans ?_;show oe (KA EF U v a) _ (λ f=>M.bind (HL (EE EF) (RF N) H m).1 (λ B=>RF N f (v::B)) U)=_;rw[k];exact(mb hs).trans c
theorem aB2{A:DL->DL}(Mk:JL mv)(gi:aY 40 0 (.aR li)){ca:DL}(hc:bG=.ref ca){cN:aS}(g0:cP U)(jC:ca<U.length)(r3:RS A mv (.aR li) bG s n cN)(fI:A 10=U.length)(hA:∀i,i<12->i≠10->A i<U.length)(keep:∀j,j<U.length->(∀i,i<12->A i≠j)->cN[j]? =U[j]?):∀o∈cN.take U.length,gG U.length o:=λ o m=>by
 obtain⟨j,hj⟩:=YK m;have jl:j<U.length:=IW (JV.mp hj).1 (O8 ..);have e:cN[j]? =DK o:=(Ae jl).symm.trans hj;by_cases z:∃i,i<12/\A i=j
 ·obtain⟨i,hi,rfl⟩:=z;exact r3.yW Mk gi hc jC hA hi (λ w=>VB _ (fI▸w▸jl)) e
 ·exact g0 j o ((keep j jl λ i hi w=>z ⟨i,hi,w⟩).symm.trans e)
end
theorem O'{A:DL->DL}(Mk:JL mv)(B_:He mv){x:IM}{ca N:DL}(hN:73<=N){li late:DM V}{bG:V}(hc:bG=.ref ca){U:aS}(g0:cP U)(jC:ca<U.length)(gi:aY 40 0 (.aR li))(gl:∀v∈li,aY 90 0 (GB v))(oO:li.length<=15)(kM:late.length<=15)
  (G_:RS A mv (.aR li) bG WD 30 (U++[.list []]))(fI:A 10=U.length){s1 s2:CS}(SW:iN A mv (.aR li) bG N li WD s1)(AE:s1.late=late.map GB)(tK:s1.left=[])(SF:iZ A mv (.aR li) bG N late s1 s2)(hx:s2.cA=x.gP)(k1:s2.kn 6 [115,116,114,117,99,116,32,71]=DK Cw)(k2:s2.kn 6 [115,116,114,117,99,116,32,78]=DP)
  {os:DM (DQ DY)}(E:hX A mv x (N-1) s2.dI os):
  ∃G,G.length=U.length/\(∀j,j<U.length->(∀i,i<12->A i≠j)->G[j]? =U[j]?)/\RF (N+1) 743 [.ref (A 0)] U=oe (NA os) (.ok (.ref (A 2)) G) λ s=>.cD (NV s) G:=by
 have hA:∀i,i<12->i≠10->A i<U.length:=λ i hi ne=>ah5 (P8 (bl (G_.lt i hi) (QZ U _))) (G_.ne hi ne fI);have F1:∀{k:DL},k<=15->k+1<=1000:=λ h=>EZ (TG h) (by decide);have o0:=(KQ (hA 0 (by decide) (by decide))).symm.trans (G_.fx 0 _ rfl);have r0:RS A mv (.aR li) bG {WD with left:=li.reverse.map GB} 30 (U++[.list (li.reverse.map GB)]):=G_.left fI (λ v m=>by
  obtain⟨u,mu,rfl⟩:=LN.mp m;exact gl u (bf.mp mu)) (by rw[LM,O7];exact EZ oO (by decide))
 obtain⟨m2,dB,e2,l2,r2,q2⟩:=aEB SW 30 _ ((DK (.ref (A 0))::JW 5 DP).set 1 (DK (.ref U.length))) 1000 (EZ (RP (Sq 20 oO) 30) (by decide)) r0 ⟨rfl,rfl,fI▸rfl⟩ (F1 oO);have r2':RS A mv (.aR li) bG s1 (30+20 * li.length) dB:=by
  obtain⟨_,_,_,_,_⟩:=s1;cases(tK:_=_);exact r2
 obtain⟨m3,cN,e3,l3,r3,q3⟩:=apJ SF (30+20 * li.length) 0 dB m2 1000 (EZ (OF (RP (Sq 20 oO) 30) (Sq 20 kM)) (by decide)) r2' AE l2 (F1 kM);have iM:OL cN (.ref (A 11))=_:=Au r3.md;have mm:∀b f,EF.fH 456 b=DK (DK f)->IZ b [495606196587,32478926762833264,126879447277940,8314605277104989543,495756604521,1953523051] [mv.k,mv.p,mv.t,mv.g,mv.i,.bZ [] []]=DP->f=441∨f=448->JE (EE EF) (RF N) (.ex (.bK (.aU (.loc 0) 32481138822115181) b .nil)) m3 cN=.ok (.next,m3) cN:=λ b f hb hn hf=>mb (wz (r3.aU l3.2.1 rfl rfl) (by
  unfold KA;rw[iM];show(EF.fH 456 b).bind _=_;rw[hb];show oe (IZ b _ _) _ _=_;rw[hn]
  rfl) rfl (aE4 Mk B_ hf cN r3.jW r3.md N (EZ (by decide) hN)))
 have n1:N-1+1=N:=bq (EZ (by decide) hN);have ck:=amN (N:=N-1) E r3.jW (r3.ws hx k1 k2) (r3.fx 1 _ rfl) (EZ r3.bQ.1.1 (EZ (OF (RP (Sq 20 oO) 30) (Sq 20 kM)) (by decide)));rw[n1]at ck;have eC:(EX (EE EF) (RF N) (.bK (.loc 0) 474108375640736948119651 .nil) m3).1 cN=oe (NA os) (.ok .none cN) λ s=>.cD (NV s) cN:=wz (RZ l3.2.1) (by
  unfold KA;rw[r3.self]
  rfl) rfl ck
 have len2:=QZ U (.list (li.reverse.map GB));have len3:U.length<=cN.length:=EZ (TD _) (EZ (MT len2.symm) (EZ q2.1 q3.1));have keep:∀j,j<U.length->(∀i,i<12->A i≠j)->cN[j]? =U[j]? :=λ j hj hn=>
  ((iF.trans q2 q3).2 j (bl (Dr hj) len2.symm) λ m=>by
   obtain⟨i,hi⟩:=YK m;obtain⟨hi,e⟩:=Mp hi;exact hn i (Dr hi) e.symm).trans (KQ hj)
 have jW:=aB2 Mk gi hc g0 jC r3 fI hA keep;have hv:eA (EE EF) cN U.length [] 100 (.ref (A 2))=DK (.ref (A 2)):=Bp (hA 2 (by decide) (by decide)) _ _ _ _ _ (FG _) (by decide);refine⟨cN.take U.length,Dp len3,λ j hj hn=>(Ae hj).trans (keep j hj hn),?_⟩;have call:RF (N+1) 743 [.ref (A 0)] U=LS (EE EF) .no U.length (FC (EE EF) (RF N) (.cons Y' (.cons sW (.cons sF Fq))) (DK (.ref (A 0))::JW 5 DP) U):=Ej (fn:=vF) rfl rfl;have s0:FC (EE EF) (RF N) (.cons Y' (.cons sW (.cons sF Fq))) (DK (.ref (A 0))::JW 5 DP) U=_:=mb (aB4 (N:=N) o0 (EZ oO (by decide)));have s1':FC (EE EF) (RF N) (.cons sW (.cons sF Fq)) ((DK (.ref (A 0))::JW 5 DP).set 1 (DK (.ref U.length))) (U++[.list (li.reverse.map GB)])=FC (EE EF) (RF N) (.cons sF Fq) m2 dB:=mb (P? e2);have s2':FC (EE EF) (RF N) (.cons sF Fq) m2 dB=FC (EE EF) (RF N) Fq m3 cN:=(i_ (v:=.ref (A 9)) (s:=.cX (A 9)) (r2'.aU l2.2.1 rfl rfl) (DX (λ x:DQ O=>oo DP (oo DP ((x.bind oL).map λ J=>JO.cX (A 9)))) (r2'.fx 9 _ rfl))).trans (mb e3);have s3':FC (EE EF) (RF N) Fq m3 cN=_:=mb (mm 35713422874524077526389975139 441 rfl rfl (.inl rfl));have s4':FC (EE EF) (RF N) (.cons (MI 4 iR) (.cons (MI 5 iR) (.cons (MI 6 iR) .nil))) m3 cN=_:=mb (mm 599130449782741071223488706387470435 448 rfl rfl (.inr rfl));rw[call,s0];refine(DX (LS (EE EF) .no U.length) (s1'.trans (s2'.trans (s3'.trans s4')))).trans ?_;cases z:NA os with
 |none=>
  rw[z]at eC;have s5:FC (EE EF) (RF N) (.cons (MI 5 iR) (.cons (MI 6 iR) .nil)) m3 cN=.ok (.ret (.ref (A 2)),m3) cN:=(mb (show JE (EE EF) (RF N) (.ex (.bK (.loc 0) 474108375640736948119651 .nil)) m3 cN=.ok (.next,m3) cN from mb eC)).trans (mb (show JE (EE EF) (RF N) (.ret (.aU (.loc 0) 431316168567)) m3 cN=.ok (.ret (.ref (A 2)),m3) cN from mb (r3.aU l3.2.1 rfl rfl)));exact(DX (LS (EE EF) .no U.length) s5).trans (DX M.o2 (b_ len3 jW hv))
 |some s=>
  rw[z]at eC;have s5:FC (EE EF) (RF N) (.cons (MI 5 iR) (.cons (MI 6 iR) .nil)) m3 cN=.cD (NV s) cN:=L (show JE (EE EF) (RF N) (.ex (.bK (.loc 0) 474108375640736948119651 .nil)) m3 cN=.cD (NV s) cN from L eC);exact(DX (LS (EE EF) .no U.length) s5).trans (DX (λ x:DQ (V×aS)=>oe x (R.bL:R V) λ p=>R.cD (NV s) p.2) (b_ len3 jW (v:=.none) rfl))
theorem iN.cJ{A:DL->DL}{mv:Mv}{its bG:V}{N:DL}{l l':DM V}{s s1 s2:CS}(h:iN A mv its bG N l s s1)(k:iN A mv its bG N l' s1 s2):iN A mv its bG N (l++l') s s2:=by
 induction h with
 |nil=>exact k|cons t _ ih=>exact .cons t (ih k)
theorem iZ.cJ{A:DL->DL}{mv:Mv}{its bG:V}{N:DL}{l l':DM V}{s s1 s2:CS}(h:iZ A mv its bG N l s s1)(k:iZ A mv its bG N l' s1 s2):iZ A mv its bG N (l++l') s s2:=by
 induction h with
 |nil=>exact k|cons t e _ ih=>exact .cons t e (ih k)
noncomputable def NX(n:DL):DU:=EG n 1||Nat.beq n 2
def Yx(pl k:DL)(p:LI):DM V:=EN (NX pl) (UJ pl k p) []
def SG(pl k:DL)(p:LI):DM V:=EN (NX pl) [] [HJ pl k p]
def Yw(pl k:DL)(p:LI):DM V:=EN (NX pl) [] (UJ pl k p)
def NW(pl k q:DL)(p:LI):DM V:=EN (NX pl) [] (Ez pl k q p)
noncomputable def JI:DM DL:=[0,1,2,3,4,5]
theorem SJ{P:DL->Prop}(h:i∈JI)(a:P 0)(b:P 1)(c:P 2)(d:P 3)(e:P 4)(f:P 5):P i:=EC (P:=P) a (EC b (EC c (EC d (EC e (EC f bO))))) i h
theorem amU(sp:DY):(JI.all λ pl=>[0,1].all λ k=>NE λ w i=>TU λ b0 b1=>KH 0 36 (HJ pl k ⟨w,i,sp,b0,b1⟩)&&IC (HJ pl k ⟨w,i,sp,b0,b1⟩))=DN:=by kernel_rfl
theorem Cb(hp:pl∈JI)(hk:k∈[0,1]){p:LI}(P:IU p):aY 36 0 (HJ pl k p):=by
 obtain⟨w,i,sp,b0,b1⟩:=p;have h:=DO (RV (NF (IH (IH (amU sp) hp) hk) P.w P.i) b0 b1);exact OK 36 _ h.1 h.2
theorem n5{l:DM V}(h:l.all (λ v=>cU.any (MK v))=DN):∀v∈l,v∈cU:=λ v m=>by
 obtain⟨u,mu,e⟩:=Ab.mp (FQ.mp h v m);exact PW e▸mu
theorem vm{s:CS}{i0:DL}(n:IC v0=DN)(h6:∀t,V.str t∈IS->(i0=6/\t=t0)∨(V.str t∈sab/\(EG 6 i0&&FT t t0)=DT))(h7:∀t,V.str t∈cU->(i0=7/\t=t0)∨(V.str t∈tab/\(EG 7 i0&&FT t t0)=DT)):lH s sab tab [(i0,t0,v0)] (NH s.kn i0 t0 v0):=λ i t m=>
 W_ (P:=λ i=>(V.str t∈YT sab tab i/\NH s.kn i0 t0 v0 i t=s.kn i t)∨∃v,(i,t,v)∈[(i0,t0,v0)]/\IC v=DN/\NH s.kn i0 t0 v0 i t=DK v) m
  (λ m=>(h6 t m).elim (λ z1=>by obtain⟨h,k⟩:=z1;exact .inr (by subst h;subst k;exact⟨v0,.head _,n,xI⟩)) λ h=>.inl ⟨h.1,acK h.2⟩) λ m=>(h7 t m).elim (λ z2=>by obtain⟨h,k⟩:=z2;exact .inr (by subst h;subst k;exact⟨v0,.head _,n,xI⟩)) λ h=>.inl ⟨h.1,acK h.2⟩
theorem E?{s:CS}(n:IC v0=DN)(h:cU.all (λ v=>MK v (.str t0)||(tab.any (MK v)&& !MK v (.str t0)))=DN):lH s IS tab [(7,t0,v0)] (NH s.kn 7 t0 v0):=vm n (λ t m=>.inr ⟨m,rfl⟩) λ t m=>MJ (FQ.mp h _ m) (λ q=>.inl ⟨rfl,V.str.inj (PW q)⟩) λ q=>by
 obtain⟨u,mu,e⟩:=Ab.mp (DO q).1;exact .inr ⟨PW e▸mu,UI (DO q).2⟩
theorem auG{s:CS}(n:IC v0=DN):lH s [(.str [115,116,114,117,99,116,32,78])] cU [(6,[115,116,114,117,99,116,32,71],v0)] (NH s.kn 6 [115,116,114,117,99,116,32,71] v0):=vm n (λ t m=>Oz m (λ e=>.inr (by subst e;exact⟨.head _,rfl⟩)) λ m=>Oz m (λ e=>.inl ⟨rfl,e⟩) xa) λ t m=>.inr ⟨m,rfl⟩
section
variable {A:DL->DL}(E_:WK A mv its bG N)
include E_
theorem Qc(hp:pl∈JI)(hk:k∈[0,1]){p:LI}(P:IU p){s:CS}(cE:s.cA=[]):iN A mv its bG N [HJ pl k p] s ⟨s.dI++Yx pl k p,s.cA,s.late++(SG pl k p).map GB,s.left,s.kn⟩:=
 have g:=(Cb hp hk P).bB (d':=40) (n':=0) (by decide) (FG _)
 SJ (P:=λ pl=>aY 40 0 (HJ pl k p)->iN A mv its bG N [HJ pl k p] s ⟨s.dI++Yx pl k p,s.cA,s.late++(SG pl k p).map GB,s.left,s.kn⟩) hp (λ g=>.cons (Kv E_ (.inl rfl) g (λ U=>rfl) cE) (.nil _)) (λ J=>.cons (aDN E_ P hk cE) (.nil _)) (λ J=>.cons (aDO E_ P hk cE) (.nil _))
  (λ g=>.cons (Kv E_ (.inr rfl) g (λ U=>rfl) cE) (.nil _)) (λ g=>.cons (Kv E_ (.inr rfl) g (λ U=>rfl) cE) (.nil _)) (λ g=>.cons (Kv E_ (.inr rfl) g (λ U=>rfl) cE) (.nil _)) g
theorem Qb{q:DL}(hp:pl∈JI)(hk:k∈[0,1]){p:LI}(P:IU p){s:CS}(kt:hV s)(cE:s.cA.length=q)(hq:q∈[0,1,2,3]):iZ A mv its bG N (SG pl k p) s ⟨s.dI++Yw pl k p,s.cA++NW pl k q p,s.late,s.left,s.kn⟩:=
 have z:iZ A mv its bG N [] s ⟨s.dI++[],s.cA++[],s.late,s.left,s.kn⟩:=by
  rw[KP,KP];exact .nil _
 SJ (P:=λ pl=>iZ A mv its bG N (SG pl k p) s ⟨s.dI++Yw pl k p,s.cA++NW pl k q p,s.late,s.left,s.kn⟩) hp (.cons (aDH E_ P hk kt cE hq) rfl (.nil _)) z z (.cons (aDI E_ P hk kt cE hq) rfl (.nil _)) (.cons (aDJ E_ P kt cE hq) rfl (.nil _)) (.cons (aDK E_ P kt cE hq) rfl (.nil _))
def Jj(kn:DL->Tx->DQ V):DL->Tx->DQ V:=NH (NH (NH (NH kn 7 [84,114] (LX [84,114] [])) 7 [79,116,104,101,114] (LX [79,116,104,101,114] [])) 7 [65,115,107] (LX [65,115,107] [(.str [65])])) 6 [115,116,114,117,99,116,32,71] Cw
def ZE:DM V:=[Ks [84,114],Ks [79,116,104,101,114],sL,uK,j6]
def yz:V:=MO (.aR [(.str [112,97,114,97,109]),(.str [84])]) [.aR [(.str [84]),FY DN]] (.aR [(.str [97,100,116]),(.str [71]),.aR [],.aR [.aR [(.str [112,97,114,97,109]),(.str [84])]]]) i0
omit E_ in
theorem Wz{v:V}(h1:KH 0 40 v=DN)(h2:IC v=DN):aY 90 0 v:=(HZ h1 h2 0).bB (by decide) (FG _)
theorem c9{s:CS}(cE:s.cA=[]):iN A mv its bG N ZE s ⟨s.dI++[yz],s.cA,s.late,s.left,Jj s.kn⟩:=by
 have k5:=(DO vn).2;have kr:=(DO vn).1;have k4:=(DO kr).2;have kr:=(DO kr).1;have k3:=(DO kr).2;have kr:=(DO kr).1;have t1:=λ (s:CS) cE=>Qv (A:=A) (s:=s) E_ (kn':=NH s.kn 7 [84,114] (LX [84,114] [])) (DO kr).1 rfl rfl ⟨rfl,λ v m=>m⟩ ⟨rfl,n5 rfl⟩ (E? rfl rfl) (Xs (Wz rfl rfl)) (GI _) cE;have t2:=λ (s:CS) cE=>Qv (A:=A) (s:=s) E_ (kn':=NH s.kn 7 [79,116,104,101,114] (LX [79,116,104,101,114] [])) (DO kr).2 rfl rfl ⟨rfl,λ v m=>m⟩ ⟨rfl,n5 rfl⟩ (E? rfl rfl) (Xs (Wz rfl rfl)) (GI _) cE;have t3:=λ (s:CS) cE=>Qv (A:=A) (s:=s) E_ (kn':=NH s.kn 7 [65,115,107] (LX [65,115,107] [(.str [65])])) k3 rfl rfl ⟨rfl,λ v m=>m⟩ ⟨rfl,n5 rfl⟩ (E? rfl rfl) (Xs (Wz rfl rfl)) (GI _) cE;have t4:=λ (s:CS) cE=>Qv (A:=A) (s:=s) E_ (kn':=s.kn) k4 rfl rfl ⟨rfl,λ v m=>m⟩ ⟨rfl,λ v m=>m⟩ (Zl E_ (λ J m=>m) λ J m=>m) (λ h=>h) (GI _) cE;have t5:=λ (s:CS) cE=>Qv (A:=A) (s:=s) E_ (kn':=NH s.kn 6 [115,116,114,117,99,116,32,71] Cw) k5 rfl rfl ⟨rfl,EC (.head _) bO⟩ ⟨rfl,λ v m=>m⟩ (auG rfl) (Xs (Wz rfl rfl)) (by decide) cE;have:=iN.cons (t1 s cE) (.cons (t2 _ cE) (.cons (t3 _ cE) (.cons (t4 _ cE) (.cons (t5 _ cE) (.nil _)))));simp only[KP]at this;exact this
end
def KE(a b:DQ DY):DQ DY:=oe a b DK
theorem kB(a b:DM (DQ DY)):NA (a++b)=KE (NA a) (NA b):=by
 induction a with
 |nil=>rfl|cons o a ih=>
  show oe o (NA (a++b)) DK=KE (oe o (NA a) DK) (NA b);rw[ih];cases o<;>rfl
noncomputable def Yv(pl:DL)(r:DQ DY):DM (DQ DY):=EN (FW 3 pl) (EN (EG pl 3) [DP,r,DP] (EN (EG pl 4) [DP,r] [r])) (EN (EG pl 1) [r] [r,DP])
theorem yu(hp:pl∈JI)(r:DQ DY):NA (Yv pl r)=r:=by
 cases r<;>exact SJ (P:=λ pl=>NA (Yv pl _)=_) hp rfl rfl rfl rfl rfl rfl
theorem wp(h:∀v∈B,aY d 0 v):aY (d+1) 0 (.aX B):=.hO λ D τ m keep f hf=>DX (·.map V.aX) (ZG λ v mv=>h v mv D τ m keep f (GI _) hf)
theorem Qt(h:∀v∈B,aY d 0 v):aY (d+1) 0 (.aR B):=.hO λ D τ m keep f hf=>DX (·.map V.aR) (ZG λ v mv=>h v mv D τ m keep f (GI _) hf)
theorem axJ{c:DL}{ks:DM DL}(h:∀v∈B,aY d 0 v):aY (d+1) 0 (.obj c ks B):=.hO λ D τ m keep f hf=>DX (·.map (V.obj c ks)) (ZG λ v mv=>h v mv D τ m keep f (GI _) hf)
theorem sm(h:KH 0 30 v=DN)(n:IC v=DN):aY (d+30) 0 v:=(OK 30 v h n).bB (P7 ..) (FG _)
theorem aBA{ps:DM V}{st:V}(h1:∀v∈ps,aY 30 0 v)(h2:aY 38 0 st):aY 40 0 (Fv ps st):=(axJ (d:=38) (EC (sm (d:=8) rfl rfl) (EC (sm (d:=8) rfl rfl) (EC ((wp h1).bB (by decide) (FG _)) (EC h2 bO))))).bB (by decide) (FG _)
theorem so(b:DU):aY 30 0 (.aR [(.str [88]),FY b])/\aY 30 0 (.aR [(.str [89]),FY b]):=by cases b<;>exact⟨OK 30 _ rfl rfl,OK 30 _ rfl rfl⟩
section
variable {A:DL->DL}(M:JL mv){x:IM}(X:Aa x)(hN:72<=N)
include M X hN
theorem qc(hp:pl∈JI)(hk:k∈[0,1]){p:LI}(P:IU p)(hs:p.sp=10∨p.sp=11):hX A mv x N (UJ pl k p) (Yv pl (SL x p)):=by
 have ga:∀v∈IR (FY p.b0) (FY p.b1),aY 30 0 v:=EC (so _).1 (EC (so _).2 bO);have gS:aY 30 0 (.aR [(.str [83,101,108,102]),.aR [.str (NC 82 k)]])/\aY 40 0 (.aR [.str (NC 82 k)]):=ZP (P:=λ k=>aY 30 0 (.aR [(.str [83,101,108,102]),.aR [.str (NC 82 k)]])/\aY 40 0 (.aR [.str (NC 82 k)])) hk ⟨OK 30 _ rfl rfl,HZ rfl rfl 0⟩ ⟨OK 30 _ rfl rfl,HZ rfl rfl 0⟩;have gs:∀v∈Zb k (FY p.b0) (FY p.b1),aY 30 0 v:=EC gS.1 ga;have g0:∀{v},KH 0 38 v=DN->IC v=DN->aY 38 0 v:=λ h n=>OK 38 _ h n;have lA:∀{iE st},(iE=tl p.w p.i∨iE=KY p.w p.i)->aY 40 0 st->Ow A mv x N (MO iE (IR (FY p.b0) (FY p.b1)) st (.int p.sp)) (SL x p):=λ ht gt=>pt M X hN P hs ht DT (GD 0) gt;have lS:Ow A mv x N (MO (tl p.w p.i) (Zb k (FY p.b0) (FY p.b1)) qF (.int p.sp)) (SL x p):=pt M X hN P hs (.inl rfl) DN gS.2 (HZ rfl rfl 0);have gU:=λ {ps st} h1 h2=>pq (A:=A) M X hN (aBA (ps:=ps) (st:=st) h1 h2);exact SJ (P:=λ pl=>hX A mv x N (UJ pl k p) (Yv pl (SL x p))) hp (.cons (lA (.inl rfl) (GD 0)) (.cons (gU ga (g0 rfl rfl)) .nil)) (.cons (lA (.inl rfl) (sw hk)) .nil) (.cons lS (.cons (gU gs (g0 rfl rfl)) .nil))
  (.cons (ph M X hN (HZ rfl rfl 0)) (.cons (lA (.inl rfl) (HZ rfl rfl 0)) (.cons (gU ga (g0 rfl rfl)) .nil))) (.cons (ao4 M X hN (XH _) (XH _) (HZ rfl rfl 0)) (.cons (lA (.inr rfl) (HZ rfl rfl 0)) .nil)) (.cons (lA (.inr rfl) (LF P.w P.i p.sp).gh) .nil)
theorem qd:hX A mv x N [yz] [DP]:=.cons (ao5 M X hN (HZ rfl rfl 0)) .nil
theorem aoE(os:DM DL)(h:∀o∈os,o∈[0,1]):hX A mv x N (os.flatMap XR) (os.map λ J=>DP):=by
 induction os with
 |nil=>exact .nil|cons o os ih=>exact(ZP (P:=λ o=>hX A mv x N (XR o) [DP]) (h o (.head _)) (.cons (ph M X hN (HZ rfl rfl 0)) .nil) (.cons (pq M X hN (HZ rfl rfl 0)) .nil)).cJ (ih λ o m=>h o (.tail _ m))
end
theorem sj(l:DM DL):NA (l.map λ J=>DP)=DP:=by
 induction l with
 |nil=>rfl|cons a l ih=>exact ih
noncomputable def Bu:DM DL->DL->DM V
 |[],_=>[]|o::os,q=>Fa o q::Bu os (q+1)
theorem r_:∀(os:DM DL) (q:DL),(Bu os q).length=os.length
 |[],_=>rfl|_::os,q=>DX GH (r_ os (q+1))
theorem ZF:∀{q:DL},q<4->q∈[0,1,2,3]:=λ {q} h=>YM.mpr h
section
variable {A:DL->DL}(E_:WK A mv its bG N)
include E_
theorem aaS(os:DM DL)(h:∀o∈os,o∈[0,1])(s:CS)(cE:s.cA=[]):iN A mv its bG N (os.map λ o=>JH (KB o)) s ⟨s.dI,s.cA,s.late++(os.map λ o=>JH (KB o)).map GB,s.left,s.kn⟩:=by
 induction os generalizing s with
 |nil=>
  rw[show s.late++(([]:DM DL).map λ o=>JH (KB o)).map GB=s.late from KP _];exact .nil _
 |cons o os ih=>
  have t:=ZP (P:=λ o=>Du A mv its bG N (JH (KB o)) s ⟨s.dI++[],s.cA,s.late++[GB (JH (KB o))],s.left,s.kn⟩) (h o (.head _)) (Kv E_ (.inr rfl) (HZ rfl rfl 0) (λ U=>rfl) cE) (Kv E_ (.inr rfl) (HZ rfl rfl 0) (λ U=>rfl) cE);have:=iN.cons t (ih (λ o m=>h o (.tail _ m)) _ cE);rw[KP,WN]at this;exact this
theorem aaO(os:DM DL)(h:∀o∈os,o∈[0,1])(s:CS)(q:DL)(kt:hV s)(hq:s.cA.length=q)(hl:q+os.length<=4):iZ A mv its bG N (os.map λ o=>JH (KB o)) s ⟨s.dI++os.flatMap XR,s.cA++Bu os q,s.late,s.left,s.kn⟩:=by
 induction os generalizing s q with
 |nil=>
  rw[show s.dI++([]:DM DL).flatMap XR=s.dI from KP _,show s.cA++Bu [] q=s.cA from KP _];exact .nil _
 |cons o os ih=>
  have hl:q+1+os.length<=4:=Q1 q os.length▸hl;have t:=aDL E_ (h o (.head _)) kt hq (ZF (IW (IW (Sp q) (HD ..)) hl));have:=iZ.cons t rfl (ih (λ o m=>h o (.tail _ m)) _ (q+1) kt (by rw[GC,hq];rfl) hl);rw[WN,WN]at this;exact this
end
noncomputable def ao0:V:=.obj 658 [499984200308] [.none]
def UN(pl k q:DL)(p:LI):V:=oe (bN (NW pl k q p)) ao0 id
noncomputable def nB(pl:DL):DU:=FW 3 pl
noncomputable def Kr(pl:DL):V:=EN (EG pl 4) (.str [65,115,107]) (EN (EG pl 5) (.str [79,116,104,101,114]) .none)
theorem ud(hp:pl∈JI)(k q:DL)(p:LI):NW pl k q p=EN (nB pl) [UN pl k q p] []:=SJ (P:=λ pl=>NW pl k q p=EN (nB pl) [UN pl k q p] []) hp rfl rfl rfl rfl rfl rfl
theorem aaD(hp:pl∈JI)(k q:DL)(p:LI)(U:aS):GR EF U (UN pl k q p) 499984200308=DK (Kr pl):=SJ (P:=λ pl=>GR EF U (UN pl k q p) 499984200308=DK (Kr pl)) hp rfl rfl rfl rfl rfl rfl
theorem amV:(JI.all λ pl=>[0,1].all λ k=>[0,1,2,3].all λ q=>NE λ w i=>TU λ b0 b1=>KH 0 40 (UN pl k q ⟨w,i,0,b0,b1⟩)&&IC (UN pl k q ⟨w,i,0,b0,b1⟩))=DN:=by decide+kernel
theorem aaC{q:DL}(hp:pl∈JI)(hk:k∈[0,1])(hq:q∈[0,1,2,3]){p:LI}(P:IU p):aY 40 0 (UN pl k q p):=by
 obtain⟨w,i,sp,b0,b1⟩:=p;have h:=DO (RV (NF (IH (IH (IH amV hp) hk) hq) P.w P.i) b0 b1);exact HZ (v:=UN pl k q ⟨w,i,0,b0,b1⟩) h.1 h.2 0
structure Rw where
 os:DM DL
 bX:DL
 p0:LI
 bY:DL
 p1:LI
 bh:DU
structure Am(r:Rw):Prop where
 os:r.os∈[[],[0],[1],[0,1]]
 h0:r.bX∈JI
 h1:r.bY∈JI
 P0:IU r.p0
 P1:IU r.p1
 s0:r.p0.sp=10
 s1:r.p1.sp=11
noncomputable def Rw.q0(r:Rw):DL:=EN r.bh r.os.length 0
def Rw.q1(r:Rw):DL:=r.q0+(NW r.bX 0 r.q0 r.p0).length
def Rw.qI(r:Rw):DL:=EN r.bh 0 (r.q1+(NW r.bY 1 r.q1 r.p1).length)
def Rw.im(r:Rw):IM:=⟨r.os,nB r.bX,nB r.bY,FV r.os||r.bh,UN r.bX 0 r.q0 r.p0,UN r.bY 1 r.q1 r.p1,r.qI,(EN (EG r.os.length 2) (r.qI+1) r.qI:DL),Kr r.bX,Kr r.bY⟩
def Rw.eM(r:Rw):DM V:=[HJ r.bX 0 r.p0]++[HJ r.bY 1 r.p1]
def Rw.kn(r:Rw):DM V:=ZE++r.os.map λ o=>JH (KB o)
def Rw.dH(r:Rw):DM V:=EN r.bh (r.kn++r.eM) (r.eM++r.kn)
def Rw.res(r:Rw):DQ DY:=KE (EN (NX r.bX) (SL r.im r.p0) DP) (KE (EN (NX r.bY) (SL r.im r.p1) DP) (KE (EN (NX r.bX) DP (SL r.im r.p0)) (EN (NX r.bY) DP (SL r.im r.p1))))
theorem wa(hp:pl∈JI)(k q:DL)(p:LI):(NW pl k q p).length<=1:=SJ (P:=λ pl=>(NW pl k q p).length<=1) hp (GI _) (GI _) (GI _) (FG _) (FG _) (FG _)
theorem Jz{P:DM DL->Prop}{os:DM DL}(h:os∈[[],[0],[1],[0,1]])(a:P [])(b:P [0])(c:P [1])(d:P [0,1]):P os:=EC (P:=P) a (EC b (EC c (EC d bO))) os h
section
variable {r:Rw}(R:Am r)
include R
theorem U_:r.os.length<=2/\∀o∈r.os,o∈[0,1]:=Jz (P:=λ l=>l.length<=2/\∀o∈l,o∈[0,1]) R.os ⟨by decide,by decide⟩ ⟨by decide,by decide⟩ ⟨by decide,by decide⟩ ⟨by decide,by decide⟩
theorem zx:r.q0<=2/\r.q1<=3/\r.qI+r.os.length<=4:=by
 have l:=(U_ R).1;have l0:=wa R.h0 0 r.q0 r.p0;have l1:=wa R.h1 1 r.q1 r.p1;have q0:r.q0<=2:=by unfold Rw.q0;cases r.bh;exact GI _;exact l
 refine⟨q0,OF q0 l0,?_⟩;cases h:r.bh with
 |true=>exact(show r.qI=0 by unfold Rw.qI;rw[h];rfl)▸EZ (MT (Aj _)) (EZ l (by decide))|false=>
  have e0:r.q0=0:=by unfold Rw.q0;rw[h];rfl
  have eI:r.qI=r.q1+(NW r.bY 1 r.q1 r.p1).length:=by unfold Rw.qI;rw[h];rfl
  rw[eI];exact OF (OF (OF (MT e0) l0) l1) l
theorem Og:Aa r.im:=by
 have q:=zx R;have tr:∀{pl},pl∈JI->Kr pl∈QD:=λ h=>SJ (P:=λ pl=>Kr pl∈QD) h (.head _) (.head _) (.head _) (.head _) (.tail _ (.head _)) (.tail _ (.tail _ (.head _)));exact⟨R.os,λ e=>DX (λ l=>FV l||r.bh) (show r.os=[]from e),tr R.h0,tr R.h1,aaD R.h0 _ _ _,aaD R.h1 _ _ _,aaC R.h0 (by decide) (ZF (JX q.1 (by decide))) R.P0,aaC R.h1 (by decide) (ZF (JX q.2.1 (by decide))) R.P1⟩
omit R in
theorem aAK(b b':DU)(l:DM V):Fs [] b l=Fs [] b' l:=by
 cases b<;>cases b'
 ·rfl
 ·exact KP l
 ·exact(KP l).symm
 ·rfl
theorem aAL:r.im.gP=Fs (Bu r.os r.qI) r.bh (NW r.bX 0 r.q0 r.p0++NW r.bY 1 r.q1 r.p1):=by
 rw[ud R.h0,ud R.h1];obtain⟨os,bX,p0,bY,p1,bh⟩:=r;exact Jz (P:=λ l=>os=l->(Rw.im ⟨os,bX,p0,bY,p1,bh⟩).gP=Fs (Bu os (Rw.qI ⟨os,bX,p0,bY,p1,bh⟩)) bh (EN (nB bX) [UN bX 0 (Rw.q0 ⟨os,bX,p0,bY,p1,bh⟩) p0] []++EN (nB bY) [UN bY 1 (Rw.q1 ⟨os,bX,p0,bY,p1,bh⟩) p1] [])) R.os
  (λ e=>by subst e;exact aAK _ _ _) (λ e=>by subst e;rfl) (λ e=>by subst e;rfl) (λ e=>by subst e;rfl) rfl
theorem Xp:(∀v∈r.dH,aY 36 0 v)/\r.dH.length<=9:=by
 have h:=U_ R;have g2:∀v∈r.eM,aY 36 0 v:=EC (Cb R.h0 (by decide) R.P0) (EC (Cb R.h1 (by decide) R.P1) bO);have gk:∀v∈r.kn,aY 36 0 v:=VE (EC (OK 36 _ rfl rfl) (EC (OK 36 _ rfl rfl) (EC (OK 36 _ rfl rfl) (EC (OK 36 _ rfl rfl) (EC (OK 36 _ rfl rfl) bO))))) (Hr λ o m=>ZP (P:=λ o=>aY 36 0 (JH (KB o))) (h.2 o m) (OK 36 _ rfl rfl) (OK 36 _ rfl rfl));have l:r.kn.length<=7:=by
  show(ZE++r.os.map λ o=>JH (KB o)).length<=7;rw[GC,LM];exact RP h.1 5
 unfold Rw.dH;cases r.bh
 ·exact⟨VE g2 gk,by show(r.eM++r.kn).length<=9;rw[GC];exact RP l 2⟩
 ·exact⟨VE gk g2,by show(r.kn++r.eM).length<=9;rw[GC];exact Sn l 2⟩
end
theorem zf(h:aY (d+1) 0 v):aY (d+2) 0 (GB v):=Qt (EC (.hO λ J J J J J J=>rfl) (EC h bO))
theorem vk(kn:DL->Tx->DQ V):(Jj kn 7 [84,114]=DK (LX [84,114] [])/\Jj kn 7 [79,116,104,101,114]=DK (LX [79,116,104,101,114] [])/\Jj kn 7 [65,115,107]=DK (LX [65,115,107] [(.str [65])]))/\Jj kn 6 [115,116,114,117,99,116,32,71]=DK Cw/\Jj kn 6 [115,116,114,117,99,116,32,78]=kn 6 [115,116,114,117,99,116,32,78]:=⟨⟨rfl,rfl,rfl⟩,rfl,rfl⟩
theorem vu(pl k:DL)(p:LI):(SG pl k p).length<=1:=by
 unfold SG;cases NX pl
 ·exact FG _
 ·exact GI _
theorem hV.to{s:CS}(h:hV s)(e:s'.kn=s.kn):hV s':=by
 unfold hV;rw[e];exact h
section
variable {r:Rw}(R:Am r){A:DL->DL}(Mk:JL mv)
include R Mk
section
variable (hN:72<=N)(hp:pl∈JI)(hk:k∈[0,1]){p:LI}(P:IU p)(hs:p.sp=10∨p.sp=11)
include hN hp hk P hs
theorem qb:∃os,hX A mv r.im N (Yx pl k p) os/\NA os=EN (NX pl) (SL r.im p) DP:=by
 unfold Yx;cases NX pl
 ·exact⟨[],.nil,rfl⟩
 ·exact⟨_,qc Mk (Og R) hN hp hk P hs,yu hp _⟩
theorem Y3:∃os,hX A mv r.im N (Yw pl k p) os/\NA os=EN (NX pl) DP (SL r.im p):=by
 unfold Yw;cases NX pl
 ·exact⟨_,qc Mk (Og R) hN hp hk P hs,yu hp _⟩
 ·exact⟨[],.nil,rfl⟩
end
omit R Mk in
theorem aBS(a b:DU)(x y:DQ DY):KE (KE (KE (KE (KE DP (EN a x DP)) (EN b y DP)) DP) (EN a DP x)) (EN b DP y)=KE (EN a x DP) (KE (EN b y DP) (KE (EN a DP x) (EN b DP y))):=by cases a<;>cases b<;>cases x<;>first|rfl|(cases y<;>rfl)
omit R Mk in
theorem aBT(a b:DU)(x y:DQ DY):KE (KE (KE (KE (KE (EN a x DP) (EN b y DP)) DP) (EN a DP x)) (EN b DP y)) DP=KE (EN a x DP) (KE (EN b y DP) (KE (EN a DP x) (EN b DP y))):=by cases a<;>cases b<;>cases x<;>first|rfl|(cases y<;>rfl)
theorem aB3(B_:He mv){ca:DL}(hN:73<=N){bG:V}(hc:bG=.ref ca){U:aS}(g0:cP U)(jC:ca<U.length)(G_:RS A mv (.aR r.dH) bG WD 30 (U++[.list []]))(fI:A 10=U.length):
  ∃G,G.length=U.length/\(∀j,j<U.length->(∀i,i<12->A i≠j)->G[j]? =U[j]?)/\RF (N+1) 743 [.ref (A 0)] U=oe r.res (.ok (.ref (A 2)) G) λ s=>.cD (NV s) G:=by
 have ig:=Xp R;have gi:aY 40 0 (.aR r.dH):=(Qt ig.1).bB (by decide) (FG _);have gl:∀v∈r.dH,aY 90 0 (GB v):=λ v m=>(zf (d:=35) (ig.1 v m)).bB (by decide) (FG _);have ol:=U_ R;have q:=zx R;have kn:=vk (λ J J=>DP);have E_:WK A mv (.aR r.dH) bG N:=⟨Mk,gi,⟨ca,hc⟩,EZ (by decide) hN⟩;have hN':72<=N-1:=ah1 hN;have li:r.dH.length<=15:=EZ ig.2 (by decide);have ll:(SG r.bX 0 r.p0).length+(SG r.bY 1 r.p1).length<=2:=OF (vu ..) (vu ..);obtain⟨o1,E1,f1⟩:=qb (A:=A) R Mk hN' R.h0 (k:=0) (by decide) R.P0 (.inl R.s0);obtain⟨o2,E2,f2⟩:=qb (A:=A) R Mk hN' R.h1 (k:=1) (by decide) R.P1 (.inr R.s1);obtain⟨o3,E3,f3⟩:=Y3 (A:=A) R Mk hN' R.h0 (k:=0) (by decide) R.P0 (.inl R.s0);obtain⟨o4,E4,f4⟩:=Y3 (A:=A) R Mk hN' R.h1 (k:=1) (by decide) R.P1 (.inr R.s1);have ET:=qd (A:=A) Mk (Og R) hN';have EI:=aoE (A:=A) Mk (Og R) hN' r.os ol.2;have re:=aAL R;have q0:r.q0∈[0,1,2,3]:=ZF (JX q.1 (by decide));have q1:r.q1∈[0,1,2,3]:=ZF (JX q.2.1 (by decide));unfold Rw.res;cases hb:r.bh with
 |true=>
  have hi:r.dH=ZE++((r.os.map λ o=>JH (KB o))++([HJ r.bX 0 r.p0]++[HJ r.bY 1 r.p1])):=by
   unfold Rw.dH;rw[hb];exact WN ..
  have h0:r.q0=r.os.length:=by unfold Rw.q0;rw[hb];rfl
  have hI:r.qI=0:=by unfold Rw.qI;rw[hb];rfl
  have SW:=(c9 E_ (s:=WD) rfl).cJ ((aaS E_ r.os ol.2 _ rfl).cJ ((Qc E_ R.h0 (k:=0) (by decide) R.P0 rfl).cJ (Qc E_ R.h1 (k:=1) (by decide) R.P1 rfl)));have SF:=λ (s:CS) (e:s.cA=[]) (k:hV s)=>(aaO E_ r.os ol.2 s 0 k (DX O6 e) (EZ (MT (Aj _)) (EZ ol.1 (by decide)))).cJ ((Qb E_ R.h0 (k:=0) (by decide) R.P0 (k.to (by rfl)) (q:=r.q0) (show(s.cA++Bu r.os 0).length=r.q0 by rw[e,h0];exact r_ ..) q0).cJ (Qb E_ R.h1 (k:=1) (by decide) R.P1 (k.to (by rfl)) (q:=r.q1) (show((s.cA++Bu r.os 0)++NW r.bX 0 r.q0 r.p0).length=r.q1 by rw[e,GC];exact DX (·+_) ((r_ ..).trans h0.symm)) q1));rw[<-show r.dH=_ from hi]at SW;obtain⟨G,k1,k2,k3⟩:=O' Mk B_ hN hc g0 jC gi gl li (late:=(r.os.map λ o=>JH (KB o))++(SG r.bX 0 r.p0++SG r.bY 1 r.p1)) (by rw[GC,GC,LM];exact EZ (OF ol.1 ll) (by decide)) G_ fI SW (by rw[YL,YL,<-WN];rfl) rfl (SF _ rfl kn.1) (x:=r.im) (by rw[re,hb,hI];exact WN ..) kn.2.1 kn.2.2
   ((((((ET.cJ E1).cJ E2).cJ EI).cJ E3).cJ E4))
  refine⟨G,k1,k2,k3.trans (DX (λ z=>oe z (aD.ok (V.ref (A 2)) G) λ s=>aD.cD (NV s) G) ?_)⟩;rw[kB,kB,kB,kB,kB,f1,f2,f3,f4,sj];exact aBS ..
 |false=>
  have hi:r.dH=[HJ r.bX 0 r.p0]++([HJ r.bY 1 r.p1]++(ZE++r.os.map λ o=>JH (KB o))):=by
   unfold Rw.dH;rw[hb];exact WN ..
  have h0:r.q0=0:=by unfold Rw.q0;rw[hb];rfl
  have hI:r.qI=r.q1+(NW r.bY 1 r.q1 r.p1).length:=by unfold Rw.qI;rw[hb];rfl
  have SW:=(Qc E_ R.h0 (k:=0) (by decide) R.P0 (s:=WD) rfl).cJ ((Qc E_ R.h1 (k:=1) (by decide) R.P1 rfl).cJ ((c9 E_ rfl).cJ (aaS E_ r.os ol.2 _ rfl)));have l1:∀s:CS,s.cA=[]->(s.cA++NW r.bX 0 r.q0 r.p0).length=r.q1:=λ s e=>by
   rw[e];unfold Rw.q1;rw[h0,Aj];rfl
  have SF:=λ (s:CS) (e:s.cA=[]) (k:hV s)=>(Qb E_ R.h0 (k:=0) (by decide) R.P0 k (q:=r.q0) (by rw[e,h0];rfl) q0).cJ ((Qb E_ R.h1 (k:=1) (by decide) R.P1 (k.to (by rfl)) (q:=r.q1) (l1 s e) q1).cJ (aaO E_ r.os ol.2 _ r.qI (k.to (by rfl)) (show((s.cA++NW r.bX 0 r.q0 r.p0)++NW r.bY 1 r.q1 r.p1).length=r.qI by rw[GC,l1 s e,hI]) q.2.2));rw[<-show r.dH=_ from hi]at SW;obtain⟨G,k1,k2,k3⟩:=O' Mk B_ hN hc g0 jC gi gl li (late:=SG r.bX 0 r.p0++(SG r.bY 1 r.p1++r.os.map λ o=>JH (KB o))) (by rw[GC,GC,LM,<-TB];exact EZ (OF ll ol.1) (by decide)) G_ fI SW (by rw[YL,YL,<-WN];rfl) rfl (SF _ rfl kn.1) (x:=r.im) (by rw[re,hb];rfl) kn.2.1 kn.2.2
   (((((E1.cJ E2).cJ ET).cJ E3).cJ E4).cJ EI)
  refine⟨G,k1,k2,k3.trans (DX (λ z=>oe z (aD.ok (V.ref (A 2)) G) λ s=>aD.cD (NV s) G) ?_)⟩;rw[kB,kB,kB,kB,kB,f1,f2,f3,f4,sj];exact aBT ..
end
noncomputable def Iw(k:DL):V:=match k with|0=>.aR [.aR [],.aR [.aR [(.str [88]),.bD 22 .none],.aR [(.str [89]),.bD 23 .none]]]|_=>.aR [.aR [],.aR [.aR [(.str [88]),.bD 24 .none],.aR [(.str [89]),.bD 25 .none]]]
noncomputable def Kz(k:DL):V:=match k with|0=>.bD 20 .none|_=>.bD 21 .none
def NY(c:DL):V:=match c with
 |0=>Ks [84,114]|1=>Ks [79,116,104,101,114]|2=>sL|3=>uK|4=>j6|5=>QY 0 0 (Iw 0) (Kz 0) .none|6=>QY 0 1 (Iw 1) (Kz 1) .none|7=>QY 1 0 (Iw 0) (Kz 0) .none|8=>QY 1 1 (Iw 1) (Kz 1) .none|9=>QY 2 0 (Iw 0) (Kz 0) .none|10=>QY 2 1 (Iw 1) (Kz 1) .none|11=>.bD 26 .none|12=>.bD 27 .none|13=>JH [78]|_=>JH [117,56]
def nmQ(c:DL):Tx:=match c with
 |0=>[84,114]|1=>[79,116,104,101,114]|2=>[65,115,107]|3=>[78]|4=>[71]|5=>NC 102 0|6=>NC 102 1|7=>NC 75 0|8=>NC 75 1|9=>NC 82 0|_=>NC 82 1
noncomputable def kdQ(c:DL):V:=match c with
 |0=>(.str [116,114,97,105,116])|1=>(.str [116,114,97,105,116])|2=>(.str [116,114,97,105,116])|3=>(.str [115,116,114,117,99,116])|4=>(.str [115,116,114,117,99,116])|5=>(.str [102,110])|6=>(.str [102,110])|7=>(.str [115,116,114,117,99,116])|8=>(.str [115,116,114,117,99,116])|_=>(.str [116,114,97,105,116])
noncomputable def x_(c:DL):DU:=EG c 5||Nat.beq c 6
noncomputable def gvQ(c:DL):V:=.aR [.aR [],.aR (match c with|2=>[(.str [65])]|4=>[(.str [84])]|7=>[(.str [88]),(.str [89])]|8=>[(.str [88]),(.str [89])]|_=>[])]
def ZJ(l:DM DL):DM V:=l.map λ c=>.str (nmQ c)
def B9(l:DM DL):DM DL:=l.filter λ c=> !(x_ c)
def val(l:DM DL):DM DL:=l.filter λ c=>EG c 3||(EG c 4||x_ c)
noncomputable def Yd:DM DL:=[495606196587,32478926762833264,126879447277940,8314605277104989543,495756604521,1953523051]
def kQ(l:DM DL):DM V×DM V:=(.str []::ZJ l,(.str [109,111,100])::l.map kdQ)
def pQ(l:DM DL):DM V×DM V:=(.str []::ZJ l,.bool DN::l.map λ c=>.bool (!(x_ c)))
def tQ(l:DM DL):DM V×DM V:=(ZJ (B9 l),ZJ (B9 l))
def vQ(l:DM DL):DM V×DM V:=(ZJ (val l),ZJ (val l))
def gQ(l:DM DL):DM V×DM V:=(ZJ (B9 l),(B9 l).map gvQ)
def iQ(l:DM DL):DM V×DM V:=(ZJ l,l.map NY)
noncomputable def dO(p:DM V×DM V):O:=.dict p.1 p.2
noncomputable def dV(p:DM V×DM V):V:=.bZ p.1 p.2
def abH(l:DM DL):aS:=[.inst 456 Yd [.ref 1,.ref 2,.ref 3,.ref 8,.ref 9,.ref 10],dO (kQ l),dO (pQ l),.dict [.str []] [.ref 4],.inst 325 [495623108980,126879598928246,1936028533] [.ref 5,.ref 6,.ref 7],
 dO (tQ l),dO (vQ l),.dict [] [],dO (gQ l),dO (iQ l),.dict [] []]
def QB(l:DM DL)(lf:DM V)(e:aS):aS:=abH l++(.inst 7001 [] []:: .list lf::e)
noncomputable def Ou:DM V:=[.aR [.str [],.ref 11]]
noncomputable def XX:aS:=[.list []]
def Ep:Ex:=⟨[],[(26,.int 0,(.str [105,109,112,108])),(26,.int 1,i0),(27,.int 0,(.str [105,109,112,108])),(27,.int 1,i0)],[],[],[],[]⟩
noncomputable abbrev oQ:JM:=RA (PK Ep) 12
noncomputable abbrev ZL:QK:=HF EF (PK Ep)
def UP:S:=MI 7 tA
def V':S:=MI 0 (PC UP)
def Ft:S:=MI 1 (PC UP)
noncomputable def zm:DL->Ss->Ss
 |0,_=>.nil|n+1,l=>match l with|.cons s ss=>.cons s (zm n ss)|.nil=>.nil
def Yz:Ss:=zm 7 tA
noncomputable def mQ(x3 x4 x5:DQ V):Lv:=[DK (.ref 0),DP,DK (.ref 12),x3,x4,x5]
def tuM(v:V)(m:Lv):M (Fl×Lv):=M.bind (IY ZL oQ (ZC Ft) v m) λ m=>FC ZL oQ (PC Ft) m
def tuV(v:V)(τ:aS):R (Fl×Lv):=tuM v (mQ (DK (.str [])) (DK (.ref 11)) DP) τ
noncomputable def MM(l:DM DL)(c:DL):DM DL:=EN (FW 11 c) l (l++[c])
def aaL(a b:DQ V):DU:=oe a (!b.isSome) λ u=>oe b DT (MK u)
noncomputable def Z':Lv->Lv->DU
 |[],l=>FV l|a::x,l=>match l with|b::y=>aaL a b&&Z' x y|[]=>DT
def On(r:R (Fl×Lv))(m:Lv)(τ:aS):DU:=oe (Ys r) DT λ p=>Z' p.1 m&&Ke p.2 τ
def Ik(p:DM DL×DL):DU:=On (tuV (NY p.2) (QB p.1 [] XX)) (mQ (DK (.str [])) (DK (.ref 11)) (DK (NY p.2))) (QB (MM p.1 p.2) [] XX)
noncomputable def k5:DM DL:=[0,1,2,3,4]
def vp(l:DM DL):DM (DM DL×DL):=k5.map λ i=>(l++k5.take i,i)
noncomputable def wm(l:DM DL):DM (DM DL×DL):=([5,7,9,11].map λ a=>(l,a))++([[],[5],[7],[9]].flatMap λ a=>[6,8,10,12].map λ b=>(l++a,b))
noncomputable def r4:DM (DM DL):=[[],[5],[7],[9]].flatMap λ a=>[[],[6],[8],[10]].map λ b=>a++b
def zn:DM (DM DL×DL):=vp []++([(k5,13),(k5,14)]++(wm k5++wm []))
def zo:DM (DM DL×DL):=r4.flatMap λ a=>vp a++[(a++k5,13),(a++k5,14)]
theorem amK:zn.all Ik=DN:=by decide+kernel
theorem amL:zo.all Ik=DN:=by decide+kernel
noncomputable def Bc(k:DL):DM V:=(MR k).map λ i=>.bD (30+i) .none
noncomputable def m1Q(H_:DM V):Lv:=[DK (.ref 0),DK (.aR H_),DK (.ref 12),DP,DP,DP]
theorem azD:([6,7,8,9].all λ k=>On (FC ZL oQ Yz [DK (.ref 0),DK (.aR (Bc k)),DP,DP,DP,DP] [.inst 456 [] []]) (m1Q (Bc k)) (abH []++[.list (Bc k),.list Ou]))=DN:=by decide+kernel
def C?(r:R DU)(b:DU)(τ:aS):DU:=match r with
 |.ok b' dY=>EN b b' (!b')&&Ke dY τ|.cD _ _=>DT|.bL=>DT
def tsQ(τ:aS):R DU:=(EX ZL oQ (Qy UP) (mQ DP DP DP)).2 τ
theorem aDA:C? (tsQ (QB [] Ou [])) DN (QB [] Ou XX)=DN:=by decide+kernel
theorem az8:On (JE ZL oQ V' (mQ DP DP DP) (QB [] Ou XX)) (mQ (DK (.str [])) (DK (.ref 11)) DP) (QB [] [] XX)=DN:=by decide+kernel
def Bo:DM (DM DL):=r4.map (k5++·)++r4.map (·++k5)
def L!(l:DM DL):O:=.inst 456 Yd [dV (kQ l),dV (pQ l),.bZ [.str []] [.obj 325 [495623108980,126879598928246,1936028533] [dV (tQ l),dV (vQ l),.bZ [] []]],dV (gQ l),dV (iQ l),.bZ [] []]
theorem aD9:(Bo.all λ l=>C? (tsQ (QB l [] XX)) DT (QB l [] [.list [],.list []]))=DN:=by decide+kernel
theorem ap5:(Bo.all λ l=>oe (cY ZL 1 [] .none (QB l [] [.list [],.list []])) DT λ p=>MK p.1 .none&&Ke p.2 [L! l])=DN:=by decide+kernel
theorem aB9{a b:DQ V}(h:aaL a b=DN):a=b:=by
 cases a with
 |none=>exact(nS h).symm|some u=>exact EL h λ v e q=>e▸DX DK (PW q)
theorem aaK:∀{a b:Lv},Z' a b=DN->a=b
 |[],_,h=>(HN h).symm|_::_,[],h=>FB h|_::_,_::_,h=>congr (DX O2 (aB9 (DO h).1)) (aaK (DO h).2)
theorem Xl{r:R (Fl×Lv)}(h:On r m τ=DN):r=.ok (.next,m) τ:=EL h λ p e q=>by rw[R? e,aaK (DO q).1,Py (DO q).2]
theorem uz{r:R DU}{b:DU}(h:C? r b τ=DN):r=.ok b τ:=match r,h with
 |.ok b' dY,h=>by
  rw[<-Py (DO h).2];have h:=(DO h).1;cases b<;>cases b'<;>first|rfl|exact FB h
noncomputable def A1:Lv->Lv->DU
 |[],l=>FV l|a::x,l=>match l with|b::y=>oe a DN (λ u=>oe b DT (MK u))&&A1 x y|[]=>DT
theorem A2{m0 m:Lv}(h:A1 m0 m=DN):m0.length=m.length/\∀(i:DL) v,m0[i]? =DK (DK v)->m[i]? =DK (DK v):=by
 induction m0 generalizing m with
 |nil=>
  cases HN h;exact⟨rfl,λ J J e=>(EW e)⟩
 |cons a x ih=>cases m with
  |nil=>exact FB h|cons b y=>
   have k:=ih (DO h).2;refine⟨DX GH k.1,λ i v e=> ?_⟩;cases i with
   |succ i=>exact k.2 i v e|zero=>
    have h:=(DO h).1;cases(EJ e:a=DK v);exact EL h λ u e2 q=>DX DK (e2.trans (DX DK (PW q).symm))
theorem LR.sub{m0:Lv}(h:LR C m m')(k:A1 m0 m=DN):LR C m0 m':=⟨(A2 k).1.trans h.1,λ i v e=>h.2 i v ((A2 k).2 i v e)⟩
theorem avP{m0:Lv}(m:Lv)(k:A1 m0 m=DN)(e:m'=m.map (·.map (sh C))):LR C m0 m':=by
 refine⟨(A2 k).1.trans ((LM _).symm.trans (DX O6 e).symm),λ i v z=> ?_⟩;rw[e,SZ,(A2 k).2 i v z];rfl
section
variable {α β:Type}
theorem Sm.nx{X C_:M (Fl×Lv)}{m1:Lv}(h:Sm C (FR C) X C_)(E:Em C τ U)(e:X τ=.ok (.next,m1) dY):∃m' G,C_ U=.ok (.next,m') G/\LR C m1 m'/\Em C dY G:=by
 have:=h τ U E;rw[e]at this;obtain⟨b,G,e2,q,E'⟩:=this;cases q with
 |nx q=>exact⟨_,G,e2,q,E'⟩
theorem Sm.val{g:α->β}{X:M α}{C_:M β}{a:α}(h:Sm C (LA g) X C_)(E:Em C τ U)(e:X τ=.ok a dY):∃G,C_ U=.ok (g a) G/\Em C dY G:=by
 have:=h τ U E;rw[e]at this;obtain⟨b,G,e2,q,E'⟩:=this;exact⟨G,q▸e2,E'⟩
theorem Em.re(E:Em C τ U){i:DL}{o' x:O}(h:i<τ.length)(hx:U[C.ρ i]? =DK x)(r:fR C i o' x):Em C (τ.set i o') U:=by
 refine⟨λ j o e=> ?_,λ j=>by rw[NL];exact E.al j,E.fr,E.le⟩;by_cases q:i=j
 ·subst q;rw[OV h]at e;exact EJ e▸⟨x,hx,r⟩
 ·rw[TA q]at e;exact E.ob j o e
end
noncomputable def TW(pl k:DL):DL:=EN (EG pl 0) (5+k) (EN (EG pl 1) (7+k) (EN (EG pl 2) (9+k) (11+k)))
noncomputable def Vq(o:DL):DL:=EN (EG o 0) 13 14
def Ih(bh:DU)(os:DM DL)(a b:DL):DM DL:=EN bh ((k5++os.map Vq)++[TW a 0,TW b 1]) ([TW a 0,TW b 1]++(k5++os.map Vq))
noncomputable def YX:DM DL->DM DL->DU
 |_,[]=>DN|l,c::cs=>((zn.any λ p=>EG p.2 c&&FT p.1 l)||(zo.any λ p=>EG p.2 c&&FT p.1 l))&&YX (MM l c) cs
noncomputable def VZ:DM (DM DL):=[[],[0],[1],[0,1]]
noncomputable def Jp(pl:DL):DL:=EN (FW pl 2) pl 3
def Vx(l:DM DL):DU:=YX [] l&&Bo.any (FT (l.foldl MM []))
theorem na:Vx [0,1,2,3,4,5]=DN:=by decide+kernel
theorem anB:(VZ.all λ os=>[0,1,2,3].all λ a=>[0,1,2,3].all λ b=>Vx (Ih DN os a b)&&Vx (Ih DT os a b))=DN:=by decide+kernel
theorem anA{l cs:DM DL}{c:DL}(h:YX l (c::cs)=DN):Ik (l,c)=DN/\YX (MM l c) cs=DN:=by
 have key:∀{wW:DM (DM DL×DL)},wW.all Ik=DN->(wW.any λ p=>EG p.2 c&&FT p.1 l)=DN->Ik (l,c)=DN:=λ hr q=>by
  obtain⟨p,m,e⟩:=Ab.mp q;rw[<-hJ (DO e).2,<-JD (DO e).1];exact FQ.mp hr p m
 exact⟨MJ (DO h).1 (key amK) (key amL),(DO h).2⟩
def Xw:Lv:=mQ (DK (.str [])) (DK (.ref 11)) DP
def jw(N:DL)(v:V)(m:Lv):M (Fl×Lv):=M.bind (IY (EE EF) (RF N) (ZC Ft) v m) λ m=>FC (EE EF) (RF N) (PC Ft) m
section
variable (O:FP C)(G_:KN C EF (PK Ep))(hN:12<=N)
theorem Zi:OY C (PK Ep) 0:=λ J J J h=>EW h
include O G_ hN
theorem aDM{l:DM DL}{c:DL}(h:Ik (l,c)=DN){U:aS}{m:Lv}(E:Em C (QB l [] XX) U)(hm:LR C Xw m):
  ∃m' G,jw N (sh C (NY c)) m U=.ok (.next,m') G/\Em C (QB (MM l c) [] XX) G/\LR C Xw m':=by
 obtain⟨m',G,e,q,E'⟩:=(f7 O G_ Zi hN (t:=ZC Ft) (s:=PC Ft) (by decide+kernel) (by decide+kernel) hm (NY c)).nx E (Xl h);exact⟨m',G,e,E',q.sub rfl⟩
theorem T8{its:DM V}(hp:C.pre 11=its){l:DM DL}{lf:DM V}{e:aS}{U:aS}(E:Em C (QB l lf e) U):U[C.ρ 11]? =DK (.list its):=by
 obtain⟨x,e,r⟩:=E.ob 11 (.inst 7001 [] []) rfl;rw[e,r.qV.2,hp];exact DX (λ l=>DK (aH.list l)) (KP its)
theorem avL{its:DM V}(hp:C.pre 11=its)(cs l:DM DL)(k:DL)(U:aS)(m:Lv)(F:DL)(hc:YX l cs=DN)(hd:its.drop k=cs.map (λ c=>sh C (NY c)))(E:Em C (QB l [] XX) U)(hm:LR C Xw m)(hF:cs.length<F):
  ∃m' G,KZ (jw N) (.bN (.cX (C.ρ 11))) F k m U=.ok (.next,m') G/\Em C (QB (cs.foldl MM l) [] XX) G/\LR C Xw m':=by
 induction cs generalizing l k U m F with
 |nil=>cases F with
  |zero=>exact EP hF (St _)|succ F=>exact⟨m,U,o8 (T8 O G_ hN hp E) (MQ (O3.mp hd)),E,hm⟩
 |cons c cs ih=>cases F with
  |zero=>exact EP hF (St _)|succ F=>
   have hd:=Y2 hd;have h1:=anA hc;obtain⟨m1,bS,e1,E1,l1⟩:=aDM O G_ hN h1.1 E hm;obtain⟨m2,dB,e2,E2,l2⟩:=ih _ (k+1) bS m1 F h1.2 hd.2 E1 l1 (ah6 hF);exact⟨m2,dB,(B6 (T8 O G_ hN hp E) hd.1).trans ((mb e1).trans e2),E2,l2⟩
end
theorem Ss.nH{P:Ss->Prop}(n:P .nil)(c:∀t ts,P ts->P (.cons t ts)):∀ts,P ts
 |.nil=>n|.cons t ts=>c t ts (Ss.nH n c ts)
noncomputable def Mu:Ss->Ss->Ss
 |.nil,t=>t|.cons s ss,t=>.cons s (Mu ss t)
theorem al7{x:M (Fl×Lv)}{k:Lv->M (Fl×Lv)}(h:M.bind x (LJ k) U=.ok (.next,m') G):∃m1 bS,x U=.ok (.next,m1) bS/\k m1 bS=.ok (.next,m') G:=by
 have h:R.bind (x U) (LJ k)=_:=h;cases e:x U with
 |bL=>rw[e]at h;exact(by cases h)|cD=>rw[e]at h;exact(by cases h)|ok r bS=>
  rw[e]at h;obtain⟨f,m1⟩:=r;cases f with
  |next=>exact⟨m1,bS,rfl,h⟩
  |ret v=>exact(by cases(YQ (R.ok.inj (h:R.ok (Fl.ret v,m1) bS=_)).1).1)
theorem qg{o:JM}{b:Ss}{m':Lv}{G:aS}{a:Ss}{m:Lv}{U:aS}(h:FC (EE EF) o a m U=.ok (.next,m') G):FC (EE EF) o (Mu a b) m U=FC (EE EF) o b m' G:=by
 induction a using Ss.nH generalizing m U with
 |n=>
  have h:R.ok (Fl.next,m) U=.ok (.next,m') G:=h;rw[<-(YQ (R.ok.inj h).1).2,<-(R.ok.inj h).2];rfl
 |c s ss ih=>
  obtain⟨m1,bS,e1,e2⟩:=al7 (x:=JE (EE EF) o s m) (k:=FC (EE EF) o ss) h;exact(mb e1).trans (ih e2)
section
variable (O:FP C)(G_:KN C EF (PK Ep))(hN:12<=N)
include O G_ hN
theorem ac2{mr:Lv}{b:DU}(e:(EX ZL oQ (Qy UP) m).2 τ=.ok b dY)(E:Em C τ U)(hm:LR C m mr):∃G,Bn EF (RF N) (Qy UP) mr U=.ok b G/\Em C dY G:=by
 have s:=(yE (oa:=oQ) (o:=RF N) O Qq G_ (λ f args=>Pw (f:=f) (args:=args) (K:=0) O G_ Zi hN) (Qy UP) m mr (by decide+kernel) hm).2;exact Sm.val s E e
theorem axH{s:Ss}(ns:OP s=DN){m m' m1:Lv}(hm:LR C m m'){τ dY U:aS}(E:Em C τ U)(e:FC ZL oQ s m τ=.ok (.next,m1) dY):∃m2 G,FC (EE EF) (RF N) s m' U=.ok (.next,m2) G/\LR C m1 m2/\Em C dY G:=(Qd O G_ Zi hN ns hm).nx E e
theorem awG{its:DM V}(hp:C.pre 11=its)(hL:its=EH C (Bc its.length))(hl:its.length∈[6,7,8,9]){cs:DM DL}(hc:YX [] cs=DN)(hf:cs.foldl MM []∈Bo)(hi:its=cs.map (λ c=>sh C (NY c))){U:aS}(E:Em C [.inst 456 [] []] U):
  ∃G,RF (N+1) 343 [.ref (C.ρ 0),.aR its] U=.ok .none G/\Em C [L! (cs.foldl MM [])] G:=by
 have oN:its.length<=9:=EC (P:=λ k=>k<=9) (by decide) (EC (by decide) (EC (by decide) (EC (by decide) bO))) _ hl;have pG:cs.length<1000:=JX (EZ (MT ((LM _).symm.trans (DX O6 hi).symm)) oN) (by decide);have lr0:LR C [DK (.ref 0),DK (.aR (Bc its.length)),DP,DP,DP,DP] [DK (.ref (C.ρ 0)),DK (.aR its),DP,DP,DP,DP]:=by
  refine⟨rfl,λ i v e=> ?_⟩
  match i with
  |0=>exact EJ (EJ e)▸rfl|1=>exact EJ (EJ e)▸DX (λ l=>DK (DK (V.aR l))) hL|2=>exact(by cases e)|3=>exact(by cases e)|4=>exact(by cases e)|5=>exact(by cases e)|i+6=>exact EW e
 obtain⟨m1,bS,e1,f1,E1⟩:=axH O G_ hN (s:=Yz) (by decide+kernel) lr0 E (Xl (FQ.mp azD _ hl));have E1:Em C (QB [] Ou []) bS:=E1.re (i:=11) (o':=.inst 7001 [] []) (show 11<13 by decide) ((E1.dN (i:=11) (o:=.list (Bc its.length)) rfl rfl).trans (by
  show DK (aH.list (EH C (Bc its.length)))=DK (.list (C.pre 11++[]));rw[<-hL,hp,KP])) (.cJ (.inr ⟨rfl,hp▸EZ oN (by decide)⟩))
 have lr1:LR C (mQ DP DP DP) m1:=⟨f1.1,λ i v e=>by
  match i with
  |0=>exact f1.2 0 v e|1=>exact(by cases e)|2=>exact f1.2 2 v e|3=>exact(by cases e)|4=>exact(by cases e)|5=>exact(by cases e)|i+6=>exact EW e⟩
 obtain⟨dB,e2,E2⟩:=ac2 O G_ hN (uz aDA) E1 lr1;obtain⟨m3,cN,e3,f3,E3⟩:=(show Sm C (FR C) (JE ZL oQ V' (mQ DP DP DP)) (JE (EE EF) (RF N) V' m1)from adC (oa:=oQ) (o:=RF N) O Qq G_ (λ f args=>Pw (f:=f) (args:=args) (K:=0) O G_ Zi hN) _ _ _ _ (by decide+kernel) lr1).nx E2 (Xl az8);obtain⟨m4,qQ,e4,E4,l4⟩:=avL O G_ hN hp cs [] 0 cN m3 1000 hc hi E3 f3 pG;obtain⟨xQ,e5,E5⟩:=ac2 O G_ hN (uz (FQ.mp aD9 _ hf)) E4 (l4.sub rfl);have ef:FC (EE EF) (RF N) (.cons Ft .nil) m3 cN=.ok (.next,m4) qQ:=(i_ (v:=.ref (C.ρ 11)) (s:=.cX (C.ρ 11)) (RZ (f3.2 4 (.ref 11) rfl)) (DX (λ x:DQ aH=>oo DP (oo DP ((x.bind oL).map λ J=>JO.cX (C.ρ 11)))) (T8 O G_ hN hp E3))).trans (mb e4);have eb:FC (EE EF) (RF N) (PC UP) m1 dB=.ok (.next,m4) qQ:=(mb e3).trans ef;have ew:JE (EE EF) (RF N) UP m1 bS=.ok (.next,m4) xQ:=P? (x:=Gm (λ m=>Bn EF (RF N) (Qy UP) m) (λ m=>FC (EE EF) (RF N) (PC UP) m) 1000 m1) ((mb e2).trans ((mb eb).trans (mb e5)));have ewhole:FC (EE EF) (RF N) (Mu Yz (.cons UP .nil)) [DK (.ref (C.ρ 0)),DK (.aR its),DP,DP,DP,DP] U=.ok (.next,m4) xQ:=(qg e1).trans (mb ew);refine EL (FQ.mp ap5 _ hf) λ p ep q=> ?_;obtain⟨p',e6,q1,E6⟩:=c_ O E5 E.nn [] .none p ep;rw[Py (DO q).2]at E6;have call:RF (N+1) 343 [.ref (C.ρ 0),.aR its] U=LS (EE EF) .no U.length (FC (EE EF) (RF N) (Mu Yz (.cons UP .nil)) [DK (.ref (C.ρ 0)),DK (.aR its),DP,DP,DP,DP] U):=Ej (fn:=vE) rfl rfl;refine⟨p'.2,?_,E6⟩;rw[call,ewhole];exact(DX M.o2 e6).trans (DX (λ v=>R.ok v p'.2) (show p'.1=.none from q1.trans (DX (sh C) (PW (DO q).1))))
end
theorem aBO{C I_:Cf}(e:C.bx=I_.bx)(d:DL):∀v:V,PD d v=DN->sh C v=sh I_ v:=by
 induction d with
 |zero=>exact λ J h=>FB h
 |succ d ih=>
  have il:∀{B:DM V},B.all (PD d)=DN->EH C B=EH I_ B:=λ {B} h=>(hG B).trans ((ax λ u m=>ih u (FQ.mp h u m)).trans (hG B).symm);intro v;apply @V.casesOn (λ v=>PD (d+1) v=DN->sh C v=sh I_ v) v
  ·exact λ J=>rfl
  ·exact λ J J=>rfl
  ·exact λ J J=>rfl
  ·exact λ J J=>rfl
  ·exact λ B h=>DX V.aR (il h)
  ·exact λ B h=>DX V.aX (il h)
  ·exact λ ks B h=>DX (V.bZ ks) (il (DO h).2)
  ·exact λ c ks B h=>DX (V.obj c ks) (il h)
  ·exact λ i h=>EP h FJ
  ·exact λ J J=>rfl
  ·exact λ J J=>rfl
  ·exact λ a i h=>EP h FJ
  ·exact λ k w h=>Vw e k
theorem anJ(hk:JF ks=DN)(h:∀v∈B,aY d 0 v):aY (d+1) 0 (.bZ ks B):=.hO λ D τ m keep f hf=>(DX (og · _) hk).trans (DX (·.map (V.bZ ks)) (ZG λ v mv=>h v mv D τ m keep f (GI _) hf))
theorem Vg(b:DU):aY 40 0 (VH b):=by cases b<;>exact HZ rfl rfl 0
def Rw.cd(r:Rw):DM DL:=Ih r.bh r.os r.bX r.bY
def Ca(pl k:DL)(p:LI):V:=EN (nB pl) (HJ pl k p) (JH [78])
def alW(r:Rw):DM V:=[wr (.int r.p0.sp) r.p0.w r.p0.i,wr (.int r.p1.sp) r.p1.w r.p1.i,VH r.p0.b0,VH r.p0.b1,VH r.p1.b0,VH r.p1.b1,Ca r.bX 0 r.p0,Ca r.bY 1 r.p1]
def V3(r:Rw)(its:DM V)(k:DL):V:=EN (FW 30 k) (oe (its[k-30]?) .none id) (EN (FW 20 k) (oe ((alW r)[k-20]?) .none id) .none)
noncomputable def V!(its:DM V)(k:DL):DM V:=EN (EG k 11) its []
noncomputable abbrev LQ(r:Rw)(its:DM V)(U:aS)(a:DL):Cf:=FN U [a] (V3 r its) (V! its) λ J J=>DP
def Cg(l:DM DL)(i:V):Mv:=⟨dV (kQ l),dV (pQ l),.bZ [.str []] [.obj 325 [495623108980,126879598928246,1936028533] [dV (tQ l),dV (vQ l),.bZ [] []]],dV (gQ l),i,.obj 325 [495623108980,126879598928246,1936028533] [dV (tQ l),dV (vQ l),.bZ [] []],dV (tQ l),.bZ [] []⟩
def GF(q:DM V×DM V)(p:Tx×V):DU:=oe (HY q.1 q.2 (.str p.1)) DT λ o=>oe o DT λ u=>MK u p.2
theorem Xd{q:DM V×DM V}{l:DM (Tx×V)}(h:l.all (GF q)=DN):iL (dV q) l:=⟨_,_,rfl,λ p m=>EL (FQ.mp h p m) λ o e h=>EL h λ u e2 h=>e.trans (DX DK (e2.trans (DX DK (PW h))))⟩
def Ci(v:V):DU:=IC v&&KH 0 40 v
theorem Jv(h:Ci v=DN):aY 40 0 v:=HZ (DO h).2 (DO h).1 0
def xf(l:DM DL):DU:=(Ci (dV (kQ l))&&(Ci (dV (pQ l))&&(Ci (Cg l .none).t&&(Ci (dV (gQ l))&&(Ci (Cg l .none).D&&Ci (dV (tQ l)))))))&&((JF (ZJ l)&&(l.map NY).all (PD 39))&&(Ot.all (GF (kQ l))&&(W!.all (GF (pQ l))&&(B8.all (GF (tQ l))&&n_.all (GF (gQ l))))))
theorem xg:Bo.all xf=DN:=by decide+kernel
theorem awK{l:DM DL}{i:V}(h:xf l=DN)(gi:aY 40 0 i):JL (Cg l i)/\He (Cg l i):=by
 have a:=DO h;have a1:=DO a.1;have a2:=DO a1.2;have a3:=DO a2.2;have a4:=DO a3.2;have a5:=DO a4.2;have b:=DO (DO a.2).2;have b2:=DO b.2;have b3:=DO b2.2;exact⟨⟨Xd b.1,Xd b2.1,⟨_,_,rfl,EC rfl bO⟩,⟨_,rfl⟩,Xd b3.1,Xd b3.2,Jv a1.1,Jv a2.1,Jv (v:=(Cg l .none).t) a3.1,Jv a4.1,gi,Jv (v:=(Cg l .none).D) a5.1,Jv a5.2⟩,rfl,rfl⟩
theorem ajL(cs l:DM DL)(c:DL)(h:c∈cs.foldl MM l):c∈l∨c∈cs:=by
 induction cs generalizing l with
 |nil=>exact .inl h|cons x cs ih=>
  have key:∀{b:DU},c∈EN b l (l++[x])->c∈l∨c∈x::cs:=λ {b} q=>by
   cases b with
   |true=>exact .inl q|false=>exact(OW.mp q).imp id λ q=>(GY.mp q:c=x)▸List.Mem.head _
  exact(ih (MM l x) h).elim (λ q=>key q) λ q=>.inr (.tail _ q)
theorem pf{bx:DL->V}{kn:DL->Tx->DQ V}{o:O}(E:Em (FN U [a] bx pre kn) [o] G)(al:a<U.length)(n:gB o=DN):G=U.set a (JJ (FN U [a] bx pre kn) o):=by
 have o0:G[a]? =_:=E.dN (i:=0) rfl n;have hl:=Yi E rfl;refine Sh λ j=> ?_;by_cases ja:a=j
 ·subst ja;exact o0.trans (OV al).symm
 ·rw[TA ja];rcases TE j U.length with q|q
  ·exact SH E q λ m=>ja (GY.mp m).symm
  ·rw[MQ q,MQ (hl▸q)]
section
variable {r:Rw}(R:Am r)
include R
theorem au7(its:DM V)(U:aS)(a:DL):r.dH=r.cd.map λ c=>sh (LQ r its U a) (NY c):=by
 have hk:k5.map (λ c=>sh (LQ r its U a) (NY c))=ZE:=rfl;have ho:(r.os.map Vq).map (λ c=>sh (LQ r its U a) (NY c))=r.os.map λ o=>JH (KB o):=Jz (P:=λ l=>(l.map Vq).map (λ c=>sh (LQ r its U a) (NY c))=l.map λ o=>JH (KB o)) R.os rfl rfl rfl rfl;have h2:[TW r.bX 0,TW r.bY 1].map (λ c=>sh (LQ r its U a) (NY c))=r.eM:=by
  have h0:=R.h0;have h1:=R.h1;obtain⟨os,bX,p0,bY,p1,bh⟩:=r;have a0:=SJ (P:=λ pl=>sh (LQ ⟨os,pl,p0,bY,p1,bh⟩ its U a) (NY (TW pl 0))=HJ pl 0 p0) h0 rfl rfl rfl rfl rfl rfl;have a1:=SJ (P:=λ pl=>sh (LQ ⟨os,bX,p0,pl,p1,bh⟩ its U a) (NY (TW pl 1))=HJ pl 1 p1) h1 rfl rfl rfl rfl rfl rfl;exact congr (DX (λ x y=>[x,y]) a0) a1
 unfold Rw.dH Rw.cd Ih Rw.kn;cases r.bh
 ·show r.eM++_=Sj _ (_++_);rw[YL,YL,hk,ho,h2]
 ·show _++r.eM=Sj _ (_++_);rw[YL,YL,hk,ho,h2]
theorem au6:r.dH.length∈[6,7,8,9]:=by
 have key:∀k:DM V,k.length∈[4,5,6,7]->(EN r.bh (k++r.eM) (r.eM++k)).length∈[6,7,8,9]:=λ k h=>by
  have e:(EN r.bh (k++r.eM) (r.eM++k)).length=k.length+2:=by
   cases r.bh
   ·exact(GC ..).trans (Ly ..)
   ·exact GC ..
  rw[e];exact EC (P:=λ n=>n+2∈[6,7,8,9]) (by decide) (EC (by decide) (EC (by decide) (EC (by decide) bO))) _ h
 exact key r.kn (Jz (P:=λ l=>(ZE++l.map λ o=>JH (KB o)).length∈[4,5,6,7]) R.os (by decide) (by decide) (by decide) (by decide))
theorem amI:YX [] r.cd=DN/\r.cd.foldl MM []∈Bo:=by
 have mn:∀{pl:DL} (k:DL),pl∈JI->TW pl k=TW (Jp pl) k/\Jp pl∈[0,1,2,3]:=λ {pl} k h=>SJ (P:=λ pl=>TW pl k=TW (Jp pl) k/\Jp pl∈[0,1,2,3]) h ⟨rfl,by decide⟩ ⟨rfl,by decide⟩ ⟨rfl,by decide⟩ ⟨rfl,by decide⟩ ⟨rfl,by decide⟩ ⟨rfl,by decide⟩;have m0:=mn 0 R.h0;have m1:=mn 1 R.h1;have e:r.cd=Ih r.bh r.os (Jp r.bX) (Jp r.bY):=by
  unfold Rw.cd Ih;rw[m0.1,m1.1]
 have c:=DO (IH (IH (FQ.mp anB r.os R.os) m0.2) m1.2);have cY:∀{l:DM DL},Vx l=DN->YX [] l=DN/\l.foldl MM []∈Bo:=λ {l} h=>by
  obtain⟨x,m,q⟩:=Ab.mp (DO h).2;exact⟨(DO h).1,hJ q▸m⟩
 rw[e];cases r.bh
 ·exact cY c.2
 ·exact cY c.1
theorem alV{its:DM V}(hg:∀v∈its,aY 36 0 v)(k:DL):aY 40 0 (V3 r its k):=by
 have im:aY 40 0 (JH [78]):=HZ rfl rfl 0;have up:∀{v},aY 36 0 v->aY 40 0 v:=λ h=>h.bB (by decide) (FG _);have ib:∀{pl j p},aY 36 0 (HJ pl j p)->aY 40 0 (Ca pl j p):=λ {pl j p} h=>by
  unfold Ca;cases nB pl
  ·exact im
  ·exact up h
 unfold V3;cases FW 30 k
 ·cases FW 20 k
  ·exact GD 0
  ·exact Bb (EC (LF R.P0.w R.P0.i r.p0.sp).gr (EC (LF R.P1.w R.P1.i r.p1.sp).gr (EC (Vg _) (EC (Vg _) (EC (Vg _) (EC (Vg _) (EC (ib (Cb R.h0 (k:=0) (by decide) R.P0)) (EC (ib (Cb R.h1 (k:=1) (by decide) R.P1)) bO)))))))) _
 ·exact Bb (λ v m=>up (hg v m)) _
structure O0(r:Rw)(its:DM V)(cd:DM DL):Prop where
 hi:∀U a,its=cd.map λ c=>sh (LQ r its U a) (NY c)
 hl:its.length∈[6,7,8,9]
 hc:YX [] cd=DN/\cd.foldl MM []∈Bo
 hg:∀v∈its,aY 36 0 v
def Yk(r:Rw)(its:DM V)(cd:DM DL):Mv:=Cg (cd.foldl MM []) (sh (LQ r its [] 0) (dV (iQ (cd.foldl MM []))))
section
variable {its:DM V}{cd:DM DL}(I:O0 r its cd)
include I
theorem xh:JL (Yk r its cd)/\He (Yk r its cd):=by
 have b:=FQ.mp xg _ I.hc.2;refine awK b ((anJ (d:=36) (DO (DO (DO b).2).1).1 λ v m=> ?_).bB (by decide) (FG _));obtain⟨u,mu,e⟩:=LN.mp (hG (C:=LQ r its [] 0) _▸m);obtain⟨c,mc,eu⟩:=LN.mp mu;have mm:=bc (f:=λ c=>sh (LQ r its [] 0) (NY c)) ((ajL _ _ _ mc).resolve_left KG);rw[<-I.hi [] 0]at mm;rw[<-e,<-eu];exact I.hg _ mm
theorem at3(U:aS)(a:DL):KN (LQ r its U a) EF (PK Ep):=by
 have hb:∀{pl k:DL} {p:LI} (U:aS),pl∈JI->fX U (Ca pl k p) (.int 0)=DK (.str [105,109,112,108])/\fX U (Ca pl k p) (.int 1)=DK i0:=λ {pl k p} U h=>SJ (P:=λ pl=>fX U (Ca pl k p) (.int 0)=DK (.str [105,109,112,108])/\fX U (Ca pl k p) (.int 1)=DK i0) h ⟨rfl,rfl⟩ ⟨rfl,rfl⟩ ⟨rfl,rfl⟩ ⟨rfl,rfl⟩ ⟨rfl,rfl⟩ ⟨rfl,rfl⟩;exact Xh (x:=Ep) ⟨λ J J J=>bO,λ J G J=>EC (hb G R.h0).1 (EC (hb G R.h0).2 (EC (hb G R.h1).1 (EC (hb G R.h1).2 bO))),λ J J J=>bO,λ J J J=>bO⟩
theorem au8(U:aS)(a:DL):its=EH (LQ r its U a) (Bc its.length):=by
 refine Sh λ i=> ?_;rw[Kj];show _=NN _ ((Sj _ _)[i]?);rw[SZ];rcases TE i its.length with q|q
 ·rw[au q];show _=DK (EN (FW 30 (30+i)) (oe (its[30+i-30]?) .none id) _);rw[show FW 30 (30+i)=DN from MS.mpr (HD ..),Ah,JU q];rfl
 ·rw[MQ q,MQ ((agL (n:=its.length)).symm▸q:(MR its.length).length<=i)];rfl
theorem aw2(U:aS)(a:DL):JJ (LQ r its U a) (L! (cd.foldl MM []))=Jn (Yk r its cd):=by
 have b:=DO (FQ.mp xg _ I.hc.2);have b1:=DO b.1;have b2:=DO b1.2;have b3:=DO b2.2;have ns:∀{v},Ci v=DN->sh (LQ r its U a) v=v:=λ h=>LV _ (DO h).1;have hb:=DO (DO b.2).1;have s5:sh (LQ r its U a) (dV (iQ (cd.foldl MM [])))=sh (LQ r its [] 0) (dV (iQ (cd.foldl MM []))):=aBO (C:=LQ r its U a) (I_:=LQ r its [] 0) rfl 40 _ (MA hb.1 hb.2);show aH.inst 456 Yd [sh _ _,sh _ _,sh _ (Cg (cd.foldl MM []) .none).t,sh _ _,sh _ _,_]=_;rw[ns b1.1,ns b2.1,ns b3.1,ns (DO b3.2).1,s5];rfl
theorem xb(g:cP U)(ha:U[a]? =DK (.inst 456 [] []))(hN:13<=N):RF N 343 [.ref a,.aR its] U=.ok .none (U.set a (Jn (Yk r its cd))):=by
 cases N with
 |zero=>exact EP hN (TF _)|succ N=>
 have hl9:its.length<=9:=EC (P:=λ k=>k<=9) (by decide) (EC (by decide) (EC (by decide) (EC (by decide) bO))) _ I.hl;have al:a<U.length:=GX ha;have pk:∀{P:DM V->Prop} (i:DL),P its->P []->P (V! its i):=λ {P} i h k=>by
  unfold V!;cases EG i 11
  ·exact k
  ·exact h
 have O:FP (LQ r its U a):=L? g (RT al) (λ k=>(alV R I.hg k).up) (λ i=>pk (P:=λ l=>∀v∈l,NI U.length v) i (λ v m=>(I.hg v m).bB (by decide) (GI _)) bO) (λ i=>pk (P:=λ l=>l.length<=900) i (EZ hl9 (by decide)) (GI _)) λ J J J h=>EW h;have E:Em (LQ r its U a) [.inst 456 [] []] U:=Ff rfl (VY ⟨_,ha,.dN (o:=.inst 456 [] []) rfl⟩);obtain⟨G,e,E'⟩:=awG O (at3 R I U a) (N:=N) (Ai hN) (its:=its) rfl (au8 R I U a) I.hl I.hc.1 I.hc.2 (I.hi U a) E;exact e.trans (DX (aD.ok V.none) ((pf E' al rfl).trans (DX (λ o=>U.set a o) (aw2 R I U a))))
end
theorem aAJ:O0 r r.dH r.cd:=⟨λ U a=>au7 R _ U a,au6 R,amI R,(Xp R).1⟩
end
def wL:O:=.inst 456 Yd [.bD 0 .none,.bD 1 .none,.bD 2 .none,.bD 3 .none,.bD 4 .none,.bZ [] []]
def M_(j:DL)(τ:aS):DQ (V×aS):=(τ[j]?).bind λ o=>og (Kd o (.inst 456 [] [])&&MV τ) (DK (.none,τ.set j wL))
def ruC(f:DL)(args:DM V):DQ (M V):=(XY args).bind λ p=>(FI p.1).bind λ j=>og (EG f 343&&KL p.2 [.bD 7 .none]) (DK (M.st (M_ j)))
def p_:Hk:={VQ with ru:=ruC}
def V9:aS:=[.inst 825 [495756604521,32481138822115181,431316168567,1702125932,1684371311] [.bD 7 .none,.ref 1,.ref 2,.ref 10,.ref 11],wL,
 .inst 687 [32481138822115181,1937007713,8319395776320135542,1936157043,126943821394548,495740546409,126943990017891,126879397080930] [.ref 1,.ref 3,.ref 4,.ref 5,.ref 6,.ref 7,.ref 8,.ref 9],
 .dict [] [],.dict [] [],.dict [] [],.dict [] [],.list [],.dict [] [],.dict [] [],.list [],.list []]
theorem an6:IJ (RA p_ 20 738 [.ref 0,.bD 7 .none] [.inst 825 [] []]) .none V9=DN:=by decide+kernel
def Pl(i:DL):DL:=oe ([0,11,2,7,3,4,5,6,9,10,12][i]?) 1 id
def aC(n i:DL):DL:=n+Pl i
theorem axL:∀i,i<12->∀j,j<12->Pl i=Pl j->i=j:=by decide
theorem axM:∀i,i<12->Pl i<13:=by decide
noncomputable def US:O:=.inst 825 [] []
noncomputable abbrev Ij(U:aS)(mv:Mv)(its:V):Cf:=GS (U++[US]) [U.length] (Az mv its) λ J=>[]
theorem aAQ(O:FP (Ij U mv its))(hm:∀U a N,cP U->U[a]? =DK (.inst 456 [] [])->13<=N->RF N 343 [.ref a,its] U=.ok .none (U.set a (Jn mv))):OY (Ij U mv its) p_ 20:=λ f args m hr N hN=>ob hr λ p e1 h=>ob h λ j e2 h=>EO h λ q h=>by
 rw[<-EJ h,Gl e1,IX e2,JD (DO q).1,PY (DO q).2];intro τ G E;show Sr _ (vr _) (M.o2 (M_ j τ)) _;unfold M_;cases e:τ[j]? with
 |none=>trivial|some o=>
  show Sr _ (vr _) (M.o2 (og (Kd o _&&MV τ) _)) _;cases q:Kd o (.inst 456 [] [])&&MV τ with
  |false=>trivial|true=>
   have e:=e.trans (DX DK (a6 (DO q).1));exact⟨_,_,hm G _ N (VJ O E (DO q).2) (E.dN e rfl) (EZ (by decide) hN),rfl,E.set O e (.dN rfl)⟩
theorem azE(i:DL):∀v∈OB i,HY [] [] v=DK DP:=by
 unfold OB YT;cases EG i 6
 ·cases EG i 7
  ·exact bO
  ·exact EC rfl (EC rfl (EC rfl bO))
 ·exact EC rfl (EC rfl bO)
theorem an5(Mk:JL mv)(gi:aY 40 0 its)(hm:∀U a N,cP U->U[a]? =DK (.inst 456 [] [])->13<=N->RF N 343 [.ref a,its] U=.ok .none (U.set a (Jn mv)))(g:cP U){N:DL}(hN:40<=N):
  ∃bS,RF N 738 [.ref U.length,its] (U++[US])=.ok .none bS/\bS.length=U.length+12/\(∀j,j<U.length->bS[j]? =U[j]?)/\cP bS/\RS (aC U.length) mv its (.ref (U.length+8)) WD 30 (bS++[.list []]):=by
 have l1:(U++[US]).length=U.length+1:=QZ _ _;have O:FP (Ij U mv its):=VV (g.cJ ⟨rfl,bO⟩) (RT (l1▸Sp _)) (V2 Mk gi _);have E:Em (Ij U mv its) [US] (U++[US]):=Ff rfl (VY ⟨_,NK,.dN (o:=US) rfl⟩);obtain⟨bS,e,E1⟩:=Zj O (hk:=p_) ⟨λ J J J J J J h=>(EW h),λ J J J J J J h=>(EW h),λ J J J J J J h=>(EW h),λ J J J J J J h=>(EW h),λ J J J J h=>EP h FJ⟩ (aAQ O hm) hN E (SD an6);have rg:∀i,(Ij U mv its).ρ i=U.length+i:=λ i=>match i with
  |0=>rfl|i+1=>(Yh (TG (GI _))).trans ((DX (·+i) l1).trans (Q1 U.length i))
 have eC:Ij U mv its=⟨λ i=>U.length+i,Az mv its,λ J=>[],λ J J=>DP,(U++[US]).length,U++[US]⟩:=DX (λ ρ=>Cf.mk ρ (Az mv its) (λ J=>[]) (λ J J=>DP) (U++[US]).length (U++[US])) (funext rg);have bQ:bS.length=U.length+12:=(E1.al 0).symm.trans (rg 12);have ap:∀(i:DL) o,V9[i]? =DK o->gB o=DN->(bS++[aH.list []])[U.length+i]? =DK (JJ ⟨λ i=>U.length+i,Az mv its,λ J=>[],λ J J=>DP,(U++[US]).length,U++[US]⟩ o):=λ i o h n=>by
  have q:=(DX (λ k=>bS[k]?) (rg i)).symm.trans ((E1.dN h n).trans (DX (λ C=>DK (JJ C o)) eC));exact(KQ (GX q)).trans q
 have gs:cP bS:=VJ O E1 (by decide);have dk:∀i,V9[Pl i]? =DK (.dict [] [])->Dk (bS++[aH.list []]) (aC U.length i) 30 (OB i) (λ J=>DP):=λ i h=>⟨[],[],ap _ _ h rfl,rfl,rfl,GI _,λ t m=>azE i _ m,bO⟩;refine⟨bS,e,bQ,λ j hj=>(SH E1 (l1▸Dr hj) λ m=>VB _ (GY.mp m▸hj)).trans (KQ hj),gs,gs.cJ ⟨rfl,bO⟩,λ i j hi hj h=>axL i hi j hj (bk h),λ i hi=> ?_,λ i o e=> ?_,
  Wo (λ i=>Dk (bS++[aH.list []]) (aC U.length i) 30 (OB i) (λ J=>DP)) (dk 4 rfl) (dk 5 rfl) (dk 6 rfl) (dk 7 rfl) (dk 8 rfl),ap 1 _ rfl rfl,λ J J J h=>(EW h),bO,⟨GI _,GI _⟩,GI _,GI _⟩
 ·rw[QZ,bQ];exact agW (axM i hi) U.length
 ·exact q_ (P:=λ i=>∀o,Eu (aC U.length) its (.ref (U.length+8)) WD i=DK o->(bS++[aH.list []])[aC U.length i]? =DK o) (f_ e) (λ J e=>(ap 0 _ rfl rfl).trans e) (λ J e=>(ap 11 _ rfl rfl).trans e) (λ J e=>(ap 2 _ rfl rfl).trans e) (λ J e=>(ap 7 _ rfl rfl).trans e) (λ J e=>EW e) (λ J e=>EW e) (λ J e=>EW e) (λ J e=>EW e) (λ J e=>EW e) (λ J e=>(ap 10 _ rfl rfl).trans e) (λ J e=>((DX (λ k=>(bS++[aH.list []])[k]?) bQ.symm).trans NK).trans e) (λ J e=>EW e) o e
noncomputable def Nj:E:=.call (.bJ 53) (.cons (.bi .tuple (.cons (.loc 0) .nil)) .nil)
def Nv:Ss:=.cons (.ex (.bK Nj 7239026 .nil)) .nil
noncomputable def Nw:Ss:=.cons (.ret (.aU (.loc 1) 1953460339)) .nil
def XT(o:DQ DY):V:=oe o .none .int
theorem qh{f:E}{H:Es}{g:V}(h:(EX (EE EF) o f m).1 U=.ok g U)(hs:(HL (EE EF) o H m).1 U=.ok B U):(EX (EE EF) o (.call f H) m).1 U=WY EF o g B U:=(mb h).trans (mb hs)
theorem rj{its:DM V}(Mk:JL mv)(gi:aY 40 0 (.aR its))(hl:GE its.length=DN)(hm:∀U a N,cP U->U[a]? =DK (.inst 456 [] [])->13<=N->RF N 343 [.ref a,.aR its] U=.ok .none (U.set a (Jn mv)))
  {res:DQ DY}(hr:∀(A:DL->DL) (ca N:DL) (U:aS),73<=N->cP U->ca<U.length->RS A mv (.aR its) (.ref ca) WD 30 (U++[.list []])->A 10=U.length->∃G,G.length=U.length/\(∀j,j<U.length->(∀i,i<12->A i≠j)->G[j]? =U[j]?)/\RF (N+1) 743 [.ref (A 0)] U=oe res (.ok (.ref (A 2)) G) λ s=>.cD (NV s) G)
  (ar:DL):Pu (λ U=>U[ar]? =DK (.list its)) 80 916 [.ref ar] (XT res):=λ U g h N hN=>by
 match N,hN with
 |N+2,hN=>
 have hN:78<=N:=Ai (Ai hN);obtain⟨bS,c1,c2,c3,c4,c5⟩:=an5 Mk gi hm g (N:=N+1) (EZ (by decide) (P9 hN));have up:∀k,k<12->U.length+k<bS.length:=λ k hk=>c2▸agW hk _;obtain⟨dB,r1,r2,r3⟩:=hr _ _ N bS (EZ (by decide) hN) c4 (up 8 (by decide)) c5 c2.symm;have o0:bS[U.length]? =_:=(KQ (up 0 (by decide))).symm.trans (c5.fx 0 _ rfl);have hs:hZ U dB:=⟨r1▸WQ (up 0 (by decide)),λ j hj=>(r2 j (bn hj (up 0 (by decide))) λ i J e=>VB _ (JX (HD ..) (e▸hj:aC U.length i<U.length))).trans (c3 j hj)⟩;have ht:gJ .tuple [.ref ar] U=DK (.aR its,U):=by
  show oo DP (((U[ar]?).bind oL).bind _)=_;rw[h];show og (GE its.length) _=_;rw[hl];rfl
 have e0:(HL (EE EF) (RF (N+1)) (.cons (.bi .tuple (.cons (.loc 0) .nil)) .nil) [DK (.ref ar),DP]).1 U=.ok [.aR its] U:=mb (show(EX (EE EF) (RF (N+1)) (.bi .tuple (.cons (.loc 0) .nil)) [DK (.ref ar),DP]).1 U=.ok (.aR its) U from Zz (f:=gJ .tuple [.ref ar]) ht);have e1:(EX (EE EF) (RF (N+1)) Nj [DK (.ref ar),DP]).1 U=.ok (.ref U.length) bS:=by
  exact(qh (g:=.cls 825) (rfl:(EX (EE EF) (RF (N+1)) (.bJ 53) [DK (.ref ar),DP]).1 U=.ok (.cls 825) U) e0).trans (DX (Co (.ref U.length)) c1)
 have k:KA EF bS (.ref U.length) 7239026=DK 743:=by
  unfold KA;rw[Au o0];rfl
 have e2:(EX (EE EF) (RF (N+1)) (.bK Nj 7239026 .nil) [DK (.ref ar),DP]).1 U=RF (N+1) 743 [.ref U.length] bS:=by
  refine(mb e1).trans ?_;show oe (KA EF bS (.ref U.length) 7239026) _ (λ f=>RF (N+1) f [.ref U.length] bS)=_;rw[k];rfl
 have call:RF (N+2) 916 [.ref ar] U=LS (EE EF) .no U.length (FC (EE EF) (RF (N+1)) (.cons (.try Nv 1 Nw) (.cons (.ret (.k .none)) .nil)) [DK (.ref ar),DP] U):=Ej (fn:=vJ) rfl rfl;cases res with
 |none=>
  have eb:FC (EE EF) (RF (N+1)) Nv [DK (.ref ar),DP] U=.ok (.next,[DK (.ref ar),DP]) dB:=mb (show JE (EE EF) (RF (N+1)) (.ex (.bK Nj 7239026 .nil)) [DK (.ref ar),DP] U=_ from mb (e2.trans r3));exact(call.trans (DX (LS (EE EF) .no U.length) (mb (show JE (EE EF) (RF (N+1)) (.try Nv 1 Nw) [DK (.ref ar),DP] U=_ from DX (Kt 1 (FC (EE EF) (RF (N+1)) Nw) [DK (.ref ar),DP]) eb)))).trans (DX M.o2 (Ir g hs (v:=.none) rfl))
 |some s=>
  have eb:FC (EE EF) (RF (N+1)) Nv [DK (.ref ar),DP] U=.cD (NV s) dB:=L (show JE (EE EF) (RF (N+1)) (.ex (.bK Nj 7239026 .nil)) [DK (.ref ar),DP] U=_ from L (e2.trans r3));exact(call.trans (DX (LS (EE EF) .no U.length) (mb (show JE (EE EF) (RF (N+1)) (.try Nv 1 Nw) [DK (.ref ar),DP] U=.ok (.ret (.int s),[DP,DP]) dB from DX (Kt 1 (FC (EE EF) (RF (N+1)) Nw) [DK (.ref ar),DP]) eb)))).trans (DX M.o2 (Ir g hs (v:=.int s) rfl))
theorem apL{r:Rw}(R:Am r)(ar:DL):Pu (λ U=>U[ar]? =DK (.list r.dH)) 80 916 [.ref ar] (XT r.res):=
 have I:=aAJ R;have M:=xh R I;have ig:=Xp R
 rj M.1 ((Qt ig.1).bB (by decide) (FG _)) (MS.mpr (JX ig.2 (by decide))) (λ U a N g h hN=>xb R I g h hN) (res:=r.res) (λ A ca N U hN g jC G_ fI=>aB3 R M.1 M.2 hN rfl g jC G_ fI) ar
noncomputable def uD:LI:=⟨[],1,10,DN,DT⟩
def Ze:Rw:=⟨[],0,uD,0,⟨[],1,11,DN,DT⟩,DN⟩
theorem UM:Am Ze:=⟨by decide,by decide,by decide,⟨by decide,by decide⟩,⟨by decide,by decide⟩,rfl,rfl⟩
def Cd:DM V:=ZE++[HJ 0 0 uD]
theorem Xq:O0 Ze Cd [0,1,2,3,4,5]:=by
 have ig:=(Xp UM).1;obtain⟨x,m,q⟩:=Ab.mp (DO na).2;exact⟨λ U a=>rfl,.head _,⟨(DO na).1,hJ q▸m⟩,VE (λ v m=>ig v (RO Ze.eM (RO _ m))) (EC (Cb (by decide) (by decide) UM.P0) bO)⟩
theorem aB5{A:DL->DL}(Mk:JL mv)(B_:He mv){ca N:DL}(hN:73<=N){U:aS}(g0:cP U)(jC:ca<U.length)(G_:RS A mv (.aR Cd) (.ref ca) WD 30 (U++[.list []]))(fI:A 10=U.length):
  ∃G,G.length=U.length/\(∀j,j<U.length->(∀i,i<12->A i≠j)->G[j]? =U[j]?)/\RF (N+1) 743 [.ref (A 0)] U=oe (DK 10) (.ok (.ref (A 2)) G) λ s=>.cD (NV s) G:=by
 have ig:=Xq.hg;have gi:aY 40 0 (.aR Cd):=(Qt ig).bB (by decide) (FG _);have gl:∀v∈Cd,aY 90 0 (GB v):=λ v m=>(zf (d:=35) (ig v m)).bB (by decide) (FG _);have kn:=vk (λ J J=>DP);have E_:WK A mv (.aR Cd) (.ref ca) N:=⟨Mk,gi,⟨ca,rfl⟩,EZ (by decide) hN⟩;have hN':72<=N-1:=ah1 hN;obtain⟨o3,E3,f3⟩:=Y3 (A:=A) UM Mk hN' UM.h0 (k:=0) (by decide) UM.P0 (.inl rfl);have ET:=qd (A:=A) Mk (Og UM) hN';have SW:=(c9 E_ (s:=WD) rfl).cJ (Qc E_ UM.h0 (k:=0) (by decide) UM.P0 rfl);have SF:=λ (s:CS) (e:s.cA=[]) (k:hV s)=>Qb E_ UM.h0 (k:=0) (by decide) UM.P0 k (q:=0) (by rw[e];rfl) (by decide);obtain⟨G,k1,k2,k3⟩:=O' Mk B_ hN rfl g0 jC gi gl (by decide) (late:=SG 0 0 uD) (by decide) G_ fI SW rfl rfl (SF _ rfl kn.1) (x:=Ze.im) rfl kn.2.1 kn.2.2 (ET.cJ E3);exact⟨G,k1,k2,k3.trans (DX (λ x=>oe x (R.ok (V.ref (A 2)) G) λ s=>R.cD (NV s) G) ((kB _ _).trans f3))⟩
theorem apK(ar:DL):Pu (λ U=>U[ar]? =DK (.list Cd)) 80 916 [.ref ar] (.int 10):=
 have M:=xh UM Xq
 rj M.1 ((Qt Xq.hg).bB (by decide) (FG _)) rfl (λ U a N g h hN=>xb UM Xq g h hN) (res:=DK 10) (λ A ca N U hN g jC G_ fI=>aB5 M.1 M.2 hN g jC G_ fI) ar
structure Rl where
 f:DL
 as:DM V
 pre:DM (DL×DM V)
 v:V
def zl(pre:DM (DL×DM V))(τ:aS):DU:=pre.all λ p=>oe ((τ[p.1]?).bind oL) DT λ B=>KL B p.2
noncomputable def F':DM Rl->DL->DM V->DQ (M V)
 |[],_,_=>DP|r::rs,f,args=>oo (og (EG f r.f&&KL args r.as) (DK (M.st λ τ=>og (zl r.pre τ&&MV τ) (here r.v τ)))) (F' rs f args)
structure Rt where
 f:DL
 as:DM V
 k:DL
 v:V
 k':DL
noncomputable def QA(k:DL):DM V:=[.bD (100+2 * k) .none,.bD (101+2 * k) .none]
noncomputable def n7(f:DL)(as B:DM V)(j:DL)(τ:aS):DM Rt->DQ (V×aS)
 |[]=>DP|r::ts=>oo (og (EG f r.f&&(KL as r.as&&KL B (QA r.k))) (DK (r.v,τ.set j (.list (QA r.k'))))) (n7 f as B j τ ts)
def tnM(ts:DM Rt)(f:DL)(as:DM V)(j:DL)(τ:aS):DQ (V×aS):=((τ[j]?).bind oL).bind λ B=>og (MV τ) (n7 f as B j τ ts)
def ruS(ts:DM Rt)(f:DL)(args:DM V):DQ (M V):=(XY args).bind λ p=>(FI p.1).bind λ j=>og (ts.any λ r=>EG f r.f&&KL p.2 r.as) (DK (M.st (tnM ts f p.2 j)))
def PJ(rs:DM Rl)(ts:DM Rt)(sb:DM (DL×V×V)):Hk:={VQ with sba:=fB sb,ru:=λ f args=>oo (F' rs f args) (ruS ts f args)}
noncomputable def ZU(w:DM DL):V:=.aX (w.map λ (x:DL)=>.int (.ofNat x))
noncomputable def WV(b0 b1:DU):V:=.aX [.bool b0,.bool b1]
theorem aET:NE (λ w i=>IJ (RA VQ 12 895 [ZU w,.str (VW i),b7] []) (wr b7 w i) [])=DN:=by decide+kernel
def whB:V:=.aR [(.str [116,117,112,108,101]),b7,.aR [QE [88] i0 [],QE [89] i0 [],.bD 20 .none]]
theorem au5:(JI.all λ pl=>[0,1].all λ k=>TU λ b0 b1=>IJ (RA (PJ [] [] [(20,.int 1,b7)]) 12 909 [.int (.ofNat pl),.int (.ofNat k),WV b0 b1,.bD 20 .none] []) (QY pl k (TZ b0 b1) (.bD 20 .none) whB) [])=DN:=by decide+kernel
def OA(os:DM DL):DM V:=os.map λ o=>.str (KB o)
def VT(os:DM DL):DM V:=ZE++os.map λ o=>JH (KB o)
theorem auI:(VZ.all λ os=>IJ (RA VQ 12 888 [.ref 0] [.list (OA os)]) (.aX (VT os)) [.list (OA os)])=DN:=by decide+kernel
noncomputable def UC(os:DM DL)(b0 b1:DU)(i:DL):DU:=EN (EG i 0) b0 (EN (EG i 1) b1 (EN (EG i 2) (os.any (EG 0)) (os.any (EG 1))))
noncomputable def bx(k:DL):V:=.bD k .none
theorem at4:(VZ.all λ os=>[0,1,2,3].all λ i=>TU λ b0 b1=>IJ (RA VQ 12 928 [.ref 0,.aR [bx 60,WV b0 b1,bx 61,.str (VW i)]] [.list (OA os)]) (.bool (UC os b0 b1 i)) [.list (OA os)])=DN:=by decide+kernel
def Cu(j:DL)(pl:V):V:=.aR [pl,bx (61+10 * j),bx (62+10 * j),bx (63+10 * j)]
noncomputable def Eo(h:DU)(s:DY):DQ DY:=EN h DP (DK s)
def Nu(bX bY:DL)(h0 h1:DU):DQ DY:=KE (EN (NX bX) (Eo h0 10) DP) (KE (EN (NX bY) (Eo h1 11) DP) (KE (EN (NX bX) DP (Eo h0 10)) (EN (NX bY) DP (Eo h1 11))))
def pd(bX bY:DL)(h0 h1:DU):DM Rl:=[⟨928,[bx 66,Cu 0 (.int (.ofNat bX))],[],.bool h0⟩,⟨928,[bx 66,Cu 1 (.int (.ofNat bY))],[],.bool h1⟩]
def A'(p q:DL):aS:=[.list [Cu 0 (.int (.ofNat p)),Cu 1 (.int (.ofNat q))]]
theorem anZ:(JI.all λ p=>JI.all λ q=>TU λ h0 h1=>IJ (RA (PJ (pd p q h0 h1) [] []) 12 933 [bx 66,.ref 0] (A' p q)) (XT (Nu p q h0 h1)) (A' p q))=DN:=by decide+kernel
def Cq:DM V:=[Cu 0 (bx 60),Cu 1 (bx 70)]
def D?(os:DM DL)(bh:DU):DM V:=EN bh (VT os++[bx 50,bx 51]) ([bx 50,bx 51]++VT os)
def riR(os:DM DL)(bh:DU)(v:V):DM Rl:=[⟨895,[bx 62,bx 63,.int 10],[],bx 20⟩,⟨895,[bx 72,bx 73,.int 11],[],bx 21⟩,⟨909,[bx 60,.int 0,bx 61,bx 20],[],bx 50⟩,⟨909,[bx 70,.int 1,bx 71,bx 21],[],bx 51⟩,
 ⟨888,[bx 66],[],.aX (VT os)⟩,⟨916,[.ref 2],[(2,D? os bh)],v⟩,⟨933,[bx 66,.ref 0],[(0,Cq)],v⟩]
noncomputable def WB:DM (DQ DY):=[DP,DK 10,DK 11]
def N'(os:DM DL)(bh:DU)(v:V):R V:=RA (PJ (riR os bh v) [] []) 12 940 [bx 66,.ref 0,.bool bh] [.list Cq]
theorem aAF:(VZ.all λ os=>WB.all λ v=>IJ (N' os DN (XT v)) (.bool DN) [.list Cq]&&IJ (N' os DT (XT v)) (.bool DN) [.list Cq])=DN:=by decide+kernel
def s8(n:DL):DM V:=(MR n).map λ q=>bx (91+q)
noncomputable def Kq(b:DU):V:=.int (EN b 0 1)
def pa(c0 c1:DU)(n i:DL):DM Rt:=[⟨857,[.int 6],0,bx 90,1⟩,⟨857,[.int 2],1,Kq c0,2⟩,⟨857,[.int 2],2,Kq c1,3⟩,⟨857,[.int 3],3,.int (.ofNat n),4⟩]++
 ((MR n).map λ q=>⟨857,[.int 4],4+q,bx (91+q),5+q⟩)++[⟨857,[.int 4],4+n,.int (.ofNat i),5+n⟩]
theorem anW:([0,1,2].all λ n=>[0,1,2,3].all λ i=>TU λ c0 c1=>IJ (RA (PJ [] (pa c0 c1 n i) []) 12 921 [.ref 0] [.list (QA 0)]) (.aR [bx 90,WV c0 c1,.aX (s8 n),.str (VW i)]) [.list (QA (5+n))])=DN:=by decide+kernel
def lS(n:DL):S:=MI n vC
noncomputable abbrev yr(rs:DM Rl)(ts:DM Rt):JM:=RA (PJ rs ts []) 12
def S? :DM Rl:=[⟨916,[.ref 5],[(5,Cd)],.int 10⟩]
def fg(C:Cf)(K:DL)(r:Rl):Prop:=∀τ U,Em C τ U->cP U->(∀p∈r.pre,U[C.ρ p.1]? =DK (.list (EH C p.2)))->∀N,K<=N->RF N r.f (EH C r.as) U=.ok (sh C r.v) U
def jL(C:Cf)(K:DL)(r:Rt):Prop:=∀j U,cP U->U[C.ρ j]? =DK (.list (EH C (QA r.k)))->∀N,K<=N->RF N r.f (.ref (C.ρ j)::EH C r.as) U=.ok (sh C r.v) (U.set (C.ρ j) (.list (EH C (QA r.k'))))
theorem Em.list(E:Em C τ U){j:DL}{B:DM V}(h:(τ[j]?).bind oL=DK B):U[C.ρ j]? =DK (.list (EH C B)):=Internal.ob h λ o e1 e2=>(E.dN e1 (Pk (C:=C) e2).1).trans (DX (λ o=>DK (JJ C o)) (XP e2))
theorem aAR(O:FP C){K N:DL}(hN:K<=N){f:DL}{args:DM V}{m:M V}{rs:DM Rl}(G_:∀r∈rs,fg C K r)(h:F' rs f args=DK m):Sm C (vr C) m (RF N f (EH C args)):=by
 induction rs with
 |nil=>exact EW h|cons r rs ih=>
  refine FH h (λ h=>EO h λ q h=> ?_) λ h=>ih (λ r m=>G_ r (.tail _ m)) h;rw[<-EJ h,JD (DO q).1,PY (DO q).2];intro τ U E;refine Sr.rV (x:=og (zl r.pre τ&&MV τ) (here r.v τ)) λ p h=>EO h λ q h=>⟨_,_,G_ r (.head _) τ U E (VJ O E (DO q).2) (λ x m=>EL (FQ.mp (DO q).1 x m) λ B e q=>PY q▸E.list e) N hN,?_⟩;exact EJ h▸⟨rfl,E⟩
theorem aD1{f j:DL}{as B:DM V}{τ:aS}{p:V×aS}{ts:DM Rt}(h:n7 f as B j τ ts=DK p):∃r∈ts,f=r.f/\as=r.as/\B=QA r.k/\(r.v,τ.set j (.list (QA r.k')))=p:=by
 induction ts with
 |nil=>exact EW h|cons r ts ih=>
  exact FH h (λ h=>EO h λ q h=>⟨r,.head _,JD (DO q).1,PY (DO (DO q).2).1,PY (DO (DO q).2).2,EJ h⟩) λ h=>by
   obtain⟨r,m,e⟩:=ih h;exact⟨r,.tail _ m,e⟩
theorem aAY(O:FP C){K N:DL}(hN:K<=N){f:DL}{args:DM V}{m:M V}{ts:DM Rt}(G_:∀r∈ts,jL C K r)(h:ruS ts f args=DK m):Sm C (vr C) m (RF N f (EH C args)):=ob h λ p e1 h=>ob h λ j e2 h=>EO h λ J h=>by
 rw[<-EJ h,Gl e1,IX e2];intro τ U E;refine Sr.rV (x:=tnM ts f p.2 j τ) λ p h=>ob h λ B e h=>EO h λ q h=> ?_;obtain⟨r,mr,e3,e4,e5,e6⟩:=aD1 h;rw[e3,e4,<-e6];rw[e5]at e;exact ob e λ o e1 J=>⟨_,_,G_ r mr j U (VJ O E q) (E.list e) N hN,rfl,E.set O e1 (.dN (o:=.list (QA r.k')) rfl)⟩
theorem Ja(O:FP C){K:DL}{rs:DM Rl}{ts:DM Rt}{sb:DM (DL×V×V)}(h1:∀r∈rs,fg C K r)(h2:∀r∈ts,jL C K r):OY C (PJ rs ts sb) K:=λ J J J hm J hN=>FH hm (aAR O hN h1) (aAY O hN h2)
theorem Iz{rs:DM Rl}{ts:DM Rt}(h:∀U,∀p∈sb,fX U (C.bx p.1) (sh C p.2.1)=DK (sh C p.2.2)):KN C EF (PJ rs ts sb):=⟨λ J J J J J J h=>(EW h),λ J U J J J J q=>h U _ (a_ q),λ J J J J J J h=>(EW h),λ J J J J J J h=>(EW h),λ J J J J h=>EP h FJ⟩
theorem ad7:NE (λ w i=>IC (ZU w)&&KH 0 40 (ZU w))=DN:=by decide+kernel
noncomputable def Vj(v7 kH:V)(k:DL):V:=EN (EG k 7) v7 (EN (EG k 20) kH .none)
theorem V1{v7 kH:V}(h7:aY 40 0 v7)(yZ:aY 40 0 kH)(N k:DL):aY 40 N (Vj v7 kH k):=by
 unfold Vj;cases EG k 7
 ·cases EG k 20
  ·exact GD N
  ·exact yZ.up
 ·exact h7.up
theorem ad6{w:DM DL}(hw:w∈Ar)(hi:i∈[0,1,2,3])(sp:DY):Pu (λ J=>True) 12 895 [ZU w,.str (VW i),.int sp] (wr (.int sp) w i):=
 U' (hk:=VQ) (bx:=Vj (.int sp) .none) (K:=0) (n:=12) (λ U J k=>V1 (ME sp) (GD 0) _ k) (λ U J J=>⟨Xg _,λ J J J h=>EW h⟩) (SD (NF aET hw hi)) (λ U=>DX (λ t:V=>([t,.str (VW i),.int sp]:DM V)) (LV _ (DO (NF ad7 hw hi)).1)) λ U=>E8 b7 w i
theorem au4(h:pl∈JI)(b0 b1:DU)(t u:V):sh C (QY pl k (TZ b0 b1) t u)=QY pl k (TZ b0 b1) (sh C t) (sh C u):=by
 have e:sh C (TZ b0 b1)=TZ b0 b1:=by cases b0<;>cases b1<;>rfl
 exact(SJ (P:=λ pl=>sh C (QY pl k (TZ b0 b1) t u)=QY pl k (sh C (TZ b0 b1)) (sh C t) (sh C u)) h rfl rfl rfl rfl rfl rfl).trans (DX (λ g=>QY pl k g (sh C t) (sh C u)) e)
theorem ve(h:pl∈JI)(hk:k∈[0,1]){p:LI}(P:IU p):Pu (λ J=>True) 12 909 [.int (.ofNat pl),.int (.ofNat k),WV p.b0 p.b1,wr (.int p.sp) p.w p.i] (HJ pl k p):=
 U' (hk:=PJ [] [] [(20,.int 1,b7)]) (bx:=Vj (.int p.sp) (wr (.int p.sp) p.w p.i)) (K:=0) (n:=12) (λ U J k=>V1 (ME p.sp) (LF P.w P.i p.sp).gr _ k) (λ U g J=>⟨Iz λ G=>EC (ad5 G p.sp p.w p.i) bO,Ja (VV g (.nil U) (V1 (ME p.sp) (LF P.w P.i p.sp).gr _)) bO bO⟩) (SD (RV (IH (IH au5 h) hk) p.b0 p.b1)) (λ U=>rfl) λ U=>au4 h ..
theorem yw{os:DM DL}(h:os∈VZ):MH (OA os)=DN:=Jz (P:=λ os=>MH (OA os)=DN) h rfl rfl rfl rfl
theorem Xt{os:DM DL}(h:os∈VZ):EH C (VT os)=VT os:=Jz (P:=λ os=>EH C (VT os)=VT os) h rfl rfl rfl rfl
theorem yx{os:DM DL}(h:os∈VZ){U:aS}{i:DL}(p:U[i]? =DK (.list (OA os))):U[i]? =DK (JJ C (.list (OA os))):=p.trans (DX (λ l=>DK (O.list l)) (Pj _ (yw h)).symm)
theorem auH{os:DM DL}(h:os∈VZ)(oa:DL):Pu (λ U=>U[oa]? =DK (.list (OA os))) 12 888 [.ref oa] (.aX (VT os)):=
 Cs (hk:=VQ) (bx:=λ J=>.none) (ad:=[oa]) (τ:=[.list (OA os)]) (K:=0) (n:=12) (λ U J k=>GD _) (λ U p=>RT (GX p)) rfl (EC rfl bO) (λ U p=>VY (yx h p)) (λ U J J=>⟨Xg _,λ J J J h=>EW h⟩) (SD (FQ.mp auI os h)) (λ U=>rfl) λ U=>DX V.aX (Xt h)
def Kc(pl:DL)(p:LI):V:=.aR [.int (.ofNat pl),WV p.b0 p.b1,ZU p.w,.str (VW p.i)]
noncomputable def kh(CM CN:V)(k:DL):V:=EN (EG k 60) CM (EN (EG k 61) CN .none)
theorem u9{w:DM DL}(hw:w∈Ar):aY 40 0 (ZU w):=
 have c:=DO (NF ad7 hw (i:=0) (by decide))
 HZ c.2 c.1 0
theorem jd(b0 b1:DU):aY 40 0 (WV b0 b1):=by cases b0<;>cases b1<;>exact HZ rfl rfl 0
theorem ub{os:DM DL}(h:os∈VZ)(oa pl:DL){p:LI}(P:IU p):Pu (λ U=>U[oa]? =DK (.list (OA os))) 12 928 [.ref oa,Kc pl p] (.bool (UC os p.b0 p.b1 p.i)):=by
 refine Cs (hk:=VQ) (bx:=kh (.int (.ofNat pl)) (ZU p.w)) (ad:=[oa]) (τ:=[.list (OA os)]) (K:=0) (n:=12) (λ U J k=> ?_) (λ U p=>RT (GX p)) rfl (EC rfl bO) (λ U p=>VY (yx h p)) (λ U J J=>⟨Xg _,λ J J J h=>EW h⟩) (SD (RV (IH (FQ.mp at4 os h) P.i) p.b0 p.b1)) (λ U=>rfl) (λ U=>rfl);unfold kh;cases EG k 60
 ·cases EG k 61
  ·exact GD _
  ·exact(u9 P.w).up
 ·exact(ME _).up
def TV(oa:DL)(bX bY:DL)(p0 p1:LI):DM V:=[.int (.ofNat bX),WV p0.b0 p0.b1,ZU p0.w,.str (VW p0.i),.none,.none,.ref oa,.none,.none,.none,.int (.ofNat bY),WV p1.b0 p1.b1,ZU p1.w,.str (VW p1.i)]
def RX(l:DM V)(kH oW oX oY:V)(k:DL):V:=EN (FW 60 k) (oe (l[k-60]?) .none id) (EN (FW 50 k) (oe ([oX,oY][k-50]?) .none id) (oe ([kH,oW][k-20]?) .none id))
theorem ta(t:Tx):aY 40 0 (.str t):=.hO λ J J J J J J=>rfl
theorem Nd{oa:DL}(P0:IU p0)(P1:IU p1){kH oW oX oY:V}(h1:aY 40 0 kH)(h2:aY 40 0 oW)(h3:aY 40 0 oX)(h4:aY 40 0 oY){N:DL}(ho:oa<N)(k:DL):aY 40 N (RX (TV oa bX bY p0 p1) kH oW oX oY k):=by
 have z:=GD N;unfold RX;cases FW 60 k
 ·cases FW 50 k
  ·exact Bb (EC h1.up (EC h2.up bO)) _
  ·exact Bb (EC h3.up (EC h4.up bO)) _
 ·exact Bb (EC (ME _).up (EC (jd _ _).up (EC (u9 P0.w).up (EC (ta _).up (EC z (EC z (EC (Bp ho) (EC z (EC z (EC z (EC (ME _).up (EC (jd _ _).up (EC (u9 P1.w).up (EC (ta _).up bO)))))))))))))) _
def fk(os:DM DL)(oa ra:DL)(bX bY:DL)(p0 p1:LI)(U:aS):Prop:=U[oa]? =DK (.list (OA os))/\U[ra]? =DK (.list [Kc bX p0,Kc bY p1])
theorem Z_(o:DQ DY):sh C (XT o)=XT o:=by cases o<;>rfl
noncomputable abbrev c2(U:aS)(oa ra bX bY:DL)(p0 p1:LI)(kH oW oX oY:V):Cf:=GS U [ra] (RX (TV oa bX bY p0 p1) kH oW oX oY) λ J=>[]
theorem anY{os:DM DL}(h:os∈VZ){oa ra:DL}(cS:oa≠ra){bX bY:DL}(h0:bX∈JI)(h1:bY∈JI){p0 p1:LI}(P0:IU p0)(P1:IU p1):Pu (fk os oa ra bX bY p0 p1) 24 933 [.ref oa,.ref ra] (XT (Nu bX bY (UC os p0.b0 p0.b1 p0.i) (UC os p1.b0 p1.b1 p1.i))):=by
 have n:=GD 0;refine Cs (hk:=PJ (pd bX bY (UC os p0.b0 p0.b1 p0.i) (UC os p1.b0 p1.b1 p1.i)) [] []) (bx:=RX (TV oa bX bY p0 p1) .none .none .none .none) (ad:=[ra]) (τ:=A' bX bY) (K:=12) (n:=12) (λ U p k=>Nd P0 P1 n n n n (GX p.1) k) (λ U p=>RT (GX p.2)) rfl (EC rfl bO) (λ U p=>VY p.2) (λ U g p=>⟨Iz λ J=>bO,?_⟩) (SD (RV (IH (IH anZ h0) h1) _ _)) (λ U=>rfl) (λ U=>Z_ _);have fr:∀{τ G},Em (c2 U oa ra bX bY p0 p1 .none .none .none .none) τ G->G[oa]? =DK (.list (OA os)):=λ E=>(SH E (GX p.1) λ m=>cS (GY.mp m)).trans p.1;exact Ja (VV g (RT (GX p.2)) (Nd P0 P1 n n n n (GX p.1))) (EC (λ τ G E g' J N hN=>ub h oa bX P0 G g' (fr E) N hN) (EC (λ τ G E g' J N hN=>ub h oa bY P1 G g' (fr E) N hN) bO)) bO
theorem aa4{r:Rw}(R:Am r):r.res=Nu r.bX r.bY (UC r.os r.p0.b0 r.p0.b1 r.p0.i) (UC r.os r.p1.b0 r.p1.b1 r.p1.i):=by
 have e:∀{p:LI},IU p->SL r.im p=Eo (UC r.os p.b0 p.b1 p.i) p.sp:=λ {p} P=>by
  have e:G! r.im p= !(UC r.os p.b0 p.b1 p.i):=Iu (P:=λ i=>(!(Bt i p.b0 p.b1 (PH r.im i)))= !(UC r.os p.b0 p.b1 i)) P.i rfl rfl rfl rfl;refine(DX (λ b=>EN b (DK p.sp) DP) e).trans ?_;cases UC r.os p.b0 p.b1 p.i<;>rfl
 unfold Rw.res Nu;rw[e R.P0,e R.P1,R.s0,R.s1]
theorem anX(bX bY:DL)(h0 h1:DU):Nu bX bY h0 h1∈WB:=by
 have o:∀{a b:DQ DY},a∈WB->b∈WB->KE a b∈WB:=λ {a b} p q=>by
  cases a
  ·exact q
  ·exact p
 have c:∀{t:DU} {a b:DQ DY},a∈WB->b∈WB->EN t a b∈WB:=λ {t a b} p q=>by
  cases t
  ·exact q
  ·exact p
 have n:DP∈WB:=.head _;have a:Eo h0 10∈WB:=c n (.tail _ (.head _));have b:Eo h1 11∈WB:=c n (.tail _ (.tail _ (.head _)));exact o (c a n) (o (c b n) (o (c n a) (c n b)))
theorem aAE{r:Rw}(R:Am r){oa ra:DL}(cS:oa≠ra):Pu (fk r.os oa ra r.bX r.bY r.p0 r.p1) 92 940 [.ref oa,.ref ra,.bool r.bh] (.bool DN):=by
 have ho:r.os∈VZ:=R.os;have g0:=(LF R.P0.w R.P0.i 10).gr;have g1:=(LF R.P1.w R.P1.i 11).gr;have gi0:aY 40 0 (HJ r.bX 0 r.p0):=(Cb R.h0 (by decide) R.P0).bB (by decide) (FG _);have gi1:aY 40 0 (HJ r.bY 1 r.p1):=(Cb R.h1 (by decide) R.P1).bB (by decide) (FG _);have UO:IJ (N' r.os r.bh (XT r.res)) (.bool DN) [.list Cq]=DN:=by
  have q:=DO (FQ.mp (FQ.mp aAF r.os ho) r.res (aa4 R▸anX ..));cases r.bh
  ·exact q.2
  ·exact q.1
 refine Cs (f:=940) (args:=[bx 66,.ref 0,.bool r.bh]) (v:=.bool DN) (hk:=PJ (riR r.os r.bh (XT r.res)) [] []) (bx:=RX (TV oa r.bX r.bY r.p0 r.p1) (wr (.int 10) r.p0.w r.p0.i) (wr (.int 11) r.p1.w r.p1.i) (HJ r.bX 0 r.p0) (HJ r.bY 1 r.p1)) (ad:=[ra]) (τ:=[.list Cq]) (K:=80) (n:=12) (λ U p k=>Nd R.P0 R.P1 g0 g1 gi0 gi1 (GX p.1) k) (λ U p=>RT (GX p.2)) rfl (EC rfl bO) (λ U p=>VY p.2) (λ U g p=>⟨Iz λ J=>bO,?_⟩) (SD UO) (λ U=>rfl) (λ U=>rfl);have fr:∀{τ G},Em (c2 U oa ra r.bX r.bY r.p0 r.p1 (wr (.int 10) r.p0.w r.p0.i) (wr (.int 11) r.p1.w r.p1.i) (HJ r.bX 0 r.p0) (HJ r.bY 1 r.p1)) τ G->G[oa]? =DK (.list (OA r.os)):=λ E=>(SH E (GX p.1) λ m=>cS (GY.mp m)).trans p.1;have hi:EH (c2 U oa ra r.bX r.bY r.p0 r.p1 (wr (.int 10) r.p0.w r.p0.i) (wr (.int 11) r.p1.w r.p1.i) (HJ r.bX 0 r.p0) (HJ r.bY 1 r.p1)) (D? r.os r.bh)=r.dH:=by
  unfold D? Rw.dH;cases r.bh
  ·exact(RH _ (VT r.os)).trans (DX (r.eM++·) (Xt ho))
  ·exact(RH (VT r.os) _).trans (DX (·++r.eM) (Xt ho))
 have le:∀{a N},a<=80->80<=N->a<=N:=EZ;refine Ja (VV g (RT (GX p.2)) (Nd R.P0 R.P1 g0 g1 gi0 gi1 (GX p.1))) (EC (λ τ G E g' J N hN=>ad6 R.P0.w R.P0.i 10 G g' trivial N (le (by decide) hN)) (EC (λ τ G E g' J N hN=>ad6 R.P1.w R.P1.i 11 G g' trivial N (le (by decide) hN)) (EC (λ τ G E g' J N hN=> ?_) (EC (λ τ G E g' J N hN=> ?_) (EC (λ τ G E g' J N hN=> ?_) (EC (λ τ G E g' hp N hN=> ?_) (EC (λ τ G E g' hp N hN=> ?_) bO))))))) bO
 ·exact(R.s0▸ve R.h0 (k:=0) (by decide) R.P0) G g' trivial N (le (by decide) hN)
 ·exact(R.s1▸ve R.h1 (k:=1) (by decide) R.P1) G g' trivial N (le (by decide) hN)
 ·exact(auH ho oa G g' (fr E) N (le (by decide) hN)).trans (DX (λ l=>aD.ok (V.aX l) G) (Xt ho).symm)
 ·exact(apL R _ G g' ((hp _ (.head _)).trans (DX (λ l=>DK (O.list l)) hi)) N hN).trans (DX (λ v=>aD.ok v G) (Z_ _).symm)
 ·exact(aa4 R▸anY ho cS R.h0 R.h1 R.P0 R.P1 G g' ⟨fr E,hp _ (.head _)⟩ N (le (by decide) hN)).trans (DX (λ v=>aD.ok v G) (Z_ _).symm)
section
variable {s:DL}
theorem j5(h:U[s]? =DK (.list B))(n:DL):fX U (.ref s) (.int (.ofNat n))=oo DP (og (GE n) B[n]?):=DX (λ x:DQ O=>oo ((oo DP (x.bind oD)).bind λ d=>(HY d.1 d.2 (.int (.ofNat n))).bind id) (oo DP ((oo DP (x.bind oL)).bind λ B=>og (GE n) B[n]?))) h
theorem abG(h:U[s]? =DK (.list B))(n:DL)(v:V):lC (.ref s) (.int (.ofNat n)) v U=og (HC n B.length) (og (GE B.length) (DK ((),U.set s (.list (B.set n v))))):=DX (λ x:DQ O=>oo ((x.bind oD).bind λ d=>(XF d.1 d.2 (.int (.ofNat n)) v).bind λ p=>DK ((),U.set s (.dict p.1 p.2))) ((x.bind oL).bind λ xs=>og (HC n xs.length) (og (GE xs.length) (DK ((),U.set s (.list (xs.set n v))))))) h
theorem Y8(hm:m[0]? =DK (DK (.ref s)))(h:fX U (.ref s) (.int (.ofNat n))=DK v):(EX (EE EF) o (.sub (.loc 0) (.k (.int (.ofNat n)))) m).1 U=.ok v U:=(mb (RZ hm)).trans (DX (λ y=>M.eH y U) h)
theorem ZA(v:V):(EX (EE EF) o (.k v) m).1 U=.ok v U:=rfl
theorem RY{op:UW}{a b:E}{x y r:DY}(ha:(EX (EE EF) o a m).1 U=.ok (V.int x) U)(hb:(EX (EE EF) o b m).1 U=.ok (V.int y) U)(h:YU op x y=DK r):(EX (EE EF) o (.bV op a b) m).1 U=.ok (V.int r) U:=(mb ha).trans ((mb hb).trans (Zz (p:=(V.int r,U)) (by
 show oo ((YU op x y).bind _) _=_;rw[h]
 rfl)))
theorem ir(he:(EX (EE EF) o e m).1 U=.ok v U)(hm:m[0]? =DK (DK (.ref s)))(hs:lC (.ref s) (.int (.ofNat n)) v U=DK ((),G)):JE (EE EF) o (.aV (.sub (.loc 0) (.k (.int (.ofNat n)))) e) m U=.ok (.next,m) G:=by
 have ht:IY (EE EF) o (.sub (.loc 0) (.k (.int (.ofNat n)))) v m U=.ok m G:=(mb (RZ hm)).trans (mb (Zz hs));exact(mb he).trans (mb ht)
theorem Fw{a:S}{l:Ss}{r:R (Fl×Lv)}(h:JE (EE EF) o a m U=.ok (.next,m') G)(k:FC (EE EF) o l m' G=r):FC (EE EF) o (.cons a l) m U=r:=(mb h).trans k
end
noncomputable def NZ(b:DY):DY:=KO (b * 39373+7) 2147483647
noncomputable def Nt(b:DY):DY:=YH (KO (b * b) 2147483629) 32
def NG(x:DY×DY)(t:DY):DY×(DY×DY):=EN (decide (0<x.1)) (KO x.1 t,(YH x.1 t,x.2)) (KO (Nt (NZ x.2)) t,(x.1,NZ x.2))
noncomputable def JA(x:DY×DY):O:=.list [.int x.1,.int x.2]
def VD(a b:DY):Prop:=0<=a/\0<=b/\b<2147483647
def TP(t:DY):Prop:=0<t/\NQ t=DN
theorem U4{b:DY}(h:0<=b)(k:b<2147483647):NQ b=DN:=by
 obtain⟨n,e⟩:=ah h;subst e;exact MS.mpr (IW (UY.mp (k:(n:DY)<((2147483647:DL):DY))) (by decide))
theorem Jq{x y:DY}(h:TP y):YU .hM x y=DK (KO x y):=by
 show og (decide (0<y)) (og (NQ y) _)=_;rw[Bg h.1,h.2];rfl
theorem oy{x y:DY}(h:TP y):YU .fdiv x y=DK (YH x y):=by
 show og (decide (0<y)) (og (NQ y) _)=_;rw[Bg h.1,h.2];rfl
theorem M!{x y:DY}(h:NQ x=DN)(k:NQ y=DN):YU .jE x y=DK (x * y):=by
 show og (NQ x) (og (NQ y) _)=_;rw[h,k];rfl
theorem Nh:TP 2147483647/\TP 2147483629/\TP 32:=⟨⟨by decide,rfl⟩,⟨by decide,rfl⟩,by decide,rfl⟩
theorem asU(g:cP U)(s:DL){o:O}(h:gG U.length o):cP (U.set s o):=λ j x e=>by
 rw[NL];by_cases q:s=j
 ·subst q;rw[OV (NL (as:=U)▸GX e)]at e;exact EJ e▸h
 ·rw[TA q]at e;exact g j x e
theorem wn(x:DY×DY)(n:DL):gG n (JA x):=⟨rfl,EC ((ME _).bB (by decide) (GI _)) (EC ((ME _).bB (by decide) (GI _)) bO)⟩
noncomputable def MG(s:DL)(t:DY)(x:DQ V):Lv:=[DK (.ref s),DK (.int t),x]
def A6:Ss:=(ss [.aV (.loc 2) (.bV .hM (.sub (.loc 0) (.k (.int 0))) (.loc 1)),.aV (.sub (.loc 0) (.k (.int 0))) (.bV .fdiv (.sub (.loc 0) (.k (.int 0))) (.loc 1)),.ret (.loc 2)])
def aCV:Ss:=(ss [.aV (.sub (.loc 0) (.k (.int 1))) (.bV .hM (.bV .add (.bV .jE (.sub (.loc 0) (.k (.int 1))) (.k (.int 39373))) (.k (.int 7))) (.k (.int 2147483647))),.ret (.bV .hM (.bV .fdiv (.bV .hM (.bV .jE (.sub (.loc 0) (.k (.int 1))) (.sub (.loc 0) (.k (.int 1)))) (.k (.int 2147483629))) (.k (.int 32))) (.loc 1))])
theorem abW(g:cP U){s:DL}{x:DY×DY}{t i:DY}{m:Lv}{N:DL}(h:FC (EE EF) (RF N) (.cons (.bH (.aW .gt (.sub (.loc 0) (.k (.int 0))) (.k (.int 0))) A6 .nil) aCV) (MG s t DP) U=.ok (.ret (.int i),m) (U.set s (JA x))):RF (N+1) 857 [.ref s,.int t] U=.ok (.int i) (U.set s (JA x)):=by
 have f:=Ir (asU g s (wn x _)) (hZ.refl _) (v:=.int i) rfl;rw[NL]at f;have call:RF (N+1) 857 [.ref s,.int t] U=LS (EE EF) .no U.length _:=Ej (fn:=vI) rfl rfl;exact call.trans ((DX (LS (EE EF) .no U.length) h).trans (DX M.o2 f))
theorem aCW(g:cP U){s:DL}{a b t:DY}(h:U[s]? =DK (.list [.int a,.int b]))(I:VD a b)(ht:TP t)(N:DL):RF (N+1) 857 [.ref s,.int t] U=.ok (.int (NG (a,b) t).1) (U.set s (JA (NG (a,b) t).2)):=by
 have e0:∀x,(EX (EE EF) (RF N) (.sub (.loc 0) (.k (.int 0))) (MG s t x)).1 U=.ok (.int a) U:=λ x=>Y8 (m:=MG s t x) (n:=0) rfl (j5 h 0);have ec:(EX (EE EF) (RF N) (.aW .gt (.sub (.loc 0) (.k (.int 0))) (.k (.int 0))) (MG s t DP)).2 U=.ok (decide (0<a)) U:=mb (e0 DP);cases q:decide (0<a)with
 |true=>
  have et:NG (a,b) t=(KO a t,(YH a t,b)):=DX (λ c=>EN c (KO a t,(YH a t,b)) (KO (Nt (NZ b)) t,(a,NZ b))) q;rw[et];have s1:JE (EE EF) (RF N) (.aV (.loc 2) (.bV .hM (.sub (.loc 0) (.k (.int 0))) (.loc 1))) (MG s t DP) U=.ok (.next,MG s t (DK (.int (KO a t)))) U:=mb (RY (e0 DP) (RZ rfl) (Jq ht));have s2:JE (EE EF) (RF N) (.aV (.sub (.loc 0) (.k (.int 0))) (.bV .fdiv (.sub (.loc 0) (.k (.int 0))) (.loc 1))) (MG s t (DK (.int (KO a t)))) U=.ok (.next,MG s t (DK (.int (KO a t)))) (U.set s (JA (YH a t,b))):=ir (n:=0) (RY (e0 _) (RZ rfl) (oy ht)) rfl (abG h 0 _);have sA:FC (EE EF) (RF N) A6 (MG s t DP) U=.ok (.ret (.int (KO a t)),MG s t (DK (.int (KO a t)))) (U.set s (JA (YH a t,b))):=Fw s1 (Fw s2 rfl);have sI:JE (EE EF) (RF N) (.bH (.aW .gt (.sub (.loc 0) (.k (.int 0))) (.k (.int 0))) A6 .nil) (MG s t DP) U=.ok (.ret (.int (KO a t)),MG s t (DK (.int (KO a t)))) (U.set s (JA (YH a t,b))):=(mb (ec.trans (DX (λ c=>R.ok c U) q))).trans sA;exact abW g (mb sI)
 |false=>
  have et:NG (a,b) t=(KO (Nt (NZ b)) t,(a,NZ b)):=DX (λ c=>EN c (KO a t,(YH a t,b)) (KO (Nt (NZ b)) t,(a,NZ b))) q;rw[et];have b1:NQ (NZ b)=DN:=U4 (Lu _ (by decide)) (Ls _ (by decide));have sI:JE (EE EF) (RF N) (.bH (.aW .gt (.sub (.loc 0) (.k (.int 0))) (.k (.int 0))) A6 .nil) (MG s t DP) U=.ok (.next,MG s t DP) U:=mb (ec.trans (DX (λ c=>R.ok c U) q));have s1:=ir (n:=1) (m:=MG s t DP) (RY (y:=2147483647) (RY (op:=.add) (r:=b * 39373+7) (y:=7) (RY (y:=39373) (Y8 (o:=RF N) (m:=MG s t DP) (n:=1) (v:=.int b) rfl (j5 h 1)) (ZA _) (M! (U4 I.2.1 I.2.2) rfl)) (ZA _) rfl) (ZA _) (Jq Nh.1)) rfl (abG h 1 _);have h':(U.set s (JA (a,NZ b)))[s]? =DK (.list [.int a,.int (NZ b)]):=OV (GX h);have e1:(EX (EE EF) (RF N) (.sub (.loc 0) (.k (.int 1))) (MG s t DP)).1 (U.set s (JA (a,NZ b)))=.ok (.int (NZ b)) (U.set s (JA (a,NZ b))):=Y8 (n:=1) (m:=MG s t DP) rfl (j5 h' 1);have s2:=RY (RY (y:=32) (RY (y:=2147483629) (RY e1 e1 (M! b1 b1)) (ZA _) (Jq Nh.2.1)) (ZA _) (oy Nh.2.2)) (RZ (x:=1) (v:=.int t) rfl) (Jq ht);have s3:JE (EE EF) (RF N) (.ret (.bV .hM (.bV .fdiv (.bV .hM (.bV .jE (.sub (.loc 0) (.k (.int 1))) (.sub (.loc 0) (.k (.int 1)))) (.k (.int 2147483629))) (.k (.int 32))) (.loc 1))) (MG s t DP) (U.set s (JA (a,NZ b)))=.ok (.ret (.int (KO (Nt (NZ b)) t)),MG s t DP) (U.set s (JA (a,NZ b))):=mb s2;exact abW g (Fw sI (Fw s1 (mb s3)))
theorem Qr{x:DY×DY}(I:VD x.1 x.2){t:DY}(ht:TP t):VD (NG x t).2.1 (NG x t).2.2/\0<=(NG x t).1/\(NG x t).1<t:=by
 unfold NG;cases decide (0<x.1)
 ·exact⟨⟨I.1,Lu _ (by decide),Ls _ (by decide)⟩,Lu _ ht.1,Ls _ ht.1⟩
 ·exact⟨⟨Int.fdiv_nonneg I.1 (ai ht.1),I.2⟩,Lu _ ht.1,Ls _ ht.1⟩
noncomputable def LY(ts:DM DY)(x:DY×DY):DL->DY×DY
 |0=>x|k+1=>(NG (LY ts x k) (oe (ts[k]?) 1 id)).2
def vq(ts:DM DY)(x:DY×DY)(k:DL):DY:=(NG (LY ts x k) (oe (ts[k]?) 1 id)).1
theorem abK{ts:DM DY}(ht:∀t∈ts,TP t){x:DY×DY}(I:VD x.1 x.2)(k:DL):VD (LY ts x k).1 (LY ts x k).2:=by
 induction k with
 |zero=>exact I|succ k ih=>
  refine(Qr ih ?_).1;cases e:ts[k]? with
  |none=>exact⟨by decide,rfl⟩|some t=>exact ht t (JK e)
theorem aE7{ts:DM DY}(ht:∀t∈ts,TP t){x:DY×DY}(I:VD x.1 x.2){k:DL}{t:DY}(e:ts[k]? =DK t):0<=vq ts x k/\vq ts x k<t:=by
 have:=(Qr (abK ht I k) (ht t (JK e))).2;unfold vq;rw[e];exact this
noncomputable def JQ(xs:DL->DY×DY)(r:DL->V)(k:DL):V:=EN (FW 100 k) (EN (EG (k%2) 0) (.int (xs ((k-100)/2)).1) (.int (xs ((k-100)/2)).2)) (r k)
theorem Zx{xs:DL->DY×DY}{r:DL->V}(hb:C.bx=JQ xs r)(k:DL):EH C (QA k)=[.int (xs k).1,.int (xs k).2]:=by
 have e1:JQ xs r (100+2 * k)=.int (xs k).1:=by
  unfold JQ;rw[show FW 100 (100+2 * k)=DN from MS.mpr (HD ..),agX,Ah,Nat.mul_div_cancel_left k (by decide)];rfl
 have e2:JQ xs r (101+2 * k)=.int (xs k).2:=by
  unfold JQ;rw[show FW 100 (101+2 * k)=DN from MS.mpr (EZ (by decide) (HD 101 _)),agX,TB 100 1 (2 * k),Ah,Nat.add_mul_div_left 1 k (by decide),show 1/2+k=k from Aj k];rfl
 show[C.bx (100+2 * k),C.bx (101+2 * k)]=_;rw[hb,e1,e2]
theorem km{xs:DL->DY×DY}{r:DL->V}(h:∀k,aY 40 N (r k))(k:DL):aY 40 N (JQ xs r k):=by
 unfold JQ;cases FW 100 k
 ·exact h k
 ·cases EG (k%2) 0
  ·exact(ME _).up
  ·exact(ME _).up
theorem A9{xs:DL->DY×DY}{r:DL->V}(hb:C.bx=JQ xs r){k:DL}{t:DY}{v:V}(ht:TP t)(I:VD (xs k).1 (xs k).2)(hx:(NG (xs k) t).2=xs (k+1))(hv:sh C v=.int (NG (xs k) t).1):jL C 1 ⟨857,[.int t],k,v,k+1⟩:=λ j U g h N hN=>by
 cases N with
 |zero=>exact EP hN (TF _)|succ N=>
  rw[Zx hb]at h⊢;rw[hv,<-hx];exact aCW g h I ht N
noncomputable def KM:DM DY:=[6,2,2,3,4,4,4]
theorem o7:∀t∈KM,TP t:=EC ⟨by decide,rfl⟩ (EC ⟨by decide,rfl⟩ (EC ⟨by decide,rfl⟩ (EC ⟨by decide,rfl⟩ (EC ⟨by decide,rfl⟩ (EC ⟨by decide,rfl⟩ (EC ⟨by decide,rfl⟩ bO))))))
def QQ(l:DM DL)(k:DL):V:=oe ((l.map λ (n:DL)=>V.int (.ofNat n))[k-90]?) .none id
theorem Jr{v:DY}(h:0<=v/\v<n):∃k:DL,v=.ofNat k/\k<n:=
 let⟨k,e⟩:=ah h.1
 ⟨k,e,UY.mp (e▸h.2)⟩
theorem Qw{v:DY}(h:0<=v/\v<2):∃c:DU,v=EN c 0 1:=by
 obtain⟨k,e,hk⟩:=Jr (n:=2) h;rw[e];exact ZP (P:=λ k=>∃c:DU,RN k=EN c 0 1) (YM.mpr hk:k∈MR 2) ⟨DN,rfl⟩ ⟨DT,rfl⟩
theorem m9{P:DL->Prop}(h:i∈[0,1,2])(a:P 0)(b:P 1)(c:P 2):P i:=EC (P:=P) a (EC b (EC c bO)) i h
theorem aED:([0,1,2].all λ n=>[0,1,2,3].all λ a=>[0,1,2,3].all λ b=>Ar.any (FT ([a,b].take n)))=DN:=by decide
theorem aEC(hn:n∈[0,1,2]){a b:DL}(ha:a<4)(hb:b<4):[a,b].take n∈Ar:=by
 obtain⟨w,m,e⟩:=Ab.mp (IH (IH (IH aED hn) (ZF ha)) (ZF hb));exact hJ e▸m
theorem pb{x:DY×DY}(I:VD x.1 x.2)(sp:DY):∃(pl:DL) (p:LI) (x':DY×DY),pl∈JI/\IU p/\p.sp=sp/\VD x'.1 x'.2/\∀(U:aS) (s:DL),cP U->U[s]? =DK (JA x)->∀N,20<=N->RF N 921 [.ref s] U=.ok (Kc pl p) (U.set s (JA x')):=by
 have A_:=abK o7 I;have V:=λ (k:DL) (t:DY) (e:KM[k]? =DK t)=>aE7 o7 I e;obtain⟨pl,e0,l0⟩:=Jr (n:=6) (V 0 6 rfl);obtain⟨c0,e1⟩:=Qw (V 1 2 rfl);obtain⟨c1,e2⟩:=Qw (V 2 2 rfl);obtain⟨n,e3,l3⟩:=Jr (n:=3) (V 3 3 rfl);obtain⟨u4,e4,l4⟩:=Jr (n:=4) (V 4 4 rfl);obtain⟨u5,e5,l5⟩:=Jr (n:=4) (V 5 4 rfl);obtain⟨u6,e6,l6⟩:=Jr (n:=4) (V 6 4 rfl);have hn:n∈[0,1,2]:=(YM.mpr l3:n∈MR 3);obtain⟨i,hi,ei⟩:∃i:DL,i<4/\vq KM x (4+n)=.ofNat i:=m9 (P:=λ n=>∃i:DL,i<4/\vq KM x (4+n)=.ofNat i) hn ⟨u4,l4,e4⟩ ⟨u5,l5,e5⟩ ⟨u6,l6,e6⟩;refine⟨pl,⟨[u4,u5].take n,i,sp,c0,c1⟩,LY KM x (5+n),(YM.mpr l0:pl∈MR 6),⟨aEC hn l4 l5,ZF hi⟩,rfl,A_ _,λ U s g h N hN=> ?_⟩;have sl:=GX h;have gi:∀k,aY 40 U.length (QQ [pl,u4,u5] k):=λ k=>Bb (Hr λ J J=>(ME _).up) _;have OC:=VV (bx:=JQ (LY KM x) (QQ [pl,u4,u5])) g (RT sl) (km gi);have E:Em (GS U [s] (JQ (LY KM x) (QQ [pl,u4,u5])) λ J=>[]) [.list (QA 0)] U:=Ff rfl (VY ⟨_,h.trans (DX (λ l=>DK (O.list l)) (Zx (C:=GS U [s] (JQ (LY KM x) (QQ [pl,u4,u5])) λ J=>[]) (xs:=LY KM x) (r:=QQ [pl,u4,u5]) rfl 0).symm),.dN (o:=.list (QA 0)) rfl⟩);have rt:∀(k:DL) (t:DY) (v:aI),KM[k]? =DK t->sh (GS U [s] (JQ (LY KM x) (QQ [pl,u4,u5])) λ J=>[]) v=.int (vq KM x k)->jL (GS U [s] (JQ (LY KM x) (QQ [pl,u4,u5])) λ J=>[]) 1 ⟨857,[.int t],k,v,k+1⟩:=λ k t v e hv=>
  A9 (xs:=LY KM x) rfl (o7 t (JK e)) (A_ k) (DX (λ o=>(NG (LY KM x k) (oe o 1 id)).2) e).symm (hv.trans (DX (λ o=>aI.int (NG (LY KM x k) (oe o 1 id)).1) e))
 have ci:∀{a b:DY},a=b->aI.int b=.int a:=λ e=>DX aI.int e.symm;have R:OY (GS U [s] (JQ (LY KM x) (QQ [pl,u4,u5])) λ J=>[]) (PJ [] (pa c0 c1 n i) []) 1:=by
  refine Ja OC bO (VE (VE (EC (rt 0 6 _ rfl (ci e0)) (EC (rt 1 2 _ rfl (ci e1)) (EC (rt 2 2 _ rfl (ci e2)) (EC (rt 3 3 _ rfl (ci e3)) bO)))) (Hr λ q mq=> ?_)) (EC ?_ bO))
  ·exact ZP (P:=λ q=>jL (GS U [s] (JQ (LY KM x) (QQ [pl,u4,u5])) λ J=>[]) 1 ⟨857,[.int 4],4+q,bx (91+q),5+q⟩) (YM.mpr (IW (YM.mp mq) (P8 l3)):q∈MR 2) (rt 4 4 (bx 91) rfl (ci e4)) (rt 5 4 (bx 92) rfl (ci e5))
  ·exact m9 (P:=λ n=>vq KM x (4+n)=.ofNat i->jL (GS U [s] (JQ (LY KM x) (QQ [pl,u4,u5])) λ J=>[]) 1 ⟨857,[.int 4],4+n,.int (.ofNat i),5+n⟩) hn (λ e=>rt 4 4 (.int (.ofNat i)) rfl (ci e)) (λ e=>rt 5 4 (.int (.ofNat i)) rfl (ci e)) (λ e=>rt 6 4 (.int (.ofNat i)) rfl (ci e)) ei
 obtain⟨G,r1,r2⟩:=Zj OC (Iz λ J=>bO) R (N:=N) (EZ (by decide) hN) E (SD (RV (IH (IH anW hn) (ZF hi)) c0 c1));have hw:sh (GS U [s] (JQ (LY KM x) (QQ [pl,u4,u5])) λ J=>[]) (.aR [bx 90,WV c0 c1,.aX (s8 n),.str (VW i)])=Kc pl ⟨[u4,u5].take n,i,sp,c0,c1⟩:=m9 (P:=λ n=>sh (GS U [s] (JQ (LY KM x) (QQ [pl,u4,u5])) λ J=>[]) (.aR [bx 90,WV c0 c1,.aX (s8 n),.str (VW i)])=Kc pl ⟨[u4,u5].take n,i,sp,c0,c1⟩) hn rfl rfl rfl;rw[hw,(pf r2 sl rfl).trans (DX (λ l=>U.set s (O.list l)) (Zx (C:=GS U [s] (JQ (LY KM x) (QQ [pl,u4,u5])) λ J=>[]) (xs:=LY KM x) (r:=QQ [pl,u4,u5]) rfl (5+n)))]at r1;exact r1
theorem aoO{a b:E}{x y:V}(ha:(EX (EE EF) o a m).1 U=.ok x U)(hb:(EX (EE EF) o b m).1 U=.ok y U):(HL (EE EF) o (.cons a (.cons b .nil)) m).1 U=.ok [x,y] U:=by
 have h1:(HL (EE EF) o (.cons b .nil) m).1 U=.ok [y] U:=mb hb;exact(mb ha).trans (mb h1)
theorem qj{H:Es}(h:(HL (EE EF) o H m).1 U=.ok B U)(k:GE B.length=DN):(EX (EE EF) o (.aX H) m).1 U=.ok (.ref U.length) (U++[.list B]):=(mb h).trans (DX (λ c=>M.o2 (og c (RD (.list B) U))) k)
theorem qi{c a b:E}{t:DU}{r:R V}(hc:(EX (EE EF) o c m).2 U=.ok t G)(h:cQ t (EX (EE EF) o a m).1 (EX (EE EF) o b m).1 G=r):(EX (EE EF) o (.cH c a b) m).1 U=r:=(mb hc).trans h
theorem aoJ{c:SV}{a b:E}{x y:V}{t:DU}(ha:(EX (EE EF) o a m).1 U=.ok x U)(hb:(EX (EE EF) o b m).1 U=.ok y G)(h:mU G c x y=DK t):(EX (EE EF) o (.aW c a b) m).2 U=.ok t G:=(mb ha).trans ((mb hb).trans (DX (λ z=>M.eH z G) h))
theorem Y6{x:DL}(h:(EX (EE EF) o e m).1 U=.ok v G):JE (EE EF) o (.aV (.loc x) e) m U=.ok (.next,m.set x (DK v)) G:=mb h
theorem aoN(h:(EX (EE EF) o e m).1 U=.ok v G):FC (EE EF) o (.cons (.ret e) .nil) m U=.ok (.ret v,m) G:=mb (show JE (EE EF) o (.ret e) m U=.ok (.ret v,m) G from mb h)
noncomputable def NR(l:DM DY):DY:=match l with|[]=>0|c::_=>c
noncomputable def SC(c:DY):DY:=if c< -1-c then-1-c else c
noncomputable def o_(g:DY):DY:=EN (decide (1000000000000000000<=g)) g 0
noncomputable def av5(g:DY):DY:=KO ((KO g 2147483629+17) * 48271) 2147483647
def Po(l:DM DY):DY×DY:=(o_ (SC (NR l)),av5 (SC (NR l)))
theorem az7(l:DM DY):VD (Po l).1 (Po l).2:=by
 refine⟨?_,Lu _ (by decide),Ls _ (by decide)⟩;show 0<=EN (decide (1000000000000000000<=SC (NR l))) (SC (NR l)) 0;cases e:decide (1000000000000000000<=SC (NR l))
 ·exact Int.le_refl 0
 ·exact ag2 (by decide) (of_decide_eq_true e)
theorem av7(g:DY):NQ (KO g 2147483629+17)=DN:=U4 (Int.add_nonneg (Lu _ (by decide)) (by decide)) (ag4 (Int.add_lt_add_right (Ls g (b:=2147483629) (by decide)) 17) (by decide))
theorem az5(g:cP U)(x:DY×DY):cY (EE EF) U.length [U.length+1] (.ref (U.length+1)) ((U++[.list []])++[JA x])=DK (.ref U.length,U++[JA x]):=by
 have l:((U++[aH.list []])++[JA x]).length=U.length+2:=(QZ _ _).trans (DX GH (QZ _ _));have f1:eA (EE EF) ((U++[aH.list []])++[JA x]) U.length [U.length+1] 100 (.ref (U.length+1))=DK (.ref U.length):=by
  show QT (EE EF) _ _ _ _ (U.length+1)=_;unfold QT;rw[azB (RQ _),show HC (U.length+1) U.length=DT from Bool.eq_false_iff.mpr λ q=>ahB _ (EZ (TD _) (GO q))];rfl
 have f2:((U++[aH.list []])++[JA x]).take U.length=U:=by
  rw[WN];exact List.take_left
 have f4:((U++[aH.list []])++[JA x])[U.length+1]? =DK (JA x):=(DX (λ k=>((U++[aH.list []])++[JA x])[k]?) (QZ U (.list [])).symm).trans NK;unfold cY;rw[l,f1,f2,tq g.mem,show FW U.length (U.length+2)=DN from MS.mpr (HD ..)];show((GA (Xr (EE EF) _ _) [U.length+1]).map _)=_;show(((((U++[aH.list []])++[JA x])[U.length+1]?).bind _).bind _).map _=_;rw[f4];rfl
theorem az6(g:cP U)(l:DM DY)(N:DL):RF (N+1) 850 [.aX (l.map .int)] U=.ok (.ref U.length) (U++[JA (Po l)]):=by
 have hn:(U++[aH.list []])[U.length]? =DK (.list []):=NK;have hs:GU (U++[.list []]) (.ref U.length)=DK []:=DX (λ x:DQ O=>oo DP (x.bind oL)) hn;have e1:(EX (EE EF) (RF N) (.cH (.aW .ne (.loc 0) (.aX .nil)) (.sub (.loc 0) (.k (.int 0))) (.k (.int 0))) [DK (.aX (l.map .int)),DP,DP]).1 U=.ok (.int (NR l)) (U++[.list []]):=by
  have ec:(EX (EE EF) (RF N) (.aW .ne (.loc 0) (.aX .nil)) [DK (.aX (l.map .int)),DP,DP]).2 U=.ok (WG (l.map V.int)) (U++[.list []]):=by
   refine aoJ (RZ rfl) (qj (H:=.nil) (B:=[]) rfl rfl) ?_;show(oo ((GU (U++[.list []]) (.ref U.length)).bind λ y=>og (!EG (l.map V.int).length y.length) (DK DT)) (Wh (.aX (l.map .int)) (oe (GU (U++[.list []]) (.ref U.length)) (.ref U.length) .aX))).map not=_;rw[hs];cases l<;>rfl
  refine qi ec ?_;cases l<;>rfl
 have e3:(EX (EE EF) (RF N) (.cH (.aW .ge (.loc 2) (.bV .oU (.k (.int 10)) (.k (.int 18)))) (.loc 2) (.k (.int 0))) [DK (.aX (l.map .int)),DK (.int (NR l)),DK (.int (SC (NR l)))]).1 (U++[.list []])=.ok (.int (o_ (SC (NR l)))) (U++[.list []]):=by
  refine qi (t:=decide (1000000000000000000<=SC (NR l))) (G:=U++[.list []]) rfl ?_;unfold o_;cases decide (1000000000000000000<=SC (NR l))<;>rfl
 have e4:=RY (o:=RF N) (m:=[DK (.aX (l.map .int)),DK (.int (NR l)),DK (.int (SC (NR l)))]) (U:=U++[.list []]) (RY (RY (op:=.add) (r:=KO (SC (NR l)) 2147483629+17) (RY (RZ (x:=2) (v:=.int (SC (NR l))) rfl) (ZA (.int 2147483629)) (Jq Nh.2.1)) (ZA (.int 17)) rfl) (ZA (.int 48271)) (M! (av7 _) rfl)) (ZA (.int 2147483647)) (Jq Nh.1);have call:RF (N+1) 850 [.aX (l.map .int)] U=LS (EE EF) (.at []) U.length _:=Ej (fn:=vH) rfl rfl;have e2:(EX (EE EF) (RF N) (.bi .max (H [.loc 1,.bV .sub (.k (.int (-1))) (.loc 1)])) [DK (.aX (l.map .int)),DK (.int (NR l)),DP]).1 (U++[.list []])=.ok (.int (SC (NR l))) (U++[.list []]):=rfl;have body:=Fw (Y6 (x:=1) e1) (Fw (Y6 (x:=2) e2) (aoN (qj (aoO e3 e4) rfl)));refine call.trans ((DX (LS (EE EF) (.at []) U.length) body).trans ?_);rw[QZ];show M.o2 (cY (EE EF) U.length (QS U.length [] (.ref (U.length+1))) (.ref (U.length+1)) ((U++[.list []])++[JA (Po l)]))=_;rw[show QS U.length [] (.ref (U.length+1))=[U.length+1] by
  show(match FW U.length (U.length+1)with|true=>[U.length+1]|false=>[])=_;rw[show FW U.length (U.length+1)=DN from MS.mpr (TD _)],az5 g]
 rfl
noncomputable def jnk:aS:=[.list [],.list [.bool DN,.bool DT],.list [],.list [.aR [.int 0,.ref 1,.ref 2,.str [89]]]]
def J! :Lv:=[DK (bx 90),DP,DP,DP,DP,DP]
def s0:Ss:=.cons (lS 0) .nil
theorem axO:On (FC (HF EF (PJ S? [] [])) (yr S? []) s0 J! []) J! jnk=DN:=by decide+kernel
noncomputable def Jy(c0 c1:DU):DM DL:=EN c0 [0] []++EN c1 [1] []
def F?(c0 c1 c2:DU):DM Rt:=[⟨857,[.int 2],0,Kq c0,1⟩,⟨857,[.int 2],1,Kq c1,2⟩,⟨921,[],2,Cu 0 (bx 60),3⟩,⟨921,[],3,Cu 1 (bx 70),4⟩,⟨857,[.int 2],4,Kq c2,5⟩]
def F!(os:DM DL)(bh:DU):DM Rl:=[⟨940,[.ref 2,.ref 3,.bool bh],[(2,OA os),(3,Cq)],.bool DN⟩]
noncomputable def wu:Lv:=[DP,DK (.ref 0),DP,DP,DP,DP]
def Zk:Ss:=.cons (lS 2) (.cons (lS 3) (.cons (lS 4) .nil))
def Xo(r:R (Fl×Lv)):DU:=match r with
 |.ok x _=>MK (Cp x.1) (.bool DN)|.cD _ _=>DT|.bL=>DT
theorem au0{r:R (Fl×Lv)}(h:Xo r=DN):∃m τ,r=.ok (.ret (.bool DN),m) τ:=match r,h with
 |.ok (.ret v,m) τ,h=>⟨m,τ,DX (λ v=>R.ok (Fl.ret v,m) τ) (PW (h:MK v (.bool DN)=DN))⟩
def G?(c0 c1 c2:DU):R (Fl×Lv):=FC (HF EF (PJ (F! (Jy c0 c1) c2) (F? c0 c1 c2) [])) (yr (F! (Jy c0 c1) c2) (F? c0 c1 c2)) Zk wu [.list (QA 0)]
theorem auW:(TU λ c0 c1=>Xo (G? c0 c1 DN)&&Xo (G? c0 c1 DT))=DN:=by decide+kernel
noncomputable def Vm(v:V)(k:DL):V:=EN (EG k 90) v .none
def SQ(l:DM (DY×DY))(k:DL):DY×DY:=oe (l[k]?) (0,0) id
theorem aB7{c0 c1 c2:DU}(h0:bX∈JI)(h1:bY∈JI)(P0:IU p0)(P1:IU p1)(s0:p0.sp=10)(s1:p1.sp=11):Am ⟨Jy c0 c1,bX,p0,bY,p1,c2⟩:=⟨by show Jy c0 c1∈[[],[0],[1],[0,1]];cases c0<;>cases c1<;>decide,h0,h1,P0,P1,s0,s1⟩
theorem Sm.rt{C:Cf}{τ dY U:aS}{X C_:M (Fl×Lv)}{m1:Lv}{v:V}(h:Sm C (FR C) X C_)(E:Em C τ U)(e:X τ=.ok (.ret v,m1) dY):∃m' G,C_ U=.ok (.ret (sh C v),m') G/\Em C dY G:=by
 have:=h τ U E;rw[e]at this;obtain⟨b,G,e2,q,E'⟩:=this;cases q with
 |rt q=>exact⟨_,G,e2,E'⟩
theorem apB(g:cP U){v:V}(gv:aY 40 0 v){N:DL}(hN:92<=N):∃m1 bS,FC (EE EF) (RF N) s0 [DK v,DP,DP,DP,DP,DP] U=.ok (.next,m1) bS/\m1.length=6/\m1[0]? =DK (DK v)/\cP bS:=by
 have OC:FP (GS U [] (Vm v) λ J=>[]):=VV g (.nil U) λ k=>by
  unfold Vm;cases EG k 90
  ·exact GD _
  ·exact gv.up
 have R:OY (GS U [] (Vm v) λ J=>[]) (PJ S? [] []) 80:=Ja OC (EC (λ τ G E' g' hp N hN=>apK _ G g' ((hp _ (.head _)).trans (DX (λ l=>DK (O.list l)) (Pj Cd rfl))) N hN) bO) bO;obtain⟨m1,bS,e,l,E1⟩:=(Qd OC (Iz λ J=>bO) R hN (s:=s0) (by decide+kernel) (avP (C:=GS U [] (Vm v) λ J=>[]) J! rfl rfl)).nx P_ (Xl axO);exact⟨m1,bS,e,l.1.symm,l.2 0 (bx 90) rfl,VJ OC E1 (by decide)⟩
theorem jL.up{K K':DL}{r:Rt}(h:jL C K r)(k:K<=K'):jL C K' r:=λ j U g q N hN=>h j U g q N (EZ k hN)
theorem auM(g:cP U){s:DL}{x0:DY×DY}(I0:VD x0.1 x0.2)(h:U[s]? =DK (JA x0)){m:Lv}(hm:m.length=6)(hs:m[1]? =DK (DK (.ref s))){N:DL}(hN:104<=N):∃m' G,FC (EE EF) (RF N) Zk m U=.ok (.ret (.bool DN),m') G:=by
 have t2:TP 2:=⟨by decide,rfl⟩;obtain⟨x1,wE⟩:∃x,(NG x0 2).2=x:=⟨_,rfl⟩;have K0:=Qr I0 t2;rw[wE]at K0;obtain⟨x2,wF⟩:∃x,(NG x1 2).2=x:=⟨_,rfl⟩;have K1:=Qr K0.1 t2;rw[wF]at K1;obtain⟨bX,p0,x3,h0,P0,s0,I3,d0⟩:=pb K1.1 10;obtain⟨bY,p1,x4,h1,P1,s1,I4,d1⟩:=pb I3 11;obtain⟨x5,AY⟩:∃x,(NG x4 2).2=x:=⟨_,rfl⟩;obtain⟨c0,e0⟩:=Qw K0.2;obtain⟨c1,e1⟩:=Qw K1.2;obtain⟨c2,e2⟩:=Qw (Qr I4 t2).2;have RW:=aB7 (c0:=c0) (c1:=c1) (c2:=c2) h0 h1 P0 P1 s0 s1;have n:=GD 0;have OC:=VV (bx:=JQ (SQ [x0,x1,x2,x3,x4,x5]) (RX (TV 0 bX bY p0 p1) .none .none .none .none)) g (RT (GX h)) (km (Nd P0 P1 n n n n (JX (GI _) (GX h))));have sA:=λ k=>Zx (C:=GS U [s] (JQ (SQ [x0,x1,x2,x3,x4,x5]) (RX (TV 0 bX bY p0 p1) .none .none .none .none)) λ J=>[]) (xs:=SQ [x0,x1,x2,x3,x4,x5]) (r:=RX (TV 0 bX bY p0 p1) .none .none .none .none) rfl k;have E:Em (GS U [s] (JQ (SQ [x0,x1,x2,x3,x4,x5]) (RX (TV 0 bX bY p0 p1) .none .none .none .none)) λ J=>[]) [.list (QA 0)] U:=Ff rfl (VY ⟨_,h.trans (DX (λ l=>DK (O.list l)) (sA 0).symm),.dN (o:=.list (QA 0)) rfl⟩);have dr:∀{k k':DL} {v:V} {x x':DY×DY},SQ [x0,x1,x2,x3,x4,x5] k=x->SQ [x0,x1,x2,x3,x4,x5] k'=x'->(∀(ρ:aS) (q:DL),cP ρ->ρ[q]? =DK (JA x)->∀N,20<=N->RF N 921 [.ref q] ρ=.ok (sh (GS U [s] (JQ (SQ [x0,x1,x2,x3,x4,x5]) (RX (TV 0 bX bY p0 p1) .none .none .none .none)) λ J=>[]) v) (ρ.set q (JA x')))->jL (GS U [s] (JQ (SQ [x0,x1,x2,x3,x4,x5]) (RX (TV 0 bX bY p0 p1) .none .none .none .none)) λ J=>[]) 92 ⟨921,[],k,v,k'⟩:=λ {k k' v x x'} e1 e2 d j G g' q N hN=>by
  rw[sA]at q⊢;rw[e1]at q;rw[e2];exact d G _ g' q N (EZ (by decide) hN)
 have ci:∀{a:DY} {c:DU},a=EN c 0 1->Kq c=.int a:=λ e=>DX V.int e.symm;have R:OY (GS U [s] (JQ (SQ [x0,x1,x2,x3,x4,x5]) (RX (TV 0 bX bY p0 p1) .none .none .none .none)) λ J=>[]) (PJ (F! (Jy c0 c1) c2) (F? c0 c1 c2) []) 92:=by
  refine Ja OC (EC (λ τ G E' g' hp N hN=> ?_) bO) (EC (jL.up (A9 (xs:=SQ [x0,x1,x2,x3,x4,x5]) rfl t2 I0 wE (ci e0)) (by decide)) (EC (jL.up (A9 (xs:=SQ [x0,x1,x2,x3,x4,x5]) rfl t2 K0.1 wF (ci e1)) (by decide)) (EC (dr (x:=x2) (x':=x3) rfl rfl d0) (EC (dr (x:=x3) (x':=x4) rfl rfl d1) (EC (jL.up (A9 (xs:=SQ [x0,x1,x2,x3,x4,x5]) rfl t2 I4 AY (ci e2)) (by decide)) bO)))));exact aAE RW (λ z=>EP (OC.inj 2 3 z) (by decide)) G g' ⟨(hp (2,OA (Jy c0 c1)) (.head _)).trans (DX (λ l=>DK (O.list l)) (Pj _ (yw RW.os))),hp (3,Cq) (.tail _ (.head _))⟩ N hN
 have lr:LR (GS U [s] (JQ (SQ [x0,x1,x2,x3,x4,x5]) (RX (TV 0 bX bY p0 p1) .none .none .none .none)) λ J=>[]) wu m:=⟨hm.symm,λ i v e=>by
  match i with
  |0=>exact(by cases e)|1=>exact EJ (EJ e)▸hs|2=>exact(by cases e)|3=>exact(by cases e)|4=>exact(by cases e)|5=>exact(by cases e)|i+6=>exact EW e⟩
 have UO:Xo (G? c0 c1 c2)=DN:=by
  have q:=DO (RV auW c0 c1);cases c2
  ·exact q.2
  ·exact q.1
 obtain⟨mm,DJ,er⟩:=au0 UO;obtain⟨m',G,e,_⟩:=(Qd OC (Iz λ J=>bO) R hN (s:=Zk) (by decide+kernel) lr).rt E er;exact⟨m',G,e⟩
theorem aoM(h:(EX (EE EF) o e m).1 U=.ok v U):(HL (EE EF) o (.cons e .nil) m).1 U=.ok [v] U:=mb h
theorem auV(l:DM DY):RF 106 945 [.aX (l.map .int)] []=.ok (.bool DN) []:=by
 have g:cP []:=λ J J e=>EW e;have gv:aY 40 0 (.aX (l.map .int)):=wp (Hr λ J J=>.hO λ J J J J J J=>rfl);obtain⟨m1,bS,e1,m6,m0,g1⟩:=apB g gv (N:=105) (by decide);have e2:JE (EE EF) (RF 105) (lS 1) m1 bS=.ok (.next,m1.set 1 (DK (.ref bS.length))) (bS++[JA (Po l)]):=Y6 (x:=1) ((qh (g:=.fn 850) rfl (aoM (RZ m0))).trans (az6 g1 l 104));obtain⟨m',G,e3⟩:=auM (g1.cJ (wn _ _)) (s:=bS.length) (az7 l) NK (m:=m1.set 1 (DK (.ref bS.length))) (NL.trans m6) (OV (m6▸by decide)) (N:=105) (by decide);have call:RF 106 945 [.aX (l.map .int)] []=LS (EE EF) .no 0 (FC (EE EF) (RF 105) (Mu s0 (.cons (lS 1) Zk)) [DK (.aX (l.map .int)),DP,DP,DP,DP,DP] []):=Ej (fn:=vK) rfl rfl;exact call.trans ((DX (LS (EE EF) .no 0) ((qg e1).trans (Fw e2 e3))).trans (DX M.o2 (Ir g (G:=G) ⟨GI _,λ j hj=>EP hj (St _)⟩ (v:=.bool DN) rfl)))
theorem apM{a:DL}{o:GT}{os:DM GT}{n:DL}{as:DM DL}(h:(a,o)∈VP os n as):a∈as/\∃i,n+i=a/\os[i]? =DK o/\o.isFreed=DT:=by
 induction os generalizing n as with
 |nil=>exact EP h KG|cons x os ih=>
  obtain- |⟨b,as⟩:=as
  ·exact EP h KG
  have up:∀{as'},(∀c∈as',c∈b::as)->(a,o)∈VP os (GH n) as'->a∈b::as/\∃i,n+i=a/\(x::os)[i]? =DK o/\o.isFreed=DT:=λ s h=>by
   obtain⟨m,i,e,r⟩:=ih h;exact⟨s a m,i+1,(Q1 n i).symm.trans e,r⟩
  have h:(a,o)∈EN (EG n b) (EN x.isFreed (VP os (GH n) as) ((b,x)::VP os (GH n) as)) (VP os (GH n) (b::as)):=h;cases q:EG n b with
  |false=>rw[q]at h;exact up (λ J m=>m) h|true=>
   rw[q]at h;cases f:x.isFreed with
   |true=>rw[f]at h;exact up (λ J m=>.tail _ m) h|false=>
    rw[f]at h;refine(IV.mp h).elim (λ z=> ?_) λ z=>up (λ J m=>.tail _ m) z;have z:=YQ z;rw[z.1,z.2];exact⟨.head _,0,JD q,rfl,f⟩
theorem avG{a:DL}{o:GT}{K:EQ}(h:K.lookup a=DK o):(a,o)∈K:=by
 induction K with
 |nil=>exact EW h|cons p K ih=>
  rw[Af]at h;cases q:a==p.1 with
  |true=>
   rw[q]at h;rw[GW q,<-EJ h];exact .head _
  |false=>
   rw[q]at h;exact .tail _ (ih h)
theorem axG{a:DZ}{m m':EA->DQ DS}(x:h.Ns a m)(y:h.Ns a m')(n:EA):m n=m' n:=by
 obtain⟨o,H,ep,e1,e2,_,e4⟩:=x;obtain⟨o',dZ,DA,f1,f2,_,f4⟩:=y;rw[e1]at f1;cases f1;rw[e2]at f2;cases f2;rw[<-e4,f4]
theorem atI{R:Hn}{d:Aq}(h:ft R d .int=DN):∃i,d=.int i:=by
 cases d
 all_goals first|exact⟨_,rfl⟩|exact EP h FJ
theorem azX{R:Hn}{v:DS}{i:DY}(r:ReadsW R cl h v (.int i) as):∃t,v=.int i t:=by
 cases r;exact⟨_,rfl⟩
theorem azY{R:Hn}{v:DS}{ds:DM Aq}(r:ReadsW R cl h v (.list ds) as):∃l o B n bs,v=.ref l/\as=l::bs/\h.get? l=DK o/\o.cls=.type "list" /\o.data=.seq B n/\Tc R cl h B.toList ds bs:=by
 cases r with
 |list a b c d=>exact⟨_,_,_,_,_,rfl,rfl,a,b,c,d⟩
theorem aa2{R:Hn}{B:DM DS}(r:Tc R cl h B [] as):B=[]/\as=[]:=by
 cases r;exact⟨rfl,rfl⟩
theorem aa1{R:Hn}{B:DM DS}{d:Aq}{ds:DM Aq}(r:Tc R cl h B (d::ds) as):∃v us bs cs,B=v::us/\as=bs++cs/\ReadsW R cl h v d bs/\Tc R cl h us ds cs:=by
 cases r with
 |cons a b=>exact⟨_,_,_,_,rfl,rfl,a,b⟩
theorem atL{R:Hn}{cl:EA->DQ DZ}{h:ES}{w:EV}{ds:DM Aq}{B:DM DS}{as:DM DZ}(r:Tc R cl h B ds as)(hi:fu R ds .int=DN):∃ns:DM DY,ds=ofPys (ns.map ai0)/\∀c,bI w c h (ns.map .int) B:=by
 induction ds generalizing B as with
 |nil=>exact(aa2 r).1▸⟨[],rfl,λ J=>.nil⟩|cons d ds ih=>
  have hi:=DO (hi:(ft R d .int&&fu R ds .int)=DN);obtain⟨i,e⟩:=atI hi.1;obtain⟨v,us,bs,cs,e1,_,r1,r2⟩:=aa1 r;obtain⟨ns,e2,q⟩:=ih r2 hi.2;obtain⟨t,e3⟩:=azX (e▸r1);exact⟨i::ns,e▸DX (ajF i::·) e2,λ c=>e1▸e3▸ .cons (.int i t) (q c)⟩
theorem an{o:GT}(h:(YJ s).lookup a=DK o):s.heap.get? a=DK o/\a≠GQ:=by
 have key:∀{as:DM DL},(a,o)∈VP s.heap.objs.toList 0 as->(∀x∈as,x≠GQ)->s.heap.get? a=DK o/\a≠GQ:=λ {as} m hs=>
  let⟨ma,i,e,r1,r2⟩:=apM m
  ⟨Heap.get?_some_iff.mpr ⟨(aeA).symm.trans ((Aj i).symm.trans e▸r1),r2⟩,hs _ ma⟩
 exact(OW.mp (avG h)).elim (λ m=>key m (by decide)) λ m=>key m (by decide)
theorem axK(K:EQ)(l:DM (DL×Fx)):l.map (λ q=>Ka K q.1)=Yr K l:=by
 induction l with
 |nil=>rfl|cons q r ih=>exact DX (Ka K q.1::·) ih
theorem azH:Zc (XJ Bq) Vi E9 SA.jH (Wa SA.jH)=DN:=by decide+kernel
theorem ax0:P! VK=DN:=by decide+kernel
theorem aF7{w:EV}(h:Yf s=Ya w):Un (YJ s) Bq VK Bv SA R8 m_ Vi E9=DN/\ND (KJ (YJ s) KW) (sx B7)=DK (.ref 945)/\∃o,s.heap.get? GQ=DK o:=by
 have h1:=DO (DX Prod.fst h:yg (YJ s) s=DN);have h2:Yr (YJ s) SA.jH=Wa SA.jH:=DX Prod.snd h;have h3:=(DO h1.1).2;rw[R!]at h3;exact⟨ajW (DO h1.1).1 ax0 ((axK _ _).trans h2) azH,EL h3 λ v e q=>e.trans (DX DK (GW q)),Md.mp h1.2⟩
theorem am6(LK:∀l:DM DY,Cr (Cz Bq VK Bv) (Nz SA) 106 945 [.aX (l.map .int)] []=.ok (.bool DN) []){w:EV}{K:EQ}(zK:Un K Bq VK Bv SA R8 m_ Vi E9=DN){s:EB}(hK:∀a o,K.lookup a=DK o->s.heap.get? a=DK o/\a≠GQ)(hs:∃o,s.heap.get? GQ=DK o)
  {l n:DL}{xs:DM DS}(hl:IsL s.heap l xs.toArray n)(cS:l≠GQ){ns:DM DY}(hx:∀c,bI w c s.heap (ns.map .int) xs){Q E:aJ}(hQ:∀h' tk,(∀b o,s.heap.get? b=DK o->h'.get? b=DK o)->Q (.bool DN) {s with heap:=h',toks:=tk}):
  DW (ED pw w) callerA (call (.ref 945) [.ref l]) Q E s:=by
 refine Dh ?_;have I:aZ w K [] ⟨[],λ a=>a≠GQ/\∃o,s.heap.get? a=DK o⟩ s.heap:=⟨rfl,λ i o p e=>(EW e),λ i j p q e=>(EW e),λ p m=>(IK m),λ a h=>h.2,λ a o e=>⟨(hK a o e).1,(hK a o e).2,_,(hK a o e).1⟩,λ h=>h.1 rfl,λ p m=>(IK m),hs⟩;refine(aD4 (Y:=pw) (w:=w) zK 106).call callerA [] _ [] s 945 [.aX (ns.map .int)] [.ref l] _ ⟨rfl,by decide,by decide⟩ rfl (λ e he=>IK he) I (.cons (.aX hl ⟨cS,_,hl⟩ (hx _)) .nil) ?_;rw[LK ns];intro c' h' tk x I' X r;cases r;refine hQ h' tk λ b o e=> ?_;by_cases z:b=GQ
 ·rcases X.keep b o e KG (λ p m=>IK m)with q|q
  ·exact q
  ·exact EP z q.1.1
 ·exact X.kf b o ⟨z,o,e⟩ e
def Xf(P:Params):ES:={objs:=⟨[boot_o_0 P,boot_o_1 P,boot_o_2 P,boot_o_3 P,boot_o_4 P,boot_o_5 P,boot_o_6 P,boot_o_7 P,boot_o_8 P,boot_o_9 P,boot_o_10 P,wS,wT,wU,ye]⟩}
theorem ajH(w:EV)(os:Hf):(fh w os).abs=⟨Xf w.params,#[],boot_drawn,187,os⟩:=by rfl
theorem ayD:opening pw=plainProg pw.main.scope.names:=by rfl
theorem ap0(s:EB):fenceModules? pw s=DK s:=by rfl
theorem alO(w:EV):((YV w.params).isNs KW&&(M2 []:FM af).size==0,(YV w.params).objs.size,(YV w.params).nsMap KW "__annotations__")=(DN,11,DK (.ref 6)):=by kernel_rfl
theorem asP:∀(w:EV) (os:Hf),topGo Qs pw w 11 (DK (.ref 6)) 12 ⟨YV w.params,M2 [],boot_drawn,boot_toks,os⟩ (topStub pw)=DK (⟨Xf w.params,#[],boot_drawn,187,os⟩,⟨denote Qs (.body Ia Wg),nZ,mI,[n8 mI]⟩):=λ w os=>by kernel_rfl
theorem alB(w:EV)(os:Hf):segRun Qs pw w 11 (DK (.ref 6)) 1 1 ⟨Xf w.params,#[],boot_drawn,187,os⟩ (blockOf Ia Wg nZ mI [n8 mI])=DK (.next,⟨Xf w.params,#[],boot_drawn,187,os⟩,nZ,mI):=by kernel_rfl
theorem auK(w:EV)(s:EB)(p:FS):topRun Qs pw w 11 (DK (.ref 6)) 3 s ⟨doneF .next,nZ,p,[n8 mI]⟩=DK s:=by kernel_rfl
theorem alK:Ia++[]=Ia:=KP _
theorem aIN:LeftO pw q Ox (λ J=>DN) Yf Ya 7328:=λ w=>by
 obtain⟨⟨h,gs,d,k,os⟩,e,e'⟩:=Sy.mp (boot_open ayD (by decide) ap0 w (N:=7328));obtain⟨rfl,rfl,rfl,rfl⟩:h=YV w.params/\gs=M2 []/\d=boot_drawn/\k=boot_toks:=by simpa using e'
 obtain⟨z1,z2,z3⟩:_/\_/\_:=by simpa only[ahW]using alO w
 have r1:=aB0 w os;rw[<-aI9,<-aIA]at r1;obtain⟨⟨f,st,c,p⟩,hr,hx⟩:=Sy.mp r1;simp only[ahW]at hx;obtain⟨rfl,rfl,hx⟩:=hx;have sr:=segRun_of hr;rw[ajH]at sr;have t1:=piece_app (rest:=[]) sr (piece_nil (auK w st.abs p));rw[alK]at t1;have t2:=go_top (asP w os) (piece_block (alB w os) t1);have hc:V7 w st.abs=(DN,openGood q Ox,Ya w):=hx;unfold V7 at hc;rw[<-aIC]at hc;obtain⟨c1,c2⟩:=YQ hc;have t:topFrom Qs pw w 7328 ⟨YV w.params,M2 [],boot_drawn,boot_toks,os⟩=DK st.abs:=by
  unfold topFrom;dsimp only;rw[z1,z2,z3];show(match(DN:DU)with|true=>(topRun Qs pw w 11 (DK (.ref 6)) (12+(1+(7312+3))) _ (topStub pw)).bind _|false=>DP)=_;rw[t2];show(match staticsOk (ue pw.main.body) (YV w.params) st.abs.heap&&namesBound pw st.abs.heap&&gensDone st.abs&&laidKept (YV w.params) st.abs.heap with|true=>DK st.abs|false=>DP)=_;rw[c1]
 unfold openEnds;rw[e,Sw,t,Option.map_some];exact DX DK c2
theorem aIM(l:DM DY):Cr (Cz Bq VK Bv) (Nz SA) 106 945 [.aX (l.map .int)] []=.ok (.bool DN) []:=auV l
theorem azC(as:DM Aq):RG.row.toRowW.claim.post as (.bool DN) as=DN:=by kernel_rfl
theorem av2{R:Hn}{d:Aq}(h:ft R d (.list .int)=DN):∃ds,d=.list ds/\fu R ds .int=DN:=by
 cases d
 all_goals first|exact EP h FJ|exact⟨_,rfl,MJ h id λ q=>EP q FJ⟩
theorem aII(LK:∀l:DM DY,Cr (Cz Bq VK Bv) (Nz SA) 106 945 [.aX (l.map .int)] []=.ok (.bool DN) []){d:DefRec}{BH:DM (EA×Expr)}(hn:d.name=RG.row.name):WalkX q Ox (λ J J=>True) Yf Ya RG.row.toRowW d BH λ f B=>PySem.call f B:=
 λ w uL dQ mg mb F_ C_ a o pm cd doc dV kV ho hd hc rE mZ hg args dX as H_ AQ DD hr hw lU=>by
 obtain⟨y1,y2,y3⟩:=aF7 C_;have hK:∀b ob,(YJ uL).lookup b=DK ob->dQ.heap.get? b=DK ob/\b≠GQ:=λ b ob e=>⟨H_.keeps _ _ (an e).1,(an e).2⟩;have gf:=(DO (DO (DO y1).1).1).1;have ns1:dQ.heap.Ns KW (ND (KJ (YJ uL) KW)):=Yq (DO (DO (DO (DO (DO gf).1).1).1).1).2 λ b ob e=>(hK b ob e).1
 have ea:a=945:=by
  have e1:=axG F_.T.g ns1 (sx B7);rw[y2,BI,<-hn,mZ]at e1;cases e1;rfl
 subst ea;obtain⟨p1,p2⟩:=pre_splitW AQ;obtain⟨dd,r,e1,e2,e3⟩:=hasAllW_cons p1;have e4:=hasAllW_nil e3;subst e4;subst e1;obtain⟨ds,ed,hi⟩:=av2 e2;subst ed;obtain⟨v,us,CZ,cs,ev,ea,r1,r2⟩:=aa1 hr;obtain⟨l,ob,xs,n,bs,e1,e2,g1,g2,g3,g4⟩:=azY r1;have rn:=aa2 r2;obtain⟨ns,e5,hx⟩:=atL (w:=w) g4 hi;rw[rn.1,e1]at ev;rw[rn.2,e2]at ea;subst e5 ev ea;have L':Laid RG.row.toRowW.records w uL dQ [ofPy (PyData.list (ns.map ai0))] [.ref l] (l::bs++[]):=H_;have il:=PySem.W.X.script_obj L' ⟨ob,g1,g2,n,g3⟩;refine am6 LK y1 hK (by obtain⟨o,e⟩:=y3;exact⟨o,H_.keeps _ _ e⟩) (xs:=xs.toList) (n:=0) (by rw[y8];exact il) (by simpa using lU l (by simp)) hx λ h' tk k=> ?_;exact⟨.inl ⟨.bool DN,.bool DN,[],rfl,λ cls=>rfl,.bool DN,azC _,λ J=>⟨Hb,λ a m=>by cases m⟩⟩,OldK.of_keep k,rfl,.of_eq hg⟩

end Mine.Internal
theorem PySem.Challenge.cw_up0055_01_holds : PySem.Challenge.rw_up0055_01.Holds := by
  refine holds_law Mine.Internal.aIP fun k1 => ?_
  obtain ⟨⟨d, kwd⟩, hdef⟩ := Option.isSome_iff_exists.mp Mine.Internal.aIK
  have hp := Mine.Internal.aIL
  have hk := Mine.Internal.aIJ
  rw [hdef] at hp hk
  exact holds_openX (r := Mine.Internal.RG.row) (q := Mine.Internal.q) (loose := Mine.Internal.Ox) (Xt := fun ξ => true) (XP := fun ξ ξ => True) (Yf := Mine.Internal.Yf) (Ya := Mine.Internal.Ya) (d := d) (kwd := kwd) (N := 7328) Mine.Internal.aIN (fun ξ ξ => trivial) (fun ξ ξ ξ ξ ξ => trivial) hdef hp.symm hk (fun s ξ => recFacts_nil rfl) rfl k1 Mine.Internal.aIO ⟨rfl, rfl, rfl, rfl, rfl, by decide +kernel⟩ Mine.Internal.aIQ (Mine.Internal.aII Mine.Internal.aIM (defOf_name hdef))
